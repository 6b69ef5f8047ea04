import PyProof.Rows.All
import Wide.All
import OpenK.AllK
import Wide.FinOn
import HandS.Base
import HandS.Call
import HandS.List
import HandS.Comp
import HandS.Ends
import HandS.Dict
import HandS.Iter
import HandS.Text
import HandS.Deep
import HandS.IsInst
import HandS.Star
import HandS.Words
import HandS.Wide
import HandS.Exc
import HandS.More
import HandS.TupAny
import KE.KUnpackStar
import HandS.ForMost
import HandS.ForExc
import HandS.Zip
import PyProof.RulesMatch
import KE.KExcSuper
import HandS.ExcInit
import HandS.ClsMeth
import HandS.SlotsOwn
import HandS.TryMany
import HandS.WordsExc
import HandS.ExcField
import PyProof.InstNe
import HandS.Defaults
import HandS.ExcIs
import KE.RegKSuper
import KE.KCallOwn
import HandS.DictComp
import KE.GoesEnum
import OpenK.KMeth
import HandS.Flow
import HandS.Small
import HandS.Style
import HandS.Zip0
import HandS.TryOnly
import HandS.SetKeys
import HandS.WordsDict
import HandS.OwnEq
import KE.KOpsOwn
import OpenK.KOps
import HandS.Records
import PyProof.StrOps2
import HandS.Property
import PyProof.NeKinds
import HandS.Strs
import HandS.FStr
import HandS.Nested
import HandS.NestedK
import KE.IntTextText
import HandS.EndTab
import HandS.Head0
import HandS.Head1
import HandS.Head2
import HandS.Evl
import PySem.Challenge.RW_quietprobes_k05_errors_and_their_attribu
set_option Elab.async false
set_option linter.all false
set_option maxRecDepth 100000
set_option autoImplicit false
namespace G
open PySem PySem.Spec L2
/-- a value told as data; adr: an address of which the assertion speaks -/
inductive D where
  | non | bl (b : Bool) | int (i : Int) | str (x : Str) | adr (a : Addr) | lst (ds : List D) | tup (ds : List D)
  /-- an instance that stays as it is: its class, its fields' names, what they hold -/
  | ins (C : Addr) (fs : List Str) (ds : List D)
  /-- a dict that stays as it is -/
  | dct (ks : List Key) (ds : List D)
/-- a text whose signs are signs, and that isn't long -/
def sok (x : Str) : Prop := PyData.strOk x = true ∧ x.length ≤ 1000000
def ks6 : List String := ["NoneType", "bool", "int", "str", "list", "tuple", "dict"]
def ks5 : List String := ["str", "int", "bool", "list", "tuple"]
/-- a class whose fields are plainly read and stored, none of these names being the class's own -/
structure Plain (K : PySem.W.Frag) (C : Addr) : Prop where
  cls : Cls K C
  kls : PySem.W.findIn K (.ref C) "__class__" = some (some (.builtin "object.__class__"))
  get : PySem.W.specialIn K (.builtin "object.__class__") "__get__" = some (some (.builtin "getset_descriptor.__get__"))
  tak : PySem.W.takesIn K (.builtin "object.__class__") = some true
  mro : PySem.W.mroIn K C (.type "object") = some true
  sub : ∀ T ∈ ks5, PySem.W.subIn K (.ref C) (.type T) = some false
structure Good (K : PySem.W.Frag) (C : Addr) (fs : List Str) : Prop where
  p : Plain K C
  no : ∀ f ∈ fs, NoAttr K C f
theorem Good.cls {K : PySem.W.Frag} {C : Addr} {fs : List Str} (g : Good K C fs) : Cls K C := g.p.cls
/-- what may be changed, and is data while nobody owns it -/
def Dat : HO → Prop
  | .lst _ => True
  | .ins _ _ _ => True
  | .dK _ => True
  | _ => False
mutual
/-- v is d in the heap H; no list, dict, instance of it is among M -/
inductive Is (K : PySem.W.Frag) (M : Addr → Prop) (H : Hp) : V → D → Prop
  | non : Is K M H .non .non
  | bl (b : Bool) : Is K M H (.bl b) (.bl b)
  | int (i : Int) : Is K M H (.int i) (.int i)
  | str {x : Str} : sok x → Is K M H (.str x) (.str x)
  | adr (a : Addr) : Is K M H (.ref a) (.adr a)
  | lst {a : Addr} {xs : List V} {ds : List D} : ¬ M a → H a = some (.lst xs) → IsAll K M H xs ds → Is K M H (.ref a) (.lst ds)
  | tup {a : Addr} {xs : List V} {ds : List D} : SqT K H a xs → IsAll K M H xs ds → Is K M H (.ref a) (.tup ds)
  | ins {a C dx : Addr} {kvs : List (Str × V)} {fs : List Str} {ds : List D} : ¬ M a → H a = some (.ins C dx kvs) → kvs.map (·.1) = fs → Good K C fs → IsAll K M H (kvs.map (·.2)) ds → Is K M H (.ref a) (.ins C fs ds)
  | dct {a : Addr} {kvs : List (Key × V)} {ks : List Key} {ds : List D} : ¬ M a → H a = some (.dK kvs) → kvs.map (·.1) = ks → IsAll K M H (kvs.map (·.2)) ds → Is K M H (.ref a) (.dct ks ds)
inductive IsAll (K : PySem.W.Frag) (M : Addr → Prop) (H : Hp) : List V → List D → Prop
  | nil : IsAll K M H [] []
  | cons {v : V} {vs : List V} {d : D} {ds : List D} : Is K M H v d → IsAll K M H vs ds → IsAll K M H (v :: vs) (d :: ds)
end
section
variable {K : PySem.W.Frag} {M M' : Addr → Prop} {H H' : Hp}
mutual
theorem Is.go (hl : ∀ a o, Dat o → ¬ M a → H a = some o → ¬ M' a ∧ H' a = some o) (ht : ∀ a xs, SqT K H a xs → SqT K H' a xs) : ∀ (d : D) (v : V), Is K M H v d → Is K M' H' v d
  | .non, _, h => by cases h; exact .non
  | .bl b, _, h => by cases h; exact .bl b
  | .int i, _, h => by cases h; exact .int i
  | .str x, _, h => by cases h with | str o => exact .str o
  | .adr a, _, h => by cases h; exact .adr a
  | .lst ds, _, h => by
    cases h with
    | lst n s h => exact .lst (hl _ (.lst _) True.intro n s).1 (hl _ (.lst _) True.intro n s).2 (IsAll.go hl ht ds _ h)
  | .tup ds, _, h => by
    cases h with
    | tup s h => exact .tup (ht _ _ s) (IsAll.go hl ht ds _ h)
  | .ins C fs ds, _, h => by
    cases h with
    | ins n s e g h => exact .ins (hl _ (.ins _ _ _) True.intro n s).1 (hl _ (.ins _ _ _) True.intro n s).2 e g (IsAll.go hl ht ds _ h)
  | .dct ks ds, _, h => by
    cases h with
    | dct n s e h => exact .dct (hl _ (.dK _) True.intro n s).1 (hl _ (.dK _) True.intro n s).2 e (IsAll.go hl ht ds _ h)
theorem IsAll.go (hl : ∀ a o, Dat o → ¬ M a → H a = some o → ¬ M' a ∧ H' a = some o) (ht : ∀ a xs, SqT K H a xs → SqT K H' a xs) : ∀ (ds : List D) (vs : List V), IsAll K M H vs ds → IsAll K M' H' vs ds
  | [], _, h => by cases h; exact .nil
  | d :: ds, _, h => by
    cases h with
    | cons h1 h2 => exact .cons (Is.go hl ht d _ h1) (IsAll.go hl ht ds _ h2)
end
theorem IsAll.length : ∀ {vs : List V} {ds : List D}, IsAll K M H vs ds → vs.length = ds.length
  | _, _, .nil => rfl
  | _, _, .cons _ h => by rw [List.length_cons, List.length_cons, IsAll.length h]
theorem IsAll.get : ∀ {vs : List V} {ds : List D} {i : Nat} {v : V}, IsAll K M H vs ds → vs[i]? = some v → ∃ d, ds[i]? = some d ∧ Is K M H v d
  | _, _, i, v, .nil, e => by simp at e
  | _, _, 0, v, .cons h _, e => by simp at e; subst e; exact ⟨_, rfl, h⟩
  | _, _, i + 1, v, .cons _ t, e => by
    obtain ⟨d, h1, h2⟩ := IsAll.get (i := i) (v := v) t (by simpa using e)
    exact ⟨d, by simpa using h1, h2⟩
theorem IsAll.getD : ∀ {vs : List V} {ds : List D} {i : Nat} {d : D}, IsAll K M H vs ds → ds[i]? = some d → ∃ v, vs[i]? = some v ∧ Is K M H v d
  | _, _, i, v, .nil, e => by simp at e
  | _, _, 0, v, .cons h _, e => by simp at e; subst e; exact ⟨_, rfl, h⟩
  | _, _, i + 1, d, .cons _ t, e => by
    obtain ⟨v, h1, h2⟩ := IsAll.getD (i := i) (d := d) t (by simpa using e)
    exact ⟨v, by simpa using h1, h2⟩
theorem IsAll.append : ∀ {vs ws : List V} {ds es : List D}, IsAll K M H vs ds → IsAll K M H ws es → IsAll K M H (vs ++ ws) (ds ++ es)
  | _, _, _, _, .nil, s => s
  | _, _, _, _, .cons r t, s => .cons r (IsAll.append t s)
theorem IsAll.take : ∀ {vs : List V} {ds : List D} (n : Nat), IsAll K M H vs ds → IsAll K M H (vs.take n) (ds.take n)
  | _, _, 0, _ => .nil
  | _, _, _ + 1, .nil => .nil
  | _, _, n + 1, .cons r t => .cons r (IsAll.take n t)
theorem IsAll.drop : ∀ {vs : List V} {ds : List D} (n : Nat), IsAll K M H vs ds → IsAll K M H (vs.drop n) (ds.drop n)
  | _, _, 0, r => r
  | _, _, _ + 1, .nil => .nil
  | _, _, n + 1, .cons r t => IsAll.drop n t
end
def Ext (H H' : Hp) : Prop := ∀ b o, H b = some o → H' b = some o
theorem Ext.refl (H : Hp) : Ext H H := fun _ _ h => h
theorem Ext.new {H : Hp} {p : Addr} {o : HO} (h : H p = none) : Ext H (upd H p o) := fun a u e => by
  rw [upd_ne (ne_of_none e h)]
  exact e
theorem Ext.sqt {K : PySem.W.Frag} {H H' : Hp} (e : Ext H H') {a : Addr} {xs : List V} (h : SqT K H a xs) : SqT K H' a xs := by
  rcases h with (h | ⟨o, h⟩) | h
  · exact .inl (.inl (e _ _ h))
  · exact .inl (.inr ⟨o, e _ _ h⟩)
  · exact .inr h
theorem is_ext {K : PySem.W.Frag} {N : Addr → Prop} {H H' : Hp} (e : Ext H H') (v : V) (d : D) (h : Is K N H v d) : Is K N H' v d := Is.go (fun a o _ n s => ⟨n, e _ _ s⟩) (fun a xs s => e.sqt s) d v h
theorem is_anti {K : PySem.W.Frag} {N N' : Addr → Prop} {H : Hp} (e : ∀ a, N' a → N a) {v : V} {d : D} (h : Is K N H v d) : Is K N' H v d := Is.go (fun a o _ n s => ⟨fun z => n (e a z), s⟩) (fun a xs s => s) d v h
/-- nothing that may be changed stands there -/
def NoDat (H : Hp) (p : Addr) : Prop := ∀ o, H p = some o → ¬ Dat o
theorem nodat {H : Hp} {p : Addr} (hp : H p = none) : NoDat H p := fun o e => by rw [hp] at e; cases e
theorem is_growD {K : PySem.W.Frag} {N : Addr → Prop} {H : Hp} {p : Addr} (hp : NoDat H p) {v : V} {d : D} (h : Is K N H v d) : Is K (fun a => N a ∨ a = p) H v d :=
  Is.go (fun a o dt n s => ⟨fun z => z.elim n fun e => (by rw [e] at s; exact hp o s dt), s⟩) (fun a xs s => s) d v h
theorem is_grow {K : PySem.W.Frag} {N : Addr → Prop} {H : Hp} {p : Addr} (hp : H p = none) {v : V} {d : D} (h : Is K N H v d) : Is K (fun a => N a ∨ a = p) H v d := is_growD (nodat hp) h
theorem all_of {K : PySem.W.Frag} {N N' : Addr → Prop} {H H' : Hp} (f : ∀ v d, Is K N H v d → Is K N' H' v d) : ∀ {vs : List V} {ds : List D}, IsAll K N H vs ds → IsAll K N' H' vs ds
  | _, _, .nil => .nil
  | _, _, .cons h t => .cons (f _ _ h) (all_of f t)
/-- a piece of what the heap is known to hold: it owns the objects at M, and speaks besides of data alone -/
structure At where
  M : Addr → Prop
  R : PySem.W.Frag → (Addr → Prop) → Hp → Prop
  loc : ∀ {K : PySem.W.Frag} {N : Addr → Prop} {H H' : Hp}, (∀ b o, M b → H b = some o → H' b = some o) → (∀ v d, Is K N H v d → Is K N H' v d) → R K N H → R K N H'
  anti : ∀ {K : PySem.W.Frag} {N N' : Addr → Prop} {H : Hp}, (∀ a, N' a → N a) → R K N H → R K N' H
  grow : ∀ {K : PySem.W.Frag} {N : Addr → Prop} {H : Hp} {p : Addr}, NoDat H p → R K N H → R K (fun a => N a ∨ a = p) H
  al : ∀ {K : PySem.W.Frag} {N : Addr → Prop} {H : Hp}, R K N H → ∀ a, M a → ∃ o, H a = some o
abbrev Rs := List (At)
section
variable {K : PySem.W.Frag}
def mem : Rs → Addr → Prop
  | [], _ => False
  | t :: r, a => t.M a ∨ mem r a
def hold (K : PySem.W.Frag) (N : Addr → Prop) : Rs → Hp → Prop
  | [], _ => True
  | t :: r, H => t.R K N H ∧ (∀ a, t.M a → ¬ mem r a) ∧ hold K N r H
theorem hold_ext {N : Addr → Prop} {H H' : Hp} (e : Ext H H') : ∀ {r : Rs}, hold K N r H → hold K N r H'
  | [], _ => True.intro
  | t :: r, h => ⟨t.loc (fun b o _ q => e b o q) (is_ext e) h.1, h.2.1, hold_ext e h.2.2⟩
theorem hold_loc {N : Addr → Prop} {H H' : Hp} : ∀ {r : Rs}, (∀ b o, mem r b → H b = some o → H' b = some o) → (∀ v d, Is K N H v d → Is K N H' v d) → hold K N r H → hold K N r H'
  | [], _, _, _ => True.intro
  | t :: r, f, g, h => ⟨t.loc (fun b o z q => f b o (.inl z) q) g h.1, h.2.1, hold_loc (fun b o z q => f b o (.inr z) q) g h.2.2⟩
theorem hold_anti {N N' : Addr → Prop} {H : Hp} (e : ∀ a, N' a → N a) : ∀ {r : Rs}, hold K N r H → hold K N' r H
  | [], _ => True.intro
  | t :: r, h => ⟨t.anti e h.1, h.2.1, hold_anti e h.2.2⟩
theorem hold_growD {N : Addr → Prop} {H : Hp} {p : Addr} (hp : NoDat H p) : ∀ {r : Rs}, hold K N r H → hold K (fun a => N a ∨ a = p) r H
  | [], _ => True.intro
  | t :: r, h => ⟨t.grow hp h.1, h.2.1, hold_growD hp h.2.2⟩
theorem hold_grow {N : Addr → Prop} {H : Hp} {p : Addr} (hp : H p = none) {r : Rs} (h : hold K N r H) : hold K (fun a => N a ∨ a = p) r H := hold_growD (nodat hp) h
theorem hold_al {N : Addr → Prop} {H : Hp} : ∀ {r : Rs}, hold K N r H → ∀ a, mem r a → ∃ o, H a = some o
  | [], _, _, z => z.elim
  | t :: r, h, a, .inl z => t.al h.1 a z
  | t :: r, h, a, .inr z => hold_al h.2.2 a z
theorem mem_append {r r' : Rs} {a : Addr} : mem (r ++ r') a ↔ mem r a ∨ mem r' a := by
  induction r with
  | nil => exact ⟨.inr, fun z => z.elim False.elim id⟩
  | cons t r ih =>
    show (t.M a ∨ mem (r ++ r') a) ↔ ((t.M a ∨ mem r a) ∨ mem r' a)
    rw [ih, or_assoc]
theorem hold_append {N : Addr → Prop} {r r' : Rs} {H : Hp} : hold K N (r ++ r') H ↔ hold K N r H ∧ hold K N r' H ∧ ∀ a, mem r a → ¬ mem r' a := by
  induction r with
  | nil => exact ⟨fun h => ⟨True.intro, h, fun _ z => z.elim⟩, fun h => h.2.1⟩
  | cons t r ih =>
    constructor
    · rintro ⟨h1, h2, h3⟩
      obtain ⟨i1, i2, i3⟩ := ih.mp h3
      exact ⟨⟨h1, fun a z y => h2 a z (mem_append.mpr (.inl y)), i1⟩, i2, fun a z => z.elim (fun z y => h2 a z (mem_append.mpr (.inr y))) (i3 a)⟩
    · rintro ⟨⟨h1, h2, h3⟩, h4, h5⟩
      exact ⟨h1, fun a z y => (mem_append.mp y).elim (h2 a z) (h5 a (.inl z)), ih.mpr ⟨h3, h4, fun a z => h5 a (.inr z)⟩⟩
/-- a list of our own at l that is being filled -/
def lstA (l : Addr) (ds : List D) : At where
  M := fun a => a = l
  R := fun K N H => ∃ vs, H l = some (.lst vs) ∧ IsAll K N H vs ds
  loc := fun f g ⟨vs, h, i⟩ => ⟨vs, f _ _ rfl h, all_of g i⟩
  anti := fun e ⟨vs, h, i⟩ => ⟨vs, h, all_of (fun _ _ => is_anti e) i⟩
  grow := fun hp ⟨vs, h, i⟩ => ⟨vs, h, all_of (fun _ _ => is_growD hp) i⟩
  al := fun ⟨vs, h, _⟩ a z => ⟨.lst vs, by rw [show a = l from z]; exact h⟩
end
/-- what r tells is so -/
def Rok (K : PySem.W.Frag) (r : Rs) (H : Hp) : Prop := hold K (mem r) r H
theorem Rok.ext {K : PySem.W.Frag} {r : Rs} {H H' : Hp} (h : Rok K r H) (e : Ext H H') : Rok K r H' := hold_ext e h
/-- all data stand as they stood -/
def Kp (K : PySem.W.Frag) (r : Rs) (H : Hp) (r' : Rs) (H' : Hp) : Prop := ∀ v d, Is K (mem r) H v d → Is K (mem r') H' v d
section
variable {K : PySem.W.Frag} {r r' r1 r2 : Rs} {H H' H1 H2 : Hp}
theorem Kp.refl : Kp K r H r H := fun _ _ h => h
theorem Kp.trans (a : Kp K r H r1 H1) (b : Kp K r1 H1 r2 H2) : Kp K r H r2 H2 := fun v d h => b v d (a v d h)
theorem Kp.ext (e : Ext H H') : Kp K r H r H' := is_ext e
theorem Kp.all (k : Kp K r H r' H') {vs : List V} {ds : List D} (h : IsAll K (mem r) H vs ds) : IsAll K (mem r') H' vs ds := all_of k h
/-- r knows more than r' -/
structure le (r r' : Rs) : Prop where
  m : ∀ a, mem r' a → mem r a
  r : ∀ K H, Rok K r H → Rok K r' H
theorem le.refl : le r r := ⟨fun _ h => h, fun _ _ h => h⟩
theorem le.trans (a : le r r1) (b : le r1 r2) : le r r2 := ⟨fun x h => a.m x (b.m x h), fun K H h => b.r K H (a.r K H h)⟩
theorem le.kp (l : le r r') : Kp K r H r' H := fun _ _ h => is_anti l.m h
theorem le.drop {t : Rs} : le (r ++ t) r := ⟨fun a h => mem_append.mpr (.inl h), fun K H h => hold_anti (fun a z => mem_append.mpr (.inl z)) (hold_append.mp h).1⟩
end
abbrev Dl := List (Option D)
def lk : Dl → Nat → Option D
  | [], _ => none
  | x :: _, 0 => x
  | _ :: l, n + 1 => lk l n
theorem lk_get : ∀ {δ : Dl} {i : Nat} {d : D}, lk δ i = some d → δ[i]? = some (some d)
  | [], i, d, h => by simp [lk] at h
  | x :: l, 0, d, h => by simp only [lk] at h; simp [h]
  | x :: l, n + 1, d, h => by
    simp only [lk] at h
    have := lk_get h
    simpa using this
/-- the names' slots hold the data -/
structure Okb (K : PySem.W.Frag) (r : Rs) (δ : Dl) (σ : St) (H : Hp) : Prop where
  env : ∀ (i : Nat) (d : D), δ[i]? = some (some d) → ∃ v, σ[i]? = some (some v) ∧ Is K (mem r) H v d
  r : Rok K r H
  len : δ.length = σ.length
theorem Okb.step {K : PySem.W.Frag} {r r' : Rs} {δ : Dl} {σ : St} {H H' : Hp} (o : Okb K r δ σ H) (k : Kp K r H r' H') (hr : Rok K r' H') : Okb K r' δ σ H' :=
  ⟨fun i d e => let ⟨v, h1, h2⟩ := o.env i d e; ⟨v, h1, k v d h2⟩, hr, o.len⟩
theorem Okb.set {K : PySem.W.Frag} {r : Rs} {δ : Dl} {σ : St} {H : Hp} (o : Okb K r δ σ H) {i : Nat} {v : V} {d : D} (h : Is K (mem r) H v d) : Okb K r (δ.set i (some d)) (σ.set i (some v)) H := by
  refine ⟨fun j e he => ?_, o.r, by rw [List.length_set, List.length_set]; exact o.len⟩
  by_cases hj : j = i
  · subst hj
    have hl : j < δ.length := by
      have := (List.getElem?_eq_some_iff.mp he).1
      rwa [List.length_set] at this
    rw [List.getElem?_set_self hl] at he
    cases he
    exact ⟨v, List.getElem?_set_self (o.len ▸ hl), h⟩
  · rw [List.getElem?_set_ne (Ne.symm hj)] at he ⊢
    exact o.env j e he
theorem Okb.drop {K : PySem.W.Frag} {r : Rs} {δ : Dl} {σ : St} {H : Hp} (o : Okb K r δ σ H) {i : Nat} : Okb K r (δ.set i none) (σ.set i none) H := by
  refine ⟨fun j e he => ?_, o.r, by rw [List.length_set, List.length_set]; exact o.len⟩
  by_cases hj : j = i
  · subst hj
    have hl : j < δ.length := by
      have := (List.getElem?_eq_some_iff.mp he).1
      rwa [List.length_set] at this
    rw [List.getElem?_set_self hl] at he
    cases he
  · rw [List.getElem?_set_ne (Ne.symm hj)] at he ⊢
    exact o.env j e he
/-- what is told of an exception: its class, its fields' names, what they hold; the slots, the pieces -/
abbrev XT := Addr → List Str → List D → Dl → Rs → Prop
/-- an exception's own dict -/
def ExAt (K : PySem.W.Frag) (r : Rs) (H : Hp) (a : Option Addr) (fs : List Str) (ds : List D) : Prop := match a with
  | some a => ¬ mem r a ∧ ∃ kvs : List (Str × V), H a = some (.xd kvs) ∧ kvs.map Prod.fst = fs ∧ IsAll K (mem r) H (kvs.map Prod.snd) ds
  | none => fs = [] ∧ ds = []
/-- what is wanted where an exception leaves -/
def Xc (K : PySem.W.Frag) (W : WX) (XR : XT) (r : Rs) (H : Hp) : Prop := ∀ C fs ds δ' r' σ' a H', XR C fs ds δ' r' → Okb K r' δ' σ' H' → Kp K r H r' H' → ExAt K r' H' a fs ds → W (.ref C) a σ' H'
theorem Xc.step {K : PySem.W.Frag} {W : WX} {XR : XT} {r r' : Rs} {H H' : Hp} (x : Xc K W XR r H) (k : Kp K r H r' H') : Xc K W XR r' H' := fun C fs ds δ' r2 σ' a H2 q o k2 e => x C fs ds δ' r2 σ' a H2 q o (k.trans k2) e
structure Ok (K : PySem.W.Frag) (W : WX) (XR : XT) (r : Rs) (δ : Dl) (σ : St) (H : Hp) : Prop where
  b : Okb K r δ σ H
  x : Xc K W XR r H
theorem Ok.r {K : PySem.W.Frag} {W : WX} {XR : XT} {p : Rs} {δ : Dl} {σ : St} {H : Hp} (o : Ok K W XR p δ σ H) : Rok K p H := o.b.r
section
variable {K : PySem.W.Frag} {W : WX} {XR : XT} {r r' : Rs} {δ : Dl} {σ : St} {H H' : Hp}
theorem Ok.env (o : Ok K W XR r δ σ H) : ∀ (i : Nat) (d : D), δ[i]? = some (some d) → ∃ v, σ[i]? = some (some v) ∧ Is K (mem r) H v d := o.b.env
theorem Ok.len (o : Ok K W XR r δ σ H) : δ.length = σ.length := o.b.len
theorem Ok.step (o : Ok K W XR r δ σ H) (k : Kp K r H r' H') (hr : Rok K r' H') : Ok K W XR r' δ σ H' := ⟨o.b.step k hr, o.x.step k⟩
theorem Ok.set (o : Ok K W XR r δ σ H) {i : Nat} {v : V} {d : D} (h : Is K (mem r) H v d) : Ok K W XR r (δ.set i (some d)) (σ.set i (some v)) H := ⟨o.b.set h, o.x⟩
theorem Ok.drop (o : Ok K W XR r δ σ H) {i : Nat} : Ok K W XR r (δ.set i none) (σ.set i none) H := ⟨o.b.drop, o.x⟩
end
abbrev PK1 := D → Rs → Prop
/-- readings over data: of an expression, of arguments, of a test -/
abbrev AT := XT → Dl → Rs → PK1 → Prop
abbrev AL := XT → Dl → Rs → (List D → Rs → Prop) → Prop
abbrev AB := XT → Dl → Rs → (Bool → Rs → Prop) → Prop
def TD (K : PySem.W.Frag) (W : WX) (t : AT) : TE := fun σ H Q => ∃ XR δ r P, Ok K W XR r δ σ H ∧ t XR δ r P ∧ ∀ d r' v H', P d r' → Ok K W XR r' δ σ H' → Kp K r H r' H' → Is K (mem r') H' v d → Q v H'
def TDL (K : PySem.W.Frag) (W : WX) (t : AL) : TA := fun σ H Q => ∃ XR δ r P, Ok K W XR r δ σ H ∧ t XR δ r P ∧ ∀ ds r' vs H', P ds r' → Ok K W XR r' δ σ H' → Kp K r H r' H' → IsAll K (mem r') H' vs ds → Q vs H'
def TDB (K : PySem.W.Frag) (W : WX) (t : AB) : TT := fun σ H Q => ∃ XR δ r P, Ok K W XR r δ σ H ∧ t XR δ r P ∧ ∀ b r' H', P b r' → Ok K W XR r' δ σ H' → Kp K r H r' H' → Q b H'
def PD (X : Cx) (W : WX) (e : Expr) (t : AT) : Prop := PE X e (TD X.K W t)
def PDL (X : Cx) (W : WX) (es : List Expr) (t : AL) : Prop := PA X es (TDL X.K W t)
def PDB (X : Cx) (W : WX) (e : Expr) (t : AB) : Prop := PT X e (TDB X.K W t)
def PDW (X : Cx) (W : WX) (e : Expr) (t : AB) : Prop := PW X e (TDB X.K W t)
theorem imE {X : Cx} {e : Expr} {t t' : TE} (h : PE X e t) (i : ∀ σ H Q, t' σ H Q → t σ H Q) : PE X e t' := ⟨fun pins s σ H Q I q => h.run pins s σ H Q I (i σ H Q q)⟩
theorem imA {X : Cx} {e : List Expr} {t t' : TA} (h : PA X e t) (i : ∀ σ H Q, t' σ H Q → t σ H Q) : PA X e t' := ⟨fun pos pins s σ H Q I q => h.run pos pins s σ H Q I (i σ H Q q)⟩
theorem imT {X : Cx} {e : Expr} {t t' : TT} (h : PT X e t) (i : ∀ σ H Q, t' σ H Q → t σ H Q) : PT X e t' := ⟨fun pins s σ H Q I q => h.run pins s σ H Q I (i σ H Q q)⟩
theorem imW {X : Cx} {e : Expr} {t t' : TT} (h : PW X e t) (i : ∀ σ H Q, t' σ H Q → t σ H Q) : PW X e t' := ⟨fun wh pins s σ H Q I q => h.run wh pins s σ H Q I (i σ H Q q)⟩
theorem imS {X : Cx} {e : Stmt} {t t' : TS} (h : PS X e t) (i : ∀ D σ H, t' D σ H → t D σ H) : PS X e t' := ⟨fun pins s σ H D I q => h.run pins s σ H D I (i D σ H q)⟩
theorem imSs {X : Cx} {e : List Stmt} {t t' : TS} (h : PSs X e t) (i : ∀ D σ H, t' D σ H → t D σ H) : PSs X e t' := ⟨fun pins s σ H D I q => h.run pins s σ H D I (i D σ H q)⟩
def aVar (i : Nat) : AT := fun x δ r P => match lk δ i with | some d => P d r | none => False
def aC (d : D) : AT := fun x _ r P => P d r
section
variable {X : Cx} {W : WX}
theorem td_var {K : PySem.W.Frag} {W : WX} {i : Nat} {σ : St} {H : Hp} {Q : VK} (q : TD K W (aVar i) σ H Q) : tVar i σ H Q := by
  obtain ⟨XR, δ, r, P, o, h, k⟩ := q
  unfold aVar at h
  split at h
  · rename_i d hd
    obtain ⟨v, h1, h2⟩ := o.env i d (lk_get hd)
    exact ⟨v, h1, k d r v H h o Kp.refl h2⟩
  · exact h.elim
theorem dv (i : Nat) {x : Str} {pos : Pos} (hN : X.N[i]? = some x := by rfl) (hv : Vis X.env.scope x := by first | exact Or.inl rfl | exact Or.inr (Or.inl rfl) | exact Or.inr (Or.inr rfl)) (hd : (x == ("__debug__" : Str)) = false := by decide)
    (hcd : (x == ("__classdict__" : Str)) = false := by decide) : PD X W (.Name x pos) (aVar i) := imE (pe_var hN hv hd hcd) fun _ _ _ q => td_var q
theorem td_c {K : PySem.W.Frag} {W : WX} {d : D} {v : V} {σ : St} {H : Hp} {Q : VK} (hv : ∀ M H, Is K M H v d) (q : TD K W (aC d) σ H Q) : tC v σ H Q := by
  obtain ⟨XR, δ, r, P, o, h, k⟩ := q
  exact k d r v H h o Kp.refl (hv _ _)
theorem d_int {i j pos} : PD X W (.Constant (.int i) j pos) (aC (.int i)) := imE pe_int fun _ _ _ q => td_c (fun _ _ => .int i) q
theorem d_bl {i j pos} : PD X W (.Constant (.bool i) j pos) (aC (.bl i)) := imE pe_bl fun _ _ _ q => td_c (fun _ _ => .bl i) q
theorem d_non {j pos} : PD X W (.Constant .none j pos) (aC .non) := imE pe_non fun _ _ _ q => td_c (fun _ _ => .non) q
def sokB (x : Str) : Bool := PyData.strOk x && decide (x.length ≤ 1000000)
theorem sok_of {x : Str} (h : sokB x = true) : sok x := by
  unfold sokB at h
  rw [Bool.and_eq_true, decide_eq_true_eq] at h
  exact h
theorem d_str {x j pos} (h : sokB x = true := by decide +kernel) : PD X W (.Constant (.str x) j pos) (aC (.str x)) := imE pe_str fun _ _ _ q => td_c (fun _ _ => .str (sok_of h)) q
def aNil : AL := fun x _ r P => P [] r
def aCons (t : AT) (l : AL) : AL := fun x δ r P => t x δ r fun d r1 => l x δ r1 fun ds r2 => P (d :: ds) r2
theorem dl_nil : PDL X W [] aNil := imA pa_nil fun σ H Q q => by
  obtain ⟨XR, δ, r, P, o, h, k⟩ := q
  exact k [] r [] H h o Kp.refl .nil
theorem td_bind {K : PySem.W.Frag} {W : WX} {XR : XT} {σ : St} {H : Hp} {δ : Dl} {r : Rs} {t : AT} {P : PK1} {Q : VK} (o : Ok K W XR r δ σ H) (h : t XR δ r P) (k : ∀ d r' v H', P d r' → Ok K W XR r' δ σ H' → Kp K r H r' H' → Is K (mem r') H' v d → Q v H') : TD K W t σ H Q := ⟨XR, δ, r, P, o, h, k⟩
theorem tdl_bind {K : PySem.W.Frag} {W : WX} {XR : XT} {σ : St} {H : Hp} {δ : Dl} {r : Rs} {t : AL} {P : List D → Rs → Prop} {Q : List V → Hp → Prop} (o : Ok K W XR r δ σ H) (h : t XR δ r P) (k : ∀ d r' v H', P d r' → Ok K W XR r' δ σ H' → Kp K r H r' H' → IsAll K (mem r') H' v d → Q v H') : TDL K W t σ H Q := ⟨XR, δ, r, P, o, h, k⟩
theorem dl_cons {e : Expr} {es : List Expr} {t : AT} {l : AL} (ha : PD X W e t) (hr : PDL X W es l) (hs : starEach (e :: es) X.env = (false, eval e X.env) :: starEach es X.env := by rfl) : PDL X W (e :: es) (aCons t l) := imA (pa_cons ha hr hs) fun σ H Q q => by
  obtain ⟨XR, δ, r, P, o, h, k⟩ := q
  refine td_bind o h fun d r1 v H1 h1 o1 k1 i1 => tdl_bind o1 h1 fun ds r2 vs H2 h2 o2 k2 i2 => ?_
  exact k (d :: ds) r2 _ H2 h2 o2 (k1.trans k2) (.cons (k2 _ _ i1) i2)
def small (n : Nat) : Prop := n ≤ 1000000
theorem small.sz {n : Nat} (h : small n) : n ≤ sizeLine := Nat.le_trans h (by decide)
theorem not_al {K : PySem.W.Frag} {r : Rs} {H : Hp} {p : Addr} (h : Rok K r H) (hp : H p = none) : ¬ mem r p := fun z => by
  obtain ⟨o, e⟩ := hold_al h p z
  rw [hp] at e
  cases e
def aTup (l : AL) : AT := fun x δ r P => l x δ r fun ds r1 => small ds.length ∧ P (.tup ds) r1
def aLst (l : AL) : AT := fun x δ r P => l x δ r fun ds r1 => small ds.length ∧ P (.lst ds) r1
theorem new_tup {K : PySem.W.Frag} {r : Rs} {H : Hp} {p : Addr} {vs : List V} {ds : List D} (hp : H p = none) (i : IsAll K (mem r) H vs ds) : Is K (mem r) (upd H p (.tup vs)) (.ref p) (.tup ds) :=
  .tup (SqT.of upd_same) (Kp.all (r := r) (r' := r) (Kp.ext (Ext.new hp)) i)
theorem new_lst {K : PySem.W.Frag} {r : Rs} {H : Hp} {p : Addr} {vs : List V} {ds : List D} (hr : Rok K r H) (hp : H p = none) (i : IsAll K (mem r) H vs ds) : Is K (mem r) (upd H p (.lst vs)) (.ref p) (.lst ds) :=
  .lst (not_al hr hp) upd_same (Kp.all (r := r) (r' := r) (Kp.ext (Ext.new hp)) i)
theorem Ok.new {K : PySem.W.Frag} {W : WX} {XR : XT} {r : Rs} {δ : Dl} {σ : St} {H : Hp} {p : Addr} {u : HO} (o : Ok K W XR r δ σ H) (hp : H p = none) : Ok K W XR r δ σ (upd H p u) := o.step (Kp.ext (Ext.new hp)) (o.r.ext (Ext.new hp))
theorem d_tup {es : List Expr} {x1} {pos : Pos} {l : AL} (ha : PDL X W es l) : PD X W (.Tuple es x1 pos) (aTup l) := imE (pe_tup ha) fun σ H Q q => by
  obtain ⟨XR, δ, r, P, o, h, k⟩ := q
  refine tdl_bind o h fun ds r1 vs H1 h1 o1 k1 i1 => ⟨by rw [i1.length]; exact h1.1.sz, fun p hp => ?_⟩
  exact k _ r1 _ _ h1.2 (o1.new hp) (k1.trans (Kp.ext (Ext.new hp))) (new_tup hp i1)
theorem d_lst {es : List Expr} {pos : Pos} {l : AL} (ha : PDL X W es l) : PD X W (.List es pos) (aLst l) := imE (pe_lst ha) fun σ H Q q => by
  obtain ⟨XR, δ, r, P, o, h, k⟩ := q
  refine tdl_bind o h fun ds r1 vs H1 h1 o1 k1 i1 => ⟨by rw [i1.length]; exact h1.1.sz, fun p hp => ?_⟩
  exact k _ r1 _ _ h1.2 (o1.new hp) (k1.trans (Kp.ext (Ext.new hp))) (new_lst o1.r hp i1)
end
end G
namespace G
open PySem PySem.Spec L2
abbrev O2 := D → D → (D → Prop) → Prop
def rD (K : PySem.W.Frag) (o : O2) : R2 := fun x y H Q => ∃ (r : Rs) (d1 d2 : D) (P : D → Prop), Rok K r H ∧ Is K (mem r) H x d1 ∧ Is K (mem r) H y d2 ∧ o d1 d2 P ∧ ∀ d v H', P d → Ext H H' → Is K (mem r) H' v d → Q v H'
def aOp (o : O2) (ta tb : AT) : AT := fun x δ r P => ta x δ r fun d1 r1 => tb x δ r1 fun d2 r2 => o d1 d2 fun d => P d r2
section
variable {X : Cx} {W : WX} {a b c : Expr} {ta tb tc : AT} {pos : Pos}
theorem Ok.ext {K : PySem.W.Frag} {W : WX} {XR : XT} {r : Rs} {δ : Dl} {σ : L2.St} {H H' : Hp} (o : Ok K W XR r δ σ H) (e : Ext H H') : Ok K W XR r δ σ H' := o.step (Kp.ext e) (o.r.ext e)
theorem td_op {K : PySem.W.Frag} {W : WX} {o : O2} {ta tb : AT} {σ : L2.St} {H : Hp} {Q : VK} (q : TD K W (aOp o ta tb) σ H Q) : tOp (rD K o) (TD K W ta) (TD K W tb) σ H Q := by
  obtain ⟨XR, δ, r, P, ok, h, k⟩ := q
  refine td_bind ok h fun d1 r1 v1 H1 h1 o1 k1 i1 => td_bind o1 h1 fun d2 r2 v2 H2 h2 o2 k2 i2 => ?_
  exact ⟨r2, d1, d2, fun d => P d r2, o2.r, k2 _ _ i1, i2, h2, fun d v H' p e i => k d r2 v H' p (o2.ext e) ((k1.trans k2).trans (Kp.ext e)) i⟩
theorem d_bin {op : Operator} {o : O2} (ho : OpR X (binaryOp op) (rD X.K o)) (ha : PD X W a ta) (hb : PD X W b tb) : PD X W (.BinOp a op b pos) (aOp o ta tb) := imE (pe_op ho ha hb) fun _ _ _ q => td_op q
theorem d_cmp {op : CmpOp} {o : O2} (ho : OpR X (compareOp op) (rD X.K o)) (ha : PD X W a ta) (hb : PD X W b tb) (hm : behindInMarks op b = false := by first | exact nomark _ | with_unfolding_all rfl) : PD X W (.Compare a [op] [b] pos) (aOp o ta tb) :=
  imE (pe_cmpR ho ha hb hm) fun _ _ _ q => td_op q
/-- a value as a test: True or False -/
def aTest (t : AT) : AB := fun x δ r P => t x δ r fun d r1 => match d with | .bl b => P b r1 | _ => False
theorem tdb_test {K : PySem.W.Frag} {W : WX} {t : AT} {t0 : TE} {σ : L2.St} {H : Hp} {Q : Bool → Hp → Prop} (im : ∀ Q, TD K W t σ H Q → t0 σ H Q) (q : TDB K W (aTest t) σ H Q) : t0 σ H fun x H' => ∃ k, x = .bl k ∧ Q k H' := by
  obtain ⟨XR, δ, r, P, ok, h, k⟩ := q
  refine im _ (td_bind ok h fun d r1 v H1 h1 o1 k1 i1 => ?_)
  cases i1 with
  | bl b => exact ⟨b, rfl, k b r1 H1 h1 o1 k1⟩
  | _ => exact h1.elim
theorem b_cmp {op : CmpOp} {o : O2} (ho : OpR X (compareOp op) (rD X.K o)) (ha : PD X W a ta) (hb : PD X W b tb) (hm : behindInMarks op b = false := by first | exact nomark _ | with_unfolding_all rfl) : PDB X W (.Compare a [op] [b] pos) (aTest (aOp o ta tb)) :=
  imT (pt_cmpR ho ha hb hm) fun _ _ _ q => tdb_test (fun _ q => td_op q) q
/-- a value as a test: its truth -/
def truD : D → Option Bool
  | .non => some false | .bl b => some b | .int i => some (i != 0) | .str x => some ((x.length : Int) != 0) | .lst xs => some (!xs.isEmpty) | .tup xs => some (!xs.isEmpty) | _ => none
def aTru (t : AT) : AB := fun x δ r P => t x δ r fun d r1 => match truD d with | some b => P b r1 | none => False
theorem isEmpty_all {K : PySem.W.Frag} {N : Addr → Prop} {H : Hp} {xs : List V} {ds : List D} (h : IsAll K N H xs ds) : xs.isEmpty = ds.isEmpty := by cases h <;> rfl
theorem b_tru (ha : PD X W a ta) (he : ∀ whole, isTrue a X.env whole = (do let v ← whole; standAt a.pos; holding [v] (truthy v)) := by intro _; rfl) : PDB X W a (aTru ta) :=
  imT (pt_truth ha he) fun σ H Q q => by
    obtain ⟨XR, δ, r, P, ok, h, k⟩ := q
    refine td_bind ok h fun d r1 v H1 h1 o1 k1 i1 => ?_
    cases i1 with
    | non => exact ⟨false, rfl, k _ r1 H1 h1 o1 k1⟩
    | bl b => exact ⟨b, rfl, k _ r1 H1 h1 o1 k1⟩
    | int i => exact ⟨i != 0, rfl, k _ r1 H1 h1 o1 k1⟩
    | str s => exact ⟨_, ⟨Nat.le_trans s.2 (by decide), rfl⟩, k _ r1 H1 h1 o1 k1⟩
    | adr a => exact h1.elim
    | ins _ _ _ _ _ => exact h1.elim
    | dct _ _ _ _ => exact h1.elim
    | lst n s i => exact ⟨_, Or.inl ⟨_, SqL.of s, rfl⟩, k _ r1 H1 (by rw [isEmpty_all i]; exact h1) o1 k1⟩
    | tup s i => exact ⟨_, Or.inr (Or.inl ⟨_, s, rfl⟩), k _ r1 H1 (by rw [isEmpty_all i]; exact h1) o1 k1⟩
def oAdd : O2 := fun x y k => match x, y with
  | .int i, .int j => k (.int (i + j))
  | .str i, .str j => small (i.length + j.length) ∧ k (.str (i ++ j))
  | .lst i, .lst j => small (i.length + j.length) ∧ k (.lst (i ++ j))
  | .tup i, .tup j => small (i.length + j.length) ∧ k (.tup (i ++ j))
  | _, _ => False
theorem sok_append {i j : Str} (hi : sok i) (hj : sok j) (h : small (i.length + j.length)) : sok (i ++ j) := by
  obtain ⟨a, b⟩ := hi
  obtain ⟨c, d⟩ := hj
  refine ⟨?_, ?_⟩
  · show (i.cps ++ j.cps).all _ = true
    rw [Array.all_append]
    exact Bool.and_eq_true_iff.mpr ⟨a, c⟩
  · show (i.cps ++ j.cps).size ≤ _
    rw [Array.size_append]
    exact h
theorem all_nil {K : PySem.W.Frag} {N : Addr → Prop} {H : Hp} {xs : List V} {ds : List D} (h : IsAll K N H xs ds) : xs = [] ↔ ds = [] := by cases h <;> simp
theorem p_add : OpR X (binaryOp .Add) (rD X.K oAdd) := by
  rintro pins s σ H x y v u Q I rx ry ⟨r, d1, d2, P, hr, i1, i2, ho, k⟩
  cases i1 <;> cases i2 <;> try exact ho.elim
  · exact op_add pins s σ H _ _ v u Q I rx ry ⟨_, _, rfl, rfl, k _ _ H ho (Ext.refl H) (.int _)⟩
  · rename_i s1 _ s2
    exact op_add_str pins s σ H _ _ v u Q I rx ry ⟨_, _, rfl, rfl, ho.1.sz, k _ _ H ho.2 (Ext.refl H) (.str (sok_append s1 s2 ho.1))⟩
  · rename_i n1 h1 a1 _ _ _ n2 h2 a2
    exact op_cat pins s σ H _ _ v u Q I rx ry ⟨_, _, _, _, rfl, rfl, h1, h2, by rw [a1.length, a2.length]; exact ho.1.sz, fun p hp => k _ _ _ ho.2 (Ext.new hp) (new_lst hr hp (a1.append a2))⟩
  · rename_i h1 a1 _ _ _ h2 a2
    refine op_catA pins s σ H _ _ v u Q I rx ry ⟨_, _, _, _, rfl, rfl, h1, h2, by rw [a1.length, a2.length]; exact ho.1.sz, fun z => ?_, fun _ z => ?_, fun _ z p hp => k _ _ _ ho.2 (Ext.new hp) (new_tup hp (a1.append a2))⟩
    · have e := (all_nil a1).mp z
      subst e
      exact k _ _ H ho.2 (Ext.refl H) (.tup h2 a2)
    · have e := (all_nil a2).mp z
      subst e
      have q := ho.2
      rw [List.append_nil] at q
      exact k _ _ H q (Ext.refl H) (.tup h1 a1)
def oSub : O2 := fun x y k => match x, y with | .int i, .int j => k (.int (i - j)) | _, _ => False
theorem p_sub : OpR X (binaryOp .Sub) (rD X.K oSub) := by
  rintro pins s σ H x y v u Q I rx ry ⟨r, d1, d2, P, hr, i1, i2, ho, k⟩
  cases i1 <;> cases i2 <;> try exact ho.elim
  exact op_sub pins s σ H _ _ v u Q I rx ry ⟨_, _, rfl, rfl, k _ _ H ho (Ext.refl H) (.int _)⟩
def oPow : O2 := fun x y k => match x, y with | .int i, .int j => CPow i j ∧ k (.int (i ^ j.toNat)) | _, _ => False
theorem p_pow : OpR X (binaryOp .Pow) (rD X.K oPow) := by
  rintro pins s σ H x y v u Q I rx ry ⟨r, d1, d2, P, hr, i1, i2, ho, k⟩
  cases i1 <;> cases i2 <;> try exact ho.elim
  exact op_pow pins s σ H _ _ v u Q I rx ry ⟨_, _, rfl, rfl, ho.1, k _ _ H ho.2 (Ext.refl H) (.int _)⟩
def oCmp (f : Int → Int → Bool) (g : Str → Str → Bool) : O2 := fun x y k => match x, y with | .int i, .int j => k (.bl (f i j)) | .str i, .str j => k (.bl (g i j)) | _, _ => False
abbrev oLt : O2 := oCmp (fun i j => decide (i < j)) (fun i j => decide (i.cps.toList < j.cps.toList))
theorem p_lt : OpR X (compareOp .Lt) (rD X.K oLt) := by
  rintro pins s σ H x y v u Q I rx ry ⟨r, d1, d2, P, hr, i1, i2, ho, k⟩
  cases i1 <;> cases i2 <;> try exact ho.elim
  · exact op_lt pins s σ H _ _ v u Q I rx ry ⟨_, _, rfl, rfl, k _ _ H ho (Ext.refl H) (.bl _)⟩
  · exact op_lt_str pins s σ H _ _ v u Q I rx ry ⟨_, _, rfl, rfl, k _ _ H ho (Ext.refl H) (.bl _)⟩
def isNonD : D → Bool | .non => true | _ => false
def oIs : O2 := fun x y k => match y with | .non => k (.bl (isNonD x)) | _ => False
theorem dec_non {K : PySem.W.Frag} {N : Addr → Prop} {H : Hp} {v : V} {d : D} (h : Is K N H v d) : decide (v = V.non) = isNonD d := by cases h <;> rfl
theorem p_is : OpR X (compareOp .Is) (rD X.K oIs) := by
  rintro pins s σ H x y v u Q I rx ry ⟨r, d1, d2, P, hr, i1, i2, ho, k⟩
  cases i2 <;> try exact ho.elim
  exact op_isN pins s σ H _ _ v u Q I rx ry ⟨rfl, by rw [dec_non i1]; exact k _ _ H ho (Ext.refl H) (.bl _)⟩
mutual
def py : D → PyData
  | .non => .none | .bl b => .bool b | .int i => .int i | .str x => .str x | .adr _ => .dict [] | .ins _ _ _ => .dict [] | .dct _ _ => .dict [] | .lst ds => .list (pys ds) | .tup ds => .tuple (pys ds)
def pys : List D → List PyData
  | [] => []
  | d :: ds => py d :: pys ds
end
mutual
def dep : D → Nat
  | .adr _ => 1000 | .ins _ _ _ => 1000 | .dct _ _ => 1000 | .lst ds => deps ds + 1 | .tup ds => deps ds + 1 | _ => 0
def deps : List D → Nat
  | [] => 0
  | d :: ds => max (dep d) (deps ds)
end
mutual
theorem dep_py {K : PySem.W.Frag} {N : Addr → Prop} {H : Hp} : ∀ (d : D) (v : V), Is K N H v d → dep d ≤ 64 → Dp K H v (py d) ∧ (py d).canLay0 = true ∧ (py d).depth ≤ dep d
  | .non, _, h, _ => by cases h; exact ⟨.non, rfl, by simp [py, PyData.depth]⟩
  | .bl b, _, h, _ => by cases h; exact ⟨.bl b, rfl, by simp [py, PyData.depth]⟩
  | .int i, _, h, _ => by cases h; exact ⟨.int i, rfl, by simp [py, PyData.depth]⟩
  | .str x, _, h, _ => by cases h with | str o => exact ⟨.str x, by simp only [py, PyData.canLay0]; exact o.1, by simp [py, PyData.depth]⟩
  | .adr a, _, h, l => by simp [dep] at l
  | .ins _ _ _, _, h, l => by simp [dep] at l
  | .dct _ _, _, h, l => by simp [dep] at l
  | .lst ds, _, h, l => by
    cases h with
    | lst n s i =>
      have l' : deps ds ≤ 64 := by simp only [dep] at l; omega
      obtain ⟨a, b, c⟩ := deps_py ds _ i l'
      exact ⟨by simp only [py]; exact .lst (SqL.of s) a, by simp only [py, PyData.canLay0]; exact b, by simp only [py, PyData.depth, dep]; omega⟩
  | .tup ds, _, h, l => by
    cases h with
    | tup s i =>
      have l' : deps ds ≤ 64 := by simp only [dep] at l; omega
      obtain ⟨a, b, c⟩ := deps_py ds _ i l'
      exact ⟨by simp only [py]; exact .tup s a, by simp only [py, PyData.canLay0]; exact b, by simp only [py, PyData.depth, dep]; omega⟩
theorem deps_py {K : PySem.W.Frag} {N : Addr → Prop} {H : Hp} : ∀ (ds : List D) (vs : List V), IsAll K N H vs ds → deps ds ≤ 64 → DpAll K H vs (pys ds) ∧ PyData.canLayAll0 (pys ds) = true ∧ PyData.depthAll (pys ds) ≤ deps ds
  | [], _, h, _ => by cases h; exact ⟨by simp only [pys]; exact .nil, rfl, by simp [pys, PyData.depthAll]⟩
  | d :: ds, _, h, l => by
    cases h with
    | cons h1 h2 =>
      have l1 : dep d ≤ 64 := by simp only [deps] at l; omega
      have l2 : deps ds ≤ 64 := by simp only [deps] at l; omega
      obtain ⟨a, b, c⟩ := dep_py d _ h1 l1
      obtain ⟨a', b', c'⟩ := deps_py ds _ h2 l2
      exact ⟨by simp only [pys]; exact .cons a a', by simp only [pys, PyData.canLayAll0]; rw [b, b']; rfl, by simp only [pys, PyData.depthAll, deps]; omega⟩
end
theorem shaped_py {K : PySem.W.Frag} {N : Addr → Prop} {H : Hp} {d : D} {v : V} (h : Is K N H v d) (l : dep d ≤ 64) : Dp K H v (py d) ∧ SeqAt.shaped (py d) = true := by
  obtain ⟨a, b, c⟩ := dep_py d v h l
  exact ⟨a, by unfold SeqAt.shaped; rw [b]; exact decide_eq_true (by omega)⟩
def eqD (a b : D) : Bool := PyData.eqv (py a) (py b)
def oEq : O2 := fun x y k => dep x ≤ 64 ∧ dep y ≤ 64 ∧ k (.bl (eqD x y))
def oNe : O2 := fun x y k => dep x ≤ 64 ∧ dep y ≤ 64 ∧ k (.bl (!eqD x y))
theorem p_eq (hu : X.A.units + 64 < cLine) : OpR X (compareOp .Eq) (rD X.K oEq) := by
  rintro pins s σ H x y v u Q I rx ry ⟨r, d1, d2, P, hr, i1, i2, ho, k⟩
  obtain ⟨a1, b1⟩ := shaped_py i1 ho.1
  obtain ⟨a2, b2⟩ := shaped_py i2 ho.2.1
  exact op_eqD hu pins s σ H _ _ v u Q I rx ry ⟨_, _, a1, a2, b1, b2, k _ _ H ho.2.2 (Ext.refl H) (.bl _)⟩
theorem p_ne (hu : X.A.units + 64 < cLine) : OpR X (compareOp .NotEq) (rD X.K oNe) := by
  rintro pins s σ H x y v u Q I rx ry ⟨r, d1, d2, P, hr, i1, i2, ho, k⟩
  obtain ⟨a1, b1⟩ := shaped_py i1 ho.1
  obtain ⟨a2, b2⟩ := shaped_py i2 ho.2.1
  exact op_neD hu pins s σ H _ _ v u Q I rx ry ⟨_, _, a1, a2, b1, b2, k _ _ H ho.2.2 (Ext.refl H) (.bl _)⟩
end
end G
namespace G
open PySem PySem.Spec L2
section
variable {X : Cx} {W : WX} {a b c : Expr} {ta tb tc : AT} {pos : Pos}
theorem tdb_bind {K : PySem.W.Frag} {W : WX} {XR : XT} {σ : L2.St} {H : Hp} {δ : Dl} {r : Rs} {t : AB} {P : Bool → Rs → Prop} {Q : Bool → Hp → Prop} (o : Ok K W XR r δ σ H) (h : t XR δ r P) (k : ∀ d r' H', P d r' → Ok K W XR r' δ σ H' → Kp K r H r' H' → Q d H') : TDB K W t σ H Q := ⟨XR, δ, r, P, o, h, k⟩
section
variable {K : PySem.W.Frag}
def bAnd (t u : AB) : AB := fun x δ r P => t x δ r fun b r1 => (b = true → u x δ r1 P) ∧ (b = false → P false r1)
def bOr (t u : AB) : AB := fun x δ r P => t x δ r fun b r1 => (b = true → P true r1) ∧ (b = false → u x δ r1 P)
def bNot (t : AB) : AB := fun x δ r P => t x δ r fun b r1 => P (!b) r1
def aAnd (t u : AT) : AT := fun x δ r P => t x δ r fun d r1 => match d with | .bl b => (b = true → u x δ r1 P) ∧ (b = false → P (.bl false) r1) | _ => False
def aNot (t : AT) : AT := fun x δ r P => t x δ r fun d r1 => match d with | .bl b => P (.bl (!b)) r1 | _ => False
def aIf (t : AB) (u w : AT) : AT := fun x δ r P => t x δ r fun b r1 => (b = true → u x δ r1 P) ∧ (b = false → w x δ r1 P)
end
variable {bA bB : AB} {rest : List Expr}
theorem w_and1 (ha : PDB X W a bA) : PDW X W (.BoolOp .And [a] pos) bA := pw_and1 ha
theorem w_or1 (ha : PDB X W a bA) : PDW X W (.BoolOp .Or [a] pos) bA := pw_or1 ha
theorem w_and (ha : PDB X W a bA) (hb : PDW X W (.BoolOp .And (b :: rest) pos) bB) : PDW X W (.BoolOp .And (a :: b :: rest) pos) (bAnd bA bB) := imW (pw_and ha hb) fun σ H Q q => by
  obtain ⟨XR, δ, r, P, ok, h, k⟩ := q
  refine tdb_bind ok h fun d r1 H1 h1 o1 k1 => ?_
  cases d with
  | true => exact tdb_bind o1 (h1.1 rfl) fun d r2 H2 h2 o2 k2 => k d r2 H2 h2 o2 (k1.trans k2)
  | false => exact k _ r1 H1 (h1.2 rfl) o1 k1
theorem w_or (ha : PDB X W a bA) (hb : PDW X W (.BoolOp .Or (b :: rest) pos) bB) : PDW X W (.BoolOp .Or (a :: b :: rest) pos) (bOr bA bB) := imW (pw_or ha hb) fun σ H Q q => by
  obtain ⟨XR, δ, r, P, ok, h, k⟩ := q
  refine tdb_bind ok h fun d r1 H1 h1 o1 k1 => ?_
  cases d with
  | false => exact tdb_bind o1 (h1.2 rfl) fun d r2 H2 h2 o2 k2 => k d r2 H2 h2 o2 (k1.trans k2)
  | true => exact k _ r1 H1 (h1.1 rfl) o1 k1
theorem b_w (h : PDW X W a bA) : PDB X W a bA := PW.pt h
theorem b_not (ha : PDB X W a bA) : PDB X W (.UnaryOp .Not a pos) (bNot bA) := imT (pt_not ha) fun σ H Q q => by
  obtain ⟨XR, δ, r, P, ok, h, k⟩ := q
  exact tdb_bind ok h fun d r1 H1 h1 o1 k1 => k _ r1 H1 h1 o1 k1
theorem d_one {op} (h : PD X W a ta) : PD X W (.BoolOp op [a] pos) ta := pe_one h
theorem d_and (ha : PD X W a ta) (hb : PD X W (.BoolOp .And (b :: rest) pos) tb) : PD X W (.BoolOp .And (a :: b :: rest) pos) (aAnd ta tb) := imE (pe_and ha hb) fun σ H Q q => by
  obtain ⟨XR, δ, r, P, ok, h, k⟩ := q
  refine td_bind ok h fun d r1 v H1 h1 o1 k1 i1 => ?_
  cases i1 <;> try exact h1.elim
  rename_i d
  refine ⟨d, rfl, ?_⟩
  cases d with
  | true => exact td_bind o1 (h1.1 rfl) fun d r2 v H2 h2 o2 k2 i2 => k d r2 v H2 h2 o2 (k1.trans k2) i2
  | false => exact k _ r1 _ H1 (h1.2 rfl) o1 k1 (.bl _)
theorem d_not (ha : PD X W a ta) : PD X W (.UnaryOp .Not a pos) (aNot ta) := imE (pe_not ha) fun σ H Q q => by
  obtain ⟨XR, δ, r, P, ok, h, k⟩ := q
  refine td_bind ok h fun d r1 v H1 h1 o1 k1 i1 => ?_
  cases i1 <;> try exact h1.elim
  exact ⟨_, rfl, k _ r1 _ H1 h1 o1 k1 (.bl _)⟩
theorem d_if (hc : PDB X W c bA) (ha : PD X W a ta) (hb : PD X W b tb) : PD X W (.IfExp c a b pos) (aIf bA ta tb) := imE (pe_ifExp hc ha hb) fun σ H Q q => by
  obtain ⟨XR, δ, r, P, ok, h, k⟩ := q
  refine tdb_bind ok h fun d r1 H1 h1 o1 k1 => ?_
  cases d with
  | true => exact td_bind o1 (h1.1 rfl) fun d r2 v H2 h2 o2 k2 i2 => k d r2 v H2 h2 o2 (k1.trans k2) i2
  | false => exact td_bind o1 (h1.2 rfl) fun d r2 v H2 h2 o2 k2 i2 => k d r2 v H2 h2 o2 (k1.trans k2) i2
def oNeg (x : D) (k : D → Prop) : Prop := match x with | .int i => k (.int (-i)) | _ => False
def aNeg (t : AT) : AT := fun x δ r P => t x δ r fun d r1 => oNeg d fun d => P d r1
theorem d_neg (ha : PD X W a ta) : PD X W (.UnaryOp .USub a pos) (aNeg ta) := imE (pe_un un_neg ha) fun σ H Q q => by
  obtain ⟨XR, δ, r, P, ok, h, k⟩ := q
  refine td_bind ok h fun d r1 v H1 h1 o1 k1 i1 => ?_
  cases i1 <;> try exact h1.elim
  exact ⟨_, rfl, k _ r1 _ H1 h1 o1 k1 (.int _)⟩
def oIxP : O2 := fun x y k => match x, y with
  | .lst ds, .int i => match atI ds i with | some d => k d | none => False
  | .tup ds, .int i => match atI ds i with | some d => k d | none => False
  | .str z, .int i => match atI z.cps.toList i with | some c => k (.str ⟨#[c]⟩) | none => False
  | _, _ => False
structure oIx (x y : D) (k : D → Prop) : Prop where
  ex : oIxP x y k
theorem at_all {K : PySem.W.Frag} {N : Addr → Prop} {H : Hp} {vs : List V} {ds : List D} {i : Int} {d : D} (h : IsAll K N H vs ds) (e : atI ds i = some d) : ∃ v, atI vs i = some v ∧ Is K N H v d := by
  unfold atI at e ⊢
  rw [h.length]
  cases q : ixN ds.length i with
  | none => rw [q] at e; cases e
  | some j =>
    rw [q] at e
    exact h.getD e
theorem sok_sign {z : Str} {i : Int} {c : Nat} (h : sok z) (e : atI z.cps.toList i = some c) : sok ⟨#[c]⟩ := by
  refine ⟨?_, by show 1 ≤ 1000000; decide⟩
  unfold atI at e
  cases q : ixN z.cps.toList.length i with
  | none => rw [q] at e; cases e
  | some j =>
    rw [q] at e
    have hm := List.mem_of_getElem? e
    have h1 : z.cps.all (fun c => decide (c < 0x110000)) = true := h.1
    rw [← Array.all_toList, List.all_eq_true] at h1
    show (#[c] : Array Nat).all _ = true
    simpa using h1 c hm
theorem p_ix : IxR X (rD X.K oIx) := by
  rintro value slice pins s σ H x y v u Q I rx ry ⟨r, d1, d2, P, hr, i1, i2, ho, k⟩ hs
  obtain ⟨ho⟩ := ho
  cases i1 <;> cases i2 <;> try exact ho.elim
  · rename_i z hz i
    simp only [oIxP] at ho
    split at ho
    · rename_i c hc
      exact ix_str value slice pins s σ H _ _ v u Q I rx ry ⟨_, _, _, rfl, rfl, Nat.le_trans hz.2 (by decide), hc, k _ _ H ho (Ext.refl H) (.str (sok_sign hz hc))⟩ hs
    · exact ho.elim
  · rename_i n h a i
    simp only [oIxP] at ho
    split at ho
    · rename_i d hd
      obtain ⟨w, hw, iw⟩ := at_all a hd
      exact ix_list value slice pins s σ H _ _ v u Q I rx ry ⟨_, _, _, _, rfl, rfl, SqL.of h, hw, k _ _ H ho (Ext.refl H) iw⟩ hs
    · exact ho.elim
  · rename_i h a i
    simp only [oIxP] at ho
    split at ho
    · rename_i d hd
      obtain ⟨w, hw, iw⟩ := at_all a hd
      exact ix_tup value slice pins s σ H _ _ v u Q I rx ry ⟨_, _, _, _, rfl, rfl, h, hw, k _ _ H ho (Ext.refl H) iw⟩ hs
    · exact ho.elim
theorem d_ix (ha : PD X W a ta) (hb : PD X W b tb) (hs : PlainIx b := by exact fun _ _ => rfl) : PD X W (.Subscript a b pos) (aOp oIx ta tb) := imE (pe_ix p_ix ha hb hs) fun _ _ _ q => td_op q
abbrev AO := XT → Dl → Rs → (Option Int → Rs → Prop) → Prop
section
variable {K : PySem.W.Frag}
def aNo : AO := fun x _ r P => P none r
def aPart (t : AT) : AO := fun x δ r P => t x δ r fun d r1 => match d with | .int i => P (some i) r1 | _ => False
def TDO (K : PySem.W.Frag) (W : WX) (t : AO) : TO := fun σ H Q => ∃ XR δ r P, Ok K W XR r δ σ H ∧ t XR δ r P ∧ ∀ o r' H', P o r' → Ok K W XR r' δ σ H' → Kp K r H r' H' → Q o H'
end
def PDO (X : Cx) (W : WX) (e : Option Expr) (t : AO) : Prop := PO X e (TDO X.K W t)
theorem imO {X : Cx} {e : Option Expr} {t t' : TO} (h : PO X e t) (i : ∀ σ H Q, t' σ H Q → t σ H Q) : PO X e t' := ⟨fun pins s σ H Q I q => h.run pins s σ H Q I (i σ H Q q)⟩
theorem o_no : PDO X W none aNo := imO po_none fun σ H Q q => by
  obtain ⟨XR, δ, r, P, ok, h, k⟩ := q
  exact k _ r H h ok Kp.refl
theorem o_some (h : PD X W a ta) : PDO X W (some a) (aPart ta) := imO (po_some h) fun σ H Q q => by
  obtain ⟨XR, δ, r, P, ok, h, k⟩ := q
  refine td_bind ok h fun d r1 v H1 h1 o1 k1 i1 => ?_
  cases i1 <;> try exact h1.elim
  exact ⟨_, rfl, k _ r1 H1 h1 o1 k1⟩
def cutD (xs : List D) (lo hi : Option Int) : List D := (xs.drop (HT.sIx xs.length 0 lo)).take (HT.sIx xs.length xs.length hi - HT.sIx xs.length 0 lo)
/-- x[lo:hi] -/
def oSlP (x : D) (lo hi : Option Int) (k : D → Prop) : Prop := match x with
  | .lst ds => k (.lst (cutD ds lo hi))
  | .tup ds => k (.tup (cutD ds lo hi))
  | .str z => k (.str (cutS z lo hi))
  | _ => False
structure oSl (x : D) (lo hi : Option Int) (k : D → Prop) : Prop where
  ex : oSlP x lo hi k
def aSl (t : AT) (lo hi : AO) : AT := fun x δ r P => t x δ r fun d r1 => lo x δ r1 fun l r2 => hi x δ r2 fun u r3 => oSl d l u fun d => P d r3
def rSlD (K : PySem.W.Frag) : V → Option Int → Option Int → Hp → VK → Prop := fun x lo hi H Q => ∃ (r : Rs) (d : D) (P : D → Prop), Rok K r H ∧ Is K (mem r) H x d ∧ oSl d lo hi P ∧ ∀ d v H', P d → Ext H H' → Is K (mem r) H' v d → Q v H'
theorem cut_all {K : PySem.W.Frag} {N : Addr → Prop} {H : Hp} {vs : List V} {ds : List D} (lo hi : Option Int) (h : IsAll K N H vs ds) : IsAll K N H (cutV vs lo hi) (cutD ds lo hi) := by
  unfold cutV cutD
  rw [h.length]
  exact (h.drop _).take _
theorem sok_cut {z : Str} (h : sok z) (lo hi : Option Int) : sok (cutS z lo hi) := by
  refine ⟨?_, ?_⟩
  · have h1 : z.cps.all (fun c => decide (c < 0x110000)) = true := h.1
    rw [← Array.all_toList, List.all_eq_true] at h1
    show (cutS z lo hi).cps.all (fun c => decide (c < 0x110000)) = true
    rw [← Array.all_toList, List.all_eq_true]
    intro c hc
    unfold cutS at hc
    exact h1 c (List.mem_of_mem_drop (List.mem_of_mem_take (by simpa using hc)))
  · have := h.2
    unfold cutS Str.length at *
    simp only [List.size_toArray, List.length_take, List.length_drop, Array.length_toList]
    omega
theorem p_sl : SlR X (rSlD X.K) := by
  rintro pins s σ H x v vl vu lo hi sl Q I rx hs pl pu ⟨r, d, P, hr, i, ho, k⟩
  obtain ⟨ho⟩ := ho
  cases i <;> try exact ho.elim
  · rename_i hz
    exact sl_str pins s σ H _ v vl vu lo hi sl Q I rx hs pl pu ⟨_, rfl, Nat.le_trans hz.2 (by decide), k _ _ H ho (Ext.refl H) (.str (sok_cut hz lo hi))⟩
  · rename_i n h a
    exact sl_list pins s σ H _ v vl vu lo hi sl Q I rx hs pl pu ⟨_, _, rfl, SqL.of h, fun p hp => k _ _ _ ho (Ext.new hp) (new_lst hr hp (cut_all lo hi a))⟩
  · rename_i h a
    refine sl_tupA pins s σ H _ v vl vu lo hi sl Q I rx hs pl pu ⟨_, _, rfl, h, fun z => ?_, fun _ p hp => k _ _ _ ho (Ext.new hp) (new_tup hp (cut_all lo hi a))⟩
    have e : ∀ ds : List D, HT.sIx ds.length 0 lo = 0 ∧ HT.sIx ds.length ds.length hi = ds.length → cutD ds lo hi = ds := fun ds ⟨z1, z2⟩ => by
      unfold cutD
      rw [z1, z2]
      simp
    rw [a.length] at z
    have ho : P (.tup (cutD _ lo hi)) := ho
    rw [e _ z] at ho
    exact k _ _ H ho (Ext.refl H) (.tup h a)
theorem d_sl {lo hi : Option Expr} {tl th : AO} {p2 : Pos} (ha : PD X W a ta) (hl : PDO X W lo tl) (hh : PDO X W hi th) : PD X W (.Subscript a (.Slice lo hi none p2) pos) (aSl ta tl th) := imE (pe_slice p_sl ha hl hh) fun σ H Q q => by
  obtain ⟨XR, δ, r, P, ok, h, k⟩ := q
  refine td_bind ok h fun d r1 v H1 h1 o1 k1 i1 => ⟨_, δ, r1, _, o1, h1, fun l r2 H2 h2 o2 k2 => ⟨_, δ, r2, _, o2, h2, fun u r3 H3 h3 o3 k3 => ?_⟩⟩
  exact ⟨r3, d, fun d => P d r3, o3.r, k3 _ _ (k2 _ _ i1), h3, fun d v H' p e i => k d r3 v H' p (o3.ext e) (((k1.trans k2).trans k3).trans (Kp.ext e)) i⟩
abbrev OC := List D → (D → Prop) → Prop
def rC (K : PySem.W.Frag) (o : OC) : List V → Hp → VK → Prop := fun vs H Q => ∃ (r : Rs) (ds : List D) (P : D → Prop), Rok K r H ∧ IsAll K (mem r) H vs ds ∧ o ds P ∧ ∀ d v H', P d → Ext H H' → Is K (mem r) H' v d → Q v H'
def aBlt (o : OC) (l : AL) : AT := fun x δ r P => l x δ r fun ds r1 => o ds fun d => P d r1
variable {e : Expr} {es : List Expr} {x : Str} {p : Pos} {l : AL} {o : OC} {bid T : String}
theorem tcb {K : PySem.W.Frag} {W : WX} {o : OC} {l : AL} {σ : L2.St} {H : Hp} {Q : VK} (q : TD K W (aBlt o l) σ H Q) : tCB (rC K o) (TDL K W l) σ H Q := by
  obtain ⟨XR, δ, r, P, ok, h, k⟩ := q
  refine tdl_bind ok h fun ds r1 vs H1 h1 o1 k1 i1 => ⟨r1, ds, fun d => P d r1, o1.r, i1, h1, fun d v H' p e i => k d r1 v H' p (o1.ext e) (k1.trans (Kp.ext e)) i⟩
theorem d_blt (hc : CallR X (.builtin bid) (rC X.K o)) (hg : Gl X x) (hm : X.mg x = none) (ha : PDL X W (e :: es) l) (hv : bootBuiltins x = some (.builtin bid) := by decide +kernel) (hn : x ≠ "__name__" := by decide) (hdb : (x == ("__debug__" : Str)) = false := by decide)
    (he : starEach (e :: es) X.env = (false, eval e X.env) :: starEach es X.env := by rfl) (hpl : (backTo pos (starEach es X.env)).any (·.1) = false := by rfl) : PD X W (.Call (.Name x p) (e :: es) [] pos) (aBlt o l) :=
  imE (pe_callB hc hg hm hv ha hn hdb he hpl) fun _ _ _ q => tcb q
theorem d_ty (hc : CallR X (.type T) (rC X.K o)) (hg : Gl X x) (hm : X.mg x = none) (ha : PDL X W (e :: es) l) (hv : bootBuiltins x = some (.type T) := by decide +kernel) (hn : x ≠ "__name__" := by decide) (hdb : (x == ("__debug__" : Str)) = false := by decide)
    (he : starEach (e :: es) X.env = (false, eval e X.env) :: starEach es X.env := by rfl) (hpl : (backTo pos (starEach es X.env)).any (·.1) = false := by rfl) : PD X W (.Call (.Name x p) (e :: es) [] pos) (aBlt o l) :=
  imE (pe_callTy hc hg hm hv ha hn hdb he hpl) fun _ _ _ q => tcb q
def oLen : OC := fun ds k => match ds with
  | [.lst xs] => xs.length ≤ sizeLine → k (.int xs.length) | [.tup xs] => xs.length ≤ sizeLine → k (.int xs.length) | [.str z] => k (.int z.length) | _ => False
theorem c_len : CallR X (.builtin "len") (rC X.K oLen) := by
  rintro pins s σ H vs us Q I rv ⟨r, ds, P, hr, i, ho, k⟩
  cases i with
  | nil => exact ho.elim
  | cons i t =>
    cases t with
    | cons _ _ => cases i <;> exact ho.elim
    | nil =>
      cases i <;> try exact ho.elim
      · rename_i hz
        exact call_len pins s σ H _ us Q I rv ⟨_, _, rfl, ⟨Nat.le_trans hz.2 (by decide), rfl⟩, k _ _ H ho (Ext.refl H) (.int _)⟩
      · rename_i n h a
        obtain ⟨_, _, _, hz⟩ := I.list (SqL.of h)
        exact call_len pins s σ H _ us Q I rv ⟨_, _, rfl, .inl ⟨_, SqL.of h, rfl⟩, by rw [a.length] at hz ⊢; exact k _ _ H (ho hz) (Ext.refl H) (.int _)⟩
      · rename_i h a
        obtain ⟨_, _, _, hz⟩ := I.tuple h
        exact call_len pins s σ H _ us Q I rv ⟨_, _, rfl, .inr ⟨_, h, rfl⟩, by rw [a.length] at hz ⊢; exact k _ _ H (ho hz) (Ext.refl H) (.int _)⟩
def oTuple : OC := fun ds k => match ds with | [.lst xs] => k (.tup xs) | [.tup xs] => k (.tup xs) | _ => False
theorem c_tuple : CallR X (.type "tuple") (rC X.K oTuple) := by
  rintro pins s σ H vs us Q I rv ⟨r, ds, P, hr, i, ho, k⟩
  cases i with
  | nil => exact ho.elim
  | cons i t =>
    cases t with
    | cons _ _ => cases i <;> exact ho.elim
    | nil =>
      cases i <;> try exact ho.elim
      · rename_i n h a
        exact call_tuple_of pins s σ H _ us Q I rv ⟨_, _, rfl, .inl ⟨SqL.of h, fun p hp => k _ _ _ ho (Ext.new hp) (new_tup hp a)⟩⟩
      · rename_i h a
        exact call_tuple_of pins s σ H _ us Q I rv ⟨_, _, rfl, .inr ⟨h, k _ _ H ho (Ext.refl H) (.tup h a)⟩⟩
def tyD : D → String
  | .non => "NoneType" | .bl _ => "bool" | .int _ => "int" | .str _ => "str" | .lst _ => "list" | .tup _ => "tuple" | .dct _ _ => "dict" | _ => ""
def nad : D → Bool | .adr _ => false | .ins _ _ _ => false | _ => true
theorem tyX {K : PySem.W.Frag} {N : Addr → Prop} {H : Hp} {v : V} {d : D} (h : Is K N H v d) (n : nad d = true) : TyX K H v (.type (tyD d)) := by
  cases h with
  | non => exact .base .non
  | bl b => exact .base (.bl b)
  | int i => exact .base (.int i)
  | str _ => exact .base (.str _)
  | adr a => cases n
  | ins _ _ _ _ _ => cases n
  | dct n0 s e a => exact .base (.dK s)
  | lst _ h _ => exact .base (.lst h)
  | tup h _ =>
    rcases h with (h | ⟨o, h⟩) | ⟨o, its, k, h1, h2, _⟩
    · exact .base (.tup h)
    · exact .fTuple h
    · exact .kTuple h1 h2
inductive Ty5 : String → Prop | str : Ty5 "str" | int : Ty5 "int" | bool : Ty5 "bool" | list : Ty5 "list" | tuple : Ty5 "tuple"
def tyB (T n : String) : Bool := T == n || (T == "int" && n == "bool")
def isTy (T : String) (d : D) : Bool := tyB T (tyD d)
theorem kk6 : (ks6.all fun n => ks5.all fun T => decide (kitB n T = some (tyB T n))) = true := by decide +kernel
theorem kk {n T : String} (h : n ∈ ks6) (g : T ∈ ks5) : kitB n T = some (tyB T n) := by
  have q := List.all_eq_true.mp (List.all_eq_true.mp kk6 n h) T g
  exact of_decide_eq_true q
theorem kit5 {K : PySem.W.Frag} {T : String} (t : Ty5 T) (d : D) (n : nad d = true) : PySem.W.kitOne K (.type (tyD d)) (.type T) = some (isTy T d) := by
  refine kit_ty (kk ?_ ?_)
  · cases d <;> first | (cases n; done) | simp [tyD, ks6]
  · cases t <;> simp [ks5]
def noAdr : D → Bool | .adr _ => false | _ => true
theorem kit_own {K : PySem.W.Frag} {C : Addr} {T : String} (t : Ty5 T) (h : ∀ T ∈ ks5, PySem.W.subIn K (.ref C) (.type T) = some false) : PySem.W.kitOne K (.ref C) (.type T) = some false := by
  have hm : T ∈ ks5 := by cases t <;> simp [ks5]
  have km : PySem.W.kitMeta T = true := by cases t <;> decide +kernel
  unfold PySem.W.kitOne
  rw [if_neg (show ¬ ((Value.ref C == Value.type T) = true) by intro e; cases (beq_iff_eq.mp e))]
  show (if PySem.W.kitMeta T = true then PySem.W.subIn K (.ref C) (.type T) else none) = some false
  rw [if_pos km]
  exact h T hm
theorem tyX2 {K : PySem.W.Frag} {N : Addr → Prop} {H : Hp} {v : V} {d : D} (h : Is K N H v d) (n : noAdr d = true) : ∃ t, TyX K H v t ∧ ∀ T, Ty5 T → PySem.W.kitOne K t (.type T) = some (isTy T d) := by
  cases d with
  | adr a => cases n
  | ins C fs ds =>
    cases h with
    | ins n s e g a =>
      refine ⟨_, .base (.ins s g.cls g.p.kls g.p.get g.p.tak g.p.mro), fun T t => ?_⟩
      rw [kit_own t g.p.sub]
      cases t <;> rfl
  | non => exact ⟨_, tyX h rfl, fun T t => kit5 t _ rfl⟩
  | bl b => exact ⟨_, tyX h rfl, fun T t => kit5 t _ rfl⟩
  | int i => exact ⟨_, tyX h rfl, fun T t => kit5 t _ rfl⟩
  | str x => exact ⟨_, tyX h rfl, fun T t => kit5 t _ rfl⟩
  | lst ds => exact ⟨_, tyX h rfl, fun T t => kit5 t _ rfl⟩
  | tup ds => exact ⟨_, tyX h rfl, fun T t => kit5 t _ rfl⟩
  | dct ks ds => exact ⟨_, tyX h rfl, fun T t => kit5 t _ rfl⟩
/-- isinstance(x, T) -/
def aIsi (T : String) (t : AT) : AT := fun x δ r P => t x δ r fun d r1 => match d with | .adr _ => False | d => P (.bl (isTy T d)) r1
theorem d_isi {q : Pos} {y : Str} (ht : Ty5 T) (hg : Gl X "isinstance") (hm : X.mg "isinstance" = none) (ha : PD X W a ta) (gy : Gl X y) (my : X.mg y = none) (by_ : bootBuiltins y = some (.type T) := by decide +kernel) (hny : y ≠ "__name__" := by decide) (hdy : (y == ("__debug__" : Str)) = false := by decide)
    (he : starEach [a, .Name y q] X.env = (false, eval a X.env) :: starEach [.Name y q] X.env := by rfl) (hpl : (backTo pos (starEach [.Name y q] X.env)).any (·.1) = false := by rfl) (he2 : starEach [.Name y q] X.env = (false, eval (.Name y q) X.env) :: starEach [] X.env := by rfl) :
    PD X W (.Call (.Name "isinstance" p) [a, .Name y q] [] pos) (aIsi T ta) := imE (pe_callB call_isi hg hm (by decide +kernel) (pa_cons ha (pa_cons (pe_bltn (v := .ty T) gy my by_ rfl hny hdy) pa_nil he2) he) (by decide) (by decide) he hpl) fun σ H Q q => by
  obtain ⟨XR, δ, r, P, ok, h, k⟩ := q
  refine td_bind ok h fun d r1 v H1 h1 o1 k1 i1 => ?_
  have n : noAdr d = true := by cases d <;> first | exact h1.elim | rfl
  obtain ⟨t0, ty0, kt0⟩ := tyX2 i1 n
  have h2 : P (.bl (isTy T d)) r1 := by cases d <;> first | exact h1.elim | exact h1
  exact ⟨v, .ty T, _, _, _, rfl, .ty T, ty0, kt0 T ht, k _ r1 _ H1 h2 o1 k1 (.bl _)⟩
end
end G
namespace G
open PySem PySem.Spec L2
/-- what follows a statement -/
structure An where
  nx : Dl → Rs → Prop
  rt : D → Rs → Prop := fun _ _ => False
  bk : Dl → Rs → Prop := fun _ _ => False
  ct : Dl → Rs → Prop := fun _ _ => False
  xr : XT := fun _ _ _ _ _ => False
abbrev AS := An → Dl → Rs → Prop
structure Fin (K : PySem.W.Frag) (W : WX) (A : An) (r : Rs) (H : Hp) (D : Ends) : Prop where
  nx : ∀ δ' r' σ' H', A.nx δ' r' → Ok K W A.xr r' δ' σ' H' → Kp K r H r' H' → D.nx σ' H'
  rt : ∀ d r' v H', A.rt d r' → Rok K r' H' → Kp K r H r' H' → Is K (mem r') H' v d → D.rt v H'
  bk : ∀ δ' r' σ' H', A.bk δ' r' → Ok K W A.xr r' δ' σ' H' → Kp K r H r' H' → D.bk σ' H'
  ct : ∀ δ' r' σ' H', A.ct δ' r' → Ok K W A.xr r' δ' σ' H' → Kp K r H r' H' → D.ct σ' H'
theorem Fin.step {K : PySem.W.Frag} {W : WX} {A : An} {r r1 : Rs} {H H1 : Hp} {D : Ends} (f : Fin K W A r H D) (k : Kp K r H r1 H1) : Fin K W A r1 H1 D :=
  ⟨fun δ r' σ H' a o q => f.nx δ r' σ H' a o (k.trans q), fun d r' v H' a o q i => f.rt d r' v H' a o (k.trans q) i, fun δ r' σ H' a o q => f.bk δ r' σ H' a o (k.trans q), fun δ r' σ H' a o q => f.ct δ r' σ H' a o (k.trans q)⟩
def TSD (K : PySem.W.Frag) (W : WX) (t : AS) : TS := fun D σ H => ∃ δ r A, Ok K W A.xr r δ σ H ∧ t A δ r ∧ Fin K W A r H D
def PSD (X : Cx) (W : WX) (st : Stmt) (t : AS) : Prop := PS X st (TSD X.K W t)
def PBD (X : Cx) (W : WX) (st : List Stmt) (t : AS) : Prop := PSs X st (TSD X.K W t)
section
variable {K : PySem.W.Frag}
def sNext : AS := fun A δ r => A.nx δ r
def sSeq (t u : AS) : AS := fun A δ r => t { A with nx := fun δ' r' => u A δ' r' } δ r
def sRet (t : AT) : AS := fun A δ r => t A.xr δ r A.rt
def sIf (c : AB) (t u : AS) : AS := fun A δ r => c A.xr δ r fun b r1 => (b = true → t A δ r1) ∧ (b = false → u A δ r1)
def sAsg (i : Nat) (t : AT) : AS := fun A δ r => t A.xr δ r fun d r1 => A.nx (δ.set i (some d)) r1
end
section
variable {X : Cx} {W : WX} {st : Stmt} {rest : List Stmt} {t u : AS} {e c : Expr} {te : AT} {tc : AB} {pos : Pos}
theorem ss_nil : PBD X W [] sNext := imSs pss_nil fun D σ H ⟨δ, r, A, o, h, f⟩ => f.nx _ _ _ _ h o Kp.refl
theorem ss_one (h : PSD X W st t) : PBD X W [st] t := pss_one h
theorem ss_cons (h1 : PSD X W st t) (h2 : PBD X W rest u) : PBD X W (st :: rest) (sSeq t u) := imSs (pss_cons h1 h2) fun D σ H ⟨δ, r, A, o, h, f⟩ =>
  ⟨δ, r, { A with nx := fun δ' r' => u A δ' r' }, o, h, ⟨fun δ' r' σ' H' a o' k => ⟨δ', r', A, o', a, f.step k⟩, f.rt, f.bk, f.ct⟩⟩
theorem s_ret (he : PD X W e te) : PSD X W (.Return (some e) pos) (sRet te) := imS (ps_ret he) fun D σ H ⟨δ, r, A, o, h, f⟩ =>
  td_bind o h fun d r1 v H1 h1 o1 k1 i1 => f.rt _ _ _ _ h1 o1.r k1 i1
theorem s_if {a b : List Stmt} (hc : PDB X W c tc) (ha : PBD X W a t) (hb : PBD X W b u) : PSD X W (.If c a b pos) (sIf tc t u) := imS (ps_if hc ha hb) fun D σ H ⟨δ, r, A, o, h, f⟩ =>
  tdb_bind o h fun d r1 H1 h1 o1 k1 => by
    cases d with
    | true => exact ⟨δ, r1, A, o1, h1.1 rfl, f.step k1⟩
    | false => exact ⟨δ, r1, A, o1, h1.2 rfl, f.step k1⟩
theorem s_set {i : Nat} {x : Str} {pos' : Pos} (hN : X.N.Nodup) (he : PD X W e te) (hi : X.N[i]? = some x := by rfl) (hx : Loc X.env.scope x := by first | exact Or.inl rfl | exact Or.inr rfl) (hs : swapsWith e (some (.Name x pos')) pos.line X.env = pure false := by rfl)
    (hf : X.fn x = true ∨ X.env.scope.names.lookup x = some .local := by first | exact .inl rfl | exact .inr rfl | assumption) : PSD X W (.Assign [.Name x pos'] e pos) (sAsg i te) := imS (ps_set hN hi hx he hs hf) fun D σ H ⟨δ, r, A, o, h, f⟩ =>
  td_bind o h fun d r1 v H1 h1 o1 k1 i1 => f.nx _ _ _ _ h1 (o1.set i1) k1
end
/-- the turns of J yield the data ds, whatever else happens -/
def Walks (K : PySem.W.Frag) (J : It) (ds : List D) (r : Rs) (H : Hp) : Prop := ∀ i r1 H1, Kp K r H r1 H1 → Rok K r1 H1 →
  (i < ds.length → J.go i H1 ∧ ∀ x H2, J.yld i H1 x H2 → Ext H1 H2 ∧ ∃ d, ds[i]? = some d ∧ Is K (mem r1) H2 x d) ∧ (i = ds.length → J.stop i H1)
abbrev AI := XT → Dl → Rs → (List D → Rs → Prop) → Prop
def TDI (K : PySem.W.Frag) (W : WX) (t : AI) : TI := fun σ H R => ∃ XR δ r P, Ok K W XR r δ σ H ∧ t XR δ r P ∧ ∀ ds r' J H', P ds r' → Ok K W XR r' δ σ H' → Kp K r H r' H' → Walks K J ds r' H' → R J H'
def PDI (X : Cx) (W : WX) (tg iter : Expr) (t : AI) : Prop := PI X tg iter (TDI X.K W t)
theorem imI {X : Cx} {tg e : Expr} {t t' : TI} (h : PI X tg e t) (i : ∀ σ H Q, t' σ H Q → t σ H Q) : PI X tg e t' := ⟨fun pins s σ H Q I q => h.run pins s σ H Q I (i σ H Q q)⟩
section
variable {X : Cx} {W : WX} {tg e : Expr} {te : AT} {pos : Pos}
def iR1 (l : AL) : AI := fun x δ r P => l x δ r fun ds r1 => match ds with | [.int n] => (-(2 ^ 62) ≤ n ∧ n < 2 ^ 62) ∧ P ((List.range n.toNat).map fun i => .int (i : Nat)) r1 | _ => False
theorem walks_r {K : PySem.W.Frag} {r : Rs} {H : Hp} {lo : Int} {n : Nat} : Walks K (Itr lo n) ((List.range n).map fun i => .int (lo + (i : Nat))) r H := by
  intro i r1 H1 _ _
  refine ⟨fun hi => ⟨(show i < n by simpa using hi), ?_⟩, fun hi => ?_⟩
  · rintro x H2 ⟨rfl, rfl⟩
    have hi' : i < n := by simpa using hi
    refine ⟨Ext.refl _, .int (lo + i), ?_, .int _⟩
    rw [List.getElem?_map, List.getElem?_range hi']
    rfl
  · show n ≤ i
    rw [hi]
    simp
theorem i_r1 {p : Pos} {l : AL} (hg : Gl X "range") (hm : X.mg "range" = none) (ha : PDL X W [e] l) (hs : starEach [e] X.env = [(false, eval e X.env)] := by rfl) : PDI X W tg (.Call (.Name "range" p) [e] [] pos) (iR1 l) :=
  imI (pi_range1 hg hm ha hs) fun σ H Q ⟨XR, δ, r, P, o, q, k⟩ => tdl_bind o q fun ds r1 vs H1 h1 o1 k1 i1 => by
    match ds, h1, i1 with
    | [.int n], h1, .cons (.int _) .nil =>
      refine ⟨_, rfl, h1.1.1, h1.1.2, k _ _ _ _ h1.2 o1 k1 ?_⟩
      have w := walks_r (K := X.K) (r := r1) (H := H1) (lo := 0) (n := n.toNat)
      simp only [Int.zero_add] at w
      exact w
abbrev AG := D → Dl → (Dl → Prop) → Prop
def gN (i : Nat) : AG := fun d δ Q => Q (δ.set i (some d))
def Agree (js : List Nat) (σ σ' : L2.St) : Prop := σ'.length = σ.length ∧ ∀ k : Nat, k ∉ js → σ'[k]? = σ[k]?
theorem Agree.trans {js : List Nat} {σ σ1 σ2 : L2.St} (a : Agree js σ σ1) (b : Agree js σ1 σ2) : Agree js σ σ2 := ⟨b.1.trans a.1, fun k h => (b.2 k h).trans (a.2 k h)⟩
theorem Agree.set {js : List Nat} {σ : L2.St} {i : Nat} {x : Option V} (h : i ∈ js) : Agree js σ (σ.set i x) := ⟨List.length_set, fun k hk => List.getElem?_set_ne (fun (e : i = k) => hk (e ▸ h))⟩
def TDG (K : PySem.W.Frag) (js : List Nat) (g : AG) : TG := fun v σ H Q => ∃ (W : WX) (XR : XT) (δ : Dl) (r : Rs) (d : D) (P : Dl → Prop), Ok K W XR r δ σ H ∧ Is K (mem r) H v d ∧ g d δ P ∧ ∀ δ' σ', P δ' → Ok K W XR r δ' σ' H → Agree js σ σ' → Q σ' H
def PDG (X : Cx) (target : Expr) (js : List Nat) (g : AG) : Prop := PG X target (TDG X.K js g)
theorem imG {X : Cx} {e : Expr} {t t' : TG} (h : PG X e t) (i : ∀ v σ H Q, t' v σ H Q → t v σ H Q) : PG X e t' := ⟨fun pins s σ H v u Q I rv q => h.run pins s σ H v u Q I rv (i v σ H Q q)⟩
theorem g_name {i : Nat} {x : Str} (hN : X.N.Nodup) (hi : X.N[i]? = some x := by rfl) (hx : Loc X.env.scope x := by first | exact Or.inl rfl | exact Or.inr rfl) (hf : X.fn x = true ∨ X.env.scope.names.lookup x = some .local := by first | exact .inl rfl | exact .inr rfl | assumption) : PDG X (.Name x pos) [i] (gN i) :=
  imG (pg_name hN hi hx hf) fun v σ H Q ⟨_, _, δ, r, d, P, o, i, g, k⟩ => k _ _ g (o.set i) (Agree.set List.mem_cons_self)
def sForK (g : AG) (tb : AS) (A : An) (ds : List D) (δ : Dl) (r1 : Rs) : Prop := ∃ I : Nat → Dl → Rs → Prop, I 0 δ r1 ∧
  (∀ i d δ' r', ds[i]? = some d → I i δ' r' → g d δ' fun δ2 => tb { A with nx := I (i + 1), ct := I (i + 1), bk := A.nx } δ2 r') ∧ ∀ δ' r', I ds.length δ' r' → A.nx δ' r'
def sFor (ti : AI) (g : AG) (tb : AS) : AS := fun A δ r => ti A.xr δ r fun ds r1 => sForK g tb A ds δ r1
theorem s_for {body : List Stmt} {js : List Nat} {wi : AI} {g : AG} {tb : AS} (hi : PDI X W tg e wi) (hg : PDG X tg js g) (hb : PBD X W body tb) (hp : PassesOwn (model X.prog X.w) X.A X.env X.xe) (hc : X.calm = true := by rfl)
    (hs : ∀ x, foldedSetIterable e X.env x = pure x := by intro _; rfl) : PSD X W (.For tg e body [] pos) (sFor wi g tb) := imS (ps_for hp hc hi hg hb hs) fun D σ H ⟨δ, r, A, o, h, f⟩ =>
  ⟨A.xr, δ, r, _, o, h, fun ds r1 J H1 ⟨I, h0, hst, hd⟩ o1 k1 w => by
    refine ⟨fun i m σ' H' => m = ds.length - i ∧ i ≤ ds.length ∧ ∃ δ' r', I i δ' r' ∧ Ok X.K W A.xr r' δ' σ' H' ∧ Kp X.K r1 H1 r' H', ⟨ds.length, by simp, Nat.zero_le _, δ, r1, h0, o1, Kp.refl⟩, ?_⟩
    rintro i m σ' H' ⟨rfl, hi, δ', r', hI, o', k'⟩
    by_cases hlt : i < ds.length
    · obtain ⟨hgo, hy⟩ := (w i r' H' k' o'.r).1 hlt
      refine .inr ⟨hgo, fun σ2 H2 => ∃ δ2 r2, I (i + 1) δ2 r2 ∧ Ok X.K W A.xr r2 δ2 σ2 H2 ∧ Kp X.K r1 H1 r2 H2, fun σ2 H2 ⟨δ2, r2, q1, q2, q3⟩ => ⟨ds.length - (i + 1), by omega, rfl, hlt, δ2, r2, q1, q2, q3⟩, fun x H2 y => ?_⟩
      obtain ⟨ex, d, hd', ix⟩ := hy x H2 y
      refine ⟨W, A.xr, δ', r', d, _, o'.ext ex, ix, hst i d δ' r' hd' hI, fun δ2 σ2 q o2 _ => ⟨δ2, r', { A with nx := I (i + 1), ct := I (i + 1), bk := A.nx }, o2, q, ?_⟩⟩
      have kk := k'.trans (Kp.ext ex)
      have fk := f.step (k1.trans kk)
      exact ⟨fun δ3 r3 σ3 H3 a o3 k3 => ⟨δ3, r3, a, o3, kk.trans k3⟩, fk.rt, fun δ3 r3 σ3 H3 a o3 k3 => fk.nx δ3 r3 σ3 H3 a o3 k3, fun δ3 r3 σ3 H3 a o3 k3 => ⟨δ3, r3, a, o3, kk.trans k3⟩⟩
    · have e : i = ds.length := by omega
      exact .inl ⟨(w i r' H' k' o'.r).2 e, f.nx _ _ _ _ (hd δ' r' (e ▸ hI)) o' (k1.trans k')⟩⟩
end
end G
namespace G
open PySem PySem.Spec L2
def wipeD (δ : Dl) : List Nat → Dl
  | [] => δ
  | v :: vs => (wipeD δ vs).set v none
theorem Ok.wipe {K : PySem.W.Frag} {W : WX} {XR : XT} {r : Rs} {δ : Dl} {σ : L2.St} {H : Hp} (o : Ok K W XR r δ σ H) : ∀ vs : List Nat, Ok K W XR r (wipeD δ vs) (wipe σ vs) H
  | [] => o
  | v :: vs => (Ok.wipe o vs).drop
theorem wipe_get (σ : L2.St) : ∀ (vs : List Nat) (k : Nat), (wipe σ vs)[k]? = if k ∈ vs ∧ k < σ.length then some none else σ[k]?
  | [], k => by simp [wipe]
  | v :: vs, k => by
    unfold wipe
    rw [List.getElem?_set]
    by_cases e : v = k
    · subst e
      rw [if_pos rfl, wipe_length]
      by_cases h : v < σ.length
      · rw [if_pos h, if_pos ⟨List.mem_cons_self, h⟩]
      · rw [if_neg h, if_neg (fun z => h z.2), List.getElem?_eq_none (by omega)]
    · rw [if_neg e, wipe_get σ vs k]
      have : (k ∈ v :: vs) ↔ k ∈ vs := ⟨fun z => (List.mem_cons.mp z).elim (fun q => absurd q.symm e) id, List.mem_cons_of_mem _⟩
      simp only [this]
theorem wipe_agree {σ σ' : L2.St} {js vs : List Nat} (a : Agree js (wipe σ vs) σ') (h : ∀ j ∈ js, j ∈ vs) : wipe σ' vs = wipe σ vs := by
  apply List.ext_getElem?
  intro k
  rw [wipe_get, wipe_get]
  have hl : σ'.length = σ.length := by rw [a.1, wipe_length]
  rw [hl]
  by_cases c : k ∈ vs ∧ k < σ.length
  · rw [if_pos c, if_pos c]
  · rw [if_neg c, if_neg c]
    by_cases hk : k ∈ vs
    · have h1 : σ.length ≤ k := Nat.le_of_not_lt fun z => c ⟨hk, z⟩
      rw [List.getElem?_eq_none (by omega), List.getElem?_eq_none h1]
    · rw [a.2 k (fun z => hk (h k z)), wipe_get, if_neg c]
section
variable {K : PySem.W.Frag}
theorem rok_plus {r : Rs} {H : Hp} {p : Addr} (h : Rok K r H) (hp : H p = none) : Rok K (r ++ [lstA p []]) (upd H p (.lst [])) ∧ Kp K r H (r ++ [lstA p []]) (upd H p (.lst [])) := by
  have e : ∀ a, mem (r ++ [lstA p []]) a → mem r a ∨ a = p := fun a z => (mem_append.mp z).elim .inl fun z => z.elim .inr False.elim
  refine ⟨hold_append.mpr ⟨hold_anti e (hold_ext (Ext.new hp) (hold_grow hp h)), ⟨⟨[], upd_same, .nil⟩, fun _ _ z => z, True.intro⟩, fun a m z => ?_⟩, fun v d i => is_anti e (is_ext (Ext.new hp) _ _ (is_grow hp i))⟩
  have : a = p := z.elim (fun z => z) False.elim
  subst this
  exact not_al h hp m
theorem is_otherO {N : Addr → Prop} {H : Hp} {q : Addr} {u u' : HO} (hN : N q) (hD : H q = some u) (nt : ∀ xs, u ≠ .tup xs ∧ ∀ o : Obj, u ≠ .frz o (.tup xs)) {v : V} {d : D} (h : Is K N H v d) : Is K N (upd H q u') v d := by
  refine Is.go (fun a o _ n s => ⟨n, by rw [upd_ne (fun (e : a = q) => n (e ▸ hN))]; exact s⟩) (fun a xs s => ?_) d v h
  rcases s with (s | ⟨o, s⟩) | s
  · exact .inl (.inl (by rw [upd_ne (fun e => by subst e; rw [hD] at s; exact (nt xs).1 (Option.some.inj s))]; exact s))
  · exact .inl (.inr ⟨o, by rw [upd_ne (fun e => by subst e; rw [hD] at s; exact (nt xs).2 o (Option.some.inj s))]; exact s⟩)
  · exact .inr s
theorem is_other {N : Addr → Prop} {H : Hp} {q : Addr} {ys : List V} (hN : N q) {xs : List V} (hD : H q = some (.lst xs)) {v : V} {d : D} (h : Is K N H v d) : Is K N (upd H q (.lst ys)) v d := is_otherO hN hD (fun _ => ⟨(fun e => by cases e), (fun _ e => by cases e)⟩) h
theorem rok_more {r : Rs} {H : Hp} {p : Addr} {acc : List D} {v : V} {d : D} (h : Rok K (r ++ [lstA p acc]) H) (i : Is K (mem (r ++ [lstA p acc])) H v d) : ∃ vs, H p = some (.lst vs) ∧ vs.length = acc.length ∧
    Rok K (r ++ [lstA p (acc ++ [d])]) (upd H p (.lst (vs ++ [v]))) ∧ ∀ w e, Is K (mem (r ++ [lstA p acc])) H w e → Is K (mem (r ++ [lstA p (acc ++ [d])])) (upd H p (.lst (vs ++ [v]))) w e := by
  obtain ⟨h1, ⟨⟨vs, h2, h3⟩, _, _⟩, h5⟩ := hold_append.mp h
  have me : mem (r ++ [lstA p acc]) = mem (r ++ [lstA p (acc ++ [d])]) := by
    funext a
    exact propext ((mem_append).trans (mem_append (r := r) (r' := [lstA p (acc ++ [d])])).symm)
  have hN : mem (r ++ [lstA p acc]) p := mem_append.mpr (.inr (.inl rfl))
  have go : ∀ w e, Is K (mem (r ++ [lstA p acc])) H w e → Is K (mem (r ++ [lstA p acc])) (upd H p (.lst (vs ++ [v]))) w e := fun w e q => is_other hN h2 q
  refine ⟨vs, h2, h3.length, ?_, fun w e q => me ▸ go w e q⟩
  refine hold_append.mpr ⟨?_, ⟨⟨vs ++ [v], upd_same, ?_⟩, fun _ _ z => z, True.intro⟩, h5⟩
  · rw [← me]
    refine hold_loc (fun b o m q => ?_) go h1
    rw [upd_ne (fun e => h5 b m (.inl e))]
    exact q
  · rw [← me]
    exact (all_of go h3).append (.cons (go _ _ i) .nil)
theorem le_rok {r r' : Rs} (l : le r r') {H : Hp} (h : Rok K r H) : Rok K r' H := l.r _ H h
/-- our own list is a list like others -/
theorem rok_done {r : Rs} {H : Hp} {p : Addr} {acc : List D} (h : Rok K (r ++ [lstA p acc]) H) : Rok K r H ∧ Is K (mem r) H (.ref p) (.lst acc) ∧ Kp K (r ++ [lstA p acc]) H r H := by
  obtain ⟨h1, ⟨⟨vs, h2, h3⟩, _, _⟩, h5⟩ := hold_append.mp h
  have an : ∀ a, mem r a → mem (r ++ [lstA p acc]) a := fun a z => mem_append.mpr (.inl z)
  exact ⟨hold_anti an h1, .lst (fun z => h5 p z (.inl rfl)) h2 (all_of (fun _ _ => is_anti an) h3), fun _ _ => is_anti an⟩
def bYes : AB := fun x _ r P => P true r
structure aLcK (x : XT) (g : AG) (tt : AB) (te : AT) (δw : Dl) (ds : List D) (r1 : Rs) (P : PK1) : Prop where
  ex : ∃ I : Nat → List D → Rs → Prop, I 0 [] r1 ∧
  (∀ (p : Addr) i d acc r', ds[i]? = some d → I i acc r' → g d δw fun δ2 => tt x δ2 (r' ++ [lstA p acc]) fun b r2 =>
    (b = true → te x δ2 r2 fun y r3 => small (acc.length + 1) ∧ ∃ r4, le r3 (r4 ++ [lstA p acc]) ∧ I (i + 1) (acc ++ [y]) r4) ∧ (b = false → ∃ r4, le r2 (r4 ++ [lstA p acc]) ∧ I (i + 1) acc r4)) ∧
  ∀ acc r', I ds.length acc r' → P (.lst acc) r'
def aLc (ti : AI) (g : AG) (tt : AB) (te : AT) (vs : List Nat) : AT := fun x δ r P => ti x δ r fun ds r1 => aLcK x g tt te (wipeD δ vs) ds r1 P
theorem td_lc {W : WX} {ti : AI} {g : AG} {tt : AB} {te : AT} {vs js : List Nat} (hj : ∀ j ∈ js, j ∈ vs) {σ : L2.St} {H : Hp} {Q : VK} (q : TD K W (aLc ti g tt te vs) σ H Q) : tLc (TDI K W ti) (TDG K js g) (TDB K W tt) (TD K W te) vs σ H Q := by
  obtain ⟨XR, δ, r, P, o, h, k⟩ := q
  refine ⟨XR, δ, r, _, o, h, fun ds r1 J H1 ⟨⟨I, h0, hst, hd⟩⟩ o1 k1 w p hp => ?_⟩
  obtain ⟨s1, s2⟩ := rok_plus o1.r hp
  refine ⟨fun i m H' => m = ds.length - i ∧ i ≤ ds.length ∧ ∃ acc r', I i acc r' ∧ Rok K (r' ++ [lstA p acc]) H' ∧ Kp K r1 H1 (r' ++ [lstA p acc]) H', ⟨ds.length, by simp, Nat.zero_le _, [], r1, h0, s1, s2⟩, ?_⟩
  rintro i m H' ⟨rfl, hi, acc, r', hI, ro, kp⟩
  by_cases hlt : i < ds.length
  · obtain ⟨hgo, hy⟩ := (w i _ H' kp ro).1 hlt
    refine .inr ⟨hgo, fun H2 => ∃ acc r2, I (i + 1) acc r2 ∧ Rok K (r2 ++ [lstA p acc]) H2 ∧ Kp K r1 H1 (r2 ++ [lstA p acc]) H2, fun H2 ⟨acc, r2, q1, q2, q3⟩ => ⟨ds.length - (i + 1), by omega, rfl, hlt, acc, r2, q1, q2, q3⟩, fun x H2 y => ?_⟩
    obtain ⟨ex, d, hd', ix⟩ := hy x H2 y
    have k2 := kp.trans (Kp.ext ex)
    have o2 : Ok K W XR (r' ++ [lstA p acc]) (wipeD δ vs) (wipe σ vs) H2 := (o1.step k2 (ro.ext ex)).wipe vs
    refine ⟨W, XR, wipeD δ vs, _, d, _, o2, ix, hst p i d acc r' hd' hI, fun δ2 σ2 q o3 ag => ⟨wipe_agree ag hj, XR, δ2, _, _, o3, q, fun b r3 H3 q3 o4 k4 => ?_⟩⟩
    cases b with
    | true =>
      show TD K W te σ2 H3 _
      refine td_bind o4 (q3.1 rfl) fun y r5 v H5 ⟨sz, r6, l6, h5⟩ o5 k5 i5 => ?_
      obtain ⟨ws, e1, e2, e3, e4⟩ := rok_more (le_rok l6 o5.r) (is_anti l6.m i5)
      refine ⟨ws, e1, by rw [e2]; exact Nat.lt_of_lt_of_le (Nat.lt_succ_self _) sz.sz, acc ++ [y], r6, h5, e3, fun v' d' z => e4 _ _ (is_anti l6.m (k5 _ _ (k4 _ _ (k2 _ _ z))))⟩
    | false =>
      show ∃ acc r2, _
      obtain ⟨r6, l6, h5⟩ := q3.2 rfl
      exact ⟨acc, r6, h5, le_rok l6 o4.r, fun v' d' z => is_anti l6.m (k4 _ _ (k2 _ _ z))⟩
  · have e : i = ds.length := by omega
    obtain ⟨d1, d2, d3⟩ := rok_done ro
    exact .inl ⟨(w i _ H' kp ro).2 e, k _ r' _ H' (hd acc r' (e ▸ hI)) (o1.step (kp.trans d3) d1) ((k1.trans kp).trans d3) d2⟩
end
section
variable {X : Cx} {W : WX}
theorem pts_no : PTs X [] (TDB X.K W bYes) := ⟨fun pins s σ H Q I ⟨XR, δ, r, P, o, h, k⟩ => pts_nil.run pins s σ H Q I (k true r H h o Kp.refl)⟩
theorem d_lc {elt tg iter : Expr} {ifs : List Expr} {scope : Scope} {own : List (Str × Nat)} {pos : Pos} {js : List Nat} {wi : AI} {g : AG} {tt : AB} {te : AT} (hN : X.N.Nodup) (hi : PDI X W tg iter wi) (ok : BlkOk X.N X.env.scope scope own)
    (hg : ∀ (s : Shared) (H : Hp) (C : Addr) (cl : List (Str × Addr)) (fp : List Addr), PDG (X.blk s H scope (compEnvC scope cl C X.env) fp) tg js g) (ht : ∀ (s : Shared) (H : Hp) (C : Addr) (cl : List (Str × Addr)) (fp : List Addr), PTs (X.blk s H scope (compEnvC scope cl C X.env) fp) ifs (TDB X.K W tt))
    (he : ∀ (s : Shared) (H : Hp) (C : Addr) (cl : List (Str × Addr)) (fp : List Addr), PD (X.blk s H scope (compEnvC scope cl C X.env) fp) W elt te) (hj : ∀ j ∈ js, j ∈ own.map (·.2) := by decide) (hc : X.calm = true := by rfl) (hs : ∀ x, foldedSetIterable iter X.env x = pure x := by intro _; rfl) :
    PD X W (.ListComp elt [⟨tg, iter, ifs, 0⟩] scope pos) (aLc wi g tt te (own.map (·.2))) :=
  imE (pe_lc (g := TDG X.K js g) (tt := TDB X.K W tt) (te := TD X.K W te) hc hN hi ok hg ht he hs) fun _ _ _ q => td_lc hj q
theorem s_setLc {i : Nat} {y : Str} {py : Pos} {elt tg iter : Expr} {ifs : List Expr} {scope : Scope} {own : List (Str × Nat)} {pos spos : Pos} {js : List Nat} {wi : AI} {g : AG} {tt : AB} {te : AT} (hN : X.N.Nodup) (hi : PDI X W tg iter wi) (ok : BlkOk X.N X.env.scope scope own)
    (hg : ∀ (s : Shared) (H : Hp) (C : Addr) (cl : List (Str × Addr)) (fp : List Addr), PDG (X.blk s H scope (compEnvC scope cl C X.env) fp) tg js g) (ht : ∀ (s : Shared) (H : Hp) (C : Addr) (cl : List (Str × Addr)) (fp : List Addr), PTs (X.blk s H scope (compEnvC scope cl C X.env) fp) ifs (TDB X.K W tt))
    (he : ∀ (s : Shared) (H : Hp) (C : Addr) (cl : List (Str × Addr)) (fp : List Addr), PD (X.blk s H scope (compEnvC scope cl C X.env) fp) W elt te) (hsw : swapsWith (.ListComp elt [⟨tg, iter, ifs, 0⟩] scope pos) (some (.Name y py)) spos.line X.env = pure true) (hj : ∀ j ∈ js, j ∈ own.map (·.2) := by decide)
    (hc : X.calm = true := by rfl) (hy : X.N[i]? = some y := by rfl) (hyl : X.env.scope.names.lookup y = some .local := by rfl) (hs : ∀ x, foldedSetIterable iter X.env x = pure x := by intro _; rfl) :
    PSD X W (.Assign [.Name y py] (.ListComp elt [⟨tg, iter, ifs, 0⟩] scope pos) spos) (sAsg i (aLc wi g tt te (own.map (·.2)))) :=
  imS (ps_setLc (g := TDG X.K js g) (tt := TDB X.K W tt) (te := TD X.K W te) hc hN hy hyl hsw hi ok hg ht he hs) fun D σ H ⟨δ, r, A, o, h, f⟩ => td_lc hj (td_bind o h fun d r1 v H1 h1 o1 k1 i1 => f.nx _ _ _ _ h1 (o1.set i1) k1)
end
section
variable {K : PySem.W.Frag} {x : XT} {g : AG} {te : AT} {tt : AB} {δw : Dl} {ds : List D} {r1 : Rs} {P : PK1}
theorem lc_map (f : D → D) (hz : small ds.length) (he : ∀ d ∈ ds, ∀ (r' : Rs) (P' : PK1), P' (f d) r' → g d δw fun δ2 => te x δ2 r' P') (hP : P (.lst (ds.map f)) r1) : aLcK x g bYes te δw ds r1 P := by
  refine ⟨fun i acc r' => acc = (ds.take i).map f ∧ r' = r1, ⟨rfl, rfl⟩, ?_, ?_⟩
  · rintro p i d acc r' hd ⟨rfl, rfl⟩
    have hi := (List.getElem?_eq_some_iff.mp hd).1
    refine Eq.mp ?_ (he d (List.mem_of_getElem? hd) (r' ++ [lstA p ((ds.take i).map f)]) (fun y r3 => small (((ds.take i).map f).length + 1) ∧ ∃ r4, le r3 (r4 ++ [lstA p ((ds.take i).map f)]) ∧ ((ds.take i).map f ++ [y] = (ds.take (i + 1)).map f ∧ r4 = r')) ?_)
    · congr 1
      funext δ2
      unfold bYes
      simp
    · refine ⟨?_, r', le.refl, ?_, rfl⟩
      · rw [List.length_map, List.length_take]
        have : small ds.length := hz
        unfold small at *
        omega
      · rw [List.take_add_one, hd, List.map_append]
        rfl
  · rintro acc r' ⟨rfl, rfl⟩
    rw [List.take_length]
    exact hP
end
end G
namespace G
open PySem PySem.Spec L2
open PyProof.Rows (envOfC)
abbrev XD := Addr → List Str → List D → Rs → Prop
abbrev SpX := List D → Rs → PK1 → XD → Prop
/-- a promise over data as a promise of the hand layer -/
def lift (K : PySem.W.Frag) (sd : SpX) : Sp := fun vs H Q E => ∃ (r : Rs) (ds : List D) (P : PK1) (XR : XD), Rok K r H ∧ IsAll K (mem r) H vs ds ∧ sd ds r P XR ∧
  (∀ d r' v H', P d r' → Rok K r' H' → Kp K r H r' H' → Is K (mem r') H' v d → Q v H') ∧
  (∀ C fs es r' a H', XR C fs es r' → Rok K r' H' → Kp K r H r' H' → ExAt K r' H' a fs es → E (.ref C) a H')
def noX : XD := fun _ _ _ _ => False
/-- the def at f keeps the promise sd -/
abbrev FO (P : Program) (w : World) (K : PySem.W.Frag) (mg : Str → Option Value) (base : Heap) (k : Nat) (f : Addr) (fd : FuncData) (ps : List Str) (sd : SpX) : Prop := FnOk P w K mg base (L2.CX P w) k f fd ps (lift K sd)
abbrev FR (P : Program) (w : World) (K : PySem.W.Frag) (mg : Str → Option Value) (base : Heap) (k : Nat) (f : Addr) (sd : SpX) : Prop := FnR P w K mg base (L2.CX P w) k f (lift K sd)
theorem lift_imp {K : PySem.W.Frag} {sd sd' : SpX} (h : ∀ ds r P XR, sd' ds r P XR → sd ds r P XR) : ∀ vs H Q E, lift K sd' vs H Q E → lift K sd vs H Q E := fun vs H Q E ⟨r, ds, P, XR, h1, h2, h3, h4⟩ => ⟨r, ds, P, XR, h1, h2, h _ _ _ _ h3, h4⟩
theorem fr_of {P : Program} {w : World} {K : PySem.W.Frag} {mg : Str → Option Value} {base : Heap} {k : Nat} {f : Addr} {fd : FuncData} {ps : List Str} {sd : SpX} (F : FO P w K mg base k f fd ps sd) (hb : Binds K fd ps []) : FR P w K mg base k f sd := by
  have q := F.raw hb .nil
  exact q.imp fun vs H Q E h => by rw [List.append_nil]; exact h
section
variable {X : Cx} {W : WX} {k : Nat} {f : Addr} {sd : SpX} {pins : List (Addr × Obj)} {σ : L2.St} {H : Hp} {s : Shared} {us : List Value} {vs : List V}
theorem run_at {sp : Sp} {E : XK} {Q : VK} (F : FnR X.prog X.w X.K X.mg X.base (L2.CX X.prog X.w) k f sp) (hr : Room k X.A) (hx : PassesAt (L2.CX X.prog X.w) X σ E) (I : L2.Inv X pins σ H s) (r : Vals vs us) (h : sp vs H Q E) :
    codeAny (model X.prog X.w) X.A (.call (.ref f) ⟨us, []⟩) (fun r s' => match r with | .ok (.ret v) => EP X pins σ Q v s' | .ok _ => False | .error e => X.xe e s') s := by
  refine codeAny_mono (F X.A X.stack s H us vs Q E hr I.env0 r h) fun r s' hq => ?_
  cases r with
  | error e => exact hx pins H s e s' I hq
  | ok fl =>
    cases fl with
    | ret u => exact I.after hq
    | next => exact False.elim hq
    | brk => exact False.elim hq
    | cont => exact False.elim hq
/-- nothing is let out -/
theorem passN {E : XK} (h : ∀ c d H, ¬ E c d H) : PassesAt (L2.CX X.prog X.w) X σ E := fun _ _ _ _ _ _ hh => by
  obtain ⟨_, _, _, _, _, _, _, _, _, _, _, _, z⟩ := hh
  exact (h _ _ _ z).elim
theorem lift_at {XR : XT} {r : Rs} {δ : Dl} {P : PK1} {ds : List D} {Q : VK} (o : Ok X.K W XR r δ σ H) (i : IsAll X.K (mem r) H vs ds) (h : sd ds r P fun C fs es r' => XR C fs es δ r')
    (k : ∀ d r' v H', P d r' → Ok X.K W XR r' δ σ H' → Kp X.K r H r' H' → Is X.K (mem r') H' v d → Q v H') : lift X.K sd vs H Q (WE W σ) :=
  ⟨r, ds, P, _, o.r, i, h, fun d r' v H' a b c i => k d r' v H' a (o.step c b) c i, fun C fs es r' a H' x ro kk e => o.x C fs es δ r' σ a H' x (o.b.step kk ro) kk e⟩
theorem lift_n {XR : XT} {r : Rs} {δ : Dl} {P : PK1} {ds : List D} {Q : VK} (o : Ok X.K W XR r δ σ H) (i : IsAll X.K (mem r) H vs ds) (h : sd ds r P noX)
    (k : ∀ d r' v H', P d r' → Ok X.K W XR r' δ σ H' → Kp X.K r H r' H' → Is X.K (mem r') H' v d → Q v H') : lift X.K sd vs H Q E0 :=
  ⟨r, ds, P, _, o.r, i, h, fun d r' v H' a b c i => k d r' v H' a (o.step c b) c i, fun _ _ _ _ _ _ x => x.elim⟩
theorem passE : PassesAt (L2.CX X.prog X.w) X σ E0 := passN fun _ _ _ z => z
end
/-- a call's reading: what is raised goes on; nothing is raised -/
def aCall (sd : SpX) (l : AL) : AT := fun x δ r P => l x δ r fun ds r1 => sd ds r1 P fun C fs es r' => x C fs es δ r'
def aCallN (sd : SpX) (l : AL) : AT := fun x δ r P => l x δ r fun ds r1 => sd ds r1 P noX
section
variable {X : Cx} {W : WX} {k : Nat} {f : Addr} {sd : SpX} {x : Str} {p pos : Pos} {e : Expr} {es : List Expr} {l : AL}
theorem call_P {sp : Sp} {E : XK} {Q : VK} {pins : List (Addr × Obj)} {σ : L2.St} {H : Hp} {s : Shared} {us : List Value} {vs : List V} (F : FnR X.prog X.w X.K X.mg X.base (L2.CX X.prog X.w) k f sp) (hr : Room k X.A) (hx : PassesAt (L2.CX X.prog X.w) X σ E) (I : L2.Inv X pins σ H s) (r : Vals vs us) (h : sp vs H Q E) :
    wpAny (model X.prog X.w) X.A (call (.ref f) us) (EP X pins σ Q) X.xe s := wpAny_call (run_at F hr hx I r h)
/-- x(e, ..) -/
theorem call_any (F : FR X.prog X.w X.K X.mg X.base k f sd) (hr : Room k X.A) (hk : PySem.W.keepIn X.K (.ref f) = true) (hm : X.mg x = some (.ref f)) (tr : AT) (ha : PDL X W (e :: es) l)
    (im : ∀ {pins : List (Addr × Obj)} {σ : L2.St} {H : Hp} {s : Shared} {Q : VK}, TD X.K W tr σ H Q → L2.Inv X pins σ H s → TDL X.K W l σ H fun vs H1 => ∃ E : XK, PassesAt (L2.CX X.prog X.w) X σ E ∧ lift X.K sd vs H1 Q E)
    (hg : Gl X x) (hdb : (x == ("__debug__" : Str)) = false) (he : starEach (e :: es) X.env = (false, eval e X.env) :: starEach es X.env) (hpl : (backTo pos (starEach es X.env)).any (·.1) = false) : PD X W (.Call (.Name x p) (e :: es) [] pos) tr := by
  refine ⟨fun pins s σ H Q I h => ?_⟩
  refine wpAny_Call_Name_kw (ld_glob I hg hm ?_ hdb)
  refine PySem.W.callWith_K (h₀ := X.base) I.ok.mod.kin hk (thn (ha.run pos pins s σ H _ I (im h I)) fun us s1 ⟨vs, H1, I1, r, E, hx, q⟩ => ⟨I1.kIn, ?_⟩) he hpl
  exact call_P F hr hx I1 r q
theorem d_call (F : FR X.prog X.w X.K X.mg X.base k f sd) (tk : Takes X W) (hr : Room k X.A) (hm : X.mg x = some (.ref f)) (hk : PySem.W.keepIn X.K (.ref f) = true)
    (ha : PDL X W (e :: es) l) (hg : Gl X x := by rfl) (hdb : (x == ("__debug__" : Str)) = false := by decide) (he : starEach (e :: es) X.env = (false, eval e X.env) :: starEach es X.env := by rfl) (hpl : (backTo pos (starEach es X.env)).any (·.1) = false := by rfl) :
    PD X W (.Call (.Name x p) (e :: es) [] pos) (aCall sd l) := call_any F hr hk hm _ ha (fun q I => by
  obtain ⟨XR, δ, r, P, ok, h, kk⟩ := q
  exact tdl_bind ok h fun ds r1 vs H1 h1 o1 k1 i1 => ⟨_, passAt tk _, lift_at o1 i1 h1 fun d r' v H' a b c i => kk d r' v H' a b (k1.trans c) i⟩) hg hdb he hpl
theorem d_callN (F : FR X.prog X.w X.K X.mg X.base k f sd) (hr : Room k X.A) (hm : X.mg x = some (.ref f)) (hk : PySem.W.keepIn X.K (.ref f) = true)
    (ha : PDL X W (e :: es) l) (hg : Gl X x := by rfl) (hdb : (x == ("__debug__" : Str)) = false := by decide) (he : starEach (e :: es) X.env = (false, eval e X.env) :: starEach es X.env := by rfl) (hpl : (backTo pos (starEach es X.env)).any (·.1) = false := by rfl) :
    PD X W (.Call (.Name x p) (e :: es) [] pos) (aCallN sd l) := call_any F hr hk hm _ ha (fun q I => by
  obtain ⟨XR, δ, r, P, ok, h, kk⟩ := q
  exact tdl_bind ok h fun ds r1 vs H1 h1 o1 k1 i1 => ⟨_, passE, lift_n o1 i1 h1 fun d r' v H' a b c i => kk d r' v H' a b (k1.trans c) i⟩) hg hdb he hpl
end
def startD (N : List Str) (ds : List D) : Dl := ds.map some ++ List.replicate (N.length - ds.length) none
/-- a promise that any heap is told by, kept -/
def fit (P : PK1) : PK1 := fun d r' => ∃ r0, le r' r0 ∧ P d r0
theorem fit.of {P : PK1} {d : D} {r : Rs} (h : P d r) : fit P d r := ⟨r, le.refl, h⟩
def fitX (XR : XD) : XT := fun C fs es _ r' => ∃ r0, le r' r0 ∧ XR C fs es r0
theorem fitX.of {XR : XD} {C : Addr} {fs : List Str} {es : List D} {δ : Dl} {r : Rs} (h : XR C fs es r) : fitX XR C fs es δ r := ⟨r, le.refl, h⟩
theorem ExAt.anti {K : PySem.W.Frag} {r r' : Rs} {H : Hp} {a : Option Addr} {fs : List Str} {ds : List D} (h : ∀ a, mem r' a → mem r a) (e : ExAt K r H a fs ds) : ExAt K r' H a fs ds := by
  cases a with
  | none => exact e
  | some a =>
    obtain ⟨h0, kvs, h1, h2, h3⟩ := e
    exact ⟨fun z => h0 (h _ z), kvs, h1, h2, all_of (fun _ _ => is_anti h) h3⟩
abbrev WK (E : XK) : WX := fun cls d _ H => E cls d H
abbrev W0 : WX := fun _ _ _ _ => False
section
variable {P : Program} {w : World} {K : PySem.W.Frag} {mg : Str → Option Value} {base : Heap}
theorem start_ok {W : WX} {XR : XT} {N : List Str} {vs : List V} {ds : List D} {r : Rs} {H : Hp} (ro : Rok K r H) (hi : IsAll K (mem r) H vs ds) (x : Xc K W XR r H) : Ok K W XR r (startD N ds) (L2.start N vs) H := by
  refine ⟨⟨fun i d e => ?_, ro, ?_⟩, x⟩
  · unfold startD at e
    unfold L2.start
    rcases Nat.lt_or_ge i ds.length with hlt | hge
    · rw [List.getElem?_append_left (by simpa using hlt), List.getElem?_map] at e
      cases q : ds[i]? with
      | none => rw [q] at e; cases e
      | some d0 =>
        rw [q] at e
        cases e
        obtain ⟨v, h1, h2⟩ := hi.getD q
        exact ⟨v, by rw [List.getElem?_append_left (by rw [List.length_map, hi.length]; exact hlt), List.getElem?_map, h1] <;> rfl, h2⟩
    · rw [List.getElem?_append_right (by simpa using hge), List.getElem?_replicate] at e
      split at e <;> cases e
  · unfold startD L2.start
    rw [List.length_append, List.length_append, List.length_map, List.length_map, List.length_replicate, List.length_replicate, hi.length]
/-- THE RULE for a def -/
theorem fn_d {x qual : Str} {st : Stmt} {f : Addr} {fd : FuncData} {N ps : List Str} {k : Nat} {sd : SpX} (F : Fun K x qual st f fd) (S : FnScope N ps (defScope st)) (len : ∀ ds r P' XR, sd ds r P' XR → ds.length = ps.length)
    (hbody : ∀ (cdv : Value) (A : Around) (outer : List Env) (s : Shared) (H : Hp) (E : XK), Room k (A.deeper (envOfC qual (defScope st) s.heap.objs.size f cdv)) → Takes (cxOf (L2.CX P w) P w K mg base N qual (defScope st) f cdv A outer s H E) (WK E) →
      PassesOwn (model P w) (cxOf (L2.CX P w) P w K mg base N qual (defScope st) f cdv A outer s H E).A (cxOf (L2.CX P w) P w K mg base N qual (defScope st) f cdv A outer s H E).env (cxOf (L2.CX P w) P w K mg base N qual (defScope st) f cdv A outer s H E).xe →
      ∃ t : AS, PBD (cxOf (L2.CX P w) P w K mg base N qual (defScope st) f cdv A outer s H E) (WK E) (defBody st) t ∧
      ∀ ds r P' XR, sd ds r P' XR → t { nx := fun _ r' => fit P' .non r', rt := fit P', xr := fitX XR } (startD N ds) r) : FO P w K mg base (k + 1) f fd ps sd := by
  refine F.okX S (fun vs H Q E h => ?_) (fun cdv A outer s H vs Q E hr h => ?_)
  · obtain ⟨r, ds, P', XR, hr, hi, hs, _, _⟩ := h
    rw [hi.length]
    exact len _ _ _ _ hs
  · obtain ⟨r, ds, P', XR, ro, hi, hs, hq, hx⟩ := h
    obtain ⟨t, ht, hread⟩ := hbody cdv A outer s H E hr (takes_of rfl rfl rfl rfl) (passes_of rfl)
    refine ⟨_, ht, startD N ds, r, { nx := fun _ r' => fit P' .non r', rt := fit P', xr := fitX XR }, start_ok ro hi ?_, hread ds r P' XR hs, ⟨fun δ' r' σ' H' a o k => ?_, fun d r' v H' a o k i => ?_, fun _ _ _ _ z => z.elim, fun _ _ _ _ z => z.elim⟩⟩
    · rintro C fs es δ' r' σ' a H' ⟨r0, l, q⟩ o k e
      exact hx C fs es r0 a H' q (l.r _ _ o.r) (k.trans l.kp) (e.anti l.m)
    · obtain ⟨r0, l, a⟩ := a
      exact hq _ r0 _ H' a (l.r _ _ o.r) (k.trans l.kp) .non
    · obtain ⟨r0, l, a⟩ := a
      exact hq _ r0 _ H' a (l.r _ _ o) (k.trans l.kp) (is_anti l.m i)
end
end G
namespace G
open PySem PySem.Spec L2
open PyProof.Rows (envOfC)
/-- the def st stands under the module's name x -/
def Dfn (K : PySem.W.Frag) (mg : Str → Option Value) (x : Str) (st : Stmt) (ps : List Str) : Prop := ∃ f fd, Fun K x x st f fd ∧ mg x = some (.ref f) ∧ Binds K fd ps []
/-- the module's name x may be called by the promise sd -/
def Cl (P : Program) (w : World) (K : PySem.W.Frag) (mg : Str → Option Value) (base : Heap) (k : Nat) (x : Str) (ps : List Str) (sd : SpX) : Prop :=
  ∃ f fd, FO P w K mg base k f fd ps sd ∧ mg x = some (.ref f) ∧ PySem.W.keepIn K (.ref f) = true ∧ Binds K fd ps []
theorem cl_of {P : Program} {w : World} {K : PySem.W.Frag} {mg : Str → Option Value} {base : Heap} {x : Str} {st : Stmt} {N ps : List Str} {k : Nat} {sd : SpX} (Dx : Dfn K mg x st ps) (S : FnScope N ps (defScope st)) (len : ∀ ds r P' XR, sd ds r P' XR → ds.length = ps.length)
    (hbody : ∀ (f : Addr) (cdv : Value) (A : Around) (outer : List Env) (s : Shared) (H : Hp) (E : XK), Room k (A.deeper (envOfC x (defScope st) s.heap.objs.size f cdv)) → Takes (cxOf (L2.CX P w) P w K mg base N x (defScope st) f cdv A outer s H E) (WK E) →
      PassesOwn (model P w) (cxOf (L2.CX P w) P w K mg base N x (defScope st) f cdv A outer s H E).A (cxOf (L2.CX P w) P w K mg base N x (defScope st) f cdv A outer s H E).env (cxOf (L2.CX P w) P w K mg base N x (defScope st) f cdv A outer s H E).xe →
      ∃ t : AS, PBD (cxOf (L2.CX P w) P w K mg base N x (defScope st) f cdv A outer s H E) (WK E) (defBody st) t ∧
      ∀ ds r P' XR, sd ds r P' XR → t { nx := fun _ r' => fit P' .non r', rt := fit P', xr := fitX XR } (startD N ds) r) : Cl P w K mg base (k + 1) x ps sd := by
  obtain ⟨f, fd, F, g, b⟩ := Dx
  exact ⟨f, fd, fn_d F S len (hbody f), g, F.kp, b⟩
/-- a promise that is never asked -/
theorem cl_never {P : Program} {w : World} {K : PySem.W.Frag} {mg : Str → Option Value} {base : Heap} {x : Str} {st : Stmt} {ps : List Str} {k : Nat} {sd : SpX} (Dx : Dfn K mg x st ps) (h : ∀ ds r P' XR, ¬ sd ds r P' XR) : Cl P w K mg base k x ps sd := by
  obtain ⟨f, fd, F, g, b⟩ := Dx
  exact ⟨f, fd, ⟨fun vs H Q E ⟨r, ds, P', XR, _, _, z, _⟩ => (h _ _ _ _ z).elim, fun A outer s H args us vs Q E _ _ _ _ ⟨r, ds, P', XR, _, _, z, _⟩ => (h _ _ _ _ z).elim⟩, g, F.kp, b⟩
theorem Cl.imp {P : Program} {w : World} {K : PySem.W.Frag} {mg : Str → Option Value} {base : Heap} {x : Str} {ps : List Str} {k : Nat} {sd sd' : SpX} (c : Cl P w K mg base k x ps sd) (h : ∀ ds r P XR, sd' ds r P XR → sd ds r P XR) : Cl P w K mg base k x ps sd' := by
  obtain ⟨f, fd, F, g, kp, b⟩ := c
  exact ⟨f, fd, FnOk.imp F (lift_imp h), g, kp, b⟩
theorem Cl.mono {P : Program} {w : World} {K : PySem.W.Frag} {mg : Str → Option Value} {base : Heap} {x : Str} {ps : List Str} {j k : Nat} {sd : SpX} (c : Cl P w K mg base j x ps sd) (h : j ≤ k) : Cl P w K mg base k x ps sd := by
  obtain ⟨f, fd, F, g, kp, b⟩ := c
  exact ⟨f, fd, FnOk.mono F h, g, kp, b⟩
/-- a def that was walked as one that lets nothing out -/
theorem cl_cx0 {P : Program} {w : World} {K : PySem.W.Frag} {mg : Str → Option Value} {base : Heap} {x : Str} {ps : List Str} {k : Nat} {sd : SpX} {f : Addr} {fd : FuncData} (F : FnOk P w K mg base CX0 k f fd ps (lift K sd)) (g : mg x = some (.ref f)) (kp : PySem.W.keepIn K (.ref f) = true) (b : Binds K fd ps []) : Cl P w K mg base k x ps sd := by
  refine ⟨f, fd, ⟨F.len, fun A outer s H args us vs Q E hr he hb hv hs => codeAny_mono (F.run A outer s H args us vs Q E hr he hb hv hs) fun r s' h => ?_⟩, g, kp, b⟩
  cases r with
  | ok fl => cases fl <;> exact h
  | error e => exact h.elim
section
variable {X : Cx} {W : WX} {k j : Nat} {ps : List Str} {sd : SpX} {x : Str} {p pos : Pos} {e : Expr} {es : List Expr} {l : AL}
theorem d_fn (C : Cl X.prog X.w X.K X.mg X.base k x ps sd) (tk : Takes X W) (hr : Room j X.A) (ha : PDL X W (e :: es) l) (hj : k ≤ j := by first | decide | exact Nat.le_refl _ | omega) (hg : Gl X x := by rfl) (hdb : (x == ("__debug__" : Str)) = false := by decide)
    (he : starEach (e :: es) X.env = (false, eval e X.env) :: starEach es X.env := by rfl) (hpl : (backTo pos (starEach es X.env)).any (·.1) = false := by rfl) : PD X W (.Call (.Name x p) (e :: es) [] pos) (aCall sd l) := by
  obtain ⟨f, fd, F, g, kp, b⟩ := C
  exact d_call (fr_of F b) tk (hr.mono hj) g kp ha hg hdb he hpl
theorem d_fnN (C : Cl X.prog X.w X.K X.mg X.base k x ps sd) (hr : Room j X.A) (ha : PDL X W (e :: es) l) (hj : k ≤ j := by first | decide | exact Nat.le_refl _ | omega) (hg : Gl X x := by rfl) (hdb : (x == ("__debug__" : Str)) = false := by decide)
    (he : starEach (e :: es) X.env = (false, eval e X.env) :: starEach es X.env := by rfl) (hpl : (backTo pos (starEach es X.env)).any (·.1) = false := by rfl) : PD X W (.Call (.Name x p) (e :: es) [] pos) (aCallN sd l) := by
  obtain ⟨f, fd, F, g, kp, b⟩ := C
  exact d_callN (fr_of F b) (hr.mono hj) g kp ha hg hdb he hpl
end
/-- names that the module does not bind -/
structure Bl (mg : Str → Option Value) : Prop where
  len : mg "len" = none
  int : mg "int" = none
  list : mg "list" = none
  tuple : mg "tuple" = none
  isi : mg "isinstance" = none
  range : mg "range" = none
  all : mg "all" = none
  any : mg "any" = none
  str : mg "str" = none
  bool : mg "bool" = none
  enum : mg "enumerate" = none
  zip : mg "zip" = none
  sum : mg "sum" = none
  max : mg "max" = none
  min : mg "min" = none
  sorted : mg "sorted" = none
  set : mg "set" = none
  dict : mg "dict" = none
theorem own_step {K : PySem.W.Frag} {t t' : At} {X : Rs} {H H' : Hp} (h : Rok K (t :: X) H) (hm : t'.M = t.M) (hk : ∀ b o, ¬ t.M b → H b = some o → H' b = some o) (hT : ∀ b, t.M b → ∀ u, Rd H b u → ∀ xs, u ≠ .tup xs) (ht : t'.R K (mem (t' :: X)) H') : Rok K (t' :: X) H' ∧ Kp K (t :: X) H (t' :: X) H' := by
  have me : mem (t' :: X) = mem (t :: X) := by
    show (fun a => t'.M a ∨ mem X a) = (fun a => t.M a ∨ mem X a)
    rw [hm]
  have go : Kp K (t :: X) H (t' :: X) H' := fun v d q => by
    rw [me]
    refine Is.go (fun a o _ n s => ⟨n, hk a _ (fun z => n (.inl z)) s⟩) (fun a xs s => ?_) _ _ q
    rcases s with s | s
    · have na : ¬ t.M a := fun z => hT a z _ s xs rfl
      rcases s with s | ⟨o, s⟩
      · exact .inl (.inl (hk a _ na s))
      · exact .inl (.inr ⟨o, hk a _ na s⟩)
    · exact .inr s
  obtain ⟨h1, h2, h3⟩ := h
  have go' : ∀ v d, Is K (mem (t :: X)) H v d → Is K (mem (t :: X)) H' v d := by
    have g := go
    unfold Kp at g
    rw [me] at g
    exact g
  refine ⟨⟨ht, by rw [hm]; exact h2, ?_⟩, go⟩
  rw [me]
  exact hold_loc (fun b o m q => hk b o (fun z => h2 b z m) q) go' h3
/-- the pool of draws at p, its script's rest at a; fewer than N draws so far -/
def poolA (p a : Addr) (N : Nat) : At where
  M := fun b => b = p ∨ b = a
  R := fun _ _ H => p ≠ a ∧ ∃ (ns : List Int) (c1 c2 c3 : Int), H p = some (.lst [.ref a, .int c1, .int c2, .int c3]) ∧ H a = some (.lst (ns.map V.int)) ∧ 0 ≤ c1 ∧ 0 ≤ c2 ∧ c2 ≤ N ∧ 0 ≤ c3 ∧ c3 < 2147483629 ∧ ns.length ≤ 63
  loc := fun f _ ⟨ne, ns, c1, c2, c3, h1, h2, h⟩ => ⟨ne, ns, c1, c2, c3, f _ _ (.inl rfl) h1, f _ _ (.inr rfl) h2, h⟩
  anti := fun _ h => h
  grow := fun _ h => h
  al := fun ⟨ne, ns, c1, c2, c3, h1, h2, h⟩ b z => z.elim (fun e => ⟨_, e.symm ▸ h1⟩) fun e => ⟨_, e.symm ▸ h2⟩
theorem pool_mono {p a : Addr} {N N' : Nat} (h : N ≤ N') {X : Rs} : le (poolA p a N :: X) (poolA p a N' :: X) :=
  ⟨fun b z => z, fun K H ⟨⟨ne, ns, c1, c2, c3, h1, h2, h3, h4, h5, h6⟩, q, q2⟩ => ⟨⟨ne, ns, c1, c2, c3, h1, h2, h3, h4, by omega, h6⟩, q, q2⟩⟩
/-- a draw below m -/
def spDraw : SpX := fun ds r P _ => ∃ p a m N X, ds = [.adr p, .int m] ∧ r = poolA p a N :: X ∧ (0 < m ∧ m ≤ 10000000000000000000000000000000000000000) ∧ N < 1000000000000 ∧ ∀ k, 0 ≤ k → k < m → P (.int k) (poolA p a (N + 1) :: X)
theorem pool_step {K : PySem.W.Frag} {p a : Addr} {N N' : Nat} {X : Rs} {H H' : Hp} (h : Rok K (poolA p a N :: X) H) (hk : ∀ b o, b ≠ p → b ≠ a → H b = some o → H' b = some o) (ht : (poolA p a N').R K (mem (poolA p a N' :: X)) H') : Rok K (poolA p a N' :: X) H' ∧ Kp K (poolA p a N :: X) H (poolA p a N' :: X) H' := by
  obtain ⟨⟨ne, ns, c1, c2, c3, h1, h2, _⟩, _, _⟩ := id h
  refine own_step h rfl (fun b o n q => hk b o (fun e => n (.inl e)) (fun e => n (.inr e)) q) (fun b z u q xs e => ?_) ht
  subst e
  rcases z with rfl | rfl
  · rcases q with q | ⟨o, q⟩
    · rw [h1] at q; cases q
    · rw [h1] at q; cases q
  · rcases q with q | ⟨o, q⟩
    · rw [h2] at q; cases q
    · rw [h2] at q; cases q
theorem pget_list {X : Cx} : PGet X (fun o i H Q => ∃ (p : Addr) (xs : List V) (j : Nat) (v : V), o = .ref p ∧ i = .int (j : Nat) ∧ j < 1000000 ∧ SqL X.K H p xs ∧ xs[j]? = some v ∧ Q v H) := by
  rintro pins s σ H o i ov iv Q I ro ri ⟨p, xs, j, v, rfl, rfl, hj, hq, hv, q⟩
  cases ro
  obtain ⟨t, rfl⟩ := ri
  obtain ⟨its, r, pl, hz⟩ := I.list hq
  obtain ⟨u, hu, ru⟩ := r.get hv
  exact wpAny_getItem_list pl.isList (by omega) (by omega) (by simpa using hu) ⟨v, H, I, ru, q⟩
theorem brT {A B : Prop} (h : A) : (true = true → A) ∧ (true = false → B) := ⟨fun _ => h, fun e => (by cases e)⟩
theorem brF {A B : Prop} (h : B) : (false = true → A) ∧ (false = false → B) := ⟨fun e => (by cases e), fun _ => h⟩
theorem brt {b : Bool} {A B : Prop} (e : b = true) (h : A) : (b = true → A) ∧ (b = false → B) := ⟨fun _ => h, fun q => by rw [e] at q; cases q⟩
theorem brf {b : Bool} {A B : Prop} (e : b = false) (h : B) : (b = true → A) ∧ (b = false → B) := ⟨fun q => (by rw [e] at q; cases q), fun _ => h⟩
end G
namespace G
open PySem PySem.Spec L2
open PyProof.Rows (envOfC)
abbrev tl (x : Str) : List Nat := x.cps.toList
def strL : List D → Option (List Str)
  | [] => some []
  | .str z :: r => (strL r).map (z :: ·)
  | _ :: _ => none
theorem strL_map : ∀ (l : List Str), strL (l.map .str) = some l
  | [] => rfl
  | b :: bs => by simp [strL, strL_map bs]
theorem strL_all {K : PySem.W.Frag} {N : Addr → Prop} {H : Hp} : ∀ {vs : List V} {ds : List D} {ys : List Str}, IsAll K N H vs ds → strL ds = some ys → vs = ys.map V.str ∧ ∀ y ∈ ys, sok y
  | _, _, _, .nil, e => by cases e; exact ⟨rfl, fun _ h => by cases h⟩
  | _, d :: ds, bs, .cons i t, e => by
    cases i <;> try (simp [strL] at e; done)
    rename_i z hz
    simp only [strL] at e
    cases q : strL ds with
    | none => rw [q] at e; cases e
    | some cs =>
      rw [q] at e
      cases e
      obtain ⟨h1, h2⟩ := strL_all t q
      rw [h1]
      exact ⟨rfl, fun y hy => (List.mem_cons.mp hy).elim (fun e => e ▸ hz) (h2 y)⟩
theorem sok_iff {z : Str} : sok z ↔ (∀ c ∈ tl z, c < 1114112) ∧ (tl z).length ≤ 1000000 := by
  unfold sok PyData.strOk Str.length
  rw [← Array.all_toList, List.all_eq_true, Array.length_toList]
  simp only [decide_eq_true_eq]
theorem joinL_mem {S : List Nat} {c : Nat} : ∀ {ps : List (List Nat)}, c ∈ TL.joinL S ps → c ∈ S ∨ ∃ p ∈ ps, c ∈ p
  | [], h => by cases h
  | [p], h => .inr ⟨p, List.mem_cons_self, h⟩
  | p :: q :: r, h => by
    rcases List.mem_append.mp h with h | h
    · exact .inr ⟨p, List.mem_cons_self, h⟩
    · rcases List.mem_append.mp h with h | h
      · exact .inl h
      · rcases joinL_mem (ps := q :: r) h with h | ⟨x, h1, h2⟩
        · exact .inl h
        · exact .inr ⟨x, List.mem_cons_of_mem _ h1, h2⟩
theorem joinL_len {S : List Nat} : ∀ {ps : List (List Nat)}, (TL.joinL S ps).length ≤ (ps.map List.length).sum + ps.length * S.length
  | [] => by simp [TL.joinL]
  | [p] => by simp [TL.joinL]
  | p :: q :: r => by
    have ih := joinL_len (S := S) (ps := q :: r)
    simp only [TL.joinL, List.length_append, List.map_cons, List.sum_cons, List.length_cons, Nat.add_mul, Nat.one_mul] at ih ⊢
    omega
def tJoin (a : Str) (ys : List Str) : Str := Txt.join a ys
theorem tl_tJoin (a : Str) (ys : List Str) : tl (tJoin a ys) = TL.joinL (tl a) (ys.map tl) := by
  unfold tJoin
  rw [TL.join_eq]
  exact TL.tl_join a ys
theorem tl_len (ys : List Str) : (ys.map tl).map List.length = ys.map (·.length) := by
  rw [List.map_map]
  rfl
def oJoinP (x y : D) (k : D → Prop) : Prop := match x with
  | .str a => match y with
    | .lst ds => (match strL ds with | some ys => (ys.map (·.length)).sum + ys.length * a.length ≤ 1000000 ∧ k (.str (tJoin a ys)) | none => False)
    | .tup ds => (match strL ds with | some ys => (ys.map (·.length)).sum + ys.length * a.length ≤ 1000000 ∧ k (.str (tJoin a ys)) | none => False)
    | _ => False
  | _ => False
structure oJoin (x y : D) (k : D → Prop) : Prop where
  ex : oJoinP x y k
def aM1 (o : O2) (ta tb : AT) : AT := fun x δ r P => ta x δ r fun d1 r1 => match d1 with | .str z => tb x δ r1 fun d2 r2 => o (.str z) d2 fun d => P d r2 | _ => False
theorem sok_join {a : Str} {ys : List Str} (ha : sok a) (hy : ∀ y ∈ ys, sok y) (hz : (ys.map (·.length)).sum + ys.length * a.length ≤ 1000000) : sok (tJoin a ys) := by
  rw [sok_iff, tl_tJoin]
  refine ⟨fun c hc => ?_, ?_⟩
  · rcases joinL_mem hc with h | ⟨p, hp, h⟩
    · exact (sok_iff.mp ha).1 c h
    · obtain ⟨y, h1, rfl⟩ := List.mem_map.mp hp
      exact (sok_iff.mp (hy y h1)).1 c h
  · have := joinL_len (S := tl a) (ps := ys.map tl)
    rw [tl_len, List.length_map] at this
    exact Nat.le_trans this hz
section
variable {X : Cx} {W : WX} {o e : Expr} {ta tb : AT} {apos pos : Pos}
theorem d_join (ho : PD X W o ta) (he : PD X W e tb) (hs : starEach [e] X.env = [(false, eval e X.env)] := by rfl) (hbase : attributeBase o "join" X.env (eval o X.env) = eval o X.env := by rfl) (hline : (apos.endLine == pos.line) = true := by rfl) :
    PD X W (.Call (.Attribute o "join" apos) [e] [] pos) (aM1 oJoin ta tb) := imE (pe_join ho he hs hbase hline) fun σ H Q q => by
  obtain ⟨XR, δ, r, P, ok, h, k⟩ := q
  refine td_bind ok h fun d1 r1 v1 H1 h1 o1 k1 i1 => ?_
  cases i1 <;> try exact h1.elim
  rename_i z hz
  refine ⟨⟨z, rfl⟩, td_bind o1 h1 fun d2 r2 v2 H2 h2 o2 k2 i2 => ?_⟩
  obtain ⟨h2⟩ := h2
  cases i2 <;> try exact h2.elim
  · rename_i n hl al
    simp only [oJoinP] at h2
    split at h2
    · rename_i ys hys
      obtain ⟨e1, e2⟩ := strL_all al hys
      subst e1
      exact ⟨z, _, ys, rfl, rfl, .inl (SqL.of hl), Nat.le_trans h2.1 (by decide), k _ r2 _ H2 h2.2 o2 (k1.trans k2) (.str (sok_join hz e2 h2.1))⟩
    · exact h2.elim
  · rename_i hl al
    simp only [oJoinP] at h2
    split at h2
    · rename_i ys hys
      obtain ⟨e1, e2⟩ := strL_all al hys
      subst e1
      exact ⟨z, _, ys, rfl, rfl, .inr hl, Nat.le_trans h2.1 (by decide), k _ r2 _ H2 h2.2 o2 (k1.trans k2) (.str (sok_join hz e2 h2.1))⟩
    · exact h2.elim
end
def isLet (c : Nat) : Bool := decide (97 ≤ c) && decide (c ≤ 122)
/-- 1 to 8 letters a to z -/
def isNm (z : Str) : Bool := decide (1 ≤ z.length) && decide (z.length ≤ 8) && (tl z).all isLet
/-- a word is drawn -/
def spWord : SpX := fun ds r P _ => ∃ p a N X, ds = [.adr p] ∧ r = poolA p a N :: X ∧ N < 100000000000 ∧ ∀ z, isNm z = true → P (.str z) (poolA p a (N + 9) :: X)
/-- the pool is made of a script -/
def spPool (K : PySem.W.Frag) : Sp := fun vs H Q _ => ∃ (s : Addr) (ns : List Int), vs = [.ref s] ∧ SqL K H s (ns.map V.int) ∧ ns.length ≤ 63 ∧ ∀ p a H', Rok K [poolA p a 0] H' → Q (.ref p) H'
/-- a law: a list of at most 63 ints is handed in, True comes out -/
def spLaw (K : PySem.W.Frag) : Sp := fun vs H Q _ => ∃ (a : Addr) (ns : List Int), vs = [.ref a] ∧ SqL K H a (ns.map V.int) ∧ ns.length ≤ 63 ∧ ∀ H', Q (.bl true) H'
end G
namespace G
open PySem PySem.Spec L2
theorem ix_s {z : Str} {i : Int} {c : Nat} {k : D → Prop} (h : atI (tl z) i = some c) (q : k (.str ⟨#[c]⟩)) : oIx (.str z) (.int i) k := by
  refine ⟨?_⟩
  show (match atI (tl z) i with | some c => k (.str ⟨#[c]⟩) | none => False)
  rw [h]
  exact q
theorem ix_l {z : List D} {i : Int} {c : D} {k : D → Prop} (h : atI z i = some c) (q : k c) : oIx (.lst z) (.int i) k := by
  refine ⟨?_⟩
  show (match atI z i with | some c => k c | none => False)
  rw [h]
  exact q
theorem ix_t {z : List D} {i : Int} {c : D} {k : D → Prop} (h : atI z i = some c) (q : k c) : oIx (.tup z) (.int i) k := by
  refine ⟨?_⟩
  show (match atI z i with | some c => k c | none => False)
  rw [h]
  exact q
theorem join_l {a : Str} {ds : List D} {ys : List Str} {k : D → Prop} (h : strL ds = some ys) (hz : (ys.map (·.length)).sum + ys.length * a.length ≤ 1000000) (q : k (.str (tJoin a ys))) : oJoin (.str a) (.lst ds) k := by
  refine ⟨?_⟩
  show (match strL ds with | some ys => (ys.map (·.length)).sum + ys.length * a.length ≤ 1000000 ∧ k (.str (tJoin a ys)) | none => False)
  rw [h]
  exact ⟨hz, q⟩
def sg (c : Nat) : Str := ⟨#[c]⟩
theorem joinL_sg : ∀ cs : List Nat, TL.joinL [] (cs.map fun c => [c]) = cs
  | [] => rfl
  | [c] => rfl
  | c :: d :: r => by
    have ih := joinL_sg (d :: r)
    show [c] ++ ([] ++ TL.joinL [] ((d :: r).map fun c => [c])) = _
    rw [ih]
    rfl
theorem tl_signs (cs : List Nat) : tl (tJoin ⟨#[]⟩ (cs.map sg)) = cs := by
  rw [tl_tJoin, List.map_map]
  exact joinL_sg cs
theorem len_tl (z : Str) : z.length = (tl z).length := by unfold Str.length tl; simp
theorem sum_ones : ∀ cs : List Nat, ((cs.map sg).map (·.length)).sum = cs.length
  | [] => rfl
  | c :: cs => by
    rw [List.map_cons, List.map_cons, List.sum_cons, sum_ones cs, List.length_cons]
    show 1 + cs.length = _
    omega
theorem nm_signs {cs : List Nat} (h1 : 1 ≤ cs.length) (h8 : cs.length ≤ 8) (h : ∀ c ∈ cs, isLet c = true) : isNm (tJoin ⟨#[]⟩ (cs.map sg)) = true := by
  unfold isNm
  rw [len_tl, tl_signs]
  simp only [Bool.and_eq_true, decide_eq_true_eq, List.all_eq_true]
  exact ⟨⟨h1, h8⟩, h⟩
theorem strL_sg (cs : List Nat) : strL (cs.map fun c => D.str (sg c)) = some (cs.map sg) := by
  have h := strL_map (cs.map sg)
  rw [List.map_map] at h
  exact h
def abc : Str := "abcdefghijklmnopqrstuvwxyz"
theorem abc_all : ((List.range 26).all fun n => match atI (tl abc) ((n : Nat) : Int) with | some c => isLet c | none => false) = true := by decide +kernel
theorem abc_at {k : Int} (h0 : 0 ≤ k) (h1 : k < 26) : ∃ c, atI (tl abc) k = some c ∧ isLet c = true := by
  have h := List.all_eq_true.mp abc_all k.toNat (List.mem_range.mpr (by omega))
  rw [Int.toNat_of_nonneg h0] at h
  cases e : atI (tl abc) k with
  | none => rw [e] at h; cases h
  | some c => rw [e] at h; exact ⟨c, rfl, h⟩
mutual
/-- no address in it, nothing long -/
def plain : D → Bool
  | .adr _ => false | .ins _ _ _ => false | .dct _ _ => false | .lst ds => decide (ds.length ≤ 1000000) && plains ds | .tup ds => decide (ds.length ≤ 1000000) && plains ds | _ => true
def plains : List D → Bool
  | [] => true
  | d :: ds => plain d && plains ds
end
mutual
/-- the same, True no 1 -/
def same : D → D → Bool
  | .non, .non => true
  | .bl a, .bl b => a == b
  | .int a, .int b => a == b
  | .str a, .str b => a == b
  | .lst a, .lst b => sames a b
  | .tup a, .tup b => sames a b
  | _, _ => false
def sames : List D → List D → Bool
  | [], [] => true
  | a :: as, b :: bs => same a b && sames as bs
  | _, _ => false
end
mutual
theorem same_refl : ∀ d : D, plain d = true → same d d = true
  | .non, _ => rfl
  | .bl b, _ => by simp [same]
  | .int b, _ => by simp [same]
  | .str b, _ => by simp [same]
  | .adr _, h => by cases h
  | .ins _ _ _, h => by cases h
  | .dct _ _, h => by cases h
  | .lst ds, h => by simp only [same]; exact sames_refl ds (by simp only [plain, Bool.and_eq_true] at h; exact h.2)
  | .tup ds, h => by simp only [same]; exact sames_refl ds (by simp only [plain, Bool.and_eq_true] at h; exact h.2)
theorem sames_refl : ∀ ds : List D, plains ds = true → sames ds ds = true
  | [], _ => rfl
  | d :: ds, h => by
    simp only [plains, Bool.and_eq_true] at h
    simp only [sames, same_refl d h.1, sames_refl ds h.2]
    rfl
end
theorem plain_tup {ds : List D} (h : plain (.tup ds) = true) : ds.length ≤ 1000000 ∧ plains ds = true := by
  simp only [plain, Bool.and_eq_true, decide_eq_true_eq] at h
  exact h
theorem plain_lst {ds : List D} (h : plain (.lst ds) = true) : ds.length ≤ 1000000 ∧ plains ds = true := by
  simp only [plain, Bool.and_eq_true, decide_eq_true_eq] at h
  exact h
theorem plain_of_tup {ds : List D} (h : ds.length ≤ 1000000) (g : plains ds = true) : plain (.tup ds) = true := by
  simp only [plain, Bool.and_eq_true, decide_eq_true_eq]
  exact ⟨h, g⟩
theorem plain_of_lst {ds : List D} (h : ds.length ≤ 1000000) (g : plains ds = true) : plain (.lst ds) = true := by
  simp only [plain, Bool.and_eq_true, decide_eq_true_eq]
  exact ⟨h, g⟩
theorem plains_of : ∀ {ds : List D}, (∀ d ∈ ds, plain d = true) → plains ds = true
  | [], _ => rfl
  | a :: as, h => by
    simp only [plains, Bool.and_eq_true]
    exact ⟨h a List.mem_cons_self, plains_of fun d m => h d (List.mem_cons_of_mem _ m)⟩
theorem sames_len : ∀ {a b : List D}, sames a b = true → a.length = b.length
  | [], [], _ => rfl
  | _ :: _, _ :: _, h => by
    simp only [sames, Bool.and_eq_true] at h
    rw [List.length_cons, List.length_cons, sames_len h.2]
  | [], _ :: _, h => by simp [sames] at h
  | _ :: _, [], h => by simp [sames] at h
theorem eqD_int (a b : Int) : eqD (.int a) (.int b) = (a == b) := rfl
theorem ne_len {m n : Nat} (h : m ≠ n) : (!eqD (.int m) (.int n)) = true := by
  rw [eqD_int]
  simp
  omega
theorem eq_len {m n : Nat} (h : m = n) : (!eqD (.int m) (.int n)) = false := by
  rw [eqD_int, h]
  simp
theorem sames_at : ∀ {xs ys : List D} {j : Nat} {x y : D}, sames xs ys = true → xs[j]? = some x → ys[j]? = some y → same x y = true
  | [], _, j, x, y, _, e, _ => by simp at e
  | _ :: _, [], j, x, y, h, _, _ => by simp [sames] at h
  | a :: as, b :: bs, 0, x, y, h, e, f => by
    simp only [sames, Bool.and_eq_true] at h
    simp at e f
    rw [← e, ← f]
    exact h.1
  | a :: as, b :: bs, j + 1, x, y, h, e, f => by
    simp only [sames, Bool.and_eq_true] at h
    exact sames_at (j := j) h.2 (by simpa using e) (by simpa using f)
theorem sames_of : ∀ {xs ys : List D}, xs.length = ys.length → (∀ (j : Nat) (x y : D), xs[j]? = some x → ys[j]? = some y → same x y = true) → sames xs ys = true
  | [], [], _, _ => rfl
  | [], _ :: _, h, _ => by cases h
  | _ :: _, [], h, _ => by cases h
  | a :: as, b :: bs, h, f => by
    simp only [sames, Bool.and_eq_true]
    exact ⟨f 0 a b rfl rfl, sames_of (by simpa using h) fun j x y e g => f (j + 1) x y (by simpa using e) (by simpa using g)⟩
theorem plains_at : ∀ {xs : List D} {j : Nat} {x : D}, plains xs = true → xs[j]? = some x → plain x = true
  | [], j, x, _, e => by simp at e
  | a :: as, 0, x, h, e => by
    simp only [plains, Bool.and_eq_true] at h
    simp at e
    rw [← e]
    exact h.1
  | a :: as, j + 1, x, h, e => by
    simp only [plains, Bool.and_eq_true] at h
    exact plains_at (j := j) h.2 (by simpa using e)
theorem deps_at : ∀ {xs : List D} {j : Nat} {x : D}, xs[j]? = some x → dep x ≤ deps xs
  | [], j, x, e => by simp at e
  | a :: as, 0, x, e => by
    simp at e
    rw [← e]
    simp only [deps]
    omega
  | a :: as, j + 1, x, e => by
    have := deps_at (xs := as) (j := j) (x := x) (by simpa using e)
    simp only [deps]
    omega
/-- the loop of _law_same -/
theorem same_sides {xs ys : List D} {j : Nat} {y : D} (hl : xs.length = ys.length) (e : ys[j]? = some y) : ∃ x, xs[j]? = some x := by
  have := (List.getElem?_eq_some_iff.mp e).1
  exact ⟨xs[j]'(by omega), by simp⟩
/-- _law_same: two data, depth below n -/
def spSame (n : Nat) : SpX := fun ds r P _ => ∃ a b, ds = [a, b] ∧ plain a = true ∧ plain b = true ∧ dep a ≤ 64 ∧ dep b < n ∧ P (.bl (same a b)) r
end G
namespace G
open PySem PySem.Spec L2
open PyProof.Rows (envOfC)
theorem law_go {K : PySem.W.Frag} {W : WX} {t : AS} {N : List Str} {Dd : Ends} {s p a : Addr} {H' : Hp} (ro : Rok K [poolA p a 0] H') (hD : ∀ H', Dd.rt (.bl true) H')
    (h : t { nx := fun _ _ => False, rt := fun d _ => d = .bl true } (none :: some (.adr p) :: List.replicate (N.length - 2) none) [poolA p a 0]) (hN : 2 ≤ N.length := by decide) : TSD K W t Dd ((L2.start N [.ref s]).set 1 (some (.ref p))) H' := by
  refine ⟨_, _, { nx := fun _ _ => False, rt := fun d _ => d = .bl true }, ⟨⟨fun i d e => ?_, ro, ?_⟩, fun _ _ _ _ _ _ _ _ z => z.elim⟩, h, ⟨fun _ _ _ _ z => z.elim, fun d r' v H2 e _ _ i => ?_, fun _ _ _ _ z => z.elim, fun _ _ _ _ z => z.elim⟩⟩
  · match i with
    | 0 => cases e
    | 1 =>
      cases e
      refine ⟨.ref p, ?_, .adr p⟩
      rw [List.getElem?_set_self]
      unfold L2.start
      simp
      omega
    | i + 2 =>
      have e : (List.replicate (N.length - 2) (none : Option D))[i]? = some (some d) := e
      rw [List.getElem?_replicate] at e
      split at e <;> cases e
  · unfold L2.start
    simp
    omega
  · subst e
    cases i
    exact hD _
theorem dfn_mk {K : PySem.W.Frag} {h : Heap} {mg : Str → Option Value} (X : K.In h) (G : h.Ns mainGlobals mg) {x : Str} {st : Stmt} {ps : List Str} {f : Addr} {oc : Value} {od an : Option Addr} {osl : Array (Option Value)} {kV doc pm cdv ct : Value}
    (a : PySem.W.nsIn K mainGlobals x = some (some (.ref f))) (l : K.lookup f = some ⟨oc, od, .func (PySem.W.fnOf x x (defArgs st) (defBody st) (defScope st) .none kV doc pm an cdv ct), osl⟩) (c : PySem.W.codeIn K cdv x = true) (k : PySem.W.keepIn K (.ref f) = true)
    (b : ∀ (kV doc pm : Value) (an : Option Addr) (cdv ct : Value) (us : List Value), us.length = ps.length → bindArgs (PySem.W.fnOf x x (defArgs st) (defBody st) (defScope st) .none kV doc pm an cdv ct) ⟨us, []⟩ = pure (ps.zip us)) : Dfn K mg x st ps :=
  have F := fun_mk (st := st) l c k
  ⟨f, _, F, PySem.W.mg_of X G a, F.binds b⟩
theorem law_end {P : Program} {w : World} {K : PySem.W.Frag} {h : Heap} {mg : Str → Option Value} (X : K.In h) (G : h.Ns mainGlobals mg) {fa f : Addr} {st : Stmt} {n : Nat} (hfa : mg "law" = some (.ref fa)) {oc : Value} {od an : Option Addr} {osl : Array (Option Value)} {kV doc pm cdv ct : Value}
    (a : PySem.W.nsIn K mainGlobals "law" = some (some (.ref f))) (l : K.lookup f = some ⟨oc, od, .func (PySem.W.fnOf "law" "law" (defArgs st) (defBody st) (defScope st) .none kV doc pm an cdv ct), osl⟩) (c : PySem.W.codeIn K cdv "law" = true) (k : PySem.W.keepIn K (.ref f) = true)
    (b : ∀ v : Value, bindArgs (PySem.W.fnOf "law" "law" (defArgs st) (defBody st) (defScope st) .none kV doc pm an cdv ct) ⟨[v], []⟩ = pure [(("_law_script" : Str), v)])
    (ok : ∀ (base : Heap) (fd : FuncData), Fun K "law" "law" st f fd → FnOk P w K mg base CX0 n f fd ["_law_script"] (spLaw K)) :
    ∃ fd : FuncData, (∀ (s : Shared) (v : Value), BindsTo s fd ⟨[v], []⟩ [("_law_script", v)]) ∧ ∀ base : Heap, K.In base → base.Ns mainGlobals mg → FnOk P w K mg base CX0 n fa fd ["_law_script"] (spLaw K) := by
  have e := hfa.symm.trans (PySem.W.mg_of X G a)
  cases e
  exact ⟨_, fun s v => .of_eq (b v), fun base _ _ => ok base _ (fun_mk (st := st) l c k)⟩
theorem sl_s {z : Str} {lo hi : Option Int} {k : D → Prop} (h : k (.str (cutS z lo hi))) : oSl (.str z) lo hi k := ⟨h⟩
theorem eqv_str (a : Str) : PyData.eqv (.str a) (.str a) = true := by
  show (a == a) = true
  simp
end G
namespace G
open PySem PySem.Spec L2
open PyProof.Rows (envOfC)
end G
namespace G
open PySem PySem.Spec L2
theorem u65 {k : Nat} {A : Around} (r : Room k A) : A.units + 65 < cLine := by have := r.un; omega
end G
namespace G
open PySem PySem.Spec L2
open PyProof.Rows (envOfC)
def Own (r : Rs) (l : Addr) (ds : List D) : Prop := ∃ pre post, r = pre ++ lstA l ds :: post
theorem Own.hd {r : Rs} {l : Addr} {ds : List D} : Own (lstA l ds :: r) l ds := ⟨[], r, rfl⟩
section
variable {K : PySem.W.Frag} {r pre post : Rs} {H : Hp} {l p : Addr} {ds es : List D} {vs ws : List V}
theorem own_mid (h : Rok K (pre ++ lstA l ds :: post) H) : ∃ vs, H l = some (.lst vs) ∧ IsAll K (mem (pre ++ lstA l ds :: post)) H vs ds := by
  obtain ⟨_, ⟨h2, _⟩, _⟩ := hold_append.mp h
  exact h2
theorem own_get (h : Rok K r H) (o : Own r l ds) : ∃ vs, H l = some (.lst vs) ∧ IsAll K (mem r) H vs ds := by
  obtain ⟨pre, post, rfl⟩ := o
  exact own_mid h
end
end G
namespace G
open PySem PySem.Spec L2
def gd (n : Nat) : Nat → D → Bool
  | _, .adr _ => false
  | _, .ins _ _ _ => false
  | _, .dct _ _ => false
  | 0, .lst _ => false
  | 0, .tup _ => false
  | m + 1, .lst ds => decide (ds.length ≤ n) && ds.all (gd n m)
  | m + 1, .tup ds => decide (ds.length ≤ n) && ds.all (gd n m)
  | _, _ => true
theorem gd_lst {n m : Nat} {ds : List D} : gd n (m + 1) (.lst ds) = true ↔ ds.length ≤ n ∧ ∀ d ∈ ds, gd n m d = true := by
  simp only [gd, Bool.and_eq_true, decide_eq_true_eq, List.all_eq_true]
theorem gd_tup {n m : Nat} {ds : List D} : gd n (m + 1) (.tup ds) = true ↔ ds.length ≤ n ∧ ∀ d ∈ ds, gd n m d = true := by
  simp only [gd, Bool.and_eq_true, decide_eq_true_eq, List.all_eq_true]
theorem gd_str {n m : Nat} {z : Str} : gd n m (.str z) = true := by cases m <;> rfl
theorem gd_int {n m : Nat} {z : Int} : gd n m (.int z) = true := by cases m <;> rfl
theorem gd_plain {n : Nat} (hn : n ≤ 1000000) : ∀ {m : Nat} {d : D}, gd n m d = true → plain d = true := by
  intro m
  induction m with
  | zero =>
    intro d h
    cases d <;> first | rfl | cases h
  | succ m ih =>
    intro d h
    cases d with
    | lst ds =>
      rw [gd_lst] at h
      exact plain_of_lst (by omega) (plains_of fun d hd => ih (h.2 d hd))
    | tup ds =>
      rw [gd_tup] at h
      exact plain_of_tup (by omega) (plains_of fun d hd => ih (h.2 d hd))
    | adr _ => cases h
    | ins _ _ _ => cases h
    | dct _ _ => cases h
    | _ => rfl
theorem deps_le {k : Nat} : ∀ {ds : List D}, (∀ d ∈ ds, dep d ≤ k) → deps ds ≤ k
  | [], _ => Nat.zero_le _
  | d :: ds, h => by
    simp only [deps]
    have h1 := h d List.mem_cons_self
    have h2 := deps_le (ds := ds) fun d m => h d (List.mem_cons_of_mem _ m)
    omega
theorem gd_dep {n : Nat} : ∀ {m : Nat} {d : D}, gd n m d = true → dep d ≤ m := by
  intro m
  induction m with
  | zero =>
    intro d h
    cases d <;> first | exact Nat.zero_le _ | cases h
  | succ m ih =>
    intro d h
    cases d with
    | lst ds =>
      rw [gd_lst] at h
      have := deps_le fun d hd => ih (h.2 d hd)
      simp only [dep]
      omega
    | tup ds =>
      rw [gd_tup] at h
      have := deps_le fun d hd => ih (h.2 d hd)
      simp only [dep]
      omega
    | adr _ => cases h
    | ins _ _ _ => cases h
    | dct _ _ => cases h
    | _ => exact Nat.zero_le _
theorem isNm_len {z : Str} (h : isNm z = true) : z.length ≤ 8 := by
  unfold isNm at h
  simp only [Bool.and_eq_true, decide_eq_true_eq] at h
  exact h.1.2
theorem len_app (a b : Str) : (a ++ b).length = a.length + b.length := by
  show (a.cps ++ b.cps).size = _
  rw [Array.size_append]
  rfl
theorem pick_at {l : List Str} {k : Int} (h0 : 0 ≤ k) (h1 : k < (l.length : Nat)) : ∃ n w, k = ((n : Nat) : Int) ∧ l[n]? = some w ∧ atI (l.map D.str) k = some (.str w) := by
  obtain ⟨n, rfl⟩ : ∃ n : Nat, k = n := ⟨k.toNat, by omega⟩
  have hn : n < l.length := by omega
  exact ⟨n, l[n], rfl, by simp, L2.atI_nat (by simp)⟩
/-- at a place of a written list of data -/
theorem pick_in {l : List D} {k : Int} (h0 : 0 ≤ k) (h1 : k < (l.length : Nat)) : ∃ d, d ∈ l ∧ atI l k = some d := by
  obtain ⟨n, rfl⟩ : ∃ n : Nat, k = n := ⟨k.toNat, by omega⟩
  have hn : n < l.length := by omega
  exact ⟨l[n], List.getElem_mem _, L2.atI_nat (by simp)⟩
/-- any object, depth left n -/
def objB : Nat → Nat
  | 0 => 60
  | n + 1 => 100 + 4 * objB n
def spObj (n : Nat) : SpX := fun ds r P _ => ∃ p a N X, ∃ dp : Int, ds = [.adr p, .int dp] ∧ r = poolA p a N :: X ∧ 0 ≤ dp ∧ 2 ≤ dp + n ∧ N + 10000 * n < 20000000000 ∧ n ≤ 2 ∧ ∀ d, gd 8 (n + 1) d = true → P d (poolA p a (N + objB n) :: X)
end G
namespace G
open PySem PySem.Spec L2
end G
namespace G
open PySem PySem.Spec L2
end G
namespace G
open PySem PySem.Spec L2
end G
namespace G
open PySem PySem.Spec L2
end G
namespace G
open PySem PySem.Spec L2
end G
namespace G
open PySem PySem.Spec L2 PySem.W PyProof.Rows
/-- what the written part says of such a class at C: its __init__ at f stores under fld -/
structure ErrK (P : Program) (K : Frag) (mg : Str → Option Value) (C : Addr) : Prop where
  cls : OexC K C
  mro : mroIn K C (.ref C) = some true
  sub : subIn K (.ref C) (.type "ValueError") = some true
  sup : ks_superIn K C C "__init__" = some (some (.builtin "ValueError.__init__"))
  opq : nsIn K cStatics "thirdparty.any" = some none
  mgs : mg "super" = none
  top : (P.main.scope.names.lookup ("super" : Str)).isSome = false
def spEI (C : Addr) (fld : Str) : Sp := fun vs H Q _ => ∃ (a : Addr) (v : V), vs = [.ref a, v] ∧ H a = some (exo a C none) ∧ ∀ dx, H dx = none → dx ≠ a → Q .non (upd (upd H dx (exd dx [(fld, v)])) a (exo a C (some dx)))
def cxE (P : Program) (w : World) (K : Frag) (mg : Str → Option Value) (base : Heap) (N : List Str) (qual : Str) (scope : Scope) (f : Addr) (cda cc : Addr) (A : Around) (outer : List Env) (s : Shared) (H : Hp) (xe : Value → Shared → Prop) : Cx where
  prog := P
  w := w
  K := K
  mg := mg
  base := base
  A := A.deeper (ksEnv qual scope s.heap.objs.size f (.ref cda) cc)
  N := N
  s_0 := s
  H_0 := H
  env := ksEnv qual scope s.heap.objs.size f (.ref cda) cc
  outer := outer
  stack := ksEnv qual scope s.heap.objs.size f (.ref cda) cc :: outer
  ex := []
  calm := true
  fn := fun _ => false
  pn := []
  xe := xe
section
variable {P : Program} {w : World} {K : Frag} {mg : Str → Option Value} {base : Heap}
theorem exinit {C fI cc cda : Addr} {cd0 : ClassData} {prm fld : Str} {qual name : Str} {params : Arguments} {scope : Scope} {dV kV doc pm cdv ct oc ccl cl : Value} {an od cdd cld : Option Addr} {osl ccs csl : Array (Option Value)} {vs0 : Array Value} {file : Str} {tf : Tok}
    {p0 p1 p2 p3 p4 p5 p6 p7 p8 p9 : Pos} {txt : Str} {j : Nat} {jj : _}
    (T : ErrK P K mg C)
    (lk : K.lookup fI = some ⟨oc, od, .func (ksFn name qual params [.Expr (.Call (.Attribute (.Call (.Name "super" p0) [] [] p1) "__init__" p2) [.Constant (.str txt) jj p3] [] p4) p5, .Assign [.Attribute (.Name "self" p6) fld p7] (.Name prm p8) p9] scope dV kV doc pm an (.ref cda) ct cc), osl⟩)
    (hcd : codeIn K (.ref cda) qual = true) (hD : clsIn K C = some cd0) (hno : findIn K (.ref C) fld = some none)
    (hcode : K.lookup cda = some ⟨ccl, cdd, .fields vs0, ccs⟩) (hvs : vs0[2]? = some (.str file tf)) (hfile : ((P.main.file : Str) == file) = true)
    (hcell : K.lookup cc = some ⟨cl, cld, .cell (some (.ref C)), csl⟩)
    (hp : ∃ ar : Arg, (params.posonlyargs ++ params.args).head? = some ar ∧ ar.arg = "self")
    (hnm : scope.names.lookup ("self" : Str) = some .local ∧ scope.names.lookup prm = some .local ∧ scope.names.lookup ("super" : Str) = some .globalImplicit ∧ scope.names.lookup ("__class__" : Str) = some .free)
    (hfree : ∀ x, scope.names.lookup x = some .cell ∨ scope.names.lookup x = some .free → x = "__class__") (hcl : ∀ x ∈ scope.names, x.2 ≠ .cell)
    (hsc : scope.isCoroutine = false ∧ scope.isGenerator = false ∧ scope.kind = .function) (hps : ("self" : Str) ≠ prm) (hcdbg : (prm == ("__debug__" : Str)) = false ∧ (prm == ("__classdict__" : Str)) = false)
    (hin : ∀ L, interactive (ksEnv qual scope L fI (.ref cda) cc) = false)
    (hpl1 : ∀ L, swapsWith (.Call (.Attribute (.Call (.Name "super" p0) [] [] p1) "__init__" p2) [.Constant (.str txt) jj p3] [] p4) none p5.line (ksEnv qual scope L fI (.ref cda) cc) = pure false)
    (hev : ∀ L, ∃ pl : Sem Bool, eval (.Call (.Attribute (.Call (.Name "super" p0) [] [] p1) "__init__" p2) [.Constant (.str txt) jj p3] [] p4) (ksEnv qual scope L fI (.ref cda) cc) = (do
      let ov ← attributeBase (.Call (.Name "super" p0) [] [] p1) "__init__" (ksEnv qual scope L fI (.ref cda) cc) (eval (.Call (.Name "super" p0) [] [] p1) (ksEnv qual scope L fI (.ref cda) cc))
      standAt p2.atName
      let (f, first) ← holding [ov] (getMethod ov "__init__" pl)
      callWith p4 f first (backTo p4 (starEach [.Constant (.str txt) jj p3] (ksEnv qual scope L fI (.ref cda) cc))) []))
    (hpl2 : ∀ L, swapsWith (.Name prm p8) (some (.Attribute (.Name "self" p6) fld p7)) p9.line (ksEnv qual scope L fI (.ref cda) cc) = pure false) :
    FnOk P w K mg base CX0 1 fI (ksFn name qual params [.Expr (.Call (.Attribute (.Call (.Name "super" p0) [] [] p1) "__init__" p2) [.Constant (.str txt) jj p3] [] p4) p5, .Assign [.Attribute (.Name "self" p6) fld p7] (.Name prm p8) p9] scope dV kV doc pm an (.ref cda) ct cc) ["self", prm] (spEI C fld) := by
  refine ⟨fun vs H Q E ⟨a, v, e, _⟩ => by rw [e]; rfl, fun A outer s H args us vs Q E hr e0 hb r hsp => ?_⟩
  obtain ⟨a, v, rfl, hea, hq⟩ := hsp
  obtain ⟨u, rfl, rv⟩ : ∃ u, us = [.ref a, u] ∧ RelV v u := by
    match us, r with
    | [_, u], .cons ra (.cons rv .nil) => exact ⟨u, by rw [show _ = Value.ref a from ra], rv⟩
  have KX : K.In s.heap := e0.mod.kin.keeps fun b o e => (e0.bs b o e).1
  have lim : s.heap.NoLimit := e0.mod.nolimit.keeps fun b o e => (e0.bs b o e).1
  refine ks_codeAny_call_defAt hr.depth (KX _ _ lk) rfl lim (codeRec_of KX hcd) rfl hb hcl (fun x hx => ?_) (fun h₀ hns hk => ?_) hsc.1 hsc.2.1 hsc.2.2
  · simp only [List.zip_cons_cons, List.zip_nil_right, List.mem_cons, List.not_mem_nil, or_false] at hx
    rcases hx with rfl | rfl
    · exact hnm.1
    · exact hnm.2.1
  have kX : K.In h₀ := KX.keeps hk
  have hcc : H cc = none := (e0.bs _ _ (e0.mod.kin _ _ hcell)).2
  have lkc : ∀ {x : Str} {c : Addr}, List.lookup x [(("__class__" : Str), cc)] = some c → x = "__class__" ∧ c = cc := fun {x c} h => by
    by_cases e : x = "__class__"
    · subst e
      simp at h
      exact ⟨rfl, h.symm⟩
    · have e2 : (x == ("__class__" : Str)) = false := by simpa using e
      simp [List.lookup, e2] at h
  have hm1 : ((("self" : Str), Value.ref a) :: (prm, u) :: []).reverse.lookup ("self" : Str) = some (.ref a) := by
    have : (("self" : Str) == prm) = false := by simpa using hps
    simp [List.lookup, this]
  have hm2 : ((("self" : Str), Value.ref a) :: (prm, u) :: []).reverse.lookup prm = some u := by
    simp [List.lookup]
  have hns' : h₀.Ns s.heap.objs.size fun x => ((("self" : Str), Value.ref a) :: (prm, u) :: []).reverse.lookup x := hns
  have I : L2.Inv (cxE P w K mg base ["self", prm] qual scope fI cda cc A outer s H fun _ _ => False) [] [some (.ref a), some v] H { s with heap := h₀, toks := s.toks + 2 } := by
    refine ⟨⟨e0.mod, hsc.2.2, rfl, rfl, Nat.le_refl _, fun x y c h1 h2 => ?_, fun x hx => ?_, fun x c z _ => (by cases z), fun _ => hr.hd, Around.frames_deeper e0.frames, .inr ⟨rfl, rfl⟩, fun b z => (by cases z), e0.bs, e0.bsz, fun b o _ z => (by cases z), fun b z => (by cases z), e0.funs, e0.frf⟩,
      rfl, e0.bare, Un.kept hk, ⟨_, hns', fun i x v' h1 h2 h3 => ?_⟩, fun x c h => ?_, e0.hok.fresh (Nat.le_refl _), fun x c h => ?_, fun p z => (by cases z), e0.hok.kept hk, rfl⟩
    · rw [(lkc h1).1, (lkc h2).1]
    · have := hfree x hx
      subst this
      exact ⟨cc, by simp [cxE, ksEnv, envX]⟩
    · match i, h1, h2 with
      | 0, h1, h2 =>
        cases h1
        cases h2
        exact ⟨_, rfl, .inl ⟨hnm.1, hm1⟩⟩
      | 1, h1, h2 =>
        cases h1
        cases h2
        exact ⟨u, rv, .inl ⟨hnm.2.1, hm2⟩⟩
    · rw [(lkc h).2]
      exact ⟨_, _, kX _ _ hcell, rfl⟩
    · rw [(lkc h).2]
      exact hcc
  obtain ⟨ar, hp1, hp2⟩ := hp
  obtain ⟨pl, hev⟩ := hev s.heap.objs.size
  -- super().__init__(text)
  refine ks_wpAt_execs_cons (ks_wpAt_Expr_any (ks_wpAt_MethodCall (c := _) (ks_wpAt_super_base (env := ksEnv qual scope s.heap.objs.size fI (.ref cda) cc) hnm.2.2.1 hnm.2.2.2 rfl rfl (kX _ _ lk) rfl hp1 rfl (kX _ _ hcode) rfl hvs hfile T.top ?_) hev) (hin _) (hpl1 _))
  obtain ⟨mb, hmb, hmb2⟩ := e0.mod.blt
  have kb : ∀ b o, base.get? b = some o → h₀.get? b = some o := fun b o e => hk _ _ (e0.bs b o e).1
  refine ks_loadName_global hsc.2.2 hnm.2.2.1 (PySem.Calls.loadGlobal_builtin (env := ksEnv qual scope s.heap.objs.size fI (.ref cda) cc) (e0.mod.glob.keeps kb) T.mgs (hmb.keeps kb) ((hmb2 _ (by decide +kernel)).trans PyProof.Rows.Boot.super) ⟨rfl, ?_⟩)
  refine wpAny_loadName_free hsc.2.2 hnm.2.2.2 rfl ⟨_, kX _ _ hcell, rfl⟩ ?_
  rw [hp2]
  refine wpAny_loadName_local hsc.2.2 hnm.1 hns' hm1 ?_
  obtain ⟨t1, ho⟩ := exo_at I.hok hea
  obtain ⟨oD, hD1, hD2⟩ : ∃ oD, h₀.get? C = some oD ∧ oD.data = .cls cd0 := by
    unfold clsIn at hD
    split at hD
    · rename_i c d cd' sl ho
      cases hD
      exact ⟨_, kX _ _ ho, rfl⟩
    · cases hD
  refine ks_wpAny_isType_cls hD1 hD2 ⟨rfl, ?_⟩
  replace ho : h₀.get? a = _ := ho
  refine ks_wpAny_call_super hD1 hD2 ho rfl (fun c e => by cases e) (looks_mroIn kX T.mro) (fun h2 hso k2 => ?_)
  have kX2 : K.In h2 := kX.keeps k2
  have hne : a ≠ C := fun e => by
    subst e
    rw [hD1] at ho
    cases ho
    cases hD2
  have hmro : ∃ l, alongIn K "__init__" l = some (some (.builtin "ValueError.__init__")) ∧ (cd0.mro.dropWhile (· != .ref C)).drop 1 = l := by
    have q := T.sup
    unfold ks_superIn at q
    rw [hD] at q
    exact ⟨_, q, rfl⟩
  obtain ⟨ml, hml, hdl⟩ := hmro
  have ho2 := k2 _ _ ho
  have hI2 : Looks (model P w) h2 (isInstance (.ref a) (.type "ValueError")) true := (InstAt.type (show InstAt h2 a _ C none from ⟨ho2, rfl, rfl, trivial⟩)).andThen (looks_subIn kX2 T.sub)
  refine kxs_getMethod kxs_ValueError hso (looks_opaque kX2 T.opq) (l₀ := cd0.mro) (fun A Q E s k q => wpAny_bind ((looks_clsIn kX2 hD) A _ E s k (wpAny_pure q))) hdl kX2 hml hI2 hne rfl ?_
  have hlt : h₀.objs.size < h2.objs.size := Heap.lt_size hso
  have hsz : h₀.objs.size ≤ h2.objs.size := Nat.le_of_lt hlt
  have k3 : ∀ b o, h₀.get? b = some o → (h2.push (kxs_mw "ValueError.__init__" a)).get? b = some o := fun b o e => Heap.get?_push_of_some _ (k2 b o e)
  have hu3 : (h2.push (kxs_mw "ValueError.__init__" a)).get? h2.objs.size = some (kxs_mw "ValueError.__init__" a) := Heap.get?_push_size h2 rfl
  have J3 := ClX.pin_new (t' := s.toks + 2 + 1) I k3 hsz hu3 (fun v e => by cases e)
  dsimp only
  refine kxs_callWith (i := "ValueError.__init__") (x := a) rfl ?_
  refine PySem.Calls.evalArgs_plain ?_
  refine wpAny_mono (((pa_cons (X := cxE P w K mg base ["self", prm] qual scope fI cda cc A outer s H fun _ _ => False) (e := .Constant (.str txt) jj p3) (es := []) pe_str pa_nil).run p4 _ _ _ H (fun vs H' => vs = [.str txt] ∧ H' = H) J3 ⟨rfl, rfl⟩)) (fun vs s4 ⟨ws, H4, I4, r4, e4, e5⟩ => ?_) (fun _ _ z => False.elim z)
  subst e4
  have e5' := e5.symm
  subst e5'
  have hu4 : s4.heap.get? h2.objs.size = some (kxs_mw "ValueError.__init__" a) := ClX.pin_at I4
  have J4 := ClX.unpin I4
  refine ⟨hu4, ?_⟩
  obtain ⟨t4, ho4⟩ := exo_at J4.hok hea
  obtain ⟨hp4, g4, d4, tk4, os4⟩ := s4
  have hl4 : vs.length ≤ sizeLine := by
    rw [← r4.length]
    show 1 ≤ sizeLine
    rw [sizeLine_eq]
    omega
  obtain ⟨nm, q, N, bs, bm, sn, sub, ab, col, dd, k0, k1, k2', k3', k5, hC, hbm⟩ := T.cls.cls
  refine wpAny_call (codeAny_of_tree ?_)
  show wpAny _ _ (callAny (.ref h2.objs.size) ⟨vs, []⟩) _ _ _
  simp only [callAny]
  refine wpAny_bind (wpAny_load hu4 ?_)
  simp only [kxs_mw, show (Value.type "method-wrapper" == Value.type "method" || Value.type "method-wrapper" == Value.type "builtin_function_or_method" || Value.type "method-wrapper" == Value.type "method-wrapper") = true by decide, if_true]
  refine KFB.if_so (by decide) ?_
  refine wpAny_bind (check_bound_init F.excBase_ValueError.toExcCallFacts (J4.kIn _ _ hC) ho4 rfl ?_)
  refine wpAny_bind (wpAny_pure (wpAny_pure ?_))
  refine ⟨plainId_quiet F.excBase_ValueError.init.plain _, codeAny_builtin F.excBase_ValueError.initEntry ?_⟩
  refine exc_init_tree (cls := .ref C) (t0 := t4) (dv := none) (c2 := .none) (c3 := .none) (b4 := .bool false) ho4 hl4 fun h5 kk5 ho5 _ => ?_
  have J5 := J4.write (t' := tk4) (x := a) (e := a) (o := exo a C none) (by rw [hea]; exact True.intro) (.inl rfl) kk5 ⟨_, ho5⟩ (exo_ok ho5)
  have eu : upd H a (exo a C none) = H := by
    funext b
    by_cases hb : b = a
    · rw [hb, upd_same, hea]
    · rw [upd_ne hb]
  rw [eu] at J5
  dsimp only
  refine wpAt_of_wpAny (wpAny_mono ((pss_one (ps_ost (X := cxE P w K mg base ["self", prm] qual scope fI cda cc A outer s H fun _ _ => False) (pe_var (i := 0) rfl (.inl hnm.1)) (pe_var (i := 1) rfl (.inl hnm.2.1) hcdbg.1 hcdbg.2) (hpl2 _))).run [] _ _ H { nx := fun _ H' => Q .non H', rt := Q } J5 ⟨v, rfl, .ref a, rfl, a, C, rfl, T.cls, hno, .inl ⟨hea, fun dx n1 n2 => hq dx n1 n2⟩⟩) (fun fl s' hs => ?_) fun _ _ z => False.elim z)
  cases fl with
  | next =>
    obtain ⟨σ', H', J, q⟩ := hs
    exact ⟨.non, H', J.os, J.bare, J.base, J.hok, rfl, q⟩
  | ret u =>
    obtain ⟨v, σ', H', J, rv, q⟩ := hs
    exact ⟨v, H', J.os, J.bare, J.base, J.hok, rv, q⟩
  | brk =>
    obtain ⟨_, _, _, q⟩ := hs
    exact False.elim q
  | cont =>
    obtain ⟨_, _, _, q⟩ := hs
    exact False.elim q
end
end G
namespace L2
open PySem PySem.Spec PyProof.Rows
end L2
namespace G
open PySem PySem.Spec L2
/-- the module's name x is an own error at C; its one argument is its field fld -/
structure ErrC (P : Program) (w : World) (K : PySem.W.Frag) (mg : Str → Option Value) (base : Heap) (x : Str) (C : Addr) (fld : Str) : Prop where
  g : mg x = some (.ref C)
  cls : OexC K C
  init : ∃ fI fd prm, PySem.W.findIn K (.ref C) "__init__" = some (some (.ref fI)) ∧ PySem.W.typeIn K (.ref fI) = some (.type "function") ∧ FnOk P w K mg base CX0 1 fI fd ["self", prm] (spEI C fld) ∧ Binds K fd ["self", prm] []
/-- an exception's own dict, while it is held -/
def xdA (dx : Addr) (fs : List Str) (ds : List D) : At where
  M := fun a => a = dx
  R := fun K N H => ∃ kvs : List (Str × V), H dx = some (.xd kvs) ∧ kvs.map Prod.fst = fs ∧ IsAll K N H (kvs.map Prod.snd) ds
  loc := fun f g ⟨vs, h, e, i⟩ => ⟨vs, f _ _ rfl h, e, all_of g i⟩
  anti := fun q ⟨vs, h, e, i⟩ => ⟨vs, h, e, all_of (fun _ _ => is_anti q) i⟩
  grow := fun hp ⟨vs, h, e, i⟩ => ⟨vs, h, e, all_of (fun _ _ => is_growD hp) i⟩
  al := fun ⟨vs, h, _⟩ a z => ⟨.xd vs, by rw [show a = dx from z]; exact h⟩
end G
namespace G
open PySem PySem.Spec L2
open PyProof.Rows (envOfC)
section
variable {K : PySem.W.Frag} {r pre post : Rs} {H : Hp} {l : Addr} {t t' : At} {u u' : HO}
theorem mid_R (h : Rok K (pre ++ t :: post) H) : t.R K (mem (pre ++ t :: post)) H := (hold_append.mp h).2.1.1
end
/-- an instance of our own at a -/
def insA (a C : Addr) (fs : List Str) (ds : List D) : At where
  M := fun b => b = a
  R := fun K N H => Good K C fs ∧ ∃ (dx : Addr) (kvs : List (Str × V)), H a = some (.ins C dx kvs) ∧ kvs.map Prod.fst = fs ∧ IsAll K N H (kvs.map Prod.snd) ds
  loc := fun f g ⟨q, dx, vs, h, e, i⟩ => ⟨q, dx, vs, f _ _ rfl h, e, all_of g i⟩
  anti := fun q ⟨z, dx, vs, h, e, i⟩ => ⟨z, dx, vs, h, e, all_of (fun _ _ => is_anti q) i⟩
  grow := fun hp ⟨z, dx, vs, h, e, i⟩ => ⟨z, dx, vs, h, e, all_of (fun _ _ => is_growD hp) i⟩
  al := fun ⟨z, dx, vs, h, _⟩ b e => ⟨.ins C dx vs, by rw [show b = a from e]; exact h⟩
inductive isC (C : Addr) : D → Rs → Prop
  | fro {fs : List Str} {ds : List D} {r : Rs} : isC C (.ins C fs ds) r
  | own {a : Addr} {fs : List Str} {ds : List D} {r : Rs} (pre post : Rs) (e : r = pre ++ insA a C fs ds :: post) : isC C (.adr a) r
theorem isC_at {K : PySem.W.Frag} {C : Addr} {d : D} {r : Rs} {v : V} {H : Hp} (h : isC C d r) (ro : Rok K r H) (i : Is K (mem r) H v d) : ∃ a dx kvs, v = .ref a ∧ H a = some (.ins C dx kvs) ∧ Good K C (kvs.map Prod.fst) := by
  cases h with
  | fro =>
    cases i with
    | ins n s e g a => exact ⟨_, _, _, rfl, s, by rw [show List.map Prod.fst _ = _ from e]; exact g⟩
  | own pre post e =>
    cases i
    subst e
    obtain ⟨g, dx, kvs, s, e3, a⟩ := mid_R ro
    exact ⟨_, _, _, rfl, s, by rw [e3]; exact g⟩
theorem lookup_none : ∀ {kvs : List (Str × V)} {m : Str}, m ∉ kvs.map Prod.fst → kvs.lookup m = none
  | [], _, _ => rfl
  | (f, x) :: kvs, m, h => by
    have hb : (m == f) = false := beq_eq_false_iff_ne.mpr fun e => h (by rw [e]; exact List.mem_cons_self)
    rw [List.lookup, hb]
    exact lookup_none fun z => h (List.mem_cons_of_mem _ z)
theorem Meth.free {K : PySem.W.Frag} {C g : Addr} {m : Str} {kvs : List (Str × V)} (k : Meth K C m g) (q : Good K C (kvs.map Prod.fst)) : kvs.lookup m = none := lookup_none fun z => by
  have := (q.no m z).symm.trans k.at_
  cases this
end G
namespace PySem.W
open Sem (wp)
end PySem.W
namespace G
open PySem PySem.Spec L2
open PyProof.Rows (envOfC)
theorem tyC {K : PySem.W.Frag} {C : Addr} {d : D} {r : Rs} {v : V} {H : Hp} (h : isC C d r) (ro : Rok K r H) (i : Is K (mem r) H v d) : TyX K H v (.ref C) := by
  obtain ⟨a, dx, kvs, rfl, s, g⟩ := isC_at h ro i
  exact .base (.ins s g.cls g.p.kls g.p.get g.p.tak g.p.mro)
/-- what isinstance(.., C) finds at plain data -/
structure IsK (K : PySem.W.Frag) (C : Addr) : Prop where
  ic : PySem.W.isClsIn K C = true
  ty : PySem.W.typeIn K (.ref C) = some (.type "type")
  sub : ∀ n ∈ ks6, PySem.W.subIn K (.type n) (.ref C) = some false
theorem IsK.of {K : PySem.W.Frag} {C : Addr} (k : IsK K C) {t : Value} {b : Bool} (h : PySem.W.subIn K t (.ref C) = some b) (ne : t ≠ .ref C) : PySem.W.kitOne K t (.ref C) = some b := by
  unfold PySem.W.kitOne
  rw [if_neg (fun e => ne (beq_iff_eq.mp e))]
  have e : ((PySem.W.clsIn K C).isSome && PySem.W.typeIn K (.ref C) == some (.type "type")) = true := by
    have := k.ic
    unfold PySem.W.isClsIn at this
    rw [this, k.ty] <;> rfl
  show (if ((PySem.W.clsIn K C).isSome && PySem.W.typeIn K (.ref C) == some (.type "type")) = true then PySem.W.subIn K t (.ref C) else none) = some b
  rw [if_pos e]
  exact h
theorem IsK.no {K : PySem.W.Frag} {C : Addr} (k : IsK K C) : ∀ n ∈ ks6, PySem.W.kitOne K (.type n) (.ref C) = some false := fun n hn => k.of (k.sub n hn) (fun e => by cases e)
end G
namespace G
open PySem PySem.Spec L2
open PyProof.Rows (envOfC)
theorem fm_cons {α : Type} {p : α → Prop} {a : α} {l : List α} (h : p a) (t : ∀ x ∈ l, p x) : ∀ x ∈ a :: l, p x := fun x hx => by
  rcases List.mem_cons.mp hx with e | hx
  · rw [e]; exact h
  · exact t x hx
/-- .. and what they promise -/
def ClM (P : Program) (w : World) (K : PySem.W.Frag) (mg : Str → Option Value) (base : Heap) (k : Nat) (C : Addr) (m : Str) (sd : SpX) : Prop := ∃ f, Meth K C m f ∧ FR P w K mg base k f sd
end G
namespace G
open PySem PySem.Spec PySem.W L2 PyProof.Rows
theorem lookup_mem : ∀ {α : Type} {l : List (Str × α)} {x : Str} {k : α}, l.lookup x = some k → (x, k) ∈ l
  | _, [], x, k, h => by cases h
  | _, (y, j) :: l, x, k, h => by
    rw [List.lookup] at h
    split at h
    · rename_i e
      cases h
      rw [beq_iff_eq.mp e]
      exact List.mem_cons_self
    · exact List.mem_cons_of_mem _ (lookup_mem h)
def freeOk (q : Str × NameKind) : Bool := match q.2 with
  | .cell => false
  | .free => q.1 == "__class__"
  | _ => true
theorem free_of {l : List (Str × NameKind)} (h : l.all freeOk = true) : (∀ x, l.lookup x = some .cell ∨ l.lookup x = some .free → x = "__class__") ∧ ∀ x ∈ l, x.2 ≠ .cell := by
  refine ⟨fun x e => ?_, fun x hx e => ?_⟩
  · rcases e with e | e
    · have := List.all_eq_true.mp h _ (lookup_mem e)
      cases this
    · have := List.all_eq_true.mp h _ (lookup_mem e)
      exact beq_iff_eq.mp this
  · have := List.all_eq_true.mp h x hx
    unfold freeOk at this
    rw [e] at this
    cases this
/-- what an except clause and a read of the field ask, too -/
structure ErrX (P : Program) (w : World) (K : PySem.W.Frag) (mg : Str → Option Value) (base : Heap) (x : Str) (C : Addr) (fld : Str) : Prop where
  c : ErrC P w K mg base x C fld
  xf : XfC K C
  no : findIn K (.ref C) fld = some none
  hd : hasDictIn K C = true
  se : subIn K (.ref C) (.ref C) = some true
theorem errX_mk {P : Program} {w : World} {K : PySem.W.Frag} {h : Heap} {mg : Str → Option Value} {base : Heap} (X : K.In h) (G : h.Ns mainGlobals mg) {x fld prm qual : Str} {C fI cc cda N : Addr} {st : Stmt} {dV kV doc pm ct oc ccl cl : Value} {an od cdd cld : Option Addr} {osl ccs csl : Array (Option Value)} {vs0 : Array Value} {file : Str} {tf : Tok}
    {p0 p1 p2 p3 p4 p5 p6 p7 p8 p9 : Pos} {txt : Str} {jj : _} {nm q : Str} {bs bm : List Value} {sn : List Str} {sub : List Value} {ab : Bool} {col : Option Bool} {dd : Option Addr} {k0 k1 k2 k3 k5 : Option Value}
    (cg : nsIn K mainGlobals x = some (some (.ref C))) (xL : K.lookup C = some (excClassObj nm q C N bs bm true sn sub ab col dd k0 k1 k2 k3 k5 "ValueError.__new__"))
    (sa : findIn K (.ref C) "__setattr__" = some (some (.builtin "object.__setattr__"))) (exC : subIn K (.ref C) (.type "BaseException") = some true) (tyC : typeIn K (.ref C) = some (.type "type")) (kC : keepIn K (.ref C) = true)
    (i1 : findIn K (.ref C) "__init__" = some (some (.ref fI))) (i2 : typeIn K (.ref fI) = some (.type "function"))
    (mro : mroIn K C (.ref C) = some true) (sve : subIn K (.ref C) (.type "ValueError") = some true) (sup : ks_superIn K C C "__init__" = some (some (.builtin "ValueError.__init__"))) (opq : nsIn K cStatics "thirdparty.any" = some none) (zs : nsIn K mainGlobals "super" = some none)
    (lk : K.lookup fI = some ⟨oc, od, .func (ksFn "__init__" qual (defArgs st) (defBody st) (defScope st) dV kV doc pm an (.ref cda) ct cc), osl⟩)
    (hcd : codeIn K (.ref cda) qual = true) (hno : findIn K (.ref C) fld = some none)
    (hcode : K.lookup cda = some ⟨ccl, cdd, .fields vs0, ccs⟩) (hcell : K.lookup cc = some ⟨cl, cld, .cell (some (.ref C)), csl⟩)
    (ga : findIn K (.ref C) "__getattribute__" = some (some (.builtin "BaseException.__getattribute__"))) (gg : findIn K (.ref C) "__getattr__" = some none) (hd : hasDictIn K C = true) (se : subIn K (.ref C) (.ref C) = some true)
    (hbm : PySem.HandSPX.refsVE bm = true) (hvs : vs0[2]? = some (.str file tf)) (hfile : ((P.main.file : Str) == file) = true) (top : (P.main.scope.names.lookup ("super" : Str)).isSome = false)
    (hbody : defBody st = [.Expr (.Call (.Attribute (.Call (.Name "super" p0) [] [] p1) "__init__" p2) [.Constant (.str txt) jj p3] [] p4) p5, .Assign [.Attribute (.Name "self" p6) fld p7] (.Name prm p8) p9])
    (hp : ∃ ar : Arg, ((defArgs st).posonlyargs ++ (defArgs st).args).head? = some ar ∧ ar.arg = "self")
    (hnm : (defScope st).names.lookup ("self" : Str) = some .local ∧ (defScope st).names.lookup prm = some .local ∧ (defScope st).names.lookup ("super" : Str) = some .globalImplicit ∧ (defScope st).names.lookup ("__class__" : Str) = some .free)
    (hfree : (defScope st).names.all freeOk = true) (hsc : (defScope st).isCoroutine = false ∧ (defScope st).isGenerator = false ∧ (defScope st).kind = .function) (hps : ("self" : Str) ≠ prm) (hcdbg : (prm == ("__debug__" : Str)) = false ∧ (prm == ("__classdict__" : Str)) = false)
    (hin : ∀ L, interactive (ksEnv qual (defScope st) L fI (.ref cda) cc) = false)
    (hpl1 : ∀ L, swapsWith (.Call (.Attribute (.Call (.Name "super" p0) [] [] p1) "__init__" p2) [.Constant (.str txt) jj p3] [] p4) none p5.line (ksEnv qual (defScope st) L fI (.ref cda) cc) = pure false)
    (hev : ∀ L, ∃ pl : Sem Bool, eval (.Call (.Attribute (.Call (.Name "super" p0) [] [] p1) "__init__" p2) [.Constant (.str txt) jj p3] [] p4) (ksEnv qual (defScope st) L fI (.ref cda) cc) = (do
      let ov ← attributeBase (.Call (.Name "super" p0) [] [] p1) "__init__" (ksEnv qual (defScope st) L fI (.ref cda) cc) (eval (.Call (.Name "super" p0) [] [] p1) (ksEnv qual (defScope st) L fI (.ref cda) cc))
      standAt p2.atName
      let (f, first) ← holding [ov] (getMethod ov "__init__" pl)
      callWith p4 f first (backTo p4 (starEach [.Constant (.str txt) jj p3] (ksEnv qual (defScope st) L fI (.ref cda) cc))) []))
    (hpl2 : ∀ L, swapsWith (.Name prm p8) (some (.Attribute (.Name "self" p6) fld p7)) p9.line (ksEnv qual (defScope st) L fI (.ref cda) cc) = pure false)
    (bnd : ∀ us : List Value, us.length = 2 → bindArgs (ksFn "__init__" qual (defArgs st) (defBody st) (defScope st) dV kV doc pm an (.ref cda) ct cc) ⟨us, []⟩ = pure ((["self", prm] : List Str).zip us)) : ErrX P w K mg base x C fld := by
  have oc : OexC K C := ⟨⟨_, _, _, _, _, _, _, _, _, _, _, _, _, _, _, xL, hbm⟩, sa, exC, tyC, kC⟩
  have T : ErrK P K mg C := ⟨oc, mro, sve, sup, opq, mg_none_of X G zs, top⟩
  obtain ⟨f1, f2⟩ := free_of hfree
  obtain ⟨cd0, hD, _⟩ := any_some hd
  refine ⟨⟨mg_of X G cg, oc, fI, _, prm, i1, i2, ?_, .all bnd⟩, ⟨ga, gg, exC, hd⟩, hno, hd, se⟩
  rw [hbody] at lk ⊢
  exact exinit (j := 0) (cdv := .none) T lk hcd hD hno hcode hvs hfile hcell hp hnm f1 f2 hsc hps hcdbg hin hpl1 hev hpl2
end G
namespace G
open PySem PySem.Spec L2
theorem Okb.name {K : PySem.W.Frag} {r : Rs} {δ : Dl} {σ : L2.St} {H : Hp} (o : Okb K r δ σ H) {i : Nat} {d d' : D} (hi : δ[i]? = some (some d)) (h : ∀ v, Is K (mem r) H v d → Is K (mem r) H v d') : Okb K r (δ.set i (some d')) σ H := by
  refine ⟨fun j e he => ?_, o.r, by rw [List.length_set]; exact o.len⟩
  by_cases hj : j = i
  · subst hj
    have hl : j < δ.length := by
      have := (List.getElem?_eq_some_iff.mp he).1
      rwa [List.length_set] at this
    rw [List.getElem?_set_self hl] at he
    cases he
    obtain ⟨v, h1, h2⟩ := o.env j d hi
    exact ⟨v, h1, h v h2⟩
  · rw [List.getElem?_set_ne (Ne.symm hj)] at he
    exact o.env j e he
theorem hcc {K : PySem.W.Frag} {c : Value} {C : Addr} {b : Bool} {l : List (Addr × Bool)} (h : PySem.W.exmOne K (.ref C) c = some b) (t : ∀ p ∈ l, PySem.W.exmOne K (.ref p.1) c = some p.2) : ∀ p ∈ (C, b) :: l, PySem.W.exmOne K (.ref p.1) c = some p.2 := fm_cons h t
end G
namespace G
open PySem PySem.Spec L2
open PyProof.Rows (envOfC)
end G
namespace G
open PySem PySem.Spec L2
open PyProof.Rows (envOfC)
end G
namespace G
open PySem PySem.Spec L2
open PyProof.Rows (envOfC)
inductive IsKV (K : PySem.W.Frag) (M : Addr → Prop) (H : Hp) : List (Key × V) → List (Key × D) → Prop
  | nil : IsKV K M H [] []
  | cons {k : Key} {v : V} {d : D} {xs : List (Key × V)} {es : List (Key × D)} : Is K M H v d → IsKV K M H xs es → IsKV K M H ((k, v) :: xs) ((k, d) :: es)
def dGet (kvs : List (Key × D)) (k : Key) : Option D := (kvs.find? fun kv => decide (kv.1 = k)).map (·.2)
def dDrop (kvs : List (Key × D)) (k : Key) : List (Key × D) := kvs.filter fun kv => decide (kv.1 ≠ k)
def keyD : D → Option Key | .int i => some (.inl i) | .str z => some (.inr z) | _ => none
theorem dGet_pos {k : Key} {d : D} {r : List (Key × D)} : dGet ((k, d) :: r) k = some d := by simp [dGet]
theorem dGet_neg {k j : Key} {d : D} {r : List (Key × D)} (h : j ≠ k) : dGet ((j, d) :: r) k = dGet r k := by simp [dGet, List.find?_cons, h]
section
variable {K : PySem.W.Frag} {N N' : Addr → Prop} {H H' : Hp}
theorem IsKV.go (f : ∀ v d, Is K N H v d → Is K N' H' v d) : ∀ {xs : List (Key × V)} {es : List (Key × D)}, IsKV K N H xs es → IsKV K N' H' xs es
  | _, _, .nil => .nil
  | _, _, .cons h t => .cons (f _ _ h) (IsKV.go f t)
theorem IsKV.length : ∀ {xs : List (Key × V)} {es : List (Key × D)}, IsKV K N H xs es → xs.length = es.length
  | _, _, .nil => rfl
  | _, _, .cons _ t => by rw [List.length_cons, List.length_cons, IsKV.length t]
theorem IsKV.any (k : Key) : ∀ {xs : List (Key × V)} {es : List (Key × D)}, IsKV K N H xs es → (xs.any fun kv => decide (kv.1 = k)) = es.any fun kv => decide (kv.1 = k)
  | _, _, .nil => rfl
  | _, _, .cons _ t => by rw [List.any_cons, List.any_cons, IsKV.any k t]
theorem IsKV.get (k : Key) : ∀ {xs : List (Key × V)} {es : List (Key × D)}, IsKV K N H xs es → match dGet es k with | some d => ∃ v, valV xs k = some v ∧ Is K N H v d | none => valV xs k = none
  | _, _, .nil => rfl
  | _, _, .cons (k := j) (v := v) (d := d) h t => by
    by_cases e : j = k
    · subst e
      rw [dGet_pos]
      exact ⟨v, valV_pos rfl, h⟩
    · rw [dGet_neg e, valV_neg e]
      exact IsKV.get k t
theorem IsKV.drop (k : Key) : ∀ {xs : List (Key × V)} {es : List (Key × D)}, IsKV K N H xs es → IsKV K N H (dropK xs k) (dDrop es k)
  | _, _, .nil => .nil
  | _, _, .cons (k := j) h t => by
    unfold dropK dDrop
    rw [List.filter_cons, List.filter_cons]
    have ih := IsKV.drop k t
    unfold dropK dDrop at ih
    by_cases e : j = k
    · rw [if_neg (by simp [e]), if_neg (by simp [e])]
      exact ih
    · rw [if_pos (by simp [e]), if_pos (by simp [e])]
      exact .cons h ih
theorem IsKV.of_zip : ∀ {xs : List (Key × V)} {ds : List D}, IsAll K N H (xs.map (·.2)) ds → IsKV K N H xs ((xs.map (·.1)).zip ds)
  | [], ds, h => by cases h; exact .nil
  | (k, v) :: xs, _, .cons h t => .cons h (IsKV.of_zip t)
end
def dctA (a : Addr) (kvs : List (Key × D)) : At where
  M := fun b => b = a
  R := fun K N H => ∃ xs : List (Key × V), H a = some (.dK xs) ∧ IsKV K N H xs kvs
  loc := fun f g ⟨xs, h, i⟩ => ⟨xs, f _ _ rfl h, i.go g⟩
  anti := fun e ⟨xs, h, i⟩ => ⟨xs, h, i.go fun _ _ => is_anti e⟩
  grow := fun hp ⟨xs, h, i⟩ => ⟨xs, h, i.go fun _ _ => is_growD hp⟩
  al := fun ⟨xs, h, _⟩ b z => ⟨.dK xs, by rw [show b = a from z]; exact h⟩
/-- a dict of our own that is locked while something walks over it -/
def lckA (a : Addr) (od : Obj) (xs : List (Key × V)) (kvs : List (Key × D)) : At where
  M := fun b => b = a
  R := fun K N H => H a = some (.frz od (.dK xs)) ∧ IsKV K N H xs kvs
  loc := fun f g ⟨h, i⟩ => ⟨f _ _ rfl h, i.go g⟩
  anti := fun e ⟨h, i⟩ => ⟨h, i.go fun _ _ => is_anti e⟩
  grow := fun hp ⟨h, i⟩ => ⟨h, i.go fun _ _ => is_growD hp⟩
  al := fun ⟨h, _⟩ b z => ⟨.frz od (.dK xs), by rw [show b = a from z]; exact h⟩
def OwnLk (r : Rs) (a : Addr) (kvs : List (Key × D)) : Prop := ∃ pre post od xs, r = pre ++ lckA a od xs kvs :: post
def OwnD (r : Rs) (a : Addr) (kvs : List (Key × D)) : Prop := ∃ pre post, r = pre ++ dctA a kvs :: post
section
variable {K : PySem.W.Frag} {r pre post : Rs} {H : Hp} {a p : Addr} {kvs es : List (Key × D)} {xs ys : List (Key × V)}
theorem dct_at (h : Rok K r H) (o : OwnD r a kvs) : ∃ xs, H a = some (.dK xs) ∧ IsKV K (mem r) H xs kvs := by
  obtain ⟨pre, post, rfl⟩ := o
  exact mid_R h
theorem lck_at (h : Rok K r H) (o : OwnLk r a kvs) : ∃ xs, Rd H a (.dK xs) ∧ IsKV K (mem r) H xs kvs := by
  obtain ⟨pre, post, od, xs, rfl⟩ := o
  obtain ⟨e, i⟩ := mid_R h
  exact ⟨xs, .inr ⟨od, e⟩, i⟩
end
inductive oDGet (r : Rs) : D → D → (Option D → Prop) → Prop
  | own {a : Addr} {kvs : List (Key × D)} {y : D} {key : Key} {k : Option D → Prop} (ow : OwnD r a kvs) (hk : keyD y = some key) (p : k (dGet kvs key)) : oDGet r (.adr a) y k
  | lck {a : Addr} {kvs : List (Key × D)} {y : D} {key : Key} {k : Option D → Prop} (ow : OwnLk r a kvs) (hk : keyD y = some key) (p : k (dGet kvs key)) : oDGet r (.adr a) y k
  | fro {ks : List Key} {ds : List D} {y : D} {key : Key} {k : Option D → Prop} (hk : keyD y = some key) (p : k (dGet (ks.zip ds) key)) : oDGet r (.dct ks ds) y k
theorem oDGet.imp {r : Rs} {d y : D} {k k' : Option D → Prop} (h : oDGet r d y k) (f : ∀ o, k o → k' o) : oDGet r d y k' := by
  cases h with
  | own ow hk p => exact .own ow hk (f _ p)
  | lck ow hk p => exact .lck ow hk (f _ p)
  | fro hk p => exact .fro hk (f _ p)
end G
namespace G
open PySem PySem.Spec L2
open PyProof.Rows (envOfC Call_ Subscript_)
end G
namespace G
open PySem PySem.Spec L2
open PyProof.Rows (envOfC)
end G
namespace G
open PySem PySem.Spec L2
open PyProof.Rows (envOfC)
end G
namespace G
open PySem PySem.Spec L2
open PyProof.Rows (envOfC)
end G
namespace G
open PySem PySem.Spec L2
open PyProof.Rows (envOfC)
end G
namespace G
open PySem PySem.Spec L2
end G
namespace G
open PySem PySem.Spec L2
end G
namespace G
open PySem PySem.Spec L2
end G
namespace G
open PySem PySem.Spec L2
end G
namespace G
open PySem
end G
namespace G
open PySem PySem.Spec L2
open PyProof.Rows (envOfC)
end G
namespace G
open PySem PySem.Spec L2
open PyProof.Rows (envOfC)
end G
namespace G
open PySem PySem.Spec L2
open PyProof.Rows (envOfC)
end G
namespace G
open PySem PySem.Spec L2
open PyProof.Rows (envOfC)
end G
namespace G
open PySem PySem.Spec L2
open PyProof.Rows (envOfC)
end G
namespace G
open PySem PySem.Spec L2
open PyProof.Rows (envOfC)
end G
namespace G
open PySem PySem.Spec L2
open PyProof.Rows (envOfC)
end G
namespace G
open PySem PySem.Spec L2
open PyProof.Rows (envOfC)
end G
namespace G
open PySem PySem.Spec L2
open PyProof.Rows (envOfC)
end G
namespace G
open PySem PySem.Spec L2
open PyProof.Rows (envOfC)
end G
namespace G
open PySem PySem.Spec L2
open PyProof.Rows (envOfC)
end G
namespace G
open PySem PySem.Spec L2
open PyProof.Rows (envOfC)
end G
namespace G
open PySem PySem.Spec L2
open PyProof.Rows (envOfC)
end G
namespace G
open PySem PySem.Spec L2 PyProof.Rows
end G
namespace G
open PySem PySem.Spec L2 PyProof.Rows
end G
namespace G
open PySem PySem.Spec L2
open PyProof.Rows (envOfC)
end G
namespace G
open PySem PySem.Spec L2 PyProof.Rows
end G
namespace G
open PySem PySem.Spec L2
def DctV (r : Rs) (d : D) (kvs : List (Key × D)) : Prop := (∃ a, d = .adr a ∧ (OwnD r a kvs ∨ OwnLk r a kvs)) ∨ d = .dct (kvs.map (·.1)) (kvs.map (·.2))
theorem zip_unz : ∀ (kvs : List (Key × D)), (kvs.map (·.1)).zip (kvs.map (·.2)) = kvs
  | [] => rfl
  | (a, b) :: l => by rw [List.map_cons, List.map_cons, List.zip_cons_cons, zip_unz l]
theorem oDGet.of {r : Rs} {d y : D} {kvs : List (Key × D)} {key : Key} {k : Option D → Prop} (h : DctV r d kvs) (hk : keyD y = some key) (p : k (dGet kvs key)) : oDGet r d y k := by
  rcases h with ⟨a, rfl, ow | ow⟩ | rfl
  · exact .own ow hk p
  · exact .lck ow hk p
  · exact .fro hk (by rw [zip_unz]; exact p)
theorem DctV.at_ {K : PySem.W.Frag} {r : Rs} {H : Hp} {d : D} {v : V} {kvs : List (Key × D)} (h : DctV r d kvs) (ro : Rok K r H) (i : Is K (mem r) H v d) : ∃ a xs, v = .ref a ∧ Rd H a (.dK xs) ∧ IsKV K (mem r) H xs kvs := by
  rcases h with ⟨a, rfl, ow | ow⟩ | rfl
  · cases i
    obtain ⟨xs, e1, e2⟩ := dct_at ro ow
    exact ⟨a, xs, rfl, .inl e1, e2⟩
  · cases i
    obtain ⟨xs, e1, e2⟩ := lck_at ro ow
    exact ⟨a, xs, rfl, e1, e2⟩
  · cases i with
    | dct n h e a =>
      have := IsKV.of_zip a
      rw [e, zip_unz] at this
      exact ⟨_, _, rfl, .inl h, this⟩
end G
namespace GB
open PySem PySem.Spec PySem.W PyProof.Rows
/-- t looks the names up in the dict at D, one behind another, and goes on as r -/
def KwTo {α : Type} (D : Addr) : List (Str × Value) → Sem α → Sem α → Prop
  | [], t, r => t = r
  | q :: l, t, r => ∃ (β γ : Type) (k1 : Option Value → Sem β) (k2 : β → Sem γ) (k3 : γ → Sem α) (a : β), t = ((nsGet D q.1 >>= k1) >>= k2) >>= k3 ∧ k1 (some q.2) = pure a ∧ KwTo D l (k2 a >>= k3) r
theorem KwTo.run {α : Type} {K : Frag} {M : Model} {A : Around} {D : Addr} {E : Value → Shared → Prop} {s : Shared} {Q : α → Shared → Prop} (X : K.In s.heap) : ∀ {l : List (Str × Value)} {t r : Sem α}, (∀ q ∈ l, nsIn K D q.1 = some (some q.2)) → KwTo D l t r → wpAny M A r Q E s → wpAny M A t Q E s
  | [], t, r, _, e, h => by rw [show t = r from e]; exact h
  | q :: l, t, r, hl, e, h => by
    obtain ⟨β, γ, k1, k2, k3, a, e1, e2, e3⟩ := e
    have ih := KwTo.run X (fun p hp => hl p (List.mem_cons_of_mem _ hp)) e3 h
    have L : Looks M s.heap (nsGet D q.1 >>= k1) a := (looks_nsIn X (hl q List.mem_cons_self)).andThen (Looks.of_pure e2)
    rw [e1, bind_assoc]
    exact wpAny_bind (L.here ih)
end GB
namespace G
open PySem PySem.Spec L2
open PyProof.Rows (envOfC)
end G
namespace G
open PySem PySem.Spec L2
open PyProof.Rows (envOfC)
end G
namespace G
open PySem PySem.Spec L2 PyProof.Rows
end G
namespace G
open PySem PySem.Spec L2
def sm (l : List (Str × Str)) : List (Key × D) := l.map fun e => (.inr e.1, .str e.2)
inductive SeqV (r : Rs) : D → List D → Prop
  | lst (xs : List D) : SeqV r (.lst xs) xs
  | tup (xs : List D) : SeqV r (.tup xs) xs
  | own {l : Addr} {xs : List D} (h : Own r l xs) : SeqV r (.adr l) xs
theorem SeqV.at_ {K : PySem.W.Frag} {r : Rs} {H : Hp} {d : D} {v : V} {xs : List D} (h : SeqV r d xs) (ro : Rok K r H) (i : Is K (mem r) H v d) : ∃ a vs, v = .ref a ∧ (SqT K H a vs ∨ SqL K H a vs) ∧ IsAll K (mem r) H vs xs := by
  cases h with
  | lst => cases i with | lst n s al => exact ⟨_, _, rfl, .inr (SqL.of s), al⟩
  | tup => cases i with | tup s al => exact ⟨_, _, rfl, .inl s, al⟩
  | own ow =>
    cases i
    obtain ⟨vs, h, al⟩ := own_get ro ow
    exact ⟨_, vs, rfl, .inr (SqL.of h), al⟩
end G
namespace G
open PySem PySem.Spec L2
end G
namespace G
open PySem PySem.Spec L2
theorem app_mem {α : Type} {x : α} {l : List α} (h : x ∈ l) : ∃ pre post, l = pre ++ x :: post := List.append_of_mem h
end G
namespace G
open PySem PySem.Spec L2
theorem DctV.mono {r r' : Rs} {d : D} {kvs : List (Key × D)} (h : DctV r d kvs) (m : ∀ t, t ∈ r → t ∈ r') : DctV r' d kvs := by
  rcases h with ⟨a, e, ⟨pre, post, er⟩ | ⟨pre, post, od, xs, er⟩⟩ | e
  · obtain ⟨p2, q2, e2⟩ := app_mem (m _ (by rw [er]; exact List.mem_append.mpr (.inr List.mem_cons_self)))
    exact .inl ⟨a, e, .inl ⟨p2, q2, e2⟩⟩
  · obtain ⟨p2, q2, e2⟩ := app_mem (m _ (by rw [er]; exact List.mem_append.mpr (.inr List.mem_cons_self)))
    exact .inl ⟨a, e, .inr ⟨p2, q2, od, xs, e2⟩⟩
  · exact .inr e
theorem DctV.own {r : Rs} {a : Addr} {kvs : List (Key × D)} (h : dctA a kvs ∈ r) : DctV r (.adr a) kvs := by
  obtain ⟨p2, q2, e2⟩ := app_mem h
  exact .inl ⟨a, rfl, .inl ⟨p2, q2, e2⟩⟩
inductive SetV (F : Str) (CS : Addr) (r : Rs) : D → List (Str × Str) → Prop
  | fro (l : List (Str × Str)) : SetV F CS r (.ins CS [F] [.dct ((sm l).map (·.1)) ((sm l).map (·.2))]) l
  | own {a c : Addr} {l : List (Str × Str)} (h1 : insA a CS [F] [.adr c] ∈ r) (h2 : dctA c (sm l) ∈ r) : SetV F CS r (.adr a) l
section
variable {F : Str} {CS : Addr} {r r' : Rs} {d : D} {l : List (Str × Str)} {P : PK1}
theorem SetV.mono (h : SetV F CS r d l) (m : ∀ t, t ∈ r → t ∈ r') : SetV F CS r' d l := by
  cases h with
  | fro => exact .fro l
  | own h1 h2 => exact .own (m _ h1) (m _ h2)
end
end G
namespace G
open PySem PySem.Spec L2
end G
namespace G
open PySem PySem.Spec L2
end G
namespace G
open PySem PySem.Spec L2
end G
namespace G
open PySem PySem.Spec L2
end G
namespace G
open PySem PySem.Spec L2
end G
namespace G
open PySem PySem.Spec L2
end G
namespace G
open PySem PySem.Spec L2
end G
namespace G
open PySem PySem.Spec L2
end G
namespace G
open PySem PySem.Spec L2
end G
namespace G
open PySem PySem.Spec L2
open PyProof.Rows (envOfC)
end G
namespace G
open PySem PySem.Spec L2
end G
namespace G
open PySem PySem.Spec L2
open PyProof.Rows (envOfC)
def ClMD (P : Program) (w : World) (K : PySem.W.Frag) (mg : Str → Option Value) (base : Heap) (k : Nat) (C : Addr) (m : Str) (dd : List D) (sd : SpX) : Prop := ∃ f, Meth K C m f ∧ ∀ j, j ≤ dd.length → FR P w K mg base k f (fun ds r P XR => sd (ds ++ dd.drop j) r P XR)
section
variable {P : Program} {w : World} {K : PySem.W.Frag} {mg : Str → Option Value} {base : Heap} {C : Addr} {m qual : Str} {st : Stmt} {N ps : List Str} {dd : List D} {k j : Nat} {sd : SpX}
/-- called with all but the last dd.length - j values -/
theorem ClMD.at_ (h : ClMD P w K mg base k C m dd sd) (j : Nat) (hj : j ≤ dd.length) : ClM P w K mg base k C m (fun ds r P XR => sd (ds ++ dd.drop j) r P XR) := by
  obtain ⟨f, M, F⟩ := h
  exact ⟨f, M, F j hj⟩
end
end G
namespace G
open PySem PySem.Spec L2
open PyProof.Rows (envOfC)
end G
namespace G
open PySem PySem.Spec L2
open PyProof.Rows (envOfC)
end G
namespace G
open PySem PySem.Spec L2
open PyProof.Rows (envOfC)
end G
namespace G
open PySem PySem.Spec L2
open PyProof.Rows (envOfC)
mutual
/-- flat things and tuples of such -/
def tt : D → Bool
  | .non => true | .bl _ => true | .int _ => true | .str _ => true | .adr _ => false | .lst _ => false | .tup ds => tts ds | .ins _ _ _ => false | .dct _ _ => false
def tts : List D → Bool
  | [] => true
  | d :: ds => tt d && tts ds
end
end G
namespace G
open PySem PySem.Spec L2
section
variable {prog : PySem.Program} {w : PySem.World} {K : Type} [DecidableEq K] {knd : PySem.KeyKind prog w K} {A : Around} {E : Value → Shared → Prop} {s : Shared}
theorem Paired.len {α β : Type} {R : α → β → Prop} {xs : List α} {ys : List β} (h : Paired R xs ys) : xs.length = ys.length := by
  induction h with
  | nil => rfl
  | cons _ _ ih => rw [List.length_cons, List.length_cons, ih]
end
end G
namespace G
open PySem PySem.Spec L2
end G
namespace G
open PySem PySem.Spec L2
end G
namespace G
open PySem PySem.Spec L2
end G
namespace PySem.W
open PySem PySem.Spec PySem.Calls PyProof.Rows
section
variable {prog : Program} {w : World} {A : Around} {E : Value → Shared → Prop} {s : Shared} {K : Frag} {x D : Addr} {ox : Obj} {od : Option Obj}
theorem gx_findObj {C : Addr} {name : Str} {a g : Value} {od : Option Obj} (hc : (clsIn K C).isSome = true) (ha : findIn K (.ref C) name = some (some a)) (hg : specialIn K a "__get__" = some (some g)) (ht : takesIn K a = some true) : findObj K C od name = some (.bind g a) := by
  obtain ⟨cd, hc⟩ := Option.isSome_iff_exists.mp hc
  unfold findObj
  rw [hc, Option.bind_some, ha, Option.bind_some]
  simp [hg, ht]
theorem gx_classE {Q : Option Value → Shared → Prop} (hga : findIn K (.ref D) "__getattribute__" = some (some (.builtin "BaseException.__getattribute__"))) (hgt : findIn K (.ref D) "__getattr__" = some none) (hsub : subIn K (.ref D) (.type "BaseException") = some true)
    (hdct : hasDictIn K D = true) (ha : findIn K (.ref D) "__class__" = some (some (.builtin "object.__class__")))
    (hn : specialIn K (.builtin "object.__class__") "__get__" = some (some (.builtin "getset_descriptor.__get__"))) (htk : takesIn K (.builtin "object.__class__") = some true) (hm : mroIn K D (.type "object") = some true)
    (X : K.In s.heap) (I : InstAt s.heap x ox D od) (h : Q (some (.ref D)) { s with toks := s.toks + 1 }) : wpAny (model prog w) A (getAttr? (.ref x) "__class__") Q E s := by
  have hf : findObj K D od "__class__" = some (.bind (.builtin "getset_descriptor.__get__") (.builtin "object.__class__")) := gx_findObj (by obtain ⟨cd, hc, _⟩ := any_some hdct; rw [hc]; rfl) ha hn htk
  obtain ⟨hp, g, d, t, os⟩ := s
  have L0 := I.type (M := model prog w)
  have L1 := looks_findIn (M := model prog w) X hga
  have L2 := looks_findIn (M := model prog w) X hgt
  have L3 := looks_find (M := model prog w) X I hf
  have sub : Looks (model prog w) hp (isInstance (.ref x) (.type "BaseException")) true := L0.andThen (looks_subIn X hsub)
  have hx0 : (false && onTheHeap (Value.builtin "BaseException.__getattribute__")) = false := rfl
  have hx2 : (Value.builtin "BaseException.__getattribute__" == Value.builtin "object.__getattribute__") = false := by decide +kernel
  have hx1 : (onTheHeap (Value.ref D) && Value.builtin "BaseException.__getattribute__" == Value.builtin "object.__getattribute__") = false := by rw [hx2]; rfl
  unfold getAttr? getAttrBy? getAttrBy
  refine wpAny_bind (wpAny_mkText (wpAny_bind (wpAny_attempt (wpAny_holding (wpAny_bind (L0.at (wpAny_bind (L1.at ?_))))))))
  show wpAny _ _ (if (onTheHeap (Value.ref D) && Value.builtin "BaseException.__getattribute__" == Value.builtin "object.__getattribute__") = true then _ else _) _ _ _
  rw [hx1, if_neg Bool.false_ne_true]
  unfold getAttrByItsOwn hookBefore
  refine wpAny_bind ?_
  rw [if_pos (show onTheHeap (Value.ref D) = true from rfl)]
  refine L2.at ?_
  refine wpAny_bind (wpAny_attempt (wpAny_holding ?_))
  unfold callGetattribute
  rw [hx0, if_neg Bool.false_ne_true]
  unfold boundAndCalled
  rw [PySem.F.excAttr_ValueError.ga.bind (.ref x)]
  refine wpAny_bind (wpAny_pure ?_)
  show wpAny _ _ (call (.builtin "BaseException.__getattribute__") [.ref x, .str "__class__" t]) _ _ _
  refine wpAny_call (codeAny_call_builtin PySem.F.excAttr_ValueError.ga.plain PySem.F.entry_bexc_ga ?_)
  refine @check_slot (model prog w) _ _ ⟨hp, g, d, t + 1, os⟩ "BaseException.__getattribute__" "BaseException" "__getattribute__" (.ref x) [.str "__class__" t] [] _ (by decide +kernel) (by decide +kernel) sub (PySem.F.args_bexc_ga (.ref x) (.str "__class__" t)) ?_
  unfold Builtin.«object.__getattribute__»
  refine wpAny_bind (wpAny_of_eq (a := ((Value.ref x : Value), [Value.str "__class__" t])) (by first | rfl | (simp only [slotArgs]; rfl)) ?_)
  refine wpAny_bind (wpAny_pure (wpAny_bind (L0.at (wpAny_bind (L3.at ?_)))))
  show wpAny _ _ (holding [Value.builtin "object.__class__"] (call (.builtin "getset_descriptor.__get__") [.builtin "object.__class__", .ref x, .ref D]) >>= ret) _ _ _
  refine wpAny_bind (wpAny_holding (wpAny_call (class_get (s := ⟨hp, g, d, t + 1, os⟩) (ox := ox) (od := od) X I hm ?_)))
  refine wpAny_pure ?_
  show wpAny _ _ (handedOut (.ref D)) _ _ _
  rw [handedOut_of (v := .ref D) rfl]
  first
    | exact wpAny_pure (wpAny_pure h)
    | exact wpAny_pure h
    | exact wpAny_pure (wpAny_bind (wpAny_pure (wpAny_pure h)))
theorem gx_kitx (hga : findIn K (.ref D) "__getattribute__" = some (some (.builtin "BaseException.__getattribute__"))) (hgt : findIn K (.ref D) "__getattr__" = some none) (hsub : subIn K (.ref D) (.type "BaseException") = some true) (hdct : hasDictIn K D = true) (ha : findIn K (.ref D) "__class__" = some (some (.builtin "object.__class__")))
    (hn : specialIn K (.builtin "object.__class__") "__get__" = some (some (.builtin "getset_descriptor.__get__"))) (htk : takesIn K (.builtin "object.__class__") = some true) (hm : mroIn K D (.type "object") = some true) :
    KitX K (.ref x) (.ref D) (fun h => InstAt h x ox D od) where
  ty := fun _ _ _ I => I.type
  it := fun _ _ X _ => by
    obtain ⟨cdD, hcD, _⟩ := any_some hdct
    unfold clsIn at hcD
    split at hcD
    · rename_i c' d' cd' sl' ho
      intro A' Q' E' s' k q
      unfold isType loadHead
      exact wpAny_bind (wpAny_loadPart (k _ _ (X _ _ ho)) (wpAny_pure q))
    · cases hcD
  ne := fun h tp dd its n sl X htp => by
    obtain ⟨cdD, hcD, _⟩ := any_some hdct
    refine Bool.eq_false_iff.mpr fun q => ?_
    have e : D = tp := Value.ref.inj (beq_iff_eq.mp q)
    subst e
    unfold clsIn at hcD
    split at hcD
    · rename_i c' d' cd' sl' ho
      have z := (X _ _ ho).symm.trans htp
      cases z
    · cases hcD
  ca := fun X I k => gx_classE hga hgt hsub hdct ha hn htk hm X I k
end
end PySem.W
namespace L2
open PySem PySem.Spec PyProof.Rows
/-- an exception class may be named by kitOne -/
theorem kit_exc {K : PySem.W.Frag} {D C : Addr} {b : Bool} (hd : PySem.W.hasDictIn K C = true) (ht : PySem.W.typeIn K (.ref C) = some (.type "type")) (h : PySem.W.subIn K (.ref D) (.ref C) = some b) (hs : D = C → b = true) : PySem.W.kitOne K (.ref D) (.ref C) = some b := by
  unfold PySem.W.kitOne
  split
  · rename_i e
    have e := beq_iff_eq.mp e
    rw [hs (by cases e; rfl)]
  · obtain ⟨cd, hc, _⟩ := PySem.W.any_some hd
    have e : ((PySem.W.clsIn K C).isSome && PySem.W.typeIn K (.ref C) == some (.type "type")) = true := by rw [hc, ht] <;> rfl
    show (if ((PySem.W.clsIn K C).isSome && PySem.W.typeIn K (.ref C) == some (.type "type")) = true then PySem.W.subIn K (.ref D) (.ref C) else none) = some b
    rw [if_pos e]
    exact h
end L2
namespace G
open PySem PySem.Spec L2
/-- the exception's own dict is still told -/
def Hld (d : Option Addr) (r : Rs) : Prop := ∀ dx, d = some dx → ∃ fs ds pre post, r = pre ++ xdA dx fs ds :: post
theorem Hld.at_ {K : PySem.W.Frag} {d : Option Addr} {r : Rs} {H : Hp} (h : Hld d r) (o : Rok K r H) : ∀ dx, d = some dx → ∃ fs, H dx = some (.xd fs) := fun dx e => by
  obtain ⟨fs, ds, pre, post, rfl⟩ := h dx e
  obtain ⟨_, ⟨⟨kvs, h1, _, _⟩, _, _⟩, _⟩ := hold_append.mp (show hold K _ (pre ++ (xdA dx fs ds :: post)) H from o)
  exact ⟨kvs, h1⟩
end G
namespace G
open PySem PySem.Spec PyProof.Rows L2 LamX NdefX
end G
namespace G
open PySem PySem.Spec PyProof.Rows L2 LamX NdefX
end G
namespace G
open PySem PySem.Spec L2
end G
namespace G
open PySem PySem.Spec L2
open PyProof.Rows (envOfC)
def TabsAt (T : List (Addr × Str)) (H : Hp) : Prop := (T.map (·.1)).Nodup ∧ ∀ e ∈ T, H e.1 = some (.tbl #[])
theorem TabsAt.fresh {T : List (Addr × Str)} {H : Hp} {p : Addr} (h : TabsAt T H) (hp : H p = none) : p ∉ T.map (·.1) := fun z => by
  obtain ⟨e, he, rfl⟩ := List.mem_map.mp z
  rw [h.2 e he] at hp
  cases hp
end G
namespace G
open PySem PySem.Spec L2
end G
namespace G
open PySem PySem.Spec L2
end G
namespace G
open PySem PySem.Spec L2
/-- an exception at a of the class at C with its dict at dx, one field -/
def exA (a C dx : Addr) (fld : Str) (d : D) : At where
  M := fun b => b = a ∨ b = dx
  R := fun K N H => ∃ v, H a = some (exo a C (some dx)) ∧ H dx = some (exd dx [(fld, v)]) ∧ Is K N H v d
  loc := fun f g ⟨v, h1, h2, i⟩ => ⟨v, f _ _ (.inl rfl) h1, f _ _ (.inr rfl) h2, g _ _ i⟩
  anti := fun q ⟨v, h1, h2, i⟩ => ⟨v, h1, h2, is_anti q i⟩
  grow := fun hp ⟨v, h1, h2, i⟩ => ⟨v, h1, h2, is_growD hp i⟩
  al := fun ⟨v, h1, h2, _⟩ b z => z.elim (fun e => ⟨exo a C (some dx), e.symm ▸ h1⟩) fun e => ⟨exd dx [(fld, v)], e.symm ▸ h2⟩
/-- one without a field -/
def ex0A (a C : Addr) : At where
  M := fun b => b = a
  R := fun K N H => H a = some (exo a C none)
  loc := fun f g h => f _ _ rfl h
  anti := fun q h => h
  grow := fun hp h => h
  al := fun h b z => ⟨exo a C none, (show b = a from z).symm ▸ h⟩
def tMkE (C : Addr) (sp : Sp) (dvs : List V) (ta : TA) : TE := fun σ H Q => ta σ H fun vs H1 => vs.length ≤ 1000 ∧ ∀ a, H1 a = none → sp (.ref a :: (vs ++ dvs)) (upd H1 a (exo a C none)) (fun v H2 => v = .non ∧ Q (.ref a) H2) fun _ _ _ => False
section
variable {X : Cx} {CX : CXT} {x : Str} {C fI : Addr} {k : Nat} {fd : FuncData} {ps : List Str} {sp : Sp} {ds : List Value} {dvs : List V} {p pos : Pos} {e : Expr} {es : List Expr} {ta : TA}
theorem run_mkE {pins : List (Addr × Obj)} {σ : St} {H1 : Hp} {s1 : Shared} {Q : VK} {us : List Value} {vs : List V} (T : OexC X.K C) (iC : PySem.W.findIn X.K (.ref C) "__init__" = some (some (.ref fI))) (tI : PySem.W.typeIn X.K (.ref fI) = some (.type "function"))
    (F1 : FnOk X.prog X.w X.K X.mg X.base CX k fI fd ps sp) (hr : Room (k + 1) X.A) (hb : Binds X.K fd ps ds) (hd : Vals dvs ds) (hx : Passes CX X fun _ _ _ => False) (I1 : Inv X pins σ H1 s1) (r1 : Vals vs us) (hz : vs.length ≤ 1000)
    (q1 : ∀ a, H1 a = none → sp (.ref a :: (vs ++ dvs)) (upd H1 a (exo a C none)) (fun v H2 => v = .non ∧ Q (.ref a) H2) fun _ _ _ => False) : wpAny (model X.prog X.w) X.A (call (.ref C) us) (EP X pins σ Q) X.xe s1 := by
  obtain ⟨nm, q, N, bs, bm, sn, sub, ab, col, dd, k0, k1, k2, k3, k5, hC, hbm⟩ := T.cls
  obtain ⟨hp, g, dr, tk, os⟩ := s1
  have hsz : hp.objs.size ≤ hp.objs.size + 1 := Nat.le_succ _
  have hq := q1 (hp.objs.size + 1) (I1.hok.fresh hsz)
  have hget : ((hp.push (PySem.W.kdv_tup us)).push (PySem.HandSPX.excO C hp.objs.size)).get? (hp.objs.size + 1) = some (PySem.HandSPX.excO C hp.objs.size) := by heap_get
  have I2 := I1.laid (t' := tk) (a := hp.objs.size + 1) (o := exo (hp.objs.size + 1) C none) (h' := (hp.push (PySem.W.kdv_tup us)).push (PySem.HandSPX.excO C hp.objs.size)) (fun b o e => Heap.get?_push_of_some _ (Heap.get?_push_of_some _ e)) hsz (exo_ok hget)
  have r2 : Vals (V.ref (hp.objs.size + 1) :: (vs ++ dvs)) (Value.ref (hp.objs.size + 1) :: (us ++ ds)) := .cons rfl (r1.append hd)
  have hl : (Value.ref (hp.objs.size + 1) :: us ++ ds).length = ps.length := by
    have e := r2.length
    rw [F1.len _ _ _ _ hq] at e
    exact e.symm
  have hus : us.length ≤ sizeLine := by
    rw [← Paired.length r1, sizeLine_eq]
    omega
  refine wpAny_call (PySem.HandSPX.call_own PySem.F.excBase_ValueError (fun Y => PySem.HandSPX.refsVE_contains Y bm hbm) (I1.kIn _ _ hC) (PySem.W.looks_findIn I1.kIn iC) (fun self => PySem.W.bind_fn I1.kIn self tI) hus
    (codeAny_mono (F1.run _ X.stack _ _ ⟨Value.ref (hp.objs.size + 1) :: us, []⟩ (Value.ref (hp.objs.size + 1) :: (us ++ ds)) _ _ (fun _ _ _ => False) (hr.make C us []) (I2.env0.make C us []) (hb _ (Value.ref (hp.objs.size + 1) :: us) I2.kIn hl) r2 hq) fun r s' hq' => ?_))
  cases r with
  | error er => exact hx pins σ _ _ er s' I2 hq'
  | ok fl =>
    cases fl with
    | ret u =>
      obtain ⟨v, H2, os2, bare2, un2, hok2, rv, ev, q2⟩ := hq'
      subst ev
      exact ⟨rv, .ref (hp.objs.size + 1), H2, I2.call' (ch := []) os2 un2 hok2 bare2 (fun b z => absurd z (by simp)), rfl, q2⟩
    | next => exact False.elim hq'
    | brk => exact False.elim hq'
    | cont => exact False.elim hq'
theorem pe_mkE (T : OexC X.K C) (iC : PySem.W.findIn X.K (.ref C) "__init__" = some (some (.ref fI))) (tI : PySem.W.typeIn X.K (.ref fI) = some (.type "function"))
    (F1 : FnOk X.prog X.w X.K X.mg X.base CX k fI fd ps sp) (hr : Room (k + 1) X.A) (hb : Binds X.K fd ps ds) (hd : Vals dvs ds) (hx : Passes CX X fun _ _ _ => False) (hg : Gl X x) (hm : X.mg x = some (.ref C)) (ha : PA X (e :: es) ta)
    (hdb : (x == ("__debug__" : Str)) = false := by decide) (he : starEach (e :: es) X.env = (false, eval e X.env) :: starEach es X.env := by rfl) (hpl : (backTo pos (starEach es X.env)).any (·.1) = false := by rfl) :
    PE X (.Call (.Name x p) (e :: es) [] pos) (tMkE C sp dvs ta) := by
  refine ⟨fun pins s σ H Q I h => ?_⟩
  refine wpAny_Call_Name_kw (ld_glob I hg hm ?_ hdb)
  refine PySem.W.callWith_K (h₀ := X.base) I.ok.mod.kin T.kC (thn (ha.run pos pins s σ H _ I h) fun us s1 ⟨vs, H1, I1, r1, hz, q1⟩ => ⟨I1.kIn, ?_⟩) he hpl
  exact run_mkE T iC tI F1 hr hb hd hx I1 r1 hz q1
theorem pe_mkE0 (T : OexC X.K C) (iC : PySem.W.findIn X.K (.ref C) "__init__" = some (some (.ref fI))) (tI : PySem.W.typeIn X.K (.ref fI) = some (.type "function"))
    (F1 : FnOk X.prog X.w X.K X.mg X.base CX k fI fd ps sp) (hr : Room (k + 1) X.A) (hb : Binds X.K fd ps ds) (hd : Vals dvs ds) (hx : Passes CX X fun _ _ _ => False) (hg : Gl X x) (hm : X.mg x = some (.ref C))
    (hdb : (x == ("__debug__" : Str)) = false := by decide) : PE X (.Call (.Name x p) [] [] pos) (tMkE C sp dvs tNil) := by
  refine ⟨fun pins s σ H Q I h => ?_⟩
  refine wpAny_Call_Name_kw (ld_glob I hg hm ?_ hdb)
  exact PySem.W.callWith_K0 I.kIn T.kC (run_mkE (us := []) T iC tI F1 hr hb hd hx I .nil h.1 h.2)
end
section
variable {K : PySem.W.Frag} {r : Rs} {H H' : Hp}
theorem rok_ex {a C dx : Addr} {fld : Str} {v : V} {d : D} (h : Rok K r H) (ha : H a = none) (hd : H dx = none) (ext : Ext H H') (e1 : H' a = some (exo a C (some dx))) (e2 : H' dx = some (exd dx [(fld, v)])) (i : Is K (mem r) H v d) :
    Rok K (r ++ [exA a C dx fld d]) H' ∧ Kp K r H (r ++ [exA a C dx fld d]) H' := by
  have e : ∀ b, mem (r ++ [exA a C dx fld d]) b → (mem r b ∨ b = a) ∨ b = dx := fun b z => (mem_append.mp z).elim (fun z => .inl (.inl z)) fun z => z.elim (fun z => z.elim (fun z => .inl (.inr z)) .inr) False.elim
  have go : Kp K r H (r ++ [exA a C dx fld d]) H' := fun v d q => is_anti e (is_ext ext _ _ (is_grow hd (is_grow ha q)))
  refine ⟨hold_append.mpr ⟨hold_anti e (hold_ext ext (hold_grow hd (hold_grow ha h))), ⟨⟨v, e1, e2, go _ _ i⟩, fun _ _ z => z, True.intro⟩, fun b m z => ?_⟩, go⟩
  rcases z with (z | z) | z
  · rw [show b = a from z] at m; exact not_al h ha m
  · rw [show b = dx from z] at m; exact not_al h hd m
  · exact z
theorem rok_ex0 {a C : Addr} (h : Rok K r H) (ha : H a = none) (ext : Ext H H') (e1 : H' a = some (exo a C none)) : Rok K (r ++ [ex0A a C]) H' ∧ Kp K r H (r ++ [ex0A a C]) H' := by
  have e : ∀ b, mem (r ++ [ex0A a C]) b → mem r b ∨ b = a := fun b z => (mem_append.mp z).elim .inl fun z => z.elim .inr False.elim
  have go : Kp K r H (r ++ [ex0A a C]) H' := fun v d q => is_anti e (is_ext ext _ _ (is_grow ha q))
  refine ⟨hold_append.mpr ⟨hold_anti e (hold_ext ext (hold_grow ha h)), ⟨e1, fun _ _ z => z, True.intro⟩, fun b m z => ?_⟩, go⟩
  rcases z with z | z
  · rw [show b = a from z] at m; exact not_al h ha m
  · exact z
end
def aMkE (C : Addr) (fld : Str) (l : AL) : AT := fun x δ r P => l x δ r fun ds r1 => ∃ d, ds = [d] ∧ ∀ a dx, P (.adr a) (r1 ++ [exA a C dx fld d])
section
variable {X : Cx} {W : WX} {x fld : Str} {C : Addr} {e : Expr} {l : AL} {p pos : Pos} {k : Nat}
theorem d_mkE (T : ErrX X.prog X.w X.K X.mg X.base x C fld) (hr : Room k X.A) (ha : PDL X W [e] l) (hk : 2 ≤ k := by first | decide | omega) (hg : Gl X x := by rfl) (hdb : (x == ("__debug__" : Str)) = false := by decide)
    (he : starEach [e] X.env = (false, eval e X.env) :: starEach [] X.env := by rfl) (hpl : (backTo pos (starEach [] X.env)).any (·.1) = false := by rfl) : PD X W (.Call (.Name x p) [e] [] pos) (aMkE C fld l) := by
  obtain ⟨fI, fd, prm, i1, i2, F, hb⟩ := T.c.init
  refine imE (pe_mkE (CX := CX0) T.c.cls i1 i2 F (hr.mono hk) hb .nil (fun _ _ _ _ _ _ _ z => z.elim) hg T.c.g ha hdb he hpl) fun σ H Q ⟨XR, δ, r, P, o, h, kk⟩ => ?_
  refine tdl_bind o h fun ds r1 vs H1 h1 o1 k1 i1 => ?_
  obtain ⟨d, rfl, h1⟩ := h1
  cases i1 with
  | cons iv it =>
    cases it
    rename_i v
    refine ⟨by show 1 ≤ 1000; decide, fun a na => ⟨a, v, rfl, upd_same, fun dx n1 n2 => ⟨rfl, ?_⟩⟩⟩
    have nd : H1 dx = none := by rw [upd_ne n2] at n1; exact n1
    have ext : Ext H1 (upd (upd (upd H1 a (exo a C none)) dx (exd dx [(fld, v)])) a (exo a C (some dx))) := fun b u e => by
      have h1 : b ≠ a := ne_of_none e na
      have h2 : b ≠ dx := ne_of_none e nd
      rw [upd_ne h1, upd_ne h2, upd_ne h1]
      exact e
    obtain ⟨q1, q2⟩ := rok_ex (a := a) (C := C) (dx := dx) (fld := fld) o1.r na nd ext upd_same (by rw [upd_ne n2, upd_same]) iv
    exact kk _ _ _ _ (h1 a dx) (o1.step q2 q1) (k1.trans q2) (.adr a)
end
end G
namespace L2
open PySem PySem.Spec PyProof.Rows G
/-- an error in the heap, with a dict or without -/
def ExoAt (H : Hp) (a D : Addr) : Prop := H a = some (exo a D none) ∨ ∃ dx fs, H a = some (exo a D (some dx)) ∧ H dx = some (exd dx fs)
theorem exo_inst {P : Program} {w : World} {H : Hp} {h : Heap} {a D : Addr} (hok : HOk P w H h) (e : ExoAt H a D) : ∃ ox od, PySem.W.InstAt h a ox D od := by
  rcases e with e | ⟨dx, fs, e, ed⟩
  · obtain ⟨t1, hg⟩ := exo_at hok e
    exact ⟨_, none, hg, rfl, rfl, trivial⟩
  · obtain ⟨t1, hg⟩ := exo_at hok e
    obtain ⟨mA, hns, _⟩ := exd_at hok ed
    obtain ⟨o, es, ep, ho, _⟩ := id hns
    exact ⟨_, some o, hg, rfl, rfl, ho⟩
def rIsX (K : PySem.W.Frag) : List V → Hp → VK → Prop := fun xs H Q => ∃ (a D : Addr) (c : V) (cv : Value) (b : Bool), ExoAt H a D ∧ ExcC K D ∧ xs = [.ref a, c] ∧ (∀ u, RelV c u → u = cv) ∧ PySem.W.kitOne K (.ref D) cv = some b ∧ Q (.bl b) H
theorem call_isX {X : Cx} : CallR X (.builtin "isinstance") (rIsX X.K) := by
  intro pins s σ H xs us Q I r h
  obtain ⟨a, D, c, cv, b, he, C, rfl, hcv, e, q⟩ := h
  cases r with
  | cons rx rr =>
    cases rr with
    | cons rt rr =>
      cases rr
      cases rx
      have ec := hcv _ rt
      subst ec
      obtain ⟨ox, od, J⟩ := exo_inst I.hok he
      exact PySem.W.kia_one (PySem.W.gx_kitx C.hg C.hk C.hs C.hd C.ha C.hn C.ht C.hm) I.kIn J e (fun z => nomatch z) fun tk => ⟨.bl b, H, I.kept (t' := tk) fun _ _ z => z, rfl, q⟩
end L2
namespace G
open PySem PySem.Spec L2
def ErrIn (r : Rs) (a D : Addr) : Prop := (∃ dx fld d pre post, r = pre ++ exA a D dx fld d :: post) ∨ ∃ pre post, r = pre ++ ex0A a D :: post
theorem ErrIn.at_ {K : PySem.W.Frag} {r : Rs} {H : Hp} {a D : Addr} (h : ErrIn r a D) (o : Rok K r H) : ExoAt H a D := by
  rcases h with ⟨dx, fld, d, pre, post, rfl⟩ | ⟨pre, post, rfl⟩
  · obtain ⟨v, e1, e2, _⟩ := mid_R o
    exact .inr ⟨dx, _, e1, e2⟩
  · exact .inl (mid_R (t := ex0A a D) o)
def aIsX (Cs : List Addr) (g : Addr → Bool) (ta : AT) : AT := fun x δ r P => ta x δ r fun e r1 => ∃ a D, e = .adr a ∧ D ∈ Cs ∧ ErrIn r1 a D ∧ P (.bl (g D)) r1
section
variable {X : Cx} {W : WX} {a : Expr} {ta : AT} {p pos : Pos} {Cs : List Addr} {g : Addr → Bool}
theorem d_isX {q : Pos} {y : Str} {C : Addr} (hC : ∀ D ∈ Cs, ExcC X.K D ∧ PySem.W.kitOne X.K (.ref D) (.ref C) = some (g D)) (hg : Gl X "isinstance") (hm : X.mg "isinstance" = none) (ha : PD X W a ta) (my : X.mg y = some (.ref C)) (gy : Gl X y := by rfl) (hdy : (y == ("__debug__" : Str)) = false := by decide)
    (he : starEach [a, .Name y q] X.env = (false, eval a X.env) :: starEach [.Name y q] X.env := by rfl) (hpl : (backTo pos (starEach [.Name y q] X.env)).any (·.1) = false := by rfl) (he2 : starEach [.Name y q] X.env = (false, eval (.Name y q) X.env) :: starEach [] X.env := by rfl) :
    PD X W (.Call (.Name "isinstance" p) [a, .Name y q] [] pos) (aIsX Cs g ta) := imE (pe_callB call_isX hg hm (by decide +kernel) (pa_cons ha (pa_cons (pe_glob (v := .ref C) gy my rfl hdy) pa_nil he2) he) (by decide) (by decide) he hpl) fun σ H Q q => by
  obtain ⟨XR, δ, r, P, ok, h, k'⟩ := q
  refine td_bind ok h fun e r1 v H1 h1 o1 k1 i1 => ?_
  obtain ⟨a, D, rfl, hD, hl, p⟩ := h1
  cases i1
  obtain ⟨c1, c2⟩ := hC _ hD
  exact ⟨a, D, .ref C, _, _, hl.at_ o1.r, c1, rfl, fun u e => e, c2, k' _ r1 _ H1 p o1 k1 (.bl _)⟩
theorem d_isXb {q : Pos} {y : Str} {T : String} (hC : ∀ D ∈ Cs, ExcC X.K D ∧ PySem.W.kitOne X.K (.ref D) (.type T) = some (g D)) (hg : Gl X "isinstance") (hm : X.mg "isinstance" = none) (ha : PD X W a ta) (my : X.mg y = none) (gy : Gl X y := by rfl) (hv : bootBuiltins y = some (.type T) := by decide +kernel) (hn : y ≠ ("__name__" : Str) := by decide) (hdy : (y == ("__debug__" : Str)) = false := by decide)
    (he : starEach [a, .Name y q] X.env = (false, eval a X.env) :: starEach [.Name y q] X.env := by rfl) (hpl : (backTo pos (starEach [.Name y q] X.env)).any (·.1) = false := by rfl) (he2 : starEach [.Name y q] X.env = (false, eval (.Name y q) X.env) :: starEach [] X.env := by rfl) :
    PD X W (.Call (.Name "isinstance" p) [a, .Name y q] [] pos) (aIsX Cs g ta) := imE (pe_callB call_isX hg hm (by decide +kernel) (pa_cons ha (pa_cons (pe_bltn (v := .ty T) gy my hv rfl hn hdy) pa_nil he2) he) (by decide) (by decide) he hpl) fun σ H Q q => by
  obtain ⟨XR, δ, r, P, ok, h, k'⟩ := q
  refine td_bind ok h fun e r1 v H1 h1 o1 k1 i1 => ?_
  obtain ⟨a, D, rfl, hD, hl, p⟩ := h1
  cases i1
  obtain ⟨c1, c2⟩ := hC _ hD
  exact ⟨a, D, .ty T, _, _, hl.at_ o1.r, c1, rfl, fun u e => e, c2, k' _ r1 _ H1 p o1 k1 (.bl _)⟩
end
def aXe (f : Str) (C : Addr) (te : AT) : AT := fun x δ r P => te x δ r fun v r1 => ∃ a dx d pre post, v = .adr a ∧ r1 = pre ++ exA a C dx f d :: post ∧ P d r1
theorem d_xe {X : Cx} {W : WX} {C : Addr} {e : Expr} {te : AT} {pos : Pos} {f : Str} (T : XfC X.K C) (hno : PySem.W.findIn X.K (.ref C) f = some none) (he : PD X W e te) (hb : attributeBase e f X.env (eval e X.env) = eval e X.env := by rfl) : PD X W (.Attribute e f pos) (aXe f C te) := by
  refine ⟨fun pins s σ H Q I h => ?_⟩
  obtain ⟨XR, δ, r, P, ok, h, kk⟩ := h
  refine attr_of hb (thn (he.run pins s σ H (fun x H1 => ∃ (a dx : Addr) (v : V), x = V.ref a ∧ H1 a = some (exo a C (some dx)) ∧ H1 dx = some (exd dx [(f, v)]) ∧ Q v H1) I (td_bind ok h fun dv r1 v H1 h1 o1 k1 i1 => ?_)) fun u s1 hh => ?_)
  · obtain ⟨a, dx, d, pre, post, rfl, er, p⟩ := h1
    cases i1
    subst er
    obtain ⟨v, e1, e2, iv⟩ := mid_R o1.r
    exact ⟨a, dx, v, rfl, e1, e2, kk _ _ _ _ p o1 k1 iv⟩
  · obtain ⟨x, H1, I1, rx, a, dx, v, ex, e1, e2, q⟩ := hh
    subst ex
    obtain rfl : u = Value.ref a := rx
    obtain ⟨t1, ha⟩ := exo_at I1.hok e1
    obtain ⟨mA, hns, hr⟩ := exd_at I1.hok e2
    obtain ⟨od, ho, hl⟩ := lookIn_ns hns
    obtain ⟨u, hu, ru⟩ := RelO.some_of (v := v) (o := mA f) (by have := hr f; rwa [show ([(f, v)] : List (Str × V)).lookup f = some v by simp [List.lookup]] at this)
    have J : PySem.W.InstAt s1.heap a _ C (some od) := ⟨ha, rfl, rfl, ho⟩
    exact HandSPX.exc_get I1.kIn J T.ga T.gg T.exC (PySem.W.findObj_own T.hdC hno rfl (by rw [hl, hu])) (handed_of ru) ⟨v, H1, I1.tok _, ru, q⟩
end G
namespace G
open PySem PySem.Spec L2 PySem.W PyProof.Rows
def spEI0 (C : Addr) : Sp := fun vs H Q _ => ∃ a : Addr, vs = [.ref a] ∧ H a = some (exo a C none) ∧ Q .non H
section
variable {P : Program} {w : World} {K : Frag} {mg : Str → Option Value} {base : Heap}
theorem exinit0 {C fI cc cda : Addr} {cd0 : ClassData} {qual name : Str} {params : Arguments} {scope : Scope} {dV kV doc pm cdv ct oc ccl cl : Value} {an od cdd cld : Option Addr} {osl ccs csl : Array (Option Value)} {vs0 : Array Value} {file : Str} {tf : Tok}
    {p0 p1 p2 p3 p4 p5 : Pos} {txt : Str} {j : Nat} {jj : _}
    (T : ErrK P K mg C)
    (lk : K.lookup fI = some ⟨oc, od, .func (ksFn name qual params [.Expr (.Call (.Attribute (.Call (.Name "super" p0) [] [] p1) "__init__" p2) [.Constant (.str txt) jj p3] [] p4) p5] scope dV kV doc pm an (.ref cda) ct cc), osl⟩)
    (hcd : codeIn K (.ref cda) qual = true) (hD : clsIn K C = some cd0)
    (hcode : K.lookup cda = some ⟨ccl, cdd, .fields vs0, ccs⟩) (hvs : vs0[2]? = some (.str file tf)) (hfile : ((P.main.file : Str) == file) = true)
    (hcell : K.lookup cc = some ⟨cl, cld, .cell (some (.ref C)), csl⟩)
    (hp : ∃ ar : Arg, (params.posonlyargs ++ params.args).head? = some ar ∧ ar.arg = "self")
    (hnm : scope.names.lookup ("self" : Str) = some .local ∧ scope.names.lookup ("super" : Str) = some .globalImplicit ∧ scope.names.lookup ("__class__" : Str) = some .free)
    (hfree : ∀ x, scope.names.lookup x = some .cell ∨ scope.names.lookup x = some .free → x = "__class__") (hcl : ∀ x ∈ scope.names, x.2 ≠ .cell)
    (hsc : scope.isCoroutine = false ∧ scope.isGenerator = false ∧ scope.kind = .function)
    (hin : ∀ L, interactive (ksEnv qual scope L fI (.ref cda) cc) = false)
    (hpl1 : ∀ L, swapsWith (.Call (.Attribute (.Call (.Name "super" p0) [] [] p1) "__init__" p2) [.Constant (.str txt) jj p3] [] p4) none p5.line (ksEnv qual scope L fI (.ref cda) cc) = pure false)
    (hev : ∀ L, ∃ pl : Sem Bool, eval (.Call (.Attribute (.Call (.Name "super" p0) [] [] p1) "__init__" p2) [.Constant (.str txt) jj p3] [] p4) (ksEnv qual scope L fI (.ref cda) cc) = (do
      let ov ← attributeBase (.Call (.Name "super" p0) [] [] p1) "__init__" (ksEnv qual scope L fI (.ref cda) cc) (eval (.Call (.Name "super" p0) [] [] p1) (ksEnv qual scope L fI (.ref cda) cc))
      standAt p2.atName
      let (f, first) ← holding [ov] (getMethod ov "__init__" pl)
      callWith p4 f first (backTo p4 (starEach [.Constant (.str txt) jj p3] (ksEnv qual scope L fI (.ref cda) cc))) [])) :
    FnOk P w K mg base CX0 1 fI (ksFn name qual params [.Expr (.Call (.Attribute (.Call (.Name "super" p0) [] [] p1) "__init__" p2) [.Constant (.str txt) jj p3] [] p4) p5] scope dV kV doc pm an (.ref cda) ct cc) ["self"] (spEI0 C) := by
  refine ⟨fun vs H Q E ⟨a, e, _⟩ => by rw [e]; rfl, fun A outer s H args us vs Q E hr e0 hb r hsp => ?_⟩
  obtain ⟨a, rfl, hea, hq⟩ := hsp
  obtain rfl : us = [.ref a] := by
    match us, r with
    | [_], .cons ra .nil => rw [show _ = Value.ref a from ra]
  have KX : K.In s.heap := e0.mod.kin.keeps fun b o e => (e0.bs b o e).1
  have lim : s.heap.NoLimit := e0.mod.nolimit.keeps fun b o e => (e0.bs b o e).1
  refine ks_codeAny_call_defAt hr.depth (KX _ _ lk) rfl lim (codeRec_of KX hcd) rfl hb hcl (fun x hx => ?_) (fun h₀ hns hk => ?_) hsc.1 hsc.2.1 hsc.2.2
  · simp only [List.zip_cons_cons, List.zip_nil_right, List.mem_cons, List.not_mem_nil, or_false] at hx
    rw [hx]
    exact hnm.1
  have kX : K.In h₀ := KX.keeps hk
  have hcc : H cc = none := (e0.bs _ _ (e0.mod.kin _ _ hcell)).2
  have lkc : ∀ {x : Str} {c : Addr}, List.lookup x [(("__class__" : Str), cc)] = some c → x = "__class__" ∧ c = cc := fun {x c} h => by
    by_cases e : x = "__class__"
    · subst e
      simp at h
      exact ⟨rfl, h.symm⟩
    · have e2 : (x == ("__class__" : Str)) = false := by simpa using e
      simp [List.lookup, e2] at h
  have hm1 : ((("self" : Str), Value.ref a) :: []).reverse.lookup ("self" : Str) = some (.ref a) := by
    simp [List.lookup]
  have hns' : h₀.Ns s.heap.objs.size fun x => ((("self" : Str), Value.ref a) :: []).reverse.lookup x := hns
  have I : L2.Inv (cxE P w K mg base ["self"] qual scope fI cda cc A outer s H fun _ _ => False) [] [some (.ref a)] H { s with heap := h₀, toks := s.toks + 1 } := by
    refine ⟨⟨e0.mod, hsc.2.2, rfl, rfl, Nat.le_refl _, fun x y c h1 h2 => ?_, fun x hx => ?_, fun x c z _ => (by cases z), fun _ => hr.hd, Around.frames_deeper e0.frames, .inr ⟨rfl, rfl⟩, fun b z => (by cases z), e0.bs, e0.bsz, fun b o _ z => (by cases z), fun b z => (by cases z), e0.funs, e0.frf⟩,
      rfl, e0.bare, Un.kept hk, ⟨_, hns', fun i x v' h1 h2 h3 => ?_⟩, fun x c h => ?_, e0.hok.fresh (Nat.le_refl _), fun x c h => ?_, fun p z => (by cases z), e0.hok.kept hk, rfl⟩
    · rw [(lkc h1).1, (lkc h2).1]
    · have := hfree x hx
      subst this
      exact ⟨cc, by simp [cxE, ksEnv, envX]⟩
    · match i, h1, h2 with
      | 0, h1, h2 =>
        cases h1
        cases h2
        exact ⟨_, rfl, .inl ⟨hnm.1, hm1⟩⟩
    · rw [(lkc h).2]
      exact ⟨_, _, kX _ _ hcell, rfl⟩
    · rw [(lkc h).2]
      exact hcc
  obtain ⟨ar, hp1, hp2⟩ := hp
  obtain ⟨pl, hev⟩ := hev s.heap.objs.size
  -- super().__init__(text)
  refine ks_wpAt_execs_cons (ks_wpAt_Expr_any (ks_wpAt_MethodCall (c := _) (ks_wpAt_super_base (env := ksEnv qual scope s.heap.objs.size fI (.ref cda) cc) hnm.2.1 hnm.2.2 rfl rfl (kX _ _ lk) rfl hp1 rfl (kX _ _ hcode) rfl hvs hfile T.top ?_) hev) (hin _) (hpl1 _))
  obtain ⟨mb, hmb, hmb2⟩ := e0.mod.blt
  have kb : ∀ b o, base.get? b = some o → h₀.get? b = some o := fun b o e => hk _ _ (e0.bs b o e).1
  refine ks_loadName_global hsc.2.2 hnm.2.1 (PySem.Calls.loadGlobal_builtin (env := ksEnv qual scope s.heap.objs.size fI (.ref cda) cc) (e0.mod.glob.keeps kb) T.mgs (hmb.keeps kb) ((hmb2 _ (by decide +kernel)).trans PyProof.Rows.Boot.super) ⟨rfl, ?_⟩)
  refine wpAny_loadName_free hsc.2.2 hnm.2.2 rfl ⟨_, kX _ _ hcell, rfl⟩ ?_
  rw [hp2]
  refine wpAny_loadName_local hsc.2.2 hnm.1 hns' hm1 ?_
  obtain ⟨t1, ho⟩ := exo_at I.hok hea
  obtain ⟨oD, hD1, hD2⟩ : ∃ oD, h₀.get? C = some oD ∧ oD.data = .cls cd0 := by
    unfold clsIn at hD
    split at hD
    · rename_i c d cd' sl ho
      cases hD
      exact ⟨_, kX _ _ ho, rfl⟩
    · cases hD
  refine ks_wpAny_isType_cls hD1 hD2 ⟨rfl, ?_⟩
  replace ho : h₀.get? a = _ := ho
  refine ks_wpAny_call_super hD1 hD2 ho rfl (fun c e => by cases e) (looks_mroIn kX T.mro) (fun h2 hso k2 => ?_)
  have kX2 : K.In h2 := kX.keeps k2
  have hne : a ≠ C := fun e => by
    subst e
    rw [hD1] at ho
    cases ho
    cases hD2
  have hmro : ∃ l, alongIn K "__init__" l = some (some (.builtin "ValueError.__init__")) ∧ (cd0.mro.dropWhile (· != .ref C)).drop 1 = l := by
    have q := T.sup
    unfold ks_superIn at q
    rw [hD] at q
    exact ⟨_, q, rfl⟩
  obtain ⟨ml, hml, hdl⟩ := hmro
  have ho2 := k2 _ _ ho
  have hI2 : Looks (model P w) h2 (isInstance (.ref a) (.type "ValueError")) true := (InstAt.type (show InstAt h2 a _ C none from ⟨ho2, rfl, rfl, trivial⟩)).andThen (looks_subIn kX2 T.sub)
  refine kxs_getMethod kxs_ValueError hso (looks_opaque kX2 T.opq) (l₀ := cd0.mro) (fun A Q E s k q => wpAny_bind ((looks_clsIn kX2 hD) A _ E s k (wpAny_pure q))) hdl kX2 hml hI2 hne rfl ?_
  have hlt : h₀.objs.size < h2.objs.size := Heap.lt_size hso
  have hsz : h₀.objs.size ≤ h2.objs.size := Nat.le_of_lt hlt
  have k3 : ∀ b o, h₀.get? b = some o → (h2.push (kxs_mw "ValueError.__init__" a)).get? b = some o := fun b o e => Heap.get?_push_of_some _ (k2 b o e)
  have hu3 : (h2.push (kxs_mw "ValueError.__init__" a)).get? h2.objs.size = some (kxs_mw "ValueError.__init__" a) := Heap.get?_push_size h2 rfl
  have J3 := ClX.pin_new (t' := s.toks + 1 + 1) I k3 hsz hu3 (fun v e => by cases e)
  dsimp only
  refine kxs_callWith (i := "ValueError.__init__") (x := a) rfl ?_
  refine PySem.Calls.evalArgs_plain ?_
  refine wpAny_mono (((pa_cons (X := cxE P w K mg base ["self"] qual scope fI cda cc A outer s H fun _ _ => False) (e := .Constant (.str txt) jj p3) (es := []) pe_str pa_nil).run p4 _ _ _ H (fun vs H' => vs = [.str txt] ∧ H' = H) J3 ⟨rfl, rfl⟩)) (fun vs s4 ⟨ws, H4, I4, r4, e4, e5⟩ => ?_) (fun _ _ z => False.elim z)
  subst e4
  have e5' := e5.symm
  subst e5'
  have hu4 : s4.heap.get? h2.objs.size = some (kxs_mw "ValueError.__init__" a) := ClX.pin_at I4
  have J4 := ClX.unpin I4
  refine ⟨hu4, ?_⟩
  obtain ⟨t4, ho4⟩ := exo_at J4.hok hea
  obtain ⟨hp4, g4, d4, tk4, os4⟩ := s4
  have hl4 : vs.length ≤ sizeLine := by
    rw [← r4.length]
    show 1 ≤ sizeLine
    rw [sizeLine_eq]
    omega
  obtain ⟨nm, q, N, bs, bm, sn, sub, ab, col, dd, k0, k1, k2', k3', k5, hC, hbm⟩ := T.cls.cls
  refine wpAny_call (codeAny_of_tree ?_)
  show wpAny _ _ (callAny (.ref h2.objs.size) ⟨vs, []⟩) _ _ _
  simp only [callAny]
  refine wpAny_bind (wpAny_load hu4 ?_)
  simp only [kxs_mw, show (Value.type "method-wrapper" == Value.type "method" || Value.type "method-wrapper" == Value.type "builtin_function_or_method" || Value.type "method-wrapper" == Value.type "method-wrapper") = true by decide, if_true]
  refine KFB.if_so (by decide) ?_
  refine wpAny_bind (check_bound_init F.excBase_ValueError.toExcCallFacts (J4.kIn _ _ hC) ho4 rfl ?_)
  refine wpAny_bind (wpAny_pure (wpAny_pure ?_))
  refine ⟨plainId_quiet F.excBase_ValueError.init.plain _, codeAny_builtin F.excBase_ValueError.initEntry ?_⟩
  refine exc_init_tree (cls := .ref C) (t0 := t4) (dv := none) (c2 := .none) (c3 := .none) (b4 := .bool false) ho4 hl4 fun h5 kk5 ho5 _ => ?_
  have J5 := J4.write (t' := tk4) (x := a) (e := a) (o := exo a C none) (by rw [hea]; exact True.intro) (.inl rfl) kk5 ⟨_, ho5⟩ (exo_ok ho5)
  have eu : upd H a (exo a C none) = H := by
    funext b
    by_cases hb : b = a
    · rw [hb, upd_same, hea]
    · rw [upd_ne hb]
  rw [eu] at J5
  dsimp only
  refine wpAt_of_wpAny (wpAny_mono ((pss_nil (X := cxE P w K mg base ["self"] qual scope fI cda cc A outer s H fun _ _ => False)).run [] _ _ H { nx := fun _ H' => Q .non H', rt := Q } J5 hq) (fun fl s' hs => ?_) fun _ _ z => False.elim z)
  cases fl with
  | next =>
    obtain ⟨σ', H', J, q⟩ := hs
    exact ⟨.non, H', J.os, J.bare, J.base, J.hok, rfl, q⟩
  | ret u =>
    obtain ⟨v, σ', H', J, rv, q⟩ := hs
    exact ⟨v, H', J.os, J.bare, J.base, J.hok, rv, q⟩
  | brk =>
    obtain ⟨_, _, _, q⟩ := hs
    exact False.elim q
  | cont =>
    obtain ⟨_, _, _, q⟩ := hs
    exact False.elim q
end
/-- an own error without a field -/
structure ErrX0 (P : Program) (w : World) (K : Frag) (mg : Str → Option Value) (base : Heap) (x : Str) (C : Addr) : Prop where
  g : mg x = some (.ref C)
  cls : OexC K C
  init : ∃ fI fd, findIn K (.ref C) "__init__" = some (some (.ref fI)) ∧ typeIn K (.ref fI) = some (.type "function") ∧ FnOk P w K mg base CX0 1 fI fd ["self"] (spEI0 C) ∧ Binds K fd ["self"] []
theorem errX0_mk {P : Program} {w : World} {K : PySem.W.Frag} {h : Heap} {mg : Str → Option Value} {base : Heap} (X : K.In h) (G : h.Ns mainGlobals mg) {x qual : Str} {C fI cc cda N : Addr} {st : Stmt} {dV kV doc pm ct oc ccl cl : Value} {an od cdd cld : Option Addr} {osl ccs csl : Array (Option Value)} {vs0 : Array Value} {file : Str} {tf : Tok}
    {p0 p1 p2 p3 p4 p5 : Pos} {txt : Str} {jj : _} {nm q : Str} {bs bm : List Value} {sn : List Str} {sub : List Value} {ab : Bool} {col : Option Bool} {dd : Option Addr} {k0 k1 k2 k3 k5 : Option Value}
    (cg : nsIn K mainGlobals x = some (some (.ref C))) (xL : K.lookup C = some (excClassObj nm q C N bs bm true sn sub ab col dd k0 k1 k2 k3 k5 "ValueError.__new__"))
    (sa : findIn K (.ref C) "__setattr__" = some (some (.builtin "object.__setattr__"))) (exC : subIn K (.ref C) (.type "BaseException") = some true) (tyC : typeIn K (.ref C) = some (.type "type")) (kC : keepIn K (.ref C) = true)
    (i1 : findIn K (.ref C) "__init__" = some (some (.ref fI))) (i2 : typeIn K (.ref fI) = some (.type "function"))
    (mro : mroIn K C (.ref C) = some true) (sve : subIn K (.ref C) (.type "ValueError") = some true) (sup : ks_superIn K C C "__init__" = some (some (.builtin "ValueError.__init__"))) (opq : nsIn K cStatics "thirdparty.any" = some none) (zs : nsIn K mainGlobals "super" = some none)
    (lk : K.lookup fI = some ⟨oc, od, .func (ksFn "__init__" qual (defArgs st) (defBody st) (defScope st) dV kV doc pm an (.ref cda) ct cc), osl⟩)
    (hcd : codeIn K (.ref cda) qual = true)
    (hcode : K.lookup cda = some ⟨ccl, cdd, .fields vs0, ccs⟩) (hcell : K.lookup cc = some ⟨cl, cld, .cell (some (.ref C)), csl⟩)
    (hd : hasDictIn K C = true)
    (hbm : PySem.HandSPX.refsVE bm = true) (hvs : vs0[2]? = some (.str file tf)) (hfile : ((P.main.file : Str) == file) = true) (top : (P.main.scope.names.lookup ("super" : Str)).isSome = false)
    (hbody : defBody st = [.Expr (.Call (.Attribute (.Call (.Name "super" p0) [] [] p1) "__init__" p2) [.Constant (.str txt) jj p3] [] p4) p5])
    (hp : ∃ ar : Arg, ((defArgs st).posonlyargs ++ (defArgs st).args).head? = some ar ∧ ar.arg = "self")
    (hnm : (defScope st).names.lookup ("self" : Str) = some .local ∧ (defScope st).names.lookup ("super" : Str) = some .globalImplicit ∧ (defScope st).names.lookup ("__class__" : Str) = some .free)
    (hfree : (defScope st).names.all freeOk = true) (hsc : (defScope st).isCoroutine = false ∧ (defScope st).isGenerator = false ∧ (defScope st).kind = .function)
    (hin : ∀ L, interactive (ksEnv qual (defScope st) L fI (.ref cda) cc) = false)
    (hpl1 : ∀ L, swapsWith (.Call (.Attribute (.Call (.Name "super" p0) [] [] p1) "__init__" p2) [.Constant (.str txt) jj p3] [] p4) none p5.line (ksEnv qual (defScope st) L fI (.ref cda) cc) = pure false)
    (hev : ∀ L, ∃ pl : Sem Bool, eval (.Call (.Attribute (.Call (.Name "super" p0) [] [] p1) "__init__" p2) [.Constant (.str txt) jj p3] [] p4) (ksEnv qual (defScope st) L fI (.ref cda) cc) = (do
      let ov ← attributeBase (.Call (.Name "super" p0) [] [] p1) "__init__" (ksEnv qual (defScope st) L fI (.ref cda) cc) (eval (.Call (.Name "super" p0) [] [] p1) (ksEnv qual (defScope st) L fI (.ref cda) cc))
      standAt p2.atName
      let (f, first) ← holding [ov] (getMethod ov "__init__" pl)
      callWith p4 f first (backTo p4 (starEach [.Constant (.str txt) jj p3] (ksEnv qual (defScope st) L fI (.ref cda) cc))) []))
    (bnd : ∀ us : List Value, us.length = 1 → bindArgs (ksFn "__init__" qual (defArgs st) (defBody st) (defScope st) dV kV doc pm an (.ref cda) ct cc) ⟨us, []⟩ = pure ((["self"] : List Str).zip us)) : ErrX0 P w K mg base x C := by
  have oc : OexC K C := ⟨⟨_, _, _, _, _, _, _, _, _, _, _, _, _, _, _, xL, hbm⟩, sa, exC, tyC, kC⟩
  have T : ErrK P K mg C := ⟨oc, mro, sve, sup, opq, mg_none_of X G zs, top⟩
  obtain ⟨f1, f2⟩ := free_of hfree
  obtain ⟨cd0, hD, _⟩ := any_some hd
  refine ⟨mg_of X G cg, oc, fI, _, i1, i2, ?_, .all bnd⟩
  rw [hbody] at lk ⊢
  exact exinit0 (j := 0) (cdv := .none) T lk hcd hD hcode hvs hfile hcell hp hnm f1 f2 hsc hin hpl1 hev
def aMkE0 (C : Addr) : AT := fun _ _ r P => ∀ a, P (.adr a) (r ++ [ex0A a C])
section
variable {X : Cx} {W : WX} {x : Str} {C : Addr} {p pos : Pos} {k : Nat}
theorem d_mkE0 (T : ErrX0 X.prog X.w X.K X.mg X.base x C) (hr : Room k X.A) (hk : 2 ≤ k := by first | decide | omega) (hg : Gl X x := by rfl) (hdb : (x == ("__debug__" : Str)) = false := by decide) : PD X W (.Call (.Name x p) [] [] pos) (aMkE0 C) := by
  obtain ⟨fI, fd, i1, i2, F, hb⟩ := T.init
  refine imE (pe_mkE0 (CX := CX0) T.cls i1 i2 F (hr.mono hk) hb .nil (fun _ _ _ _ _ _ _ z => z.elim) hg T.g hdb) fun σ H Q ⟨XR, δ, r, P, o, h, kk⟩ => ?_
  refine ⟨by show 0 ≤ 1000; decide, fun a na => ⟨a, rfl, upd_same, rfl, ?_⟩⟩
  obtain ⟨q1, q2⟩ := rok_ex0 (a := a) (C := C) o.r na (Ext.new na) upd_same
  exact kk _ _ _ _ (h a) (o.step q2 q1) q2 (.adr a)
end
end G
namespace Q
open PySem PySem.Spec L2 G
open PyProof.Rows (envOfC)
def top (i : Nat) : Stmt := PySem.Challenge.pw_quietprobes_k05_errors_and_their_attribu.main.body.getD i (.Pass ⟨0, 0, 0, 0⟩)
abbrev s_BadName___init__ : Stmt := inClass (top 2) 0
abbrev s_BadDeed___init__ : Stmt := inClass (top 3) 0
abbrev s_BadRow___init__ : Stmt := inClass (top 4) 0
abbrev s_BadPlace___init__ : Stmt := inClass (top 5) 0
abbrev s_BadMode___init__ : Stmt := inClass (top 6) 0
abbrev s_BadContents___init__ : Stmt := inClass (top 7) 0
abbrev s_BadTurn___init__ : Stmt := inClass (top 8) 0
abbrev s_BadPair___init__ : Stmt := inClass (top 9) 0
abbrev s_BadText___init__ : Stmt := inClass (top 10) 0
abbrev s_BadCommand___init__ : Stmt := inClass (top 11) 0
abbrev s_NoThing___init__ : Stmt := inClass (top 12) 0
abbrev s_NoKey___init__ : Stmt := inClass (top 13) 0
abbrev s_NoPart___init__ : Stmt := inClass (top 14) 0
abbrev s_NoRow___init__ : Stmt := inClass (top 15) 0
abbrev s_NoProbe___init__ : Stmt := inClass (top 16) 0
abbrev s_NotNested___init__ : Stmt := inClass (top 17) 0
abbrev s_Twice___init__ : Stmt := inClass (top 18) 0
abbrev s_Unmatched___init__ : Stmt := inClass (top 19) 0
abbrev s_TooMany___init__ : Stmt := inClass (top 20) 0
abbrev s_Watched___init__ : Stmt := inClass (top 21) 0
abbrev s_Over___init__ : Stmt := inClass (top 22) 0
abbrev s__law_pool : Stmt := top 24
abbrev s__law_draw : Stmt := top 25
abbrev s__law_word : Stmt := top 26
abbrev s__law_object : Stmt := top 27
abbrev s__law_same : Stmt := top 28
abbrev s__law_classes : Stmt := top 29
abbrev s__law_attributes : Stmt := top 30
abbrev s_law : Stmt := top 31
section
variable {P : Program} {w : World} {K : PySem.W.Frag} {mg : Str → Option Value} {base : Heap}
abbrev N__law_draw : List Str := ["_law_pool_here", "_law_many", "_law_cell", "_law_code", "_law_digit", "_law_far", "_law_mixed"]
theorem sc__law_draw : FnScope N__law_draw ["_law_pool_here", "_law_many"] (defScope s__law_draw) := ⟨rfl, rfl, rfl, by decide +kernel, rfl, by decide +kernel, by decide +kernel⟩
theorem emod_lt' {a m : Int} (h : 0 < m) : 0 ≤ a % m ∧ a % m < m := ⟨Int.emod_nonneg a (by omega), Int.emod_lt_of_pos a h⟩
theorem c__law_draw (B : Bl mg) (Dx : Dfn K mg "_law_draw" s__law_draw ["_law_pool_here", "_law_many"]) : Cl P w K mg base 1 "_law_draw" ["_law_pool_here", "_law_many"] spDraw := by
  obtain ⟨f, fd, F, g, b⟩ := Dx
  refine cl_cx0 (f := f) (fd := fd) ?_ g F.kp b
  have sc := sc__law_draw
  refine F.ok sc (fun vs H Q E h => ?_) (fun cdv A outer s H vs Q E hr h => ?_)
  · obtain ⟨r, ds, P', XR, ro, hi, ⟨p, a, m, N, X, rfl, _⟩, _, _⟩ := h
    exact hi.length
  · obtain ⟨r, ds, P', XR, ro, hi, ⟨p, a, m, N, X, rfl, rfl, ⟨hm, hm2⟩, hN, hP⟩, hQ, _⟩ := h
    obtain ⟨rfl⟩ : vs = [.ref p, .int m] := by
      match vs, hi with
      | [_, _], .cons (.adr _) (.cons (.int _) .nil) => rfl
    have fin : ∀ (k : Int) (H' : Hp), 0 ≤ k → k < m → (∀ b o, b ≠ p → b ≠ a → H b = some o → H' b = some o) → (poolA p a (N + 1)).R K (mem (poolA p a (N + 1) :: X)) H' → Q (.int k) H' := fun k H' h0 h1 hk ht =>
      let ⟨q1, q2⟩ := pool_step ro hk ht
      hQ _ _ _ _ (hP k h0 h1) q1 q2 (.int k)
    obtain ⟨⟨ne, ns, c1, c2, c3, h1, h2, g1, g2, g2', g3, g3', gn⟩, _, _⟩ := ro
    have ix : ∀ {X : Cx} {a b : Expr} {ta tb : TE} {pos : Pos}, PE X a ta → PE X b tb → PlainIx b → PE X (.Subscript a b pos) (tOp (rIxL X.K) ta tb) := fun ha hb hs => pe_ix ix_list ha hb hs
    refine ⟨_, pss_cons (ps_augS (pv 0) pe_int pget_list pe_int ip_add set_list)
      (Evl.pss_cut (ps_if (PW.pt (pw_and (pt_cmpR op_eq (ix (pv 0) pe_int (fun _ _ => rfl)) pe_int (nomark _)) (pw_and1 (pt_truth (ix (pv 0) pe_int (fun _ _ => rfl)) (by intro _; rfl)))))
        (pss_cons (ps_set (i := 2) sc.nd rfl (.inl rfl) (pe_callTy call_int1 (by rfl) B.int (by decide +kernel) (pa_cons (pe_bm PySem.F.plainAttrs_list PySem.F.slot_list_pop PySem.F.type_list_pop mt_popAt (ix (pv 0) pe_int (fun _ _ => rfl)) (pa_cons pe_int pa_nil)) pa_nil)))
        (pss_cons (ps_set (i := 3) sc.nd rfl (.inl rfl) (pe_ifExp (pt_cmpR op_ge (pv 2) pe_int (nomark _)) (pe_op op_mul pe_int (pv 2)) (pe_op op_sub (pe_un un_neg pe_int) (pe_op op_mul pe_int (pv 2)))))
        (pss_one (ps_if (pt_cmpR op_ge (pv 3) (pe_op op_pow pe_int pe_int) (nomark _))
          (pss_one (ps_asg (pv 3) (pg_sub (pv 0) pe_int set_list)))
          (pss_one (ps_asg (pe_op op_mod (pe_callTy call_int1 (by rfl) B.int (by decide +kernel) (pa_cons (pe_op op_add (pe_op op_add (pe_op op_mul (ix (pv 0) pe_int (fun _ _ => rfl)) pe_int) (pe_op op_mul (pv 3) pe_int)) pe_int) pa_nil)) pe_int) (pg_sub (pv 0) pe_int set_list)))))))
        pss_nil)
      (pss_cons (ps_if (pt_cmpR op_gt (ix (pv 0) pe_int (fun _ _ => rfl)) pe_int (nomark _))
        (pss_cons (ps_set (i := 4) sc.nd rfl (.inl rfl) (pe_op op_mod (pe_callTy call_int1 (by rfl) B.int (by decide +kernel) (pa_cons (ix (pv 0) pe_int (fun _ _ => rfl)) pa_nil)) (pv 1)))
        (pss_cons (ps_asg (pe_op op_fdivW (ix (pv 0) pe_int (fun _ _ => rfl)) (pv 1)) (pg_sub (pv 0) pe_int set_list))
        (pss_one (ps_ret (pv 4))))) pss_nil)
      (pss_cons (ps_if (pt_cmpR op_eq (ix (pv 0) pe_int (fun _ _ => rfl)) pe_int (nomark _)) (pss_one (ps_ret pe_int)) pss_nil)
      (pss_cons (ps_set (i := 5) sc.nd rfl (.inl rfl) (pe_op op_add (pe_op op_mul (ix (pv 0) pe_int (fun _ _ => rfl)) pe_int) (pe_op op_mul (pe_op op_mul (ix (pv 0) pe_int (fun _ _ => rfl)) (ix (pv 0) pe_int (fun _ _ => rfl))) pe_int)))
      (pss_cons (ps_set (i := 6) sc.nd rfl (.inl rfl) (pe_op op_mod (pe_callTy call_int1 (by rfl) B.int (by decide +kernel) (pa_cons (pe_op op_add (pe_op op_mul (ix (pv 0) pe_int (fun _ _ => rfl)) pe_int) (pv 5)) pa_nil)) pe_int))
      (pss_one (ps_ret (pe_op op_mod (pe_op op_mod (pe_callTy call_int1 (by rfl) B.int (by decide +kernel) (pa_cons (pe_op op_fdivW (pe_op op_mul (pv 6) pe_int) pe_int) pa_nil)) pe_int) (pv 1))))))))), ?_⟩
    -- _law_pool_here[2] += 1
    refine ⟨_, rfl, p, _, 2, .int c2, rfl, rfl, by decide, SqL.of h1, rfl, c2, 1, rfl, rfl, p, _, 2, 2, rfl, rfl, h1, rfl, ?_⟩
    let c2' := c2 + 1
    have k1 : (upd H p (.lst ([V.ref a, .int c1, .int c2, .int c3].set 2 (.int (c2 + 1))))) p = some (.lst [.ref a, .int c1, .int (c2 + 1), .int c3]) := upd_same
    have k2 : (upd H p (.lst ([V.ref a, .int c1, .int c2, .int c3].set 2 (.int (c2 + 1))))) a = some (.lst (ns.map V.int)) := by rw [upd_ne (Ne.symm ne)]; exact h2
    have k3 : ∀ b o, b ≠ p → b ≠ a → H b = some o → (upd H p (.lst ([V.ref a, .int c1, .int c2, .int c3].set 2 (.int (c2 + 1))))) b = some o := fun b o n1 _ e => by rw [upd_ne n1]; exact e
    generalize upd H p (.lst ([V.ref a, .int c1, .int c2, .int c3].set 2 (.int (c2 + 1)))) = H1 at k1 k2 k3
    refine ⟨fun σ' H' => ∃ (x y : Option V) (ns' : List Int) (d1 d3 : Int), σ' = [some (.ref p), some (.int m), x, y, none, none, none] ∧ H' p = some (.lst [.ref a, .int d1, .int (c2 + 1), .int d3]) ∧ H' a = some (.lst (ns'.map V.int)) ∧ 0 ≤ d1 ∧ 0 ≤ d3 ∧ d3 < 2147483629 ∧ ns'.length ≤ 63 ∧
      ∀ b o, b ≠ p → b ≠ a → H b = some o → H' b = some o, ?_, ?_⟩
    · -- the pool takes one more of the script
      refine ⟨_, rfl, p, _, 1, .int c1, rfl, rfl, SqL.of k1, rfl, rfl, _, rfl, ?_⟩
      refine ite2 (fun hc => ?_) (fun hc => ?_)
      · refine ⟨_, rfl, p, _, 0, .ref a, rfl, rfl, SqL.of k1, rfl, _, .inl ⟨_, SqL.of k2, rfl⟩, ?_⟩
        refine ite2 (fun he => ?_) (fun he => ?_)
        · cases ns with
          | nil => cases he
          | cons n0 ns =>
            refine ⟨_, rfl, p, _, 0, .ref a, rfl, rfl, SqL.of k1, rfl, .inl ⟨rfl, _, SqL.of k2⟩, a, _, 0, 0, .int n0, rfl, rfl, k2, by decide, by decide, PySem.StrLaws.seqIndex_nonneg (Int.le_refl 0) (by rw [List.length_map, List.length_cons]; omega), rfl, .inl ⟨n0, rfl, ?_⟩⟩
            have k1' : (upd H1 a (.lst ((List.map V.int (n0 :: ns)).eraseIdx 0))) p = some (.lst [.ref a, .int c1, .int (c2 + 1), .int c3]) := by rw [upd_ne ne]; exact k1
            have k2' : (upd H1 a (.lst ((List.map V.int (n0 :: ns)).eraseIdx 0))) a = some (.lst (ns.map V.int)) := upd_same
            have k3' : ∀ b o, b ≠ p → b ≠ a → H b = some o → (upd H1 a (.lst ((List.map V.int (n0 :: ns)).eraseIdx 0))) b = some o := fun b o n1 n2 e => by rw [upd_ne n2]; exact k3 b o n1 n2 e
            generalize upd H1 a (.lst ((List.map V.int (n0 :: ns)).eraseIdx 0)) = H2 at k1' k2' k3'
            have gl : ns.length ≤ 63 := Nat.le_trans (Nat.le_succ _) gn
            -- code
            refine ⟨_, rfl, _, _, rfl, rfl, _, rfl, ?_⟩
            refine ite2 (fun h => ?_) (fun h => ?_)
            refine ⟨_, rfl, 2, n0, rfl, rfl, .inl ⟨by decide, by decide⟩, ?_⟩
            have hcd : 0 ≤ 2 * n0 := by
              have := of_decide_eq_true h
              omega
            show gName 3 (.int (2 * n0)) _ _ _
            generalize 2 * n0 = cd at hcd ⊢
            rotate_left
            refine ⟨1, rfl, _, rfl, 2, n0, rfl, rfl, .inl ⟨by decide, by decide⟩, -1, 2 * n0, rfl, rfl, ?_⟩
            have hcd : 0 ≤ -1 - 2 * n0 := by
              have : ¬ (0 ≤ n0) := fun z => h (decide_eq_true z)
              omega
            show gName 3 (.int (-1 - 2 * n0)) _ _ _
            generalize -1 - 2 * n0 = cd at hcd ⊢
            all_goals
              refine ⟨_, rfl, 10, 18, rfl, rfl, ⟨by decide, by decide, by decide⟩, _, _, rfl, rfl, _, rfl, ?_⟩
              refine ite2 (fun h => ?_) (fun h => ?_)
              · refine ⟨_, rfl, _, rfl, p, _, 1, 1, rfl, rfl, k1', rfl, ?_⟩
                exact ⟨_, _, ns, cd, c3, rfl, upd_same, by rw [upd_ne (Ne.symm ne)]; exact k2', hcd, g3, g3', gl, fun b o n1 n2 e => by rw [upd_ne n1]; exact k3' b o n1 n2 e⟩
              · refine ⟨_, rfl, p, _, 3, .int c3, rfl, rfl, SqL.of k1', rfl, c3, 48271, rfl, rfl, .inr ⟨by decide, by decide⟩, _, rfl, cd, 69621, rfl, rfl, .inr ⟨by decide, by decide⟩, _, _, rfl, rfl, _, _, rfl, rfl, .inl ⟨_, rfl, _, _, rfl, rfl, (by decide : (0 : Int) < 2147483629), ?_⟩⟩
                refine ⟨_, rfl, p, _, 3, 3, rfl, rfl, k1', rfl, ?_⟩
                exact ⟨_, _, ns, c1, _, rfl, upd_same, by rw [upd_ne (Ne.symm ne)]; exact k2', g1, (emod_lt' (by decide)).1, (emod_lt' (by decide)).2, gl, fun b o n1 n2 e => by rw [upd_ne n1]; exact k3' b o n1 n2 e⟩
        · exact ⟨_, _, ns, c1, c3, rfl, k1, k2, g1, g3, g3', gn, k3⟩
      · exact ⟨_, _, ns, c1, c3, rfl, k1, k2, g1, g3, g3', gn, k3⟩
    · -- the digit
      rintro σ' H' ⟨x, y, ns', d1, d3, rfl, k1, k2, e1, e3, e3', en, k3⟩
      have ok : ∀ d, 0 ≤ d → ∀ H'', H'' p = some (.lst [.ref a, .int d, .int (c2 + 1), .int d3]) → H'' a = some (.lst (ns'.map V.int)) → (poolA p a (N + 1)).R K (mem (poolA p a (N + 1) :: X)) H'' := fun d hd H'' q1 q2 => ⟨ne, ns', d, c2 + 1, d3, q1, q2, hd, by omega, by omega, e3, e3', en⟩
      refine ⟨_, rfl, p, _, 1, .int d1, rfl, rfl, SqL.of k1, rfl, _, _, rfl, rfl, _, rfl, ?_⟩
      refine ite2 (fun h => ?_) (fun h => ?_)
      · have hd : 0 < d1 := of_decide_eq_true h
        refine ⟨_, rfl, p, _, 1, .int d1, rfl, rfl, SqL.of k1, rfl, .inl ⟨_, rfl, _, rfl, _, _, rfl, rfl, hm, ?_⟩⟩
        refine ⟨_, rfl, p, _, 1, .int d1, rfl, rfl, SqL.of k1, rfl, _, rfl, d1, m, rfl, rfl, wide_div hm (b := 200) (by omega) (by decide) (by decide), ?_⟩
        refine ⟨_, rfl, p, _, 1, 1, rfl, rfl, k1, rfl, ?_⟩
        refine ⟨_, rfl, fin _ _ (emod_lt' hm).1 (emod_lt' hm).2 (fun b o n1 n2 e => by rw [upd_ne n1]; exact k3 b o n1 n2 e) (ok (d1 / m) (Int.ediv_nonneg (by omega) (by omega)) _ upd_same (by rw [upd_ne (Ne.symm ne)]; exact k2))⟩
      · refine ⟨_, rfl, p, _, 3, .int d3, rfl, rfl, SqL.of k1, rfl, rfl, _, rfl, ?_⟩
        refine ite2 (fun h => ?_) (fun h => ?_)
        · exact fin 0 _ (Int.le_refl _) hm k3 (ok d1 e1 _ k1 k2)
        · have b2 : CMul (c2 + 1) (c2 + 1) := .inl ⟨by omega, by omega⟩
          refine ⟨_, rfl, p, _, 2, .int (c2 + 1), rfl, rfl, SqL.of k1, rfl, _, 40692, rfl, rfl, .inr ⟨by decide, by decide⟩, _, rfl, p, _, 2, .int (c2 + 1), rfl, rfl, SqL.of k1, rfl, _, rfl, p, _, 2, .int (c2 + 1), rfl, rfl, SqL.of k1, rfl, _, _, rfl, rfl, b2, _, 3, rfl, rfl, .inr ⟨by decide, by decide⟩, _, _, rfl, rfl, ?_⟩
          refine ⟨_, rfl, p, _, 3, .int d3, rfl, rfl, SqL.of k1, rfl, _, 16807, rfl, rfl, .inr ⟨by decide, by decide⟩, _, rfl, _, _, rfl, rfl, .inl ⟨_, rfl, _, _, rfl, rfl, (by decide : (0 : Int) < 2147483647), ?_⟩⟩
          refine ⟨_, rfl, _, 48271, rfl, rfl, .inr ⟨by decide, by decide⟩, _, 7, rfl, rfl, wide_div (by decide) (b := 10) (by decide) (by decide) (by decide), .inl ⟨_, rfl, _, _, rfl, rfl, (by decide : (0 : Int) < 2147483629), _, rfl, _, _, rfl, rfl, hm, ?_⟩⟩
          exact fin _ _ (emod_lt' hm).1 (emod_lt' hm).2 k3 (ok d1 e1 _ k1 k2)
abbrev N__law_pool : List Str := ["_law_script"]
theorem sc__law_pool : FnScope N__law_pool ["_law_script"] (defScope s__law_pool) := ⟨rfl, rfl, rfl, by decide +kernel, rfl, by decide +kernel, by decide +kernel⟩
theorem cut_map {α : Type} (f : α → V) (xs : List α) (lo hi : Option Int) : ∃ ys : List α, cutV (xs.map f) lo hi = ys.map f ∧ ys.length ≤ xs.length := by
  unfold cutV
  refine ⟨(xs.drop (HT.sIx (xs.map f).length 0 lo)).take (HT.sIx (xs.map f).length (xs.map f).length hi - HT.sIx (xs.map f).length 0 lo), by rw [List.map_take, List.map_drop], ?_⟩
  rw [List.length_take, List.length_drop]
  omega
theorem c__law_pool (B : Bl mg) (Dx : Dfn K mg "_law_pool" s__law_pool ["_law_script"]) : ∃ f fd, FnOk P w K mg base CX0 1 f fd ["_law_script"] (spPool K) ∧ mg "_law_pool" = some (.ref f) ∧ PySem.W.keepIn K (.ref f) = true ∧ Binds K fd ["_law_script"] [] := by
  obtain ⟨f, fd, F, g, b⟩ := Dx
  refine ⟨f, fd, ?_, g, F.kp, b⟩
  have sc := sc__law_pool
  refine F.ok sc (fun vs H Q E h => ?_) (fun cdv A outer s H vs Q E hr h => ?_)
  · obtain ⟨a, ns, rfl, _⟩ := h
    rfl
  · obtain ⟨a, ns, rfl, hS, hl, hQ⟩ := h
    refine ⟨_, pss_one (ps_ret (pe_lst (pa_cons (pe_callTy call_list_of (by rfl) B.list (by decide +kernel) (pa_cons (pe_slice sl_list (pv 0) po_none (po_some pe_int)) pa_nil)) (pa_cons pe_int (pa_cons pe_int (pa_cons pe_int pa_nil)))))), ?_⟩
    obtain ⟨ms, e, hm⟩ := cut_map V.int ns none (some 63)
    refine ⟨_, rfl, _, rfl, a, _, rfl, hS, fun q hq => ?_⟩
    rw [e]
    refine ⟨q, _, rfl, .inl (SqL.of upd_same), fun l hl2 => ⟨(by decide : 4 ≤ sizeLine), fun p hp => ?_⟩⟩
    have hlp : l ≠ p := ne_of_none (H := upd (upd H q (.lst (ms.map V.int))) l (.lst (ms.map V.int))) upd_same hp
    refine hQ p l _ ⟨⟨Ne.symm hlp, ms, 0, 0, 0, upd_same, ?_, by decide, by decide, by decide, by decide, by decide, by omega⟩, fun _ _ z => z, True.intro⟩
    rw [upd_ne hlp, upd_same]
abbrev N__law_same : List Str := ["_law_actual", "_law_due", "_law_k"]
theorem sc__law_same : FnScope N__law_same ["_law_actual", "_law_due"] (defScope s__law_same) := ⟨rfl, rfl, rfl, by decide +kernel, rfl, by decide +kernel, by decide +kernel⟩
theorem c__law_same (B : Bl mg) (Dx : Dfn K mg "_law_same" s__law_same ["_law_actual", "_law_due"]) : ∀ n : Nat, Cl P w K mg base n "_law_same" ["_law_actual", "_law_due"] (spSame n)
  | 0 => cl_never Dx fun ds r P' XR ⟨a, b, _, _, _, _, z, _⟩ => by omega
  | n + 1 => by
    have sc := sc__law_same
    have C__law_same := c__law_same B Dx n
    refine cl_of Dx sc (fun ds r P' XR ⟨a, b, e, _⟩ => by rw [e]; rfl) (fun f cdv A outer s H E hr tk po => ?_)
    have hu := hr.units
    refine ⟨_, (ss_cons (s_if (b_cmp p_is (dv 1) d_non)
  (ss_one (s_ret (d_cmp p_is (dv 0) d_non)))
  ss_nil)
  (ss_cons (s_if (b_w (w_or (b_tru (d_isi .bool (by rfl) B.isi (dv 1) (by rfl) B.bool)) (w_or1 (b_tru (d_isi .str (by rfl) B.isi (dv 1) (by rfl) B.str)))))
  (ss_cons (s_if (b_w (w_or (b_cmp (p_ne hu) (d_isi .bool (by rfl) B.isi (dv 0) (by rfl) B.bool) (d_isi .bool (by rfl) B.isi (dv 1) (by rfl) B.bool)) (w_or1 (b_cmp (p_ne hu) (d_isi .str (by rfl) B.isi (dv 0) (by rfl) B.str) (d_isi .str (by rfl) B.isi (dv 1) (by rfl) B.str)))))
  (ss_one (s_ret d_bl))
  ss_nil)
  (ss_one (s_ret (d_cmp (p_eq hu) (dv 0) (dv 1)))))
  ss_nil)
  (ss_cons (s_if (b_tru (d_isi .int (by rfl) B.isi (dv 1) (by rfl) B.int))
  (ss_one (s_ret (d_and (d_isi .int (by rfl) B.isi (dv 0) (by rfl) B.int) (d_and (d_not (d_isi .bool (by rfl) B.isi (dv 0) (by rfl) B.bool)) (d_one (d_cmp (p_eq hu) (dv 0) (dv 1)))))))
  ss_nil)
  (ss_cons (s_if (b_w (w_and (b_tru (d_isi .list (by rfl) B.isi (dv 1) (by rfl) B.list)) (w_and1 (b_not (b_tru (d_isi .list (by rfl) B.isi (dv 0) (by rfl) B.list))))))
  (ss_one (s_ret d_bl))
  ss_nil)
  (ss_cons (s_if (b_w (w_and (b_tru (d_isi .tuple (by rfl) B.isi (dv 1) (by rfl) B.tuple)) (w_and1 (b_not (b_tru (d_isi .tuple (by rfl) B.isi (dv 0) (by rfl) B.tuple))))))
  (ss_one (s_ret d_bl))
  ss_nil)
  (ss_cons (s_if (b_cmp (p_ne hu) (d_blt c_len (by rfl) B.len (dl_cons (dv 0) dl_nil)) (d_blt c_len (by rfl) B.len (dl_cons (dv 1) dl_nil)))
  (ss_one (s_ret d_bl))
  ss_nil)
  (ss_cons (s_for (i_r1 (by rfl) B.range (dl_cons (d_blt c_len (by rfl) B.len (dl_cons (dv 1) dl_nil)) dl_nil)) (g_name (i := 2) sc.nd)
  (ss_one (s_if (b_not (b_tru (d_fn C__law_same tk hr (dl_cons (d_ix (dv 0) (dv 2)) (dl_cons (d_ix (dv 1) (dv 2)) dl_nil)))))
  (ss_one (s_ret d_bl))
  ss_nil)) po)
  (ss_one (s_ret d_bl))))))))), fun ds r P' XR h => ?_⟩
    obtain ⟨a, b, rfl, pa, pb, da, db, h⟩ := h
    replace h := fit.of h
    cases b with
    | adr x => cases pb
    | ins _ _ _ => cases pb
    | dct _ _ => cases pb
    | non =>
      refine brT ?_
      cases a <;> exact h
    | bl x =>
      refine brF (brT (brT ?_))
      cases a <;> first | (cases pa; done) | skip
      case bl y => cases x <;> cases y <;> exact ⟨Nat.zero_le _, Nat.zero_le _, brF ⟨Nat.zero_le _, Nat.zero_le _, brF ⟨Nat.zero_le _, Nat.zero_le _, h⟩⟩⟩
      all_goals exact ⟨Nat.zero_le _, Nat.zero_le _, brT (brT h)⟩
    | str x =>
      refine brF (brF (brT ?_))
      cases a <;> first | (cases pa; done) | skip
      case str y => exact ⟨Nat.zero_le _, Nat.zero_le _, brF ⟨Nat.zero_le _, Nat.zero_le _, brF ⟨Nat.zero_le _, Nat.zero_le _, h⟩⟩⟩
      case bl y => exact ⟨Nat.zero_le _, Nat.zero_le _, brT (brT h)⟩
      all_goals exact ⟨Nat.zero_le _, Nat.zero_le _, brF ⟨Nat.zero_le _, Nat.zero_le _, brT h⟩⟩
    | int x =>
      refine brF (brF (brF (brT ?_)))
      cases a <;> first | (cases pa; done) | skip
      case int y => exact brT (brT ⟨Nat.zero_le _, Nat.zero_le _, h⟩)
      case bl y => exact brT (brF h)
      all_goals exact brF h
    | lst ys =>
      refine brF (brF (brF (brF (brT ?_))))
      cases a <;> first | (cases pa; done) | skip
      case lst xs =>
        refine brF (brF (brF ?_))
        refine fun ly lx => ⟨Nat.zero_le _, Nat.zero_le _, ?_⟩
        by_cases hl : xs.length = ys.length
        rotate_left
        · refine brt (ne_len hl) ?_
          have : sames xs ys = false := by
            cases q : sames xs ys with
            | false => rfl
            | true => exact absurd (sames_len q) hl
          simp only [G.same, this] at h
          exact h
        · refine brf (eq_len hl) ?_
          replace pa := (plain_lst pa).2
          replace pb := (plain_lst pb).2
          simp only [dep] at da db
          simp only [G.same] at h
          rw [sizeLine_eq] at ly
          refine fun _ => ⟨⟨by omega, by omega⟩, fun i δ' r' => (∃ k, δ' = [some (.lst xs), some (.lst ys), k]) ∧ r' = r ∧ ∀ (j : Nat) (x y : D), j < i → xs[j]? = some x → ys[j]? = some y → same x y = true, ⟨⟨none, rfl⟩, rfl, fun _ _ _ z => by omega⟩, ?_, ?_⟩
          · rintro i d δ' r' hd ⟨⟨k, rfl⟩, rfl, hI⟩
            have hi : i < ys.length := by
              have := (List.getElem?_eq_some_iff.mp hd).1
              simpa using this
            rw [List.getElem?_map, List.getElem?_range (by simpa using hi)] at hd
            cases hd
            obtain ⟨y, ey⟩ : ∃ y, ys[i]? = some y := ⟨ys[i], by simp⟩
            obtain ⟨x, ex⟩ := same_sides hl ey
            refine ix_l (atI_nat ex) (ix_l (atI_nat ey) ⟨x, y, rfl, plains_at pa ex, plains_at pb ey, by have := deps_at ex; omega, by have := deps_at ey; omega, ?_⟩)
            cases q : same x y with
            | false =>
              refine brT ?_
              have : sames xs ys = false := by
                cases q2 : sames xs ys with
                | false => rfl
                | true => rw [sames_at q2 ex ey] at q; cases q
              rw [this] at h
              exact h
            | true =>
              refine brF ⟨⟨_, rfl⟩, rfl, fun j x' y' hj ex' ey' => ?_⟩
              by_cases hji : j = i
              · subst hji
                rw [ex] at ex'
                rw [ey] at ey'
                cases ex'
                cases ey'
                exact q
              · exact hI j x' y' (by omega) ex' ey'
          · rintro δ' r' ⟨⟨k, rfl⟩, rfl, hI⟩
            have : sames xs ys = true := sames_of hl fun j x y ex ey => hI j x y (by have := (List.getElem?_eq_some_iff.mp ey).1; simpa using this) ex ey
            rw [this] at h
            exact h
      all_goals exact brT h
    | tup ys =>
      refine brF (brF (brF (brF (brF (brF (brT ?_))))))
      cases a <;> first | (cases pa; done) | skip
      case tup xs =>
        refine brF ?_
        refine fun ly lx => ⟨Nat.zero_le _, Nat.zero_le _, ?_⟩
        by_cases hl : xs.length = ys.length
        rotate_left
        · refine brt (ne_len hl) ?_
          have : sames xs ys = false := by
            cases q : sames xs ys with
            | false => rfl
            | true => exact absurd (sames_len q) hl
          simp only [G.same, this] at h
          exact h
        · refine brf (eq_len hl) ?_
          replace pa := (plain_tup pa).2
          replace pb := (plain_tup pb).2
          simp only [dep] at da db
          simp only [G.same] at h
          rw [sizeLine_eq] at ly
          refine fun _ => ⟨⟨by omega, by omega⟩, fun i δ' r' => (∃ k, δ' = [some (.tup xs), some (.tup ys), k]) ∧ r' = r ∧ ∀ (j : Nat) (x y : D), j < i → xs[j]? = some x → ys[j]? = some y → same x y = true, ⟨⟨none, rfl⟩, rfl, fun _ _ _ z => by omega⟩, ?_, ?_⟩
          · rintro i d δ' r' hd ⟨⟨k, rfl⟩, rfl, hI⟩
            have hi : i < ys.length := by
              have := (List.getElem?_eq_some_iff.mp hd).1
              simpa using this
            rw [List.getElem?_map, List.getElem?_range (by simpa using hi)] at hd
            cases hd
            obtain ⟨y, ey⟩ : ∃ y, ys[i]? = some y := ⟨ys[i], by simp⟩
            obtain ⟨x, ex⟩ := same_sides hl ey
            refine ix_t (atI_nat ex) (ix_t (atI_nat ey) ⟨x, y, rfl, plains_at pa ex, plains_at pb ey, by have := deps_at ex; omega, by have := deps_at ey; omega, ?_⟩)
            cases q : same x y with
            | false =>
              refine brT ?_
              have : sames xs ys = false := by
                cases q2 : sames xs ys with
                | false => rfl
                | true => rw [sames_at q2 ex ey] at q; cases q
              rw [this] at h
              exact h
            | true =>
              refine brF ⟨⟨_, rfl⟩, rfl, fun j x' y' hj ex' ey' => ?_⟩
              by_cases hji : j = i
              · subst hji
                rw [ex] at ex'
                rw [ey] at ey'
                cases ex'
                cases ey'
                exact q
              · exact hI j x' y' (by omega) ex' ey'
          · rintro δ' r' ⟨⟨k, rfl⟩, rfl, hI⟩
            have : sames xs ys = true := sames_of hl fun j x y ex ey => hI j x y (by have := (List.getElem?_eq_some_iff.mp ey).1; simpa using this) ex ey
            rw [this] at h
            exact h
      all_goals exact brT h
abbrev N__law_word : List Str := ["_law_pool_here", "_law_letters", "_law_k"]
theorem sc__law_word : FnScope N__law_word ["_law_pool_here"] (defScope s__law_word) := ⟨rfl, rfl, rfl, by decide +kernel, rfl, by decide +kernel, by decide +kernel⟩
theorem c__law_word (B : Bl mg) (C__law_draw : Cl P w K mg base 1 "_law_draw" ["_law_pool_here", "_law_many"] spDraw) (Dx : Dfn K mg "_law_word" s__law_word ["_law_pool_here"]) : Cl P w K mg base 2 "_law_word" ["_law_pool_here"] spWord := by
  have sc := sc__law_word
  refine cl_of Dx sc (fun ds r P' XR ⟨p, a, N, X, e, _⟩ => by rw [e]; rfl) (fun f cdv A outer s H E hr tk po => ⟨_, (ss_cons (s_set (i := 1) sc.nd d_str)
  (ss_one (s_ret (d_join d_str (d_lc (js := [2]) (own := [("_law_k", 2)]) sc.nd (i_r1 (by rfl) B.range (dl_cons (d_bin p_add d_int (d_fn C__law_draw tk hr (dl_cons (dv 0) (dl_cons d_int dl_nil)))) dl_nil)) (blkOk_by (own := [("_law_k", 2)]) (N := N__law_word) (sc := defScope s__law_word) (by decide +kernel)) (fun _ _ _ _ _ => (g_name (i := 2) sc.nd)) (fun _ _ _ _ _ => pts_no) (fun _ _ _ _ _ => (d_ix (dv 1) (d_fnN C__law_draw hr (dl_cons (dv 0) (dl_cons d_int dl_nil)))))))))), fun ds r P' XR h => ?_⟩)
  obtain ⟨p, a, N, X, rfl, rfl, hN, hP⟩ := h
  refine ⟨p, a, 8, N, X, rfl, rfl, ⟨by decide, by decide⟩, by omega, fun k h0 h1 => ⟨⟨by omega, by omega⟩, ?_⟩⟩
  refine ⟨fun i acc r' => ∃ cs : List Nat, acc = cs.map (fun c => D.str (sg c)) ∧ cs.length = i ∧ (∀ c ∈ cs, isLet c = true) ∧ r' = poolA p a (N + 1 + i) :: X, ⟨[], rfl, rfl, fun _ h => (by cases h), rfl⟩, ?_, ?_⟩
  · rintro q i d acc r' hd ⟨cs, rfl, hc, hl, rfl⟩
    have hi : i < 8 := by
      have := (List.getElem?_eq_some_iff.mp hd).1
      rw [List.length_map, List.length_range] at this
      omega
    refine brT ?_
    refine ⟨p, a, 26, N + 1 + i, X ++ [lstA q _], rfl, rfl, ⟨by decide, by decide⟩, by omega, fun j j0 j1 => ?_⟩
    obtain ⟨c, hat, hc2⟩ := abc_at j0 j1
    refine ix_s hat ⟨?_, poolA p a (N + 1 + i + 1) :: X, le.refl, cs ++ [c], by rw [List.map_append]; rfl, by rw [List.length_append, hc]; rfl, fun x hx => (List.mem_append.mp hx).elim (hl x) fun h => (List.mem_singleton.mp h) ▸ hc2, rfl⟩
    rw [List.length_map, hc]
    unfold small
    omega
  · rintro acc r' ⟨cs, rfl, hc, hl, rfl⟩
    rw [List.length_map, List.length_range] at hc
    have e8 : cs.length ≤ 8 := by omega
    have e1 : 1 ≤ cs.length := by omega
    refine join_l (strL_sg cs) ?_ ⟨poolA p a (N + 9) :: X, pool_mono (by rw [List.length_map, List.length_range]; omega), hP _ (nm_signs e1 e8 hl)⟩
    rw [sum_ones, List.length_map]
    show cs.length + cs.length * 0 ≤ 1000000
    omega
abbrev N__law_object : List Str := ["_law_pool_here", "_law_depth", "_law_pick", "_law_word_here", "_law_odd", "_law_at", "_law_parts", "_law_k"]
theorem sc__law_object : FnScope N__law_object ["_law_pool_here", "_law_depth"] (defScope s__law_object) := ⟨rfl, rfl, rfl, by decide +kernel, rfl, by decide +kernel, by decide +kernel⟩
theorem c__law_object (B : Bl mg) (C__law_draw : Cl P w K mg base 1 "_law_draw" ["_law_pool_here", "_law_many"] spDraw) (C__law_word : Cl P w K mg base 2 "_law_word" ["_law_pool_here"] spWord) (Dx : Dfn K mg "_law_object" s__law_object ["_law_pool_here", "_law_depth"]) : ∀ n : Nat, Cl P w K mg base (n + 3) "_law_object" ["_law_pool_here", "_law_depth"] (spObj n) := fun n => by
  have sc := sc__law_object
  have C__law_object : Cl P w K mg base (n + 2) "_law_object" ["_law_pool_here", "_law_depth"] (fun ds r P' XR => ∃ m, n = m + 1 ∧ spObj m ds r P' XR) := by
    cases n with
    | zero => exact cl_never Dx fun ds r P' XR ⟨m, e, _⟩ => by omega
    | succ m =>
      obtain ⟨f, fd, F, g, kp, b⟩ := c__law_object B C__law_draw C__law_word Dx m
      exact ⟨f, fd, F.imp fun vs H Q E ⟨r, ds, P', XR, h1, h2, ⟨m', e, h3⟩, h4, h5⟩ => by cases e; exact ⟨r, ds, P', XR, h1, h2, h3, h4, h5⟩, g, kp, b⟩
  refine cl_of Dx sc (fun ds r P' XR ⟨p, a, N, X, dp, e, _⟩ => by rw [e]; rfl) (fun f cdv A outer s H E hr tk po => ?_)
  have hu := hr.units
  refine ⟨_, (ss_cons (s_set (i := 2) sc.nd (d_fn C__law_draw tk hr (dl_cons (dv 0) (dl_cons (d_if (b_cmp p_lt (dv 1) d_int) d_int d_int) dl_nil))))
  (ss_cons (s_if (b_cmp p_lt (dv 2) d_int)
  (ss_one (s_ret (d_ix (d_lst (dl_cons d_non (dl_cons d_bl (dl_cons d_bl dl_nil)))) (dv 2))))
  ss_nil)
  (ss_cons (s_if (b_cmp p_lt (dv 2) d_int)
  (ss_one (s_ret (d_ix (d_lst (dl_cons (d_fn C__law_draw tk hr (dl_cons (dv 0) (dl_cons d_int dl_nil))) (dl_cons (d_bin p_sub (d_neg d_int) (d_fn C__law_draw tk hr (dl_cons (dv 0) (dl_cons d_int dl_nil)))) (dl_cons (d_fn C__law_draw tk hr (dl_cons (dv 0) (dl_cons (d_bin p_pow d_int d_int) dl_nil))) dl_nil)))) (d_bin p_sub (dv 2) d_int))))
  ss_nil)
  (ss_cons (s_if (b_cmp p_lt (dv 2) d_int)
  (ss_one (s_ret (d_ix (d_lst (dl_cons d_str (dl_cons (d_bin p_add (d_bin p_add (d_fn C__law_word tk hr (dl_cons (dv 0) dl_nil)) d_str) (d_fn C__law_word tk hr (dl_cons (dv 0) dl_nil))) (dl_cons (d_bin p_add (d_fn C__law_word tk hr (dl_cons (dv 0) dl_nil)) d_str) dl_nil)))) (d_bin p_sub (dv 2) d_int))))
  ss_nil)
  (ss_cons (s_if (b_cmp p_lt (dv 2) d_int)
  (ss_cons (s_set (i := 3) sc.nd (d_fn C__law_word tk hr (dl_cons (dv 0) dl_nil)))
  (ss_cons (s_set (i := 4) sc.nd (d_ix (d_lst (dl_cons d_str (dl_cons d_str (dl_cons d_str (dl_cons d_str (dl_cons d_str (dl_cons d_str (dl_cons d_str (dl_cons d_str dl_nil))))))))) (d_fn C__law_draw tk hr (dl_cons (dv 0) (dl_cons d_int dl_nil)))))
  (ss_cons (s_set (i := 5) sc.nd (d_fn C__law_draw tk hr (dl_cons (dv 0) (dl_cons (d_bin p_add (d_blt c_len (by rfl) B.len (dl_cons (dv 3) dl_nil)) d_int) dl_nil))))
  (ss_one (s_ret (d_bin p_add (d_bin p_add (d_sl (dv 3) o_no (o_some (dv 5))) (dv 4)) (d_sl (dv 3) (o_some (dv 5)) o_no)))))))
  ss_nil)
  (ss_cons (s_setLc (i := 6) (js := [7]) (own := [("_law_k", 7)]) sc.nd (i_r1 (by rfl) B.range (dl_cons (d_fn C__law_draw tk hr (dl_cons (dv 0) (dl_cons d_int dl_nil))) dl_nil)) (blkOk_by (own := [("_law_k", 7)]) (N := N__law_object) (sc := defScope s__law_object) (by decide +kernel)) (fun _ _ _ _ _ => (g_name (i := 7) sc.nd)) (fun _ _ _ _ _ => pts_no) (fun _ _ _ _ _ => (d_fnN C__law_object hr (dl_cons (dv 0) (dl_cons (d_bin p_add (dv 1) d_int) dl_nil)))) (sw_true rfl rfl rfl (by decide +kernel)))
  (ss_cons (s_if (b_cmp (p_eq hu) (dv 2) d_int)
  (ss_one (s_ret (dv 6)))
  ss_nil)
  (ss_cons (s_if (b_cmp (p_eq hu) (dv 2) d_int)
  (ss_one (s_ret (d_ty c_tuple (by rfl) B.tuple (dl_cons (dv 6) dl_nil))))
  ss_nil)
  (ss_one (s_ret (d_bin p_add (d_tup (dl_cons (d_ix (d_lst (dl_cons d_str (dl_cons d_str (dl_cons d_str (dl_cons d_str (dl_cons d_str dl_nil)))))) (d_fn C__law_draw tk hr (dl_cons (dv 0) (dl_cons d_int dl_nil)))) dl_nil)) (d_ty c_tuple (by rfl) B.tuple (dl_cons (dv 6) dl_nil))))))))))))), fun ds r P' XR h => ?_⟩
  obtain ⟨p, a, N, X, dp, rfl, rfl, hd0, hd2, hN, hn2, hP⟩ := h
  suffices key : ∀ k : Int, 0 ≤ k → k < 16 → (13 ≤ k → dp < 2) → _ from ⟨fun h => ⟨p, a, 16, N, X, rfl, rfl, ⟨by decide, by decide⟩, by omega, fun k h0 h1 => key k h0 h1 fun _ => of_decide_eq_true h⟩, fun h => ⟨p, a, 13, N, X, rfl, rfl, ⟨by decide, by decide⟩, by omega, fun k h0 h1 => key k h0 (by omega) fun q => by omega⟩⟩
  intro k k0 k16 k13
  have hB : 60 ≤ objB n := by cases n <;> simp only [objB] <;> omega
  have fin : ∀ (M : Nat) (d : D), M ≤ N + objB n → gd 8 (n + 1) d = true → fit P' d (poolA p a M :: X) := fun M d hM hd => ⟨_, pool_mono hM, hP d hd⟩
  by_cases h3 : k < 3
  · refine brt (decide_eq_true h3) ?_
    refine ⟨Nat.le_of_ble_eq_true rfl, ?_⟩
    obtain ⟨d, md, ed⟩ := pick_in (l := [.non, .bl true, .bl false]) k0 h3
    refine ix_l ed (fin _ _ (by omega) ?_)
    simp only [List.mem_cons, List.not_mem_nil, or_false] at md
    rcases md with rfl | rfl | rfl <;> rfl
  refine brf (decide_eq_false h3) ?_
  by_cases h6 : k < 6
  · refine brt (decide_eq_true h6) ?_
    refine ⟨p, a, 4, N + 1, X, rfl, rfl, ⟨by decide, by decide⟩, by omega, fun x x0 x1 => ?_⟩
    refine ⟨p, a, 9, N + 1 + 1, X, rfl, rfl, ⟨by decide, by decide⟩, by omega, fun y y0 y1 => ?_⟩
    refine ⟨⟨by decide, by decide, by decide⟩, ?_⟩
    refine ⟨p, a, _, N + 1 + 1 + 1, X, rfl, rfl, ⟨by decide, by decide⟩, by omega, fun z z0 z1 => ?_⟩
    refine ⟨Nat.le_of_ble_eq_true rfl, ?_⟩
    obtain ⟨d, md, ed⟩ := pick_in (l := [.int x, .int (-1 - y), .int z]) (k := k - 3) (by omega) (by show k - 3 < 3; omega)
    refine ix_l ed (fin _ _ (by omega) ?_)
    simp only [List.mem_cons, List.not_mem_nil, or_false] at md
    rcases md with rfl | rfl | rfl <;> exact gd_int
  refine brf (decide_eq_false h6) ?_
  by_cases h9 : k < 9
  · refine brt (decide_eq_true h9) ?_
    refine ⟨p, a, N + 1, X, rfl, rfl, by omega, fun u hu1 => ?_⟩
    have lu := isNm_len hu1
    refine ⟨by show u.length + 1 ≤ 1000000; omega, ?_⟩
    refine ⟨p, a, N + 1 + 9, X, rfl, rfl, by omega, fun v hv1 => ?_⟩
    have lv := isNm_len hv1
    refine ⟨by show (u ++ (" " : Str)).length + v.length ≤ 1000000; rw [len_app]; show u.length + 1 + v.length ≤ 1000000; omega, ?_⟩
    refine ⟨p, a, N + 1 + 9 + 9, X, rfl, rfl, by omega, fun t ht1 => ?_⟩
    have lt := isNm_len ht1
    refine ⟨by show t.length + 8 ≤ 1000000; omega, ?_⟩
    refine ⟨Nat.le_of_ble_eq_true rfl, ?_⟩
    obtain ⟨d, md, ed⟩ := pick_in (l := [.str "", .str (u ++ " " ++ v), .str (t ++ "abcdefgh")]) (k := k - 6) (by omega) (by show k - 6 < 3; omega)
    refine ix_l ed (fin _ _ (by omega) ?_)
    simp only [List.mem_cons, List.not_mem_nil, or_false] at md
    rcases md with rfl | rfl | rfl <;> exact gd_str
  refine brf (decide_eq_false h9) ?_
  by_cases h13 : k < 13
  · refine brt (decide_eq_true h13) ?_
    refine ⟨p, a, N + 1, X, rfl, rfl, by omega, fun u hu1 => ?_⟩
    have lu := isNm_len hu1
    refine ⟨Nat.le_of_ble_eq_true rfl, ?_⟩
    refine ⟨p, a, 8, N + 1 + 9, X, rfl, rfl, ⟨by decide, by decide⟩, by omega, fun j j0 j1 => ?_⟩
    obtain ⟨nn, z, rfl, hz, ez⟩ := pick_at (l := ["A", "_", "0", "\n", "-", "/", ",", "~"]) j0 j1
    have lz : z.length = 1 := by
      have q : ((["A", "_", "0", "\n", "-", "/", ",", "~"] : List Str).all fun z => decide (z.length = 1)) = true := by decide +kernel
      exact of_decide_eq_true (List.all_eq_true.mp q z (List.mem_of_getElem? hz))
    refine ix_l ez ?_
    refine ⟨p, a, (u.length : Int) + 1, N + 1 + 9 + 1, X, rfl, rfl, ⟨by omega, by omega⟩, by omega, fun q q0 q1 => ?_⟩
    refine sl_s ?_
    have l1 := cutS_length u none (some q)
    have l2 := cutS_length u (some q) none
    refine ⟨by show (cutS u none (some q)).length + z.length ≤ 1000000; omega, ?_⟩
    refine sl_s ?_
    refine ⟨by show (cutS u none (some q) ++ z).length + (cutS u (some q) none).length ≤ 1000000; rw [len_app]; omega, ?_⟩
    exact fin _ _ (by omega) gd_str
  refine brf (decide_eq_false h13) ?_
  have hdp := k13 (by omega)
  obtain ⟨m, rfl⟩ : ∃ m, n = m + 1 := ⟨n - 1, by omega⟩
  have eB : objB (m + 1) = 100 + 4 * objB m := rfl
  refine ⟨p, a, 4, N + 1, X, rfl, rfl, ⟨by decide, by decide⟩, by omega, fun c c0 c1 => ⟨⟨by omega, by omega⟩, ?_⟩⟩
  refine ⟨fun i acc r' => acc.length = i ∧ (∀ d ∈ acc, gd 8 (m + 1) d = true) ∧ r' = poolA p a (N + 2 + objB m * i) :: X, ⟨rfl, fun _ z => (by cases z), rfl⟩, ?_, ?_⟩
  · rintro q i d acc r' hd ⟨hc, hgl, rfl⟩
    have hi : i < 4 := by
      have := (List.getElem?_eq_some_iff.mp hd).1
      rw [List.length_map, List.length_range] at this
      omega
    have hob : objB m ≤ 1000 := by
      have : m = 0 ∨ m = 1 := by omega
      rcases this with rfl | rfl <;> decide
    have hmul : objB m * i ≤ 1000 * 4 := Nat.mul_le_mul hob (by omega)
    refine brT ?_
    refine ⟨m, rfl, p, a, N + 2 + objB m * i, X ++ [lstA q _], dp + 1, rfl, rfl, by omega, by omega, by omega, by omega, fun d hgd => ⟨by unfold small; omega, poolA p a (N + 2 + objB m * (i + 1)) :: X, pool_mono (by rw [Nat.mul_succ]; omega), by rw [List.length_append, hc]; rfl, fun y hy => (List.mem_append.mp hy).elim (hgl y) fun z => (List.mem_singleton.mp z) ▸ hgd, rfl⟩⟩
  · rintro ps r' ⟨hc, hg, rfl⟩
    rw [List.length_map, List.length_range] at hc ⊢
    have hl : ps.length ≤ 3 := by omega
    have hmul : objB m * c.toNat ≤ objB m * 3 := Nat.mul_le_mul (Nat.le_refl _) (by omega)
    refine ⟨Nat.zero_le _, Nat.zero_le _, ?_⟩
    cases e13 : k == 13 with
    | true => exact brt e13 (fin _ _ (by omega) (gd_lst.mpr ⟨by omega, hg⟩))
    | false =>
      refine brf e13 ⟨Nat.zero_le _, Nat.zero_le _, ?_⟩
      cases e14 : k == 14 with
      | true => exact brt e14 (fin _ _ (by omega) (gd_tup.mpr ⟨by omega, hg⟩))
      | false =>
        refine brf e14 ?_
        refine ⟨Nat.le_of_ble_eq_true rfl, ?_⟩
        refine ⟨p, a, 5, _, X, rfl, rfl, ⟨by decide, by decide⟩, ?_, fun j j0 j1 => ?_⟩
        · have hob : objB m ≤ 1000 := by
            have : m = 0 ∨ m = 1 := by omega
            rcases this with rfl | rfl <;> decide
          have := Nat.mul_le_mul hob (Nat.le_refl 3)
          omega
        obtain ⟨nn, z, rfl, hz, ez⟩ := pick_at (l := ["take", "get", "look", "probe", "say"]) j0 j1
        refine ix_l ez ⟨Nat.le_of_ble_eq_true rfl, ?_⟩
        refine ⟨by show 1 + ps.length ≤ 1000000; omega, ?_⟩
        refine fin _ _ (by omega) (gd_tup.mpr ⟨by show (D.str z :: ps).length ≤ 8; rw [List.length_cons]; omega, fun d hd => ?_⟩)
        rcases List.mem_cons.mp hd with rfl | hd
        · exact gd_str
        · exact hg d hd
def IsTab (K : PySem.W.Frag) (Cs : List Addr) (C : Addr) : Prop := ∀ D ∈ Cs, ExcC K D ∧ PySem.W.kitOne K (.ref D) (.ref C) = some (decide (D = C))
def IsAny (K : PySem.W.Frag) (Cs : List Addr) (c : Value) (b : Bool) : Prop := ∀ D ∈ Cs, ExcC K D ∧ PySem.W.kitOne K (.ref D) c = some b
def spCls (Cs : List Addr) : SpX := fun ds r P _ => ∃ a D, ds = [.adr a] ∧ ErrIn r a D ∧ D ∈ Cs ∧ P (.lst (Cs.map fun C => .bl (decide (D = C)))) r
abbrev N__law_classes : List Str := ["_law_error"]
theorem sc__law_classes : FnScope N__law_classes ["_law_error"] (defScope s__law_classes) := ⟨rfl, rfl, rfl, by decide +kernel, rfl, by decide +kernel, by decide +kernel⟩
theorem c__law_classes {C_BadName C_BadDeed C_BadRow C_BadPlace C_BadMode C_BadContents C_BadTurn C_BadPair C_BadText C_BadCommand C_NoThing C_NoKey C_NoPart C_NoRow C_NoProbe C_NotNested C_Twice C_Unmatched C_TooMany C_Watched C_Over : Addr} {Cs : List Addr} (hCs : Cs = [C_BadName, C_BadDeed, C_BadRow, C_BadPlace, C_BadMode, C_BadContents, C_BadTurn, C_BadPair, C_BadText, C_BadCommand, C_NoThing, C_NoKey, C_NoPart, C_NoRow, C_NoProbe, C_NotNested, C_Twice, C_Unmatched, C_TooMany, C_Watched, C_Over]) (B : Bl mg) (T_BadName : IsTab K Cs C_BadName) (R_BadName : mg "BadName" = some (.ref C_BadName)) (T_BadDeed : IsTab K Cs C_BadDeed) (R_BadDeed : mg "BadDeed" = some (.ref C_BadDeed)) (T_BadRow : IsTab K Cs C_BadRow) (R_BadRow : mg "BadRow" = some (.ref C_BadRow)) (T_BadPlace : IsTab K Cs C_BadPlace) (R_BadPlace : mg "BadPlace" = some (.ref C_BadPlace)) (T_BadMode : IsTab K Cs C_BadMode) (R_BadMode : mg "BadMode" = some (.ref C_BadMode)) (T_BadContents : IsTab K Cs C_BadContents) (R_BadContents : mg "BadContents" = some (.ref C_BadContents)) (T_BadTurn : IsTab K Cs C_BadTurn) (R_BadTurn : mg "BadTurn" = some (.ref C_BadTurn)) (T_BadPair : IsTab K Cs C_BadPair) (R_BadPair : mg "BadPair" = some (.ref C_BadPair)) (T_BadText : IsTab K Cs C_BadText) (R_BadText : mg "BadText" = some (.ref C_BadText)) (T_BadCommand : IsTab K Cs C_BadCommand) (R_BadCommand : mg "BadCommand" = some (.ref C_BadCommand)) (T_NoThing : IsTab K Cs C_NoThing) (R_NoThing : mg "NoThing" = some (.ref C_NoThing)) (T_NoKey : IsTab K Cs C_NoKey) (R_NoKey : mg "NoKey" = some (.ref C_NoKey)) (T_NoPart : IsTab K Cs C_NoPart) (R_NoPart : mg "NoPart" = some (.ref C_NoPart)) (T_NoRow : IsTab K Cs C_NoRow) (R_NoRow : mg "NoRow" = some (.ref C_NoRow)) (T_NoProbe : IsTab K Cs C_NoProbe) (R_NoProbe : mg "NoProbe" = some (.ref C_NoProbe)) (T_NotNested : IsTab K Cs C_NotNested) (R_NotNested : mg "NotNested" = some (.ref C_NotNested)) (T_Twice : IsTab K Cs C_Twice) (R_Twice : mg "Twice" = some (.ref C_Twice)) (T_Unmatched : IsTab K Cs C_Unmatched) (R_Unmatched : mg "Unmatched" = some (.ref C_Unmatched)) (T_TooMany : IsTab K Cs C_TooMany) (R_TooMany : mg "TooMany" = some (.ref C_TooMany)) (T_Watched : IsTab K Cs C_Watched) (R_Watched : mg "Watched" = some (.ref C_Watched)) (T_Over : IsTab K Cs C_Over) (R_Over : mg "Over" = some (.ref C_Over)) (Dx : Dfn K mg "_law_classes" s__law_classes ["_law_error"]) : Cl P w K mg base 1 "_law_classes" ["_law_error"] (spCls Cs) := by
  have sc := sc__law_classes
  refine cl_of Dx sc (fun ds r P' XR ⟨_, _, e, _⟩ => by rw [e]; rfl) (fun f cdv A outer s H E hr tk po => ?_)
  have hu := hr.units
  have hi := u65 hr
  refine ⟨_, (ss_one (s_ret (d_lst (dl_cons (d_isX T_BadName (by rfl) B.isi (dv 0) R_BadName) (dl_cons (d_isX T_BadDeed (by rfl) B.isi (dv 0) R_BadDeed) (dl_cons (d_isX T_BadRow (by rfl) B.isi (dv 0) R_BadRow) (dl_cons (d_isX T_BadPlace (by rfl) B.isi (dv 0) R_BadPlace) (dl_cons (d_isX T_BadMode (by rfl) B.isi (dv 0) R_BadMode) (dl_cons (d_isX T_BadContents (by rfl) B.isi (dv 0) R_BadContents) (dl_cons (d_isX T_BadTurn (by rfl) B.isi (dv 0) R_BadTurn) (dl_cons (d_isX T_BadPair (by rfl) B.isi (dv 0) R_BadPair) (dl_cons (d_isX T_BadText (by rfl) B.isi (dv 0) R_BadText) (dl_cons (d_isX T_BadCommand (by rfl) B.isi (dv 0) R_BadCommand) (dl_cons (d_isX T_NoThing (by rfl) B.isi (dv 0) R_NoThing) (dl_cons (d_isX T_NoKey (by rfl) B.isi (dv 0) R_NoKey) (dl_cons (d_isX T_NoPart (by rfl) B.isi (dv 0) R_NoPart) (dl_cons (d_isX T_NoRow (by rfl) B.isi (dv 0) R_NoRow) (dl_cons (d_isX T_NoProbe (by rfl) B.isi (dv 0) R_NoProbe) (dl_cons (d_isX T_NotNested (by rfl) B.isi (dv 0) R_NotNested) (dl_cons (d_isX T_Twice (by rfl) B.isi (dv 0) R_Twice) (dl_cons (d_isX T_Unmatched (by rfl) B.isi (dv 0) R_Unmatched) (dl_cons (d_isX T_TooMany (by rfl) B.isi (dv 0) R_TooMany) (dl_cons (d_isX T_Watched (by rfl) B.isi (dv 0) R_Watched) (dl_cons (d_isX T_Over (by rfl) B.isi (dv 0) R_Over) dl_nil)))))))))))))))))))))))), fun ds r P' XR h => ?_⟩
  obtain ⟨a, D, rfl, he, hD, h⟩ := h
  rw [hCs] at h
  exact ⟨a, D, rfl, hD, he, ⟨a, D, rfl, hD, he, ⟨a, D, rfl, hD, he, ⟨a, D, rfl, hD, he, ⟨a, D, rfl, hD, he, ⟨a, D, rfl, hD, he, ⟨a, D, rfl, hD, he, ⟨a, D, rfl, hD, he, ⟨a, D, rfl, hD, he, ⟨a, D, rfl, hD, he, ⟨a, D, rfl, hD, he, ⟨a, D, rfl, hD, he, ⟨a, D, rfl, hD, he, ⟨a, D, rfl, hD, he, ⟨a, D, rfl, hD, he, ⟨a, D, rfl, hD, he, ⟨a, D, rfl, hD, he, ⟨a, D, rfl, hD, he, ⟨a, D, rfl, hD, he, ⟨a, D, rfl, hD, he, ⟨a, D, rfl, hD, he, Nat.le_of_ble_eq_true rfl, fit.of h⟩⟩⟩⟩⟩⟩⟩⟩⟩⟩⟩⟩⟩⟩⟩⟩⟩⟩⟩⟩⟩
def errZ (ZW ZO : Addr) : List (Addr × Str) → List Addr → List Addr → List D → Rs
  | (C, f) :: cs, a :: as, x :: xs, d :: ds => exA a C x f d :: errZ ZW ZO cs as xs ds
  | [], [a, b], _, _ => [ex0A a ZW, ex0A b ZO]
  | _, _, _, _ => []
def spAtt (C_BadName C_BadDeed C_BadRow C_BadPlace C_BadMode C_BadContents C_BadTurn C_BadPair C_BadText C_BadCommand C_NoThing C_NoKey C_NoPart C_NoRow C_NoProbe C_NotNested C_Twice C_Unmatched C_TooMany C_Watched C_Over : Addr) : SpX := fun ds r P _ => ∃ (as xs : List Addr) (dd : List D) (Y : At), as.length = 21 ∧ xs.length = 19 ∧ dd.length = 19 ∧ ds = [.lst (as.map .adr)] ∧ r = Y :: errZ C_Watched C_Over [(C_BadName, "name"), (C_BadDeed, "deed"), (C_BadRow, "number"), (C_BadPlace, "place"), (C_BadMode, "mode"), (C_BadContents, "part"), (C_BadTurn, "turn"), (C_BadPair, "pair"), (C_BadText, "line"), (C_BadCommand, "command"), (C_NoThing, "name"), (C_NoKey, "key"), (C_NoPart, "name"), (C_NoRow, "number"), (C_NoProbe, "name"), (C_NotNested, "name"), (C_Twice, "name"), (C_Unmatched, "number"), (C_TooMany, "limit")] as xs dd ∧ P (.lst dd) r
theorem errZ_in {ZW ZO : Addr} : ∀ {cs : List (Addr × Str)} {as xs : List Addr} {dd : List D}, as.length = cs.length + 2 → xs.length = cs.length → dd.length = cs.length → ∀ (pre : Rs) (k : Nat) (a D : Addr), as[k]? = some a → (cs.map Prod.fst ++ [ZW, ZO])[k]? = some D → ErrIn (pre ++ errZ ZW ZO cs as xs dd) a D
  | [], [u, v], xs, dd, _, _, _, pre, 0, a, D, h1, h2 => by
    cases h1
    cases h2
    exact .inr ⟨pre, _, rfl⟩
  | [], [u, v], xs, dd, _, _, _, pre, 1, a, D, h1, h2 => by
    cases h1
    cases h2
    exact .inr ⟨pre ++ [ex0A u ZW], _, by rw [List.append_assoc]; rfl⟩
  | [], [u, v], xs, dd, _, _, _, pre, k + 2, a, D, h1, h2 => by cases h1
  | (C, f) :: cs, u :: as, x :: xs, d :: dd, l1, l2, l3, pre, 0, a, D, h1, h2 => by
    cases h1
    cases h2
    exact .inl ⟨x, f, d, pre, _, rfl⟩
  | (C, f) :: cs, u :: as, x :: xs, d :: dd, l1, l2, l3, pre, k + 1, a, D, h1, h2 => by
    have := errZ_in (ZW := ZW) (ZO := ZO) (cs := cs) (as := as) (xs := xs) (dd := dd) (by simpa using l1) (by simpa using l2) (by simpa using l3) (pre ++ [exA u C x f d]) k a D h1 h2
    rw [List.append_assoc] at this
    exact this
abbrev N__law_attributes : List Str := ["_law_errors"]
theorem sc__law_attributes : FnScope N__law_attributes ["_law_errors"] (defScope s__law_attributes) := ⟨rfl, rfl, rfl, by decide +kernel, rfl, by decide +kernel, by decide +kernel⟩
theorem c__law_attributes {C_BadName C_BadDeed C_BadRow C_BadPlace C_BadMode C_BadContents C_BadTurn C_BadPair C_BadText C_BadCommand C_NoThing C_NoKey C_NoPart C_NoRow C_NoProbe C_NotNested C_Twice C_Unmatched C_TooMany C_Watched C_Over : Addr} (B : Bl mg) (X_BadName : ErrX P w K mg base "BadName" C_BadName "name") (X_BadDeed : ErrX P w K mg base "BadDeed" C_BadDeed "deed") (X_BadRow : ErrX P w K mg base "BadRow" C_BadRow "number") (X_BadPlace : ErrX P w K mg base "BadPlace" C_BadPlace "place") (X_BadMode : ErrX P w K mg base "BadMode" C_BadMode "mode") (X_BadContents : ErrX P w K mg base "BadContents" C_BadContents "part") (X_BadTurn : ErrX P w K mg base "BadTurn" C_BadTurn "turn") (X_BadPair : ErrX P w K mg base "BadPair" C_BadPair "pair") (X_BadText : ErrX P w K mg base "BadText" C_BadText "line") (X_BadCommand : ErrX P w K mg base "BadCommand" C_BadCommand "command") (X_NoThing : ErrX P w K mg base "NoThing" C_NoThing "name") (X_NoKey : ErrX P w K mg base "NoKey" C_NoKey "key") (X_NoPart : ErrX P w K mg base "NoPart" C_NoPart "name") (X_NoRow : ErrX P w K mg base "NoRow" C_NoRow "number") (X_NoProbe : ErrX P w K mg base "NoProbe" C_NoProbe "name") (X_NotNested : ErrX P w K mg base "NotNested" C_NotNested "name") (X_Twice : ErrX P w K mg base "Twice" C_Twice "name") (X_Unmatched : ErrX P w K mg base "Unmatched" C_Unmatched "number") (X_TooMany : ErrX P w K mg base "TooMany" C_TooMany "limit") (Dx : Dfn K mg "_law_attributes" s__law_attributes ["_law_errors"]) : Cl P w K mg base 1 "_law_attributes" ["_law_errors"] (spAtt C_BadName C_BadDeed C_BadRow C_BadPlace C_BadMode C_BadContents C_BadTurn C_BadPair C_BadText C_BadCommand C_NoThing C_NoKey C_NoPart C_NoRow C_NoProbe C_NotNested C_Twice C_Unmatched C_TooMany C_Watched C_Over) := by
  have sc := sc__law_attributes
  refine cl_of Dx sc (fun ds r P' XR ⟨_, _, _, _, _, _, _, e, _⟩ => by rw [e]; rfl) (fun f cdv A outer s H E hr tk po => ?_)
  have hu := hr.units
  have hi := u65 hr
  refine ⟨_, (ss_one (s_ret (d_lst (dl_cons (d_xe X_BadName.xf X_BadName.no (d_ix (dv 0) d_int)) (dl_cons (d_xe X_BadDeed.xf X_BadDeed.no (d_ix (dv 0) d_int)) (dl_cons (d_xe X_BadRow.xf X_BadRow.no (d_ix (dv 0) d_int)) (dl_cons (d_xe X_BadPlace.xf X_BadPlace.no (d_ix (dv 0) d_int)) (dl_cons (d_xe X_BadMode.xf X_BadMode.no (d_ix (dv 0) d_int)) (dl_cons (d_xe X_BadContents.xf X_BadContents.no (d_ix (dv 0) d_int)) (dl_cons (d_xe X_BadTurn.xf X_BadTurn.no (d_ix (dv 0) d_int)) (dl_cons (d_xe X_BadPair.xf X_BadPair.no (d_ix (dv 0) d_int)) (dl_cons (d_xe X_BadText.xf X_BadText.no (d_ix (dv 0) d_int)) (dl_cons (d_xe X_BadCommand.xf X_BadCommand.no (d_ix (dv 0) d_int)) (dl_cons (d_xe X_NoThing.xf X_NoThing.no (d_ix (dv 0) d_int)) (dl_cons (d_xe X_NoKey.xf X_NoKey.no (d_ix (dv 0) d_int)) (dl_cons (d_xe X_NoPart.xf X_NoPart.no (d_ix (dv 0) d_int)) (dl_cons (d_xe X_NoRow.xf X_NoRow.no (d_ix (dv 0) d_int)) (dl_cons (d_xe X_NoProbe.xf X_NoProbe.no (d_ix (dv 0) d_int)) (dl_cons (d_xe X_NotNested.xf X_NotNested.no (d_ix (dv 0) d_int)) (dl_cons (d_xe X_Twice.xf X_Twice.no (d_ix (dv 0) d_int)) (dl_cons (d_xe X_Unmatched.xf X_Unmatched.no (d_ix (dv 0) d_int)) (dl_cons (d_xe X_TooMany.xf X_TooMany.no (d_ix (dv 0) d_int)) dl_nil)))))))))))))))))))))), fun ds r P' XR h => ?_⟩
  obtain ⟨as, xs, dd, Y, l1, l2, l3, rfl, rfl, h⟩ := h
  obtain ⟨a0, a1, a2, a3, a4, a5, a6, a7, a8, a9, a10, a11, a12, a13, a14, a15, a16, a17, a18, a19, a20, rfl⟩ : ∃ a0 a1 a2 a3 a4 a5 a6 a7 a8 a9 a10 a11 a12 a13 a14 a15 a16 a17 a18 a19 a20, as = [a0, a1, a2, a3, a4, a5, a6, a7, a8, a9, a10, a11, a12, a13, a14, a15, a16, a17, a18, a19, a20] := by
    match as, l1 with
    | [a0, a1, a2, a3, a4, a5, a6, a7, a8, a9, a10, a11, a12, a13, a14, a15, a16, a17, a18, a19, a20], _ => exact ⟨a0, a1, a2, a3, a4, a5, a6, a7, a8, a9, a10, a11, a12, a13, a14, a15, a16, a17, a18, a19, a20, rfl⟩
  obtain ⟨e0, e1, e2, e3, e4, e5, e6, e7, e8, e9, e10, e11, e12, e13, e14, e15, e16, e17, e18, rfl⟩ : ∃ e0 e1 e2 e3 e4 e5 e6 e7 e8 e9 e10 e11 e12 e13 e14 e15 e16 e17 e18, xs = [e0, e1, e2, e3, e4, e5, e6, e7, e8, e9, e10, e11, e12, e13, e14, e15, e16, e17, e18] := by
    match xs, l2 with
    | [e0, e1, e2, e3, e4, e5, e6, e7, e8, e9, e10, e11, e12, e13, e14, e15, e16, e17, e18], _ => exact ⟨e0, e1, e2, e3, e4, e5, e6, e7, e8, e9, e10, e11, e12, e13, e14, e15, e16, e17, e18, rfl⟩
  obtain ⟨x0, x1, x2, x3, x4, x5, x6, x7, x8, x9, x10, x11, x12, x13, x14, x15, x16, x17, x18, rfl⟩ : ∃ x0 x1 x2 x3 x4 x5 x6 x7 x8 x9 x10 x11 x12 x13 x14 x15 x16 x17 x18, dd = [x0, x1, x2, x3, x4, x5, x6, x7, x8, x9, x10, x11, x12, x13, x14, x15, x16, x17, x18] := by
    match dd, l3 with
    | [x0, x1, x2, x3, x4, x5, x6, x7, x8, x9, x10, x11, x12, x13, x14, x15, x16, x17, x18], _ => exact ⟨x0, x1, x2, x3, x4, x5, x6, x7, x8, x9, x10, x11, x12, x13, x14, x15, x16, x17, x18, rfl⟩
  refine ix_l (L2.atI_nat (j := 0) rfl) ⟨a0, e0, x0, [Y], _, rfl, rfl, ?_⟩
  refine ix_l (L2.atI_nat (j := 1) rfl) ⟨a1, e1, x1, [Y, exA a0 C_BadName e0 "name" x0], _, rfl, rfl, ?_⟩
  refine ix_l (L2.atI_nat (j := 2) rfl) ⟨a2, e2, x2, [Y, exA a0 C_BadName e0 "name" x0, exA a1 C_BadDeed e1 "deed" x1], _, rfl, rfl, ?_⟩
  refine ix_l (L2.atI_nat (j := 3) rfl) ⟨a3, e3, x3, [Y, exA a0 C_BadName e0 "name" x0, exA a1 C_BadDeed e1 "deed" x1, exA a2 C_BadRow e2 "number" x2], _, rfl, rfl, ?_⟩
  refine ix_l (L2.atI_nat (j := 4) rfl) ⟨a4, e4, x4, [Y, exA a0 C_BadName e0 "name" x0, exA a1 C_BadDeed e1 "deed" x1, exA a2 C_BadRow e2 "number" x2, exA a3 C_BadPlace e3 "place" x3], _, rfl, rfl, ?_⟩
  refine ix_l (L2.atI_nat (j := 5) rfl) ⟨a5, e5, x5, [Y, exA a0 C_BadName e0 "name" x0, exA a1 C_BadDeed e1 "deed" x1, exA a2 C_BadRow e2 "number" x2, exA a3 C_BadPlace e3 "place" x3, exA a4 C_BadMode e4 "mode" x4], _, rfl, rfl, ?_⟩
  refine ix_l (L2.atI_nat (j := 6) rfl) ⟨a6, e6, x6, [Y, exA a0 C_BadName e0 "name" x0, exA a1 C_BadDeed e1 "deed" x1, exA a2 C_BadRow e2 "number" x2, exA a3 C_BadPlace e3 "place" x3, exA a4 C_BadMode e4 "mode" x4, exA a5 C_BadContents e5 "part" x5], _, rfl, rfl, ?_⟩
  refine ix_l (L2.atI_nat (j := 7) rfl) ⟨a7, e7, x7, [Y, exA a0 C_BadName e0 "name" x0, exA a1 C_BadDeed e1 "deed" x1, exA a2 C_BadRow e2 "number" x2, exA a3 C_BadPlace e3 "place" x3, exA a4 C_BadMode e4 "mode" x4, exA a5 C_BadContents e5 "part" x5, exA a6 C_BadTurn e6 "turn" x6], _, rfl, rfl, ?_⟩
  refine ix_l (L2.atI_nat (j := 8) rfl) ⟨a8, e8, x8, [Y, exA a0 C_BadName e0 "name" x0, exA a1 C_BadDeed e1 "deed" x1, exA a2 C_BadRow e2 "number" x2, exA a3 C_BadPlace e3 "place" x3, exA a4 C_BadMode e4 "mode" x4, exA a5 C_BadContents e5 "part" x5, exA a6 C_BadTurn e6 "turn" x6, exA a7 C_BadPair e7 "pair" x7], _, rfl, rfl, ?_⟩
  refine ix_l (L2.atI_nat (j := 9) rfl) ⟨a9, e9, x9, [Y, exA a0 C_BadName e0 "name" x0, exA a1 C_BadDeed e1 "deed" x1, exA a2 C_BadRow e2 "number" x2, exA a3 C_BadPlace e3 "place" x3, exA a4 C_BadMode e4 "mode" x4, exA a5 C_BadContents e5 "part" x5, exA a6 C_BadTurn e6 "turn" x6, exA a7 C_BadPair e7 "pair" x7, exA a8 C_BadText e8 "line" x8], _, rfl, rfl, ?_⟩
  refine ix_l (L2.atI_nat (j := 10) rfl) ⟨a10, e10, x10, [Y, exA a0 C_BadName e0 "name" x0, exA a1 C_BadDeed e1 "deed" x1, exA a2 C_BadRow e2 "number" x2, exA a3 C_BadPlace e3 "place" x3, exA a4 C_BadMode e4 "mode" x4, exA a5 C_BadContents e5 "part" x5, exA a6 C_BadTurn e6 "turn" x6, exA a7 C_BadPair e7 "pair" x7, exA a8 C_BadText e8 "line" x8, exA a9 C_BadCommand e9 "command" x9], _, rfl, rfl, ?_⟩
  refine ix_l (L2.atI_nat (j := 11) rfl) ⟨a11, e11, x11, [Y, exA a0 C_BadName e0 "name" x0, exA a1 C_BadDeed e1 "deed" x1, exA a2 C_BadRow e2 "number" x2, exA a3 C_BadPlace e3 "place" x3, exA a4 C_BadMode e4 "mode" x4, exA a5 C_BadContents e5 "part" x5, exA a6 C_BadTurn e6 "turn" x6, exA a7 C_BadPair e7 "pair" x7, exA a8 C_BadText e8 "line" x8, exA a9 C_BadCommand e9 "command" x9, exA a10 C_NoThing e10 "name" x10], _, rfl, rfl, ?_⟩
  refine ix_l (L2.atI_nat (j := 12) rfl) ⟨a12, e12, x12, [Y, exA a0 C_BadName e0 "name" x0, exA a1 C_BadDeed e1 "deed" x1, exA a2 C_BadRow e2 "number" x2, exA a3 C_BadPlace e3 "place" x3, exA a4 C_BadMode e4 "mode" x4, exA a5 C_BadContents e5 "part" x5, exA a6 C_BadTurn e6 "turn" x6, exA a7 C_BadPair e7 "pair" x7, exA a8 C_BadText e8 "line" x8, exA a9 C_BadCommand e9 "command" x9, exA a10 C_NoThing e10 "name" x10, exA a11 C_NoKey e11 "key" x11], _, rfl, rfl, ?_⟩
  refine ix_l (L2.atI_nat (j := 13) rfl) ⟨a13, e13, x13, [Y, exA a0 C_BadName e0 "name" x0, exA a1 C_BadDeed e1 "deed" x1, exA a2 C_BadRow e2 "number" x2, exA a3 C_BadPlace e3 "place" x3, exA a4 C_BadMode e4 "mode" x4, exA a5 C_BadContents e5 "part" x5, exA a6 C_BadTurn e6 "turn" x6, exA a7 C_BadPair e7 "pair" x7, exA a8 C_BadText e8 "line" x8, exA a9 C_BadCommand e9 "command" x9, exA a10 C_NoThing e10 "name" x10, exA a11 C_NoKey e11 "key" x11, exA a12 C_NoPart e12 "name" x12], _, rfl, rfl, ?_⟩
  refine ix_l (L2.atI_nat (j := 14) rfl) ⟨a14, e14, x14, [Y, exA a0 C_BadName e0 "name" x0, exA a1 C_BadDeed e1 "deed" x1, exA a2 C_BadRow e2 "number" x2, exA a3 C_BadPlace e3 "place" x3, exA a4 C_BadMode e4 "mode" x4, exA a5 C_BadContents e5 "part" x5, exA a6 C_BadTurn e6 "turn" x6, exA a7 C_BadPair e7 "pair" x7, exA a8 C_BadText e8 "line" x8, exA a9 C_BadCommand e9 "command" x9, exA a10 C_NoThing e10 "name" x10, exA a11 C_NoKey e11 "key" x11, exA a12 C_NoPart e12 "name" x12, exA a13 C_NoRow e13 "number" x13], _, rfl, rfl, ?_⟩
  refine ix_l (L2.atI_nat (j := 15) rfl) ⟨a15, e15, x15, [Y, exA a0 C_BadName e0 "name" x0, exA a1 C_BadDeed e1 "deed" x1, exA a2 C_BadRow e2 "number" x2, exA a3 C_BadPlace e3 "place" x3, exA a4 C_BadMode e4 "mode" x4, exA a5 C_BadContents e5 "part" x5, exA a6 C_BadTurn e6 "turn" x6, exA a7 C_BadPair e7 "pair" x7, exA a8 C_BadText e8 "line" x8, exA a9 C_BadCommand e9 "command" x9, exA a10 C_NoThing e10 "name" x10, exA a11 C_NoKey e11 "key" x11, exA a12 C_NoPart e12 "name" x12, exA a13 C_NoRow e13 "number" x13, exA a14 C_NoProbe e14 "name" x14], _, rfl, rfl, ?_⟩
  refine ix_l (L2.atI_nat (j := 16) rfl) ⟨a16, e16, x16, [Y, exA a0 C_BadName e0 "name" x0, exA a1 C_BadDeed e1 "deed" x1, exA a2 C_BadRow e2 "number" x2, exA a3 C_BadPlace e3 "place" x3, exA a4 C_BadMode e4 "mode" x4, exA a5 C_BadContents e5 "part" x5, exA a6 C_BadTurn e6 "turn" x6, exA a7 C_BadPair e7 "pair" x7, exA a8 C_BadText e8 "line" x8, exA a9 C_BadCommand e9 "command" x9, exA a10 C_NoThing e10 "name" x10, exA a11 C_NoKey e11 "key" x11, exA a12 C_NoPart e12 "name" x12, exA a13 C_NoRow e13 "number" x13, exA a14 C_NoProbe e14 "name" x14, exA a15 C_NotNested e15 "name" x15], _, rfl, rfl, ?_⟩
  refine ix_l (L2.atI_nat (j := 17) rfl) ⟨a17, e17, x17, [Y, exA a0 C_BadName e0 "name" x0, exA a1 C_BadDeed e1 "deed" x1, exA a2 C_BadRow e2 "number" x2, exA a3 C_BadPlace e3 "place" x3, exA a4 C_BadMode e4 "mode" x4, exA a5 C_BadContents e5 "part" x5, exA a6 C_BadTurn e6 "turn" x6, exA a7 C_BadPair e7 "pair" x7, exA a8 C_BadText e8 "line" x8, exA a9 C_BadCommand e9 "command" x9, exA a10 C_NoThing e10 "name" x10, exA a11 C_NoKey e11 "key" x11, exA a12 C_NoPart e12 "name" x12, exA a13 C_NoRow e13 "number" x13, exA a14 C_NoProbe e14 "name" x14, exA a15 C_NotNested e15 "name" x15, exA a16 C_Twice e16 "name" x16], _, rfl, rfl, ?_⟩
  refine ix_l (L2.atI_nat (j := 18) rfl) ⟨a18, e18, x18, [Y, exA a0 C_BadName e0 "name" x0, exA a1 C_BadDeed e1 "deed" x1, exA a2 C_BadRow e2 "number" x2, exA a3 C_BadPlace e3 "place" x3, exA a4 C_BadMode e4 "mode" x4, exA a5 C_BadContents e5 "part" x5, exA a6 C_BadTurn e6 "turn" x6, exA a7 C_BadPair e7 "pair" x7, exA a8 C_BadText e8 "line" x8, exA a9 C_BadCommand e9 "command" x9, exA a10 C_NoThing e10 "name" x10, exA a11 C_NoKey e11 "key" x11, exA a12 C_NoPart e12 "name" x12, exA a13 C_NoRow e13 "number" x13, exA a14 C_NoProbe e14 "name" x14, exA a15 C_NotNested e15 "name" x15, exA a16 C_Twice e16 "name" x16, exA a17 C_Unmatched e17 "number" x17], _, rfl, rfl, ?_⟩
  exact ⟨Nat.le_of_ble_eq_true rfl, fit.of h⟩
mutual
theorem eqv_py : ∀ d : D, plain d = true → PyData.eqv (py d) (py d) = true
  | .non, _ => rfl
  | .bl b, _ => by cases b <;> rfl
  | .int i, _ => by simp [py, PyData.eqv]
  | .str x, _ => eqv_str x
  | .adr _, h => by cases h
  | .ins _ _ _, h => by cases h
  | .dct _ _, h => by cases h
  | .lst ds, h => by
    have := eqv_pys ds (plain_lst h).2
    simp only [py, PyData.eqv]
    exact this
  | .tup ds, h => by
    have := eqv_pys ds (plain_tup h).2
    simp only [py, PyData.eqv]
    exact this
theorem eqv_pys : ∀ ds : List D, plains ds = true → PyData.eqvAll (pys ds) (pys ds) = true
  | [], _ => rfl
  | d :: ds, h => by
    have h : (plain d && plains ds) = true := h
    rw [Bool.and_eq_true] at h
    simp only [pys, PyData.eqvAll]
    rw [eqv_py d h.1, eqv_pys ds h.2]
    rfl
end
theorem eqD_refl {d : D} (h : plain d = true) : eqD d d = true := eqv_py d h
structure ErrD (K : PySem.W.Frag) (CQ C : Addr) : Prop where
  ec : ExcC K C
  ty : PySem.W.typeIn K (.ref C) = some (.type "type")
  mr : ∃ cd, PySem.W.clsIn K C = some cd ∧ cd.mro = [.ref C, .ref CQ, .type "ValueError", .type "Exception", .type "BaseException", .type "object"]
theorem ErrD.sub {K : PySem.W.Frag} {CQ C : Addr} (h : ErrD K CQ C) (c : Value) : PySem.W.subIn K (.ref C) c = some (([.ref C, .ref CQ, .type "ValueError", .type "Exception", .type "BaseException", .type "object"] : List Value).contains c) := by
  obtain ⟨cd, h1, h2⟩ := h.mr
  show PySem.W.mroIn K C c = _
  unfold PySem.W.mroIn
  rw [h1]
  show (if cd.mro.isEmpty then none else some (cd.mro.contains c)) = _
  rw [h2]
  rfl
theorem isTab_of {K : PySem.W.Frag} {CQ : Addr} {Cs : List Addr} (h : ∀ D ∈ Cs, ErrD K CQ D) (hq : CQ ∉ Cs) {C : Addr} (hC : C ∈ Cs) : IsTab K Cs C := fun D hD => by
  refine ⟨(h D hD).ec, kit_exc (h C hC).ec.hd (h C hC).ty ?_ fun e => decide_eq_true e⟩
  rw [(h D hD).sub]
  have hne : C ≠ CQ := fun e => hq (e ▸ hC)
  congr 1
  by_cases e : D = C
  · subst e
    rw [decide_eq_true rfl]
    simp
  · rw [decide_eq_false e]
    have e1 : C ≠ D := fun k => e k.symm
    simp [hne, e1]
theorem isQ_of {K : PySem.W.Frag} {CQ : Addr} {Cs : List Addr} (h : ∀ D ∈ Cs, ErrD K CQ D) (hd : PySem.W.hasDictIn K CQ = true) (ty : PySem.W.typeIn K (.ref CQ) = some (.type "type")) : IsAny K Cs (.ref CQ) true := fun D hD => by
  refine ⟨(h D hD).ec, kit_exc hd ty ?_ fun _ => rfl⟩
  rw [(h D hD).sub]
  simp
theorem isB_of {K : PySem.W.Frag} {CQ : Addr} {Cs : List Addr} (h : ∀ D ∈ Cs, ErrD K CQ D) {T : String} {b : Bool} (hT : PySem.W.kitMeta T = true) (hb : ([.type "ValueError", .type "Exception", .type "BaseException", .type "object"] : List Value).contains (.type T) = b) : IsAny K Cs (.type T) b := fun D hD => by
  refine ⟨(h D hD).ec, ?_⟩
  have e := (h D hD).sub (.type T)
  unfold PySem.W.kitOne
  rw [if_neg (fun k => (by have k := beq_iff_eq.mp k; cases k))]
  show (if PySem.W.kitMeta T = true then PySem.W.subIn K (.ref D) (.type T) else none) = some b
  rw [if_pos hT, e, ← hb]
  congr 1
theorem errD_mk {K : PySem.W.Frag} {CQ C N : Addr} {nm q : Str} {bs bm : List Value} {sn : List Str} {sub : List Value} {ab : Bool} {col : Option Bool} {dd : Option Addr} {k0 k1 k2 k3 k5 : Option Value} (xL : K.lookup C = some (excClassObj nm q C N bs bm true sn sub ab col dd k0 k1 k2 k3 k5 "ValueError.__new__")) (mb : bm = [.ref CQ, .type "ValueError", .type "Exception", .type "BaseException", .type "object"]) (ec : ExcC K C) (ty : PySem.W.typeIn K (.ref C) = some (.type "type")) : ErrD K CQ C := by
  subst mb
  refine ⟨ec, ty, ?_⟩
  unfold PySem.W.clsIn
  rw [xL]
  exact ⟨_, rfl, rfl⟩
theorem cls_row {Cs : List Addr} {i : Nat} {Di : Addr} (hnd : Cs.Nodup) (hl : Cs.length = 21) (hi : i < 21) (hD : Cs[i]? = some Di) : Cs.map (fun C => D.bl (decide (Di = C))) = ((List.range 21).map fun j : Nat => D.int j).map fun d => .bl (eqD d (.int (i : Nat))) := by
  refine List.ext_getElem? fun j => ?_
  rw [List.getElem?_map, List.getElem?_map, List.getElem?_map]
  by_cases hj : j < 21
  · rw [List.getElem?_range hj, List.getElem?_eq_getElem (show j < Cs.length by omega)]
    show some (D.bl (decide (Di = Cs[j]))) = some (D.bl (eqD (.int (j : Nat)) (.int (i : Nat))))
    congr 2
    rw [eqD_int]
    by_cases e : j = i
    · subst e
      rw [List.getElem?_eq_getElem (show j < Cs.length by omega)] at hD
      rw [← Option.some.inj hD]
      simp
    · have hne : ¬ Di = Cs[j] := fun k => e ((List.getElem?_inj (show j < Cs.length by omega) hnd).mp (by rw [hD, k]; exact List.getElem?_eq_getElem _))
      rw [decide_eq_false hne]
      exact (beq_false_of_ne (by omega)).symm
  · rw [List.getElem?_eq_none (show Cs.length ≤ j by omega), List.getElem?_eq_none (show (List.range 21).length ≤ j by rw [List.length_range]; omega)]
    rfl
abbrev N_law : List Str := ["_law_script", "_law_pool_here", "_law_xs", "_law_k", "_law_errors", "_law_j"]
theorem sc_law : FnScope N_law ["_law_script"] (defScope s_law) := ⟨rfl, rfl, rfl, by decide +kernel, rfl, by decide +kernel, by decide +kernel⟩
set_option maxHeartbeats 2000000 in
theorem ok_law {C_BadName C_BadDeed C_BadRow C_BadPlace C_BadMode C_BadContents C_BadTurn C_BadPair C_BadText C_BadCommand C_NoThing C_NoKey C_NoPart C_NoRow C_NoProbe C_NotNested C_Twice C_Unmatched C_TooMany C_Watched C_Over CQ fl fp : Addr} {Cs : List Addr} {fd fdp : FuncData} (hCs : Cs = [C_BadName, C_BadDeed, C_BadRow, C_BadPlace, C_BadMode, C_BadContents, C_BadTurn, C_BadPair, C_BadText, C_BadCommand, C_NoThing, C_NoKey, C_NoPart, C_NoRow, C_NoProbe, C_NotNested, C_Twice, C_Unmatched, C_TooMany, C_Watched, C_Over]) (hnd : Cs.Nodup) (F : Fun K "law" "law" s_law fl fd) (GP : FnOk P w K mg base CX0 1 fp fdp ["_law_script"] (spPool K)) (gP : mg "_law_pool" = some (.ref fp)) (kP : PySem.W.keepIn K (.ref fp) = true) (bP : Binds K fdp ["_law_script"] []) (B : Bl mg)
    (X_BadName : ErrX P w K mg base "BadName" C_BadName "name") (X_BadDeed : ErrX P w K mg base "BadDeed" C_BadDeed "deed") (X_BadRow : ErrX P w K mg base "BadRow" C_BadRow "number") (X_BadPlace : ErrX P w K mg base "BadPlace" C_BadPlace "place") (X_BadMode : ErrX P w K mg base "BadMode" C_BadMode "mode") (X_BadContents : ErrX P w K mg base "BadContents" C_BadContents "part") (X_BadTurn : ErrX P w K mg base "BadTurn" C_BadTurn "turn") (X_BadPair : ErrX P w K mg base "BadPair" C_BadPair "pair") (X_BadText : ErrX P w K mg base "BadText" C_BadText "line") (X_BadCommand : ErrX P w K mg base "BadCommand" C_BadCommand "command") (X_NoThing : ErrX P w K mg base "NoThing" C_NoThing "name") (X_NoKey : ErrX P w K mg base "NoKey" C_NoKey "key") (X_NoPart : ErrX P w K mg base "NoPart" C_NoPart "name") (X_NoRow : ErrX P w K mg base "NoRow" C_NoRow "number") (X_NoProbe : ErrX P w K mg base "NoProbe" C_NoProbe "name") (X_NotNested : ErrX P w K mg base "NotNested" C_NotNested "name") (X_Twice : ErrX P w K mg base "Twice" C_Twice "name") (X_Unmatched : ErrX P w K mg base "Unmatched" C_Unmatched "number") (X_TooMany : ErrX P w K mg base "TooMany" C_TooMany "limit") (X_Watched : ErrX0 P w K mg base "Watched" C_Watched) (X_Over : ErrX0 P w K mg base "Over" C_Over)
    (J_QuietError : IsAny K Cs (.ref CQ) true) (R_QuietError : mg "QuietError" = some (.ref CQ)) (J_ValueError : IsAny K Cs (.type "ValueError") true) (z_ValueError : mg "ValueError" = none) (J_LookupError : IsAny K Cs (.type "LookupError") false) (z_LookupError : mg "LookupError" = none) (J_str : IsAny K Cs (.type "str") false)
    (C__law_object : Cl P w K mg base 5 "_law_object" ["_law_pool_here", "_law_depth"] (spObj 2)) (C__law_same : Cl P w K mg base 9 "_law_same" ["_law_actual", "_law_due"] (spSame 9)) (C__law_classes : Cl P w K mg base 1 "_law_classes" ["_law_error"] (spCls Cs)) (C__law_attributes : Cl P w K mg base 1 "_law_attributes" ["_law_errors"] (spAtt C_BadName C_BadDeed C_BadRow C_BadPlace C_BadMode C_BadContents C_BadTurn C_BadPair C_BadText C_BadCommand C_NoThing C_NoKey C_NoPart C_NoRow C_NoProbe C_NotNested C_Twice C_Unmatched C_TooMany C_Watched C_Over)) :
    FnOk P w K mg base CX0 11 fl fd ["_law_script"] (spLaw K) := by
  have sc := sc_law
  refine F.ok sc (fun vs H Q E h => ?_) (fun cdv A outer s H vs Q E hr h => ?_)
  · obtain ⟨a, ns, rfl, _⟩ := h
    rfl
  obtain ⟨a, ns, rfl, hS, hl, hQ⟩ := h
  have hu := hr.units
  have hi := u65 hr
  refine ⟨_, pss_cons (ps_set (i := 1) sc.nd rfl (.inr rfl) (pe_call GP (hr.mono (by decide)) (by rfl) gP kP bP .nil pass0 (pa_cons (pv 0) pa_nil))) ((ss_cons (s_setLc (i := 2) (js := [3]) (own := [("_law_k", 3)]) sc.nd (i_r1 (by rfl) B.range (dl_cons d_int dl_nil)) (blkOk_by (own := [("_law_k", 3)]) (N := N_law) (sc := defScope s_law) (by decide +kernel)) (fun _ _ _ _ _ => (g_name (i := 3) sc.nd)) (fun _ _ _ _ _ => pts_no) (fun _ _ _ _ _ => (d_fnN C__law_object hr (dl_cons (dv 1) (dl_cons d_int dl_nil)))) (sw_true rfl rfl rfl (by decide +kernel)))
  (ss_cons (s_set (i := 4) sc.nd (d_lst (dl_cons (d_mkE X_BadName hr (dl_cons (d_ix (dv 2) d_int) dl_nil)) (dl_cons (d_mkE X_BadDeed hr (dl_cons (d_ix (dv 2) d_int) dl_nil)) (dl_cons (d_mkE X_BadRow hr (dl_cons (d_ix (dv 2) d_int) dl_nil)) (dl_cons (d_mkE X_BadPlace hr (dl_cons (d_ix (dv 2) d_int) dl_nil)) (dl_cons (d_mkE X_BadMode hr (dl_cons (d_ix (dv 2) d_int) dl_nil)) (dl_cons (d_mkE X_BadContents hr (dl_cons (d_ix (dv 2) d_int) dl_nil)) (dl_cons (d_mkE X_BadTurn hr (dl_cons (d_ix (dv 2) d_int) dl_nil)) (dl_cons (d_mkE X_BadPair hr (dl_cons (d_ix (dv 2) d_int) dl_nil)) (dl_cons (d_mkE X_BadText hr (dl_cons (d_ix (dv 2) d_int) dl_nil)) (dl_cons (d_mkE X_BadCommand hr (dl_cons (d_ix (dv 2) d_int) dl_nil)) (dl_cons (d_mkE X_NoThing hr (dl_cons (d_ix (dv 2) d_int) dl_nil)) (dl_cons (d_mkE X_NoKey hr (dl_cons (d_ix (dv 2) d_int) dl_nil)) (dl_cons (d_mkE X_NoPart hr (dl_cons (d_ix (dv 2) d_int) dl_nil)) (dl_cons (d_mkE X_NoRow hr (dl_cons (d_ix (dv 2) d_int) dl_nil)) (dl_cons (d_mkE X_NoProbe hr (dl_cons (d_ix (dv 2) d_int) dl_nil)) (dl_cons (d_mkE X_NotNested hr (dl_cons (d_ix (dv 2) d_int) dl_nil)) (dl_cons (d_mkE X_Twice hr (dl_cons (d_ix (dv 2) d_int) dl_nil)) (dl_cons (d_mkE X_Unmatched hr (dl_cons (d_ix (dv 2) d_int) dl_nil)) (dl_cons (d_mkE X_TooMany hr (dl_cons (d_ix (dv 2) d_int) dl_nil)) (dl_cons (d_mkE0 X_Watched hr) (dl_cons (d_mkE0 X_Over hr) dl_nil)))))))))))))))))))))))
  (ss_cons (s_if (b_not (b_tru (d_fn C__law_same takes0 hr (dl_cons (d_fn C__law_attributes takes0 hr (dl_cons (dv 4) dl_nil)) (dl_cons (dv 2) dl_nil)))))
  (ss_one (s_ret d_bl))
  ss_nil)
  (ss_cons (s_for (i_r1 (by rfl) B.range (dl_cons d_int dl_nil)) (g_name (i := 3) sc.nd)
  (ss_cons (s_if (b_cmp (p_ne hu) (d_fn C__law_classes takes0 hr (dl_cons (d_ix (dv 4) (dv 3)) dl_nil)) (d_lc (js := [5]) (own := [("_law_j", 5)]) sc.nd (i_r1 (by rfl) B.range (dl_cons d_int dl_nil)) (blkOk_by (own := [("_law_j", 5)]) (N := N_law) (sc := defScope s_law) (by decide +kernel)) (fun _ _ _ _ _ => (g_name (i := 5) sc.nd)) (fun _ _ _ _ _ => pts_no) (fun _ _ _ _ _ => (d_cmp (p_eq hu) (dv 5) (dv 3)))))
  (ss_one (s_ret d_bl))
  ss_nil)
  (ss_cons (s_if (b_w (w_or (b_not (b_tru (d_isX (by exact J_QuietError) (by rfl) B.isi (d_ix (dv 4) (dv 3)) R_QuietError))) (w_or1 (b_not (b_tru (d_isXb (by exact J_ValueError) (by rfl) B.isi (d_ix (dv 4) (dv 3)) z_ValueError))))))
  (ss_one (s_ret d_bl))
  ss_nil)
  (ss_one (s_if (b_w (w_or (b_tru (d_isXb (by exact J_LookupError) (by rfl) B.isi (d_ix (dv 4) (dv 3)) z_LookupError)) (w_or1 (b_tru (d_isXb (by exact J_str) (by rfl) B.isi (d_ix (dv 4) (dv 3)) B.str)))))
  (ss_one (s_ret d_bl))
  ss_nil)))) PassesOwn.never)
  (ss_one (s_ret d_bl)))))) : PBD _ W0 _ _), ?_⟩
  refine ⟨_, rfl, a, ns, rfl, hS, hl, fun p a' H' ro => law_go ro hQ ?_⟩
  have hob : objB 2 ≤ 10000000 := by decide
  refine ⟨⟨by decide, by decide⟩, ⟨fun j acc r'' => acc.length = j ∧ (∀ v ∈ acc, gd 8 3 v = true) ∧ r'' = [poolA p a' (objB 2 * j)], ⟨rfl, fun _ h => (by cases h), rfl⟩, ?_, ?_⟩⟩
  · rintro pl j d acc r'' hd ⟨hj, hg, rfl⟩
    have hj2 := (List.getElem?_eq_some_iff.mp hd).1
    rw [List.length_map, List.length_range] at hj2
    replace hj2 : j < 19 := hj2
    have hm : objB 2 * j ≤ 10000000 * 19 := Nat.mul_le_mul hob (by omega)
    refine brT ⟨p, a', objB 2 * j, [lstA pl acc], 0, rfl, rfl, by decide, by decide, by omega, by decide, fun v gv => ⟨by unfold small; omega, _, le.refl, by rw [List.length_append, hj]; rfl, fun w hw => ?_, by rw [Nat.mul_succ]⟩⟩
    rcases List.mem_append.mp hw with q | q
    · exact hg w q
    · rw [List.mem_singleton.mp q]; exact gv
  rintro acc r'' ⟨hj, hg, rfl⟩
  replace hj : acc.length = 19 := hj
  generalize objB 2 * (List.map (fun i : Nat => D.int ↑i) (List.range (Int.toNat 19))).length = N0
  obtain ⟨x0, x1, x2, x3, x4, x5, x6, x7, x8, x9, x10, x11, x12, x13, x14, x15, x16, x17, x18, rfl⟩ : ∃ x0 x1 x2 x3 x4 x5 x6 x7 x8 x9 x10 x11 x12 x13 x14 x15 x16 x17 x18, acc = [x0, x1, x2, x3, x4, x5, x6, x7, x8, x9, x10, x11, x12, x13, x14, x15, x16, x17, x18] := by
    match acc, hj with
    | [x0, x1, x2, x3, x4, x5, x6, x7, x8, x9, x10, x11, x12, x13, x14, x15, x16, x17, x18], _ => exact ⟨x0, x1, x2, x3, x4, x5, x6, x7, x8, x9, x10, x11, x12, x13, x14, x15, x16, x17, x18, rfl⟩
  refine ix_l (L2.atI_nat (j := 0) rfl) ⟨x0, rfl, fun a0 e0 => ?_⟩
  refine ix_l (L2.atI_nat (j := 1) rfl) ⟨x1, rfl, fun a1 e1 => ?_⟩
  refine ix_l (L2.atI_nat (j := 2) rfl) ⟨x2, rfl, fun a2 e2 => ?_⟩
  refine ix_l (L2.atI_nat (j := 3) rfl) ⟨x3, rfl, fun a3 e3 => ?_⟩
  refine ix_l (L2.atI_nat (j := 4) rfl) ⟨x4, rfl, fun a4 e4 => ?_⟩
  refine ix_l (L2.atI_nat (j := 5) rfl) ⟨x5, rfl, fun a5 e5 => ?_⟩
  refine ix_l (L2.atI_nat (j := 6) rfl) ⟨x6, rfl, fun a6 e6 => ?_⟩
  refine ix_l (L2.atI_nat (j := 7) rfl) ⟨x7, rfl, fun a7 e7 => ?_⟩
  refine ix_l (L2.atI_nat (j := 8) rfl) ⟨x8, rfl, fun a8 e8 => ?_⟩
  refine ix_l (L2.atI_nat (j := 9) rfl) ⟨x9, rfl, fun a9 e9 => ?_⟩
  refine ix_l (L2.atI_nat (j := 10) rfl) ⟨x10, rfl, fun a10 e10 => ?_⟩
  refine ix_l (L2.atI_nat (j := 11) rfl) ⟨x11, rfl, fun a11 e11 => ?_⟩
  refine ix_l (L2.atI_nat (j := 12) rfl) ⟨x12, rfl, fun a12 e12 => ?_⟩
  refine ix_l (L2.atI_nat (j := 13) rfl) ⟨x13, rfl, fun a13 e13 => ?_⟩
  refine ix_l (L2.atI_nat (j := 14) rfl) ⟨x14, rfl, fun a14 e14 => ?_⟩
  refine ix_l (L2.atI_nat (j := 15) rfl) ⟨x15, rfl, fun a15 e15 => ?_⟩
  refine ix_l (L2.atI_nat (j := 16) rfl) ⟨x16, rfl, fun a16 e16 => ?_⟩
  refine ix_l (L2.atI_nat (j := 17) rfl) ⟨x17, rfl, fun a17 e17 => ?_⟩
  refine ix_l (L2.atI_nat (j := 18) rfl) ⟨x18, rfl, fun a18 e18 => ?_⟩
  refine fun a19 => ?_
  refine fun a20 => ?_
  refine ⟨Nat.le_of_ble_eq_true rfl, ?_⟩
  have gx : ∀ v ∈ [x0, x1, x2, x3, x4, x5, x6, x7, x8, x9, x10, x11, x12, x13, x14, x15, x16, x17, x18], gd 8 3 v = true := hg
  have hpl : plain (.lst [x0, x1, x2, x3, x4, x5, x6, x7, x8, x9, x10, x11, x12, x13, x14, x15, x16, x17, x18]) = true := plain_of_lst (Nat.le_of_ble_eq_true rfl) (plains_of fun v hv => gd_plain (by decide) (gx v hv))
  have hdp : deps [x0, x1, x2, x3, x4, x5, x6, x7, x8, x9, x10, x11, x12, x13, x14, x15, x16, x17, x18] ≤ 3 := deps_le fun v hv => gd_dep (gx v hv)
  refine ⟨[a0, a1, a2, a3, a4, a5, a6, a7, a8, a9, a10, a11, a12, a13, a14, a15, a16, a17, a18, a19, a20], [e0, e1, e2, e3, e4, e5, e6, e7, e8, e9, e10, e11, e12, e13, e14, e15, e16, e17, e18], [x0, x1, x2, x3, x4, x5, x6, x7, x8, x9, x10, x11, x12, x13, x14, x15, x16, x17, x18], poolA p a' N0, rfl, rfl, rfl, rfl, by simp only [List.cons_append, List.nil_append, errZ], ?_⟩
  refine ⟨.lst [x0, x1, x2, x3, x4, x5, x6, x7, x8, x9, x10, x11, x12, x13, x14, x15, x16, x17, x18], .lst [x0, x1, x2, x3, x4, x5, x6, x7, x8, x9, x10, x11, x12, x13, x14, x15, x16, x17, x18], rfl, hpl, hpl, ?_, ?_, ?_⟩
  · show deps [x0, x1, x2, x3, x4, x5, x6, x7, x8, x9, x10, x11, x12, x13, x14, x15, x16, x17, x18] + 1 ≤ 64
    omega
  · show deps [x0, x1, x2, x3, x4, x5, x6, x7, x8, x9, x10, x11, x12, x13, x14, x15, x16, x17, x18] + 1 < 9
    omega
  rw [same_refl _ hpl]
  refine brF ?_
  have er : ([poolA p a' N0] ++ [exA a0 C_BadName e0 "name" x0] ++ [exA a1 C_BadDeed e1 "deed" x1] ++ [exA a2 C_BadRow e2 "number" x2] ++ [exA a3 C_BadPlace e3 "place" x3] ++ [exA a4 C_BadMode e4 "mode" x4] ++ [exA a5 C_BadContents e5 "part" x5] ++ [exA a6 C_BadTurn e6 "turn" x6] ++ [exA a7 C_BadPair e7 "pair" x7] ++ [exA a8 C_BadText e8 "line" x8] ++ [exA a9 C_BadCommand e9 "command" x9] ++ [exA a10 C_NoThing e10 "name" x10] ++ [exA a11 C_NoKey e11 "key" x11] ++ [exA a12 C_NoPart e12 "name" x12] ++ [exA a13 C_NoRow e13 "number" x13] ++ [exA a14 C_NoProbe e14 "name" x14] ++ [exA a15 C_NotNested e15 "name" x15] ++ [exA a16 C_Twice e16 "name" x16] ++ [exA a17 C_Unmatched e17 "number" x17] ++ [exA a18 C_TooMany e18 "limit" x18] ++ [ex0A a19 C_Watched] ++ [ex0A a20 C_Over] : Rs) = [poolA p a' N0] ++ errZ C_Watched C_Over [(C_BadName, "name"), (C_BadDeed, "deed"), (C_BadRow, "number"), (C_BadPlace, "place"), (C_BadMode, "mode"), (C_BadContents, "part"), (C_BadTurn, "turn"), (C_BadPair, "pair"), (C_BadText, "line"), (C_BadCommand, "command"), (C_NoThing, "name"), (C_NoKey, "key"), (C_NoPart, "name"), (C_NoRow, "number"), (C_NoProbe, "name"), (C_NotNested, "name"), (C_Twice, "name"), (C_Unmatched, "number"), (C_TooMany, "limit")] [a0, a1, a2, a3, a4, a5, a6, a7, a8, a9, a10, a11, a12, a13, a14, a15, a16, a17, a18, a19, a20] [e0, e1, e2, e3, e4, e5, e6, e7, e8, e9, e10, e11, e12, e13, e14, e15, e16, e17, e18] [x0, x1, x2, x3, x4, x5, x6, x7, x8, x9, x10, x11, x12, x13, x14, x15, x16, x17, x18] := by simp only [List.cons_append, List.nil_append, errZ]
  have EI := fun (k : Nat) (a D : Addr) (h1 : ([a0, a1, a2, a3, a4, a5, a6, a7, a8, a9, a10, a11, a12, a13, a14, a15, a16, a17, a18, a19, a20] : List Addr)[k]? = some a) (h2 : Cs[k]? = some D) => errZ_in (ZW := C_Watched) (ZO := C_Over) (cs := [(C_BadName, "name"), (C_BadDeed, "deed"), (C_BadRow, "number"), (C_BadPlace, "place"), (C_BadMode, "mode"), (C_BadContents, "part"), (C_BadTurn, "turn"), (C_BadPair, "pair"), (C_BadText, "line"), (C_BadCommand, "command"), (C_NoThing, "name"), (C_NoKey, "key"), (C_NoPart, "name"), (C_NoRow, "number"), (C_NoProbe, "name"), (C_NotNested, "name"), (C_Twice, "name"), (C_Unmatched, "number"), (C_TooMany, "limit")]) (as := [a0, a1, a2, a3, a4, a5, a6, a7, a8, a9, a10, a11, a12, a13, a14, a15, a16, a17, a18, a19, a20]) (xs := [e0, e1, e2, e3, e4, e5, e6, e7, e8, e9, e10, e11, e12, e13, e14, e15, e16, e17, e18]) (dd := [x0, x1, x2, x3, x4, x5, x6, x7, x8, x9, x10, x11, x12, x13, x14, x15, x16, x17, x18]) rfl rfl rfl [poolA p a' N0] k a D h1 (by rw [hCs] at h2; exact h2)
  rw [er]
  revert EI
  generalize ([poolA p a' N0] ++ errZ C_Watched C_Over [(C_BadName, "name"), (C_BadDeed, "deed"), (C_BadRow, "number"), (C_BadPlace, "place"), (C_BadMode, "mode"), (C_BadContents, "part"), (C_BadTurn, "turn"), (C_BadPair, "pair"), (C_BadText, "line"), (C_BadCommand, "command"), (C_NoThing, "name"), (C_NoKey, "key"), (C_NoPart, "name"), (C_NoRow, "number"), (C_NoProbe, "name"), (C_NotNested, "name"), (C_Twice, "name"), (C_Unmatched, "number"), (C_TooMany, "limit")] [a0, a1, a2, a3, a4, a5, a6, a7, a8, a9, a10, a11, a12, a13, a14, a15, a16, a17, a18, a19, a20] [e0, e1, e2, e3, e4, e5, e6, e7, e8, e9, e10, e11, e12, e13, e14, e15, e16, e17, e18] [x0, x1, x2, x3, x4, x5, x6, x7, x8, x9, x10, x11, x12, x13, x14, x15, x16, x17, x18] : Rs) = R
  generalize hal : ([a0, a1, a2, a3, a4, a5, a6, a7, a8, a9, a10, a11, a12, a13, a14, a15, a16, a17, a18, a19, a20] : List Addr) = al
  intro EI
  have ea : D.lst [.adr a0, .adr a1, .adr a2, .adr a3, .adr a4, .adr a5, .adr a6, .adr a7, .adr a8, .adr a9, .adr a10, .adr a11, .adr a12, .adr a13, .adr a14, .adr a15, .adr a16, .adr a17, .adr a18, .adr a19, .adr a20] = .lst (al.map .adr) := by rw [← hal]; rfl
  rw [ea]
  generalize D.lst [x0, x1, x2, x3, x4, x5, x6, x7, x8, x9, x10, x11, x12, x13, x14, x15, x16, x17, x18] = dxs
  have hall : al.length = 21 := by rw [← hal]; rfl
  clear hal ea er
  refine ⟨⟨by decide, by decide⟩, fun i δ r => (∃ x3 x5, δ = [none, some (.adr p), some dxs, x3, some (.lst (al.map .adr)), x5]) ∧ r = R, ⟨⟨_, _, rfl⟩, rfl⟩, ?_, fun δ r _ => rfl⟩
  rintro i d δ r hd ⟨⟨x3, x5, rfl⟩, rfl⟩
  have hi2 := (List.getElem?_eq_some_iff.mp hd).1
  rw [List.length_map, List.length_range] at hi2
  replace hi2 : i < 21 := hi2
  obtain rfl : d = .int (i : Nat) := by
    rw [List.getElem?_map, show (List.range (Int.toNat 21))[i]? = some i from List.getElem?_range hi2] at hd
    exact (Option.some.inj hd).symm
  have hCl : Cs.length = 21 := by rw [hCs]; rfl
  obtain ⟨ai, hai⟩ : ∃ a, al[i]? = some a := ⟨_, List.getElem?_eq_getElem (by omega)⟩
  obtain ⟨Di, hDi⟩ : ∃ D, Cs[i]? = some D := ⟨_, List.getElem?_eq_getElem (by omega)⟩
  have hat : atI (al.map D.adr) (i : Nat) = some (.adr ai) := L2.atI_nat (by rw [List.getElem?_map, hai]; rfl)
  have hin := EI i ai Di hai hDi
  have hmem : Di ∈ Cs := List.mem_of_getElem? hDi
  refine ix_l hat ⟨ai, Di, rfl, hin, hmem, ?_⟩
  refine ⟨⟨by decide, by decide⟩, lc_map (fun d => .bl (eqD d (.int (i : Nat)))) (Nat.le_of_ble_eq_true rfl) (fun d hd r' P' hP => ?_) ?_⟩
  · obtain ⟨j, _, rfl⟩ := List.mem_map.mp hd
    exact ⟨Nat.zero_le _, Nat.zero_le _, hP⟩
  have hrow := cls_row hnd hCl hi2 hDi
  rw [show (List.range (Int.toNat 21)) = List.range 21 from rfl, ← hrow]
  have hpr : plain (.lst (Cs.map fun C => D.bl (decide (Di = C)))) = true := plain_of_lst (by rw [List.length_map, hCl]; exact Nat.le_of_ble_eq_true rfl) (plains_of fun d hd => by obtain ⟨C, _, rfl⟩ := List.mem_map.mp hd; rfl)
  have hdr : dep (.lst (Cs.map fun C => D.bl (decide (Di = C)))) ≤ 1 := by
    show deps (Cs.map fun C => D.bl (decide (Di = C))) + 1 ≤ 1
    have := deps_le (k := 0) (ds := Cs.map fun C => D.bl (decide (Di = C))) fun d hd => by obtain ⟨C, _, rfl⟩ := List.mem_map.mp hd; exact Nat.le_refl _
    omega
  refine ⟨by omega, by omega, ?_⟩
  rw [eqD_refl hpr]
  refine brF ?_
  refine ix_l hat ⟨ai, Di, rfl, hmem, hin, brF ?_⟩
  refine ix_l hat ⟨ai, Di, rfl, hmem, hin, brF ?_⟩
  refine ix_l hat ⟨ai, Di, rfl, hmem, hin, brF ?_⟩
  refine ix_l hat ⟨ai, Di, rfl, hmem, hin, brF ?_⟩
  exact ⟨⟨_, _, rfl⟩, rfl⟩
end
set_option maxHeartbeats 0 in
def KF (P : PySem.Params) : PySem.W.Frag :=
(nat_lit 2, (@PySem.Obj.mk PySem.Value.none Option.none (@PySem.Data.dict (List.toArray []) (0 : Nat)) (List.toArray []))) ::
(nat_lit 3, (@PySem.Obj.mk (@PySem.Value.type "dict") Option.none (@PySem.Data.dict (List.toArray [(@PySem.DictEntry.mk (@PySem.PyData.keyHash P (@PySem.Str.ofString "__name__")) (@PySem.Value.str (@PySem.Str.ofString "__name__") (165 : Nat)) (@PySem.Value.str (@PySem.Str.ofString "law_quietprobes_k05_errors_and_their_attribu") (770 : Nat))), (@PySem.DictEntry.mk (@PySem.PyData.keyHash P (@PySem.Str.ofString "__doc__")) (@PySem.Value.str (@PySem.Str.ofString "__doc__") (166 : Nat)) PySem.Value.none), (@PySem.DictEntry.mk (@PySem.PyData.keyHash P (@PySem.Str.ofString "__package__")) (@PySem.Value.str (@PySem.Str.ofString "__package__") (167 : Nat)) PySem.Value.none), (@PySem.DictEntry.mk (@PySem.PyData.keyHash P (@PySem.Str.ofString "__loader__")) (@PySem.Value.str (@PySem.Str.ofString "__loader__") (168 : Nat)) (@PySem.Value.builtin "__main__.__loader__#opaque")), (@PySem.DictEntry.mk (@PySem.PyData.keyHash P (@PySem.Str.ofString "__spec__")) (@PySem.Value.str (@PySem.Str.ofString "__spec__") (169 : Nat)) PySem.Value.none), (@PySem.DictEntry.mk (@PySem.PyData.keyHash P (@PySem.Str.ofString "__annotations__")) (@PySem.Value.str (@PySem.Str.ofString "__annotations__") (170 : Nat)) (@PySem.Value.ref (6 : Nat))), (@PySem.DictEntry.mk (@PySem.PyData.keyHash P (@PySem.Str.ofString "__builtins__")) (@PySem.Value.str (@PySem.Str.ofString "__builtins__") (171 : Nat)) (@PySem.Value.ref (4 : Nat))), (@PySem.DictEntry.mk (@PySem.PyData.keyHash P (@PySem.Str.ofString "__file__")) (@PySem.Value.str (@PySem.Str.ofString "__file__") (173 : Nat)) (@PySem.Value.str (@PySem.Str.ofString "/claim/cut.py") (172 : Nat))), (@PySem.DictEntry.mk (@PySem.PyData.keyHash P (@PySem.Str.ofString "__cached__")) (@PySem.Value.str (@PySem.Str.ofString "__cached__") (174 : Nat)) PySem.Value.none), (@PySem.DictEntry.mk (@PySem.PyData.keyHash P (@PySem.Str.ofString "QuietError")) (@PySem.Value.str (@PySem.Str.ofString "QuietError") (206 : Nat)) (@PySem.Value.ref (24 : Nat))), (@PySem.DictEntry.mk (@PySem.PyData.keyHash P (@PySem.Str.ofString "BadName")) (@PySem.Value.str (@PySem.Str.ofString "BadName") (233 : Nat)) (@PySem.Value.ref (46 : Nat))), (@PySem.DictEntry.mk (@PySem.PyData.keyHash P (@PySem.Str.ofString "BadDeed")) (@PySem.Value.str (@PySem.Str.ofString "BadDeed") (260 : Nat)) (@PySem.Value.ref (67 : Nat))), (@PySem.DictEntry.mk (@PySem.PyData.keyHash P (@PySem.Str.ofString "BadRow")) (@PySem.Value.str (@PySem.Str.ofString "BadRow") (287 : Nat)) (@PySem.Value.ref (88 : Nat))), (@PySem.DictEntry.mk (@PySem.PyData.keyHash P (@PySem.Str.ofString "BadPlace")) (@PySem.Value.str (@PySem.Str.ofString "BadPlace") (314 : Nat)) (@PySem.Value.ref (109 : Nat))), (@PySem.DictEntry.mk (@PySem.PyData.keyHash P (@PySem.Str.ofString "BadMode")) (@PySem.Value.str (@PySem.Str.ofString "BadMode") (341 : Nat)) (@PySem.Value.ref (130 : Nat))), (@PySem.DictEntry.mk (@PySem.PyData.keyHash P (@PySem.Str.ofString "BadContents")) (@PySem.Value.str (@PySem.Str.ofString "BadContents") (368 : Nat)) (@PySem.Value.ref (151 : Nat))), (@PySem.DictEntry.mk (@PySem.PyData.keyHash P (@PySem.Str.ofString "BadTurn")) (@PySem.Value.str (@PySem.Str.ofString "BadTurn") (395 : Nat)) (@PySem.Value.ref (172 : Nat))), (@PySem.DictEntry.mk (@PySem.PyData.keyHash P (@PySem.Str.ofString "BadPair")) (@PySem.Value.str (@PySem.Str.ofString "BadPair") (422 : Nat)) (@PySem.Value.ref (193 : Nat))), (@PySem.DictEntry.mk (@PySem.PyData.keyHash P (@PySem.Str.ofString "BadText")) (@PySem.Value.str (@PySem.Str.ofString "BadText") (449 : Nat)) (@PySem.Value.ref (214 : Nat))), (@PySem.DictEntry.mk (@PySem.PyData.keyHash P (@PySem.Str.ofString "BadCommand")) (@PySem.Value.str (@PySem.Str.ofString "BadCommand") (476 : Nat)) (@PySem.Value.ref (235 : Nat))), (@PySem.DictEntry.mk (@PySem.PyData.keyHash P (@PySem.Str.ofString "NoThing")) (@PySem.Value.str (@PySem.Str.ofString "NoThing") (503 : Nat)) (@PySem.Value.ref (256 : Nat))), (@PySem.DictEntry.mk (@PySem.PyData.keyHash P (@PySem.Str.ofString "NoKey")) (@PySem.Value.str (@PySem.Str.ofString "NoKey") (530 : Nat)) (@PySem.Value.ref (277 : Nat))), (@PySem.DictEntry.mk (@PySem.PyData.keyHash P (@PySem.Str.ofString "NoPart")) (@PySem.Value.str (@PySem.Str.ofString "NoPart") (557 : Nat)) (@PySem.Value.ref (298 : Nat))), (@PySem.DictEntry.mk (@PySem.PyData.keyHash P (@PySem.Str.ofString "NoRow")) (@PySem.Value.str (@PySem.Str.ofString "NoRow") (584 : Nat)) (@PySem.Value.ref (319 : Nat))), (@PySem.DictEntry.mk (@PySem.PyData.keyHash P (@PySem.Str.ofString "NoProbe")) (@PySem.Value.str (@PySem.Str.ofString "NoProbe") (611 : Nat)) (@PySem.Value.ref (340 : Nat))), (@PySem.DictEntry.mk (@PySem.PyData.keyHash P (@PySem.Str.ofString "NotNested")) (@PySem.Value.str (@PySem.Str.ofString "NotNested") (638 : Nat)) (@PySem.Value.ref (361 : Nat))), (@PySem.DictEntry.mk (@PySem.PyData.keyHash P (@PySem.Str.ofString "Twice")) (@PySem.Value.str (@PySem.Str.ofString "Twice") (665 : Nat)) (@PySem.Value.ref (382 : Nat))), (@PySem.DictEntry.mk (@PySem.PyData.keyHash P (@PySem.Str.ofString "Unmatched")) (@PySem.Value.str (@PySem.Str.ofString "Unmatched") (692 : Nat)) (@PySem.Value.ref (403 : Nat))), (@PySem.DictEntry.mk (@PySem.PyData.keyHash P (@PySem.Str.ofString "TooMany")) (@PySem.Value.str (@PySem.Str.ofString "TooMany") (719 : Nat)) (@PySem.Value.ref (424 : Nat))), (@PySem.DictEntry.mk (@PySem.PyData.keyHash P (@PySem.Str.ofString "Watched")) (@PySem.Value.str (@PySem.Str.ofString "Watched") (744 : Nat)) (@PySem.Value.ref (445 : Nat))), (@PySem.DictEntry.mk (@PySem.PyData.keyHash P (@PySem.Str.ofString "Over")) (@PySem.Value.str (@PySem.Str.ofString "Over") (769 : Nat)) (@PySem.Value.ref (466 : Nat))), (@PySem.DictEntry.mk (@PySem.PyData.keyHash P (@PySem.Str.ofString "_law_pool")) (@PySem.Value.str (@PySem.Str.ofString "_law_pool") (778 : Nat)) (@PySem.Value.ref (475 : Nat))), (@PySem.DictEntry.mk (@PySem.PyData.keyHash P (@PySem.Str.ofString "_law_draw")) (@PySem.Value.str (@PySem.Str.ofString "_law_draw") (791 : Nat)) (@PySem.Value.ref (482 : Nat))), (@PySem.DictEntry.mk (@PySem.PyData.keyHash P (@PySem.Str.ofString "_law_word")) (@PySem.Value.str (@PySem.Str.ofString "_law_word") (797 : Nat)) (@PySem.Value.ref (487 : Nat))), (@PySem.DictEntry.mk (@PySem.PyData.keyHash P (@PySem.Str.ofString "_law_object")) (@PySem.Value.str (@PySem.Str.ofString "_law_object") (803 : Nat)) (@PySem.Value.ref (492 : Nat))), (@PySem.DictEntry.mk (@PySem.PyData.keyHash P (@PySem.Str.ofString "_law_same")) (@PySem.Value.str (@PySem.Str.ofString "_law_same") (812 : Nat)) (@PySem.Value.ref (499 : Nat))), (@PySem.DictEntry.mk (@PySem.PyData.keyHash P (@PySem.Str.ofString "_law_classes")) (@PySem.Value.str (@PySem.Str.ofString "_law_classes") (819 : Nat)) (@PySem.Value.ref (506 : Nat))), (@PySem.DictEntry.mk (@PySem.PyData.keyHash P (@PySem.Str.ofString "_law_attributes")) (@PySem.Value.str (@PySem.Str.ofString "_law_attributes") (826 : Nat)) (@PySem.Value.ref (513 : Nat))), (@PySem.DictEntry.mk (@PySem.PyData.keyHash P (@PySem.Str.ofString "law")) (@PySem.Value.str (@PySem.Str.ofString "law") (832 : Nat)) (@PySem.Value.ref (518 : Nat)))]) (39 : Nat)) (List.toArray []))) ::
(nat_lit 15, (@PySem.Obj.mk (@PySem.Value.type "tuple") Option.none (@PySem.Data.seq (List.toArray [(@PySem.Value.type "ValueError")]) (0 : Nat)) (List.toArray []))) ::
(nat_lit 22, (@PySem.Obj.mk (@PySem.Value.type "tuple") Option.none (@PySem.Data.seq (List.toArray []) (0 : Nat)) (List.toArray []))) ::
(nat_lit 23, (@PySem.Obj.mk (@PySem.Value.type "dict") Option.none (@PySem.Data.dict (List.toArray [(@PySem.DictEntry.mk (@PySem.PyData.keyHash P (@PySem.Str.ofString "__module__")) (@PySem.Value.str (@PySem.Str.ofString "__module__") (196 : Nat)) (@PySem.Value.str (@PySem.Str.ofString "quietprobes.errors") (187 : Nat))), (@PySem.DictEntry.mk (@PySem.PyData.keyHash P (@PySem.Str.ofString "__firstlineno__")) (@PySem.Value.str (@PySem.Str.ofString "__firstlineno__") (200 : Nat)) (@PySem.Value.int (2 : Int) (199 : Nat))), (@PySem.DictEntry.mk (@PySem.PyData.keyHash P (@PySem.Str.ofString "__static_attributes__")) (@PySem.Value.str (@PySem.Str.ofString "__static_attributes__") (201 : Nat)) (@PySem.Value.ref (22 : Nat))), (@PySem.DictEntry.mk (@PySem.PyData.keyHash P (@PySem.Str.ofString "__weakref__")) (@PySem.Value.str (@PySem.Str.ofString "__weakref__") (203 : Nat)) (@PySem.Value.ref (25 : Nat))), (@PySem.DictEntry.mk (@PySem.PyData.keyHash P (@PySem.Str.ofString "__doc__")) (@PySem.Value.str (@PySem.Str.ofString "__doc__") (204 : Nat)) PySem.Value.none)]) (3 : Nat)) (List.toArray []))) ::
(nat_lit 24, (@PySem.Obj.mk (@PySem.Value.type "type") Option.none (@PySem.Data.cls (@PySem.ClassData.mk (@PySem.Str.ofString "QuietError") [(@PySem.Value.type "ValueError")] [(@PySem.Value.ref (24 : Nat)), (@PySem.Value.type "ValueError"), (@PySem.Value.type "Exception"), (@PySem.Value.type "BaseException"), (@PySem.Value.type "object")] (23 : Nat) (@PySem.Str.ofString "QuietError") Bool.true [] [(@PySem.Value.ref (46 : Nat)), (@PySem.Value.ref (67 : Nat)), (@PySem.Value.ref (88 : Nat)), (@PySem.Value.ref (109 : Nat)), (@PySem.Value.ref (130 : Nat)), (@PySem.Value.ref (151 : Nat)), (@PySem.Value.ref (172 : Nat)), (@PySem.Value.ref (193 : Nat)), (@PySem.Value.ref (214 : Nat)), (@PySem.Value.ref (235 : Nat)), (@PySem.Value.ref (256 : Nat)), (@PySem.Value.ref (277 : Nat)), (@PySem.Value.ref (298 : Nat)), (@PySem.Value.ref (319 : Nat)), (@PySem.Value.ref (340 : Nat)), (@PySem.Value.ref (361 : Nat)), (@PySem.Value.ref (382 : Nat)), (@PySem.Value.ref (403 : Nat)), (@PySem.Value.ref (424 : Nat)), (@PySem.Value.ref (445 : Nat)), (@PySem.Value.ref (466 : Nat))] Bool.false Option.none Bool.false)) (List.toArray [(Option.some (@PySem.Value.ref (15 : Nat))), Option.none, (Option.some (@PySem.Value.str (@PySem.Str.ofString "QuietError") (189 : Nat))), (Option.some (@PySem.Value.str (@PySem.Str.ofString "QuietError") (197 : Nat))), (Option.some (@PySem.Value.builtin "ValueError.__new__")), (Option.some (@PySem.Value.bool Bool.true))]))) ::
(nat_lit 25, (@PySem.Obj.mk (@PySem.Value.type "getset_descriptor") Option.none (@PySem.Data.fields (List.toArray [(@PySem.Value.str (@PySem.Str.ofString "__weakref__") (202 : Nat)), (@PySem.Value.ref (24 : Nat)), (@PySem.Value.builtin "ExceptionGroup.__weakref__"), PySem.Value.none])) (List.toArray []))) ::
(nat_lit 28, (@PySem.Obj.mk (@PySem.Value.type "tuple") Option.none (@PySem.Data.seq (List.toArray [(@PySem.Value.ref (24 : Nat))]) (0 : Nat)) (List.toArray []))) ::
(nat_lit 31, (@PySem.Obj.mk (@PySem.Value.type "cell") Option.none (@PySem.Data.cell (Option.some (@PySem.Value.ref (46 : Nat)))) (List.toArray []))) ::
(nat_lit 36, (@PySem.Obj.mk (@PySem.Value.type "tuple") Option.none (@PySem.Data.seq (List.toArray [(@PySem.Value.ref (31 : Nat))]) (0 : Nat)) (List.toArray []))) ::
(nat_lit 37, (@PySem.Obj.mk (@PySem.Value.type "tuple") Option.none (@PySem.Data.seq (List.toArray [(@PySem.Value.str (@PySem.Str.ofString "__class__") (222 : Nat))]) (0 : Nat)) (List.toArray []))) ::
(nat_lit 39, (@PySem.Obj.mk (@PySem.Value.type "tuple") Option.none (@PySem.Data.seq (List.toArray [(@PySem.Value.str (@PySem.Str.ofString "self") (223 : Nat)), (@PySem.Value.str (@PySem.Str.ofString "name") (224 : Nat))]) (0 : Nat)) (List.toArray []))) ::
(nat_lit 40, (@PySem.Obj.mk (@PySem.Value.type "tuple") Option.none (@PySem.Data.seq (List.toArray []) (0 : Nat)) (List.toArray []))) ::
(nat_lit 42, (@PySem.Obj.mk (@PySem.Value.type "code") Option.none (@PySem.Data.fields (List.toArray [(@PySem.Value.str (@PySem.Str.ofString "__init__") (219 : Nat)), (@PySem.Value.str (@PySem.Str.ofString "BadName.__init__") (220 : Nat)), (@PySem.Value.str (@PySem.Str.ofString "/claim/cut.py") (221 : Nat)), (@PySem.Value.int (6 : Int) (0 : Nat)), (@PySem.Value.int (2 : Int) (0 : Nat)), (@PySem.Value.int (0 : Int) (0 : Nat)), (@PySem.Value.int (0 : Int) (0 : Nat)), (@PySem.Value.int (3 : Int) (0 : Nat)), (@PySem.Value.ref (37 : Nat)), (@PySem.Value.bool Bool.true), (@PySem.Value.int (181 : Int) (0 : Nat)), (@PySem.Value.ref (38 : Nat)), PySem.Value.none, (@PySem.Value.ref (39 : Nat)), (@PySem.Value.ref (40 : Nat)), (@PySem.Value.ref (41 : Nat)), (@PySem.Value.int (225 : Int) (0 : Nat)), (@PySem.Value.int (6 : Int) (0 : Nat)), (@PySem.Value.str (@PySem.Str.ofString "/claim/cut.py") (226 : Nat))])) (List.toArray []))) ::
(nat_lit 43, (@PySem.Obj.mk (@PySem.Value.type "function") Option.none (@PySem.Data.func (PySem.FuncData.mk (@PySem.Str.ofString "__init__") (@PySem.Str.ofString "BadName.__init__") (defArgs s_BadName___init__) (PySem.FuncBody.stmts (defBody s_BadName___init__)) (defScope s_BadName___init__) (3 : Nat) [((@PySem.Str.ofString "__class__"), (31 : Nat))] PySem.Value.none PySem.Value.none PySem.Value.none (@PySem.Value.str (@PySem.Str.ofString "quietprobes.errors") (187 : Nat)) Option.none (@PySem.Value.ref (42 : Nat)) (@PySem.Value.ref (36 : Nat)) (0 : Nat))) (List.toArray []))) ::
(nat_lit 44, (@PySem.Obj.mk (@PySem.Value.type "tuple") Option.none (@PySem.Data.seq (List.toArray [(@PySem.Value.str (@PySem.Str.ofString "name") (228 : Nat))]) (0 : Nat)) (List.toArray []))) ::
(nat_lit 45, (@PySem.Obj.mk (@PySem.Value.type "dict") Option.none (@PySem.Data.dict (List.toArray [(@PySem.DictEntry.mk (@PySem.PyData.keyHash P (@PySem.Str.ofString "__module__")) (@PySem.Value.str (@PySem.Str.ofString "__module__") (214 : Nat)) (@PySem.Value.str (@PySem.Str.ofString "quietprobes.errors") (187 : Nat))), (@PySem.DictEntry.mk (@PySem.PyData.keyHash P (@PySem.Str.ofString "__firstlineno__")) (@PySem.Value.str (@PySem.Str.ofString "__firstlineno__") (218 : Nat)) (@PySem.Value.int (4 : Int) (217 : Nat))), (@PySem.DictEntry.mk (@PySem.PyData.keyHash P (@PySem.Str.ofString "__init__")) (@PySem.Value.str (@PySem.Str.ofString "__init__") (227 : Nat)) (@PySem.Value.ref (43 : Nat))), (@PySem.DictEntry.mk (@PySem.PyData.keyHash P (@PySem.Str.ofString "__static_attributes__")) (@PySem.Value.str (@PySem.Str.ofString "__static_attributes__") (229 : Nat)) (@PySem.Value.ref (44 : Nat))), (@PySem.DictEntry.mk (@PySem.PyData.keyHash P (@PySem.Str.ofString "__doc__")) (@PySem.Value.str (@PySem.Str.ofString "__doc__") (231 : Nat)) PySem.Value.none)]) (3 : Nat)) (List.toArray []))) ::
(nat_lit 46, (@PySem.Obj.mk (@PySem.Value.type "type") Option.none (@PySem.Data.cls (@PySem.ClassData.mk (@PySem.Str.ofString "BadName") [(@PySem.Value.ref (24 : Nat))] [(@PySem.Value.ref (46 : Nat)), (@PySem.Value.ref (24 : Nat)), (@PySem.Value.type "ValueError"), (@PySem.Value.type "Exception"), (@PySem.Value.type "BaseException"), (@PySem.Value.type "object")] (45 : Nat) (@PySem.Str.ofString "BadName") Bool.true [] [] Bool.false Option.none Bool.false)) (List.toArray [(Option.some (@PySem.Value.ref (28 : Nat))), Option.none, (Option.some (@PySem.Value.str (@PySem.Str.ofString "BadName") (207 : Nat))), (Option.some (@PySem.Value.str (@PySem.Str.ofString "BadName") (215 : Nat))), (Option.some (@PySem.Value.builtin "ValueError.__new__")), (Option.some (@PySem.Value.bool Bool.true))]))) ::
(nat_lit 49, (@PySem.Obj.mk (@PySem.Value.type "tuple") Option.none (@PySem.Data.seq (List.toArray [(@PySem.Value.ref (24 : Nat))]) (0 : Nat)) (List.toArray []))) ::
(nat_lit 52, (@PySem.Obj.mk (@PySem.Value.type "cell") Option.none (@PySem.Data.cell (Option.some (@PySem.Value.ref (67 : Nat)))) (List.toArray []))) ::
(nat_lit 57, (@PySem.Obj.mk (@PySem.Value.type "tuple") Option.none (@PySem.Data.seq (List.toArray [(@PySem.Value.ref (52 : Nat))]) (0 : Nat)) (List.toArray []))) ::
(nat_lit 58, (@PySem.Obj.mk (@PySem.Value.type "tuple") Option.none (@PySem.Data.seq (List.toArray [(@PySem.Value.str (@PySem.Str.ofString "__class__") (249 : Nat))]) (0 : Nat)) (List.toArray []))) ::
(nat_lit 60, (@PySem.Obj.mk (@PySem.Value.type "tuple") Option.none (@PySem.Data.seq (List.toArray [(@PySem.Value.str (@PySem.Str.ofString "self") (250 : Nat)), (@PySem.Value.str (@PySem.Str.ofString "deed") (251 : Nat))]) (0 : Nat)) (List.toArray []))) ::
(nat_lit 61, (@PySem.Obj.mk (@PySem.Value.type "tuple") Option.none (@PySem.Data.seq (List.toArray []) (0 : Nat)) (List.toArray []))) ::
(nat_lit 63, (@PySem.Obj.mk (@PySem.Value.type "code") Option.none (@PySem.Data.fields (List.toArray [(@PySem.Value.str (@PySem.Str.ofString "__init__") (246 : Nat)), (@PySem.Value.str (@PySem.Str.ofString "BadDeed.__init__") (247 : Nat)), (@PySem.Value.str (@PySem.Str.ofString "/claim/cut.py") (248 : Nat)), (@PySem.Value.int (11 : Int) (0 : Nat)), (@PySem.Value.int (2 : Int) (0 : Nat)), (@PySem.Value.int (0 : Int) (0 : Nat)), (@PySem.Value.int (0 : Int) (0 : Nat)), (@PySem.Value.int (3 : Int) (0 : Nat)), (@PySem.Value.ref (58 : Nat)), (@PySem.Value.bool Bool.true), (@PySem.Value.int (181 : Int) (0 : Nat)), (@PySem.Value.ref (59 : Nat)), PySem.Value.none, (@PySem.Value.ref (60 : Nat)), (@PySem.Value.ref (61 : Nat)), (@PySem.Value.ref (62 : Nat)), (@PySem.Value.int (252 : Int) (0 : Nat)), (@PySem.Value.int (11 : Int) (0 : Nat)), (@PySem.Value.str (@PySem.Str.ofString "/claim/cut.py") (253 : Nat))])) (List.toArray []))) ::
(nat_lit 64, (@PySem.Obj.mk (@PySem.Value.type "function") Option.none (@PySem.Data.func (PySem.FuncData.mk (@PySem.Str.ofString "__init__") (@PySem.Str.ofString "BadDeed.__init__") (defArgs s_BadDeed___init__) (PySem.FuncBody.stmts (defBody s_BadDeed___init__)) (defScope s_BadDeed___init__) (3 : Nat) [((@PySem.Str.ofString "__class__"), (52 : Nat))] PySem.Value.none PySem.Value.none PySem.Value.none (@PySem.Value.str (@PySem.Str.ofString "quietprobes.errors") (187 : Nat)) Option.none (@PySem.Value.ref (63 : Nat)) (@PySem.Value.ref (57 : Nat)) (0 : Nat))) (List.toArray []))) ::
(nat_lit 65, (@PySem.Obj.mk (@PySem.Value.type "tuple") Option.none (@PySem.Data.seq (List.toArray [(@PySem.Value.str (@PySem.Str.ofString "deed") (255 : Nat))]) (0 : Nat)) (List.toArray []))) ::
(nat_lit 66, (@PySem.Obj.mk (@PySem.Value.type "dict") Option.none (@PySem.Data.dict (List.toArray [(@PySem.DictEntry.mk (@PySem.PyData.keyHash P (@PySem.Str.ofString "__module__")) (@PySem.Value.str (@PySem.Str.ofString "__module__") (241 : Nat)) (@PySem.Value.str (@PySem.Str.ofString "quietprobes.errors") (187 : Nat))), (@PySem.DictEntry.mk (@PySem.PyData.keyHash P (@PySem.Str.ofString "__firstlineno__")) (@PySem.Value.str (@PySem.Str.ofString "__firstlineno__") (245 : Nat)) (@PySem.Value.int (9 : Int) (244 : Nat))), (@PySem.DictEntry.mk (@PySem.PyData.keyHash P (@PySem.Str.ofString "__init__")) (@PySem.Value.str (@PySem.Str.ofString "__init__") (254 : Nat)) (@PySem.Value.ref (64 : Nat))), (@PySem.DictEntry.mk (@PySem.PyData.keyHash P (@PySem.Str.ofString "__static_attributes__")) (@PySem.Value.str (@PySem.Str.ofString "__static_attributes__") (256 : Nat)) (@PySem.Value.ref (65 : Nat))), (@PySem.DictEntry.mk (@PySem.PyData.keyHash P (@PySem.Str.ofString "__doc__")) (@PySem.Value.str (@PySem.Str.ofString "__doc__") (258 : Nat)) PySem.Value.none)]) (3 : Nat)) (List.toArray []))) ::
(nat_lit 67, (@PySem.Obj.mk (@PySem.Value.type "type") Option.none (@PySem.Data.cls (@PySem.ClassData.mk (@PySem.Str.ofString "BadDeed") [(@PySem.Value.ref (24 : Nat))] [(@PySem.Value.ref (67 : Nat)), (@PySem.Value.ref (24 : Nat)), (@PySem.Value.type "ValueError"), (@PySem.Value.type "Exception"), (@PySem.Value.type "BaseException"), (@PySem.Value.type "object")] (66 : Nat) (@PySem.Str.ofString "BadDeed") Bool.true [] [] Bool.false Option.none Bool.false)) (List.toArray [(Option.some (@PySem.Value.ref (49 : Nat))), Option.none, (Option.some (@PySem.Value.str (@PySem.Str.ofString "BadDeed") (234 : Nat))), (Option.some (@PySem.Value.str (@PySem.Str.ofString "BadDeed") (242 : Nat))), (Option.some (@PySem.Value.builtin "ValueError.__new__")), (Option.some (@PySem.Value.bool Bool.true))]))) ::
(nat_lit 70, (@PySem.Obj.mk (@PySem.Value.type "tuple") Option.none (@PySem.Data.seq (List.toArray [(@PySem.Value.ref (24 : Nat))]) (0 : Nat)) (List.toArray []))) ::
(nat_lit 73, (@PySem.Obj.mk (@PySem.Value.type "cell") Option.none (@PySem.Data.cell (Option.some (@PySem.Value.ref (88 : Nat)))) (List.toArray []))) ::
(nat_lit 78, (@PySem.Obj.mk (@PySem.Value.type "tuple") Option.none (@PySem.Data.seq (List.toArray [(@PySem.Value.ref (73 : Nat))]) (0 : Nat)) (List.toArray []))) ::
(nat_lit 79, (@PySem.Obj.mk (@PySem.Value.type "tuple") Option.none (@PySem.Data.seq (List.toArray [(@PySem.Value.str (@PySem.Str.ofString "__class__") (276 : Nat))]) (0 : Nat)) (List.toArray []))) ::
(nat_lit 81, (@PySem.Obj.mk (@PySem.Value.type "tuple") Option.none (@PySem.Data.seq (List.toArray [(@PySem.Value.str (@PySem.Str.ofString "self") (277 : Nat)), (@PySem.Value.str (@PySem.Str.ofString "number") (278 : Nat))]) (0 : Nat)) (List.toArray []))) ::
(nat_lit 82, (@PySem.Obj.mk (@PySem.Value.type "tuple") Option.none (@PySem.Data.seq (List.toArray []) (0 : Nat)) (List.toArray []))) ::
(nat_lit 84, (@PySem.Obj.mk (@PySem.Value.type "code") Option.none (@PySem.Data.fields (List.toArray [(@PySem.Value.str (@PySem.Str.ofString "__init__") (273 : Nat)), (@PySem.Value.str (@PySem.Str.ofString "BadRow.__init__") (274 : Nat)), (@PySem.Value.str (@PySem.Str.ofString "/claim/cut.py") (275 : Nat)), (@PySem.Value.int (16 : Int) (0 : Nat)), (@PySem.Value.int (2 : Int) (0 : Nat)), (@PySem.Value.int (0 : Int) (0 : Nat)), (@PySem.Value.int (0 : Int) (0 : Nat)), (@PySem.Value.int (3 : Int) (0 : Nat)), (@PySem.Value.ref (79 : Nat)), (@PySem.Value.bool Bool.true), (@PySem.Value.int (181 : Int) (0 : Nat)), (@PySem.Value.ref (80 : Nat)), PySem.Value.none, (@PySem.Value.ref (81 : Nat)), (@PySem.Value.ref (82 : Nat)), (@PySem.Value.ref (83 : Nat)), (@PySem.Value.int (279 : Int) (0 : Nat)), (@PySem.Value.int (16 : Int) (0 : Nat)), (@PySem.Value.str (@PySem.Str.ofString "/claim/cut.py") (280 : Nat))])) (List.toArray []))) ::
(nat_lit 85, (@PySem.Obj.mk (@PySem.Value.type "function") Option.none (@PySem.Data.func (PySem.FuncData.mk (@PySem.Str.ofString "__init__") (@PySem.Str.ofString "BadRow.__init__") (defArgs s_BadRow___init__) (PySem.FuncBody.stmts (defBody s_BadRow___init__)) (defScope s_BadRow___init__) (3 : Nat) [((@PySem.Str.ofString "__class__"), (73 : Nat))] PySem.Value.none PySem.Value.none PySem.Value.none (@PySem.Value.str (@PySem.Str.ofString "quietprobes.errors") (187 : Nat)) Option.none (@PySem.Value.ref (84 : Nat)) (@PySem.Value.ref (78 : Nat)) (0 : Nat))) (List.toArray []))) ::
(nat_lit 86, (@PySem.Obj.mk (@PySem.Value.type "tuple") Option.none (@PySem.Data.seq (List.toArray [(@PySem.Value.str (@PySem.Str.ofString "number") (282 : Nat))]) (0 : Nat)) (List.toArray []))) ::
(nat_lit 87, (@PySem.Obj.mk (@PySem.Value.type "dict") Option.none (@PySem.Data.dict (List.toArray [(@PySem.DictEntry.mk (@PySem.PyData.keyHash P (@PySem.Str.ofString "__module__")) (@PySem.Value.str (@PySem.Str.ofString "__module__") (268 : Nat)) (@PySem.Value.str (@PySem.Str.ofString "quietprobes.errors") (187 : Nat))), (@PySem.DictEntry.mk (@PySem.PyData.keyHash P (@PySem.Str.ofString "__firstlineno__")) (@PySem.Value.str (@PySem.Str.ofString "__firstlineno__") (272 : Nat)) (@PySem.Value.int (14 : Int) (271 : Nat))), (@PySem.DictEntry.mk (@PySem.PyData.keyHash P (@PySem.Str.ofString "__init__")) (@PySem.Value.str (@PySem.Str.ofString "__init__") (281 : Nat)) (@PySem.Value.ref (85 : Nat))), (@PySem.DictEntry.mk (@PySem.PyData.keyHash P (@PySem.Str.ofString "__static_attributes__")) (@PySem.Value.str (@PySem.Str.ofString "__static_attributes__") (283 : Nat)) (@PySem.Value.ref (86 : Nat))), (@PySem.DictEntry.mk (@PySem.PyData.keyHash P (@PySem.Str.ofString "__doc__")) (@PySem.Value.str (@PySem.Str.ofString "__doc__") (285 : Nat)) PySem.Value.none)]) (3 : Nat)) (List.toArray []))) ::
(nat_lit 88, (@PySem.Obj.mk (@PySem.Value.type "type") Option.none (@PySem.Data.cls (@PySem.ClassData.mk (@PySem.Str.ofString "BadRow") [(@PySem.Value.ref (24 : Nat))] [(@PySem.Value.ref (88 : Nat)), (@PySem.Value.ref (24 : Nat)), (@PySem.Value.type "ValueError"), (@PySem.Value.type "Exception"), (@PySem.Value.type "BaseException"), (@PySem.Value.type "object")] (87 : Nat) (@PySem.Str.ofString "BadRow") Bool.true [] [] Bool.false Option.none Bool.false)) (List.toArray [(Option.some (@PySem.Value.ref (70 : Nat))), Option.none, (Option.some (@PySem.Value.str (@PySem.Str.ofString "BadRow") (261 : Nat))), (Option.some (@PySem.Value.str (@PySem.Str.ofString "BadRow") (269 : Nat))), (Option.some (@PySem.Value.builtin "ValueError.__new__")), (Option.some (@PySem.Value.bool Bool.true))]))) ::
(nat_lit 91, (@PySem.Obj.mk (@PySem.Value.type "tuple") Option.none (@PySem.Data.seq (List.toArray [(@PySem.Value.ref (24 : Nat))]) (0 : Nat)) (List.toArray []))) ::
(nat_lit 94, (@PySem.Obj.mk (@PySem.Value.type "cell") Option.none (@PySem.Data.cell (Option.some (@PySem.Value.ref (109 : Nat)))) (List.toArray []))) ::
(nat_lit 99, (@PySem.Obj.mk (@PySem.Value.type "tuple") Option.none (@PySem.Data.seq (List.toArray [(@PySem.Value.ref (94 : Nat))]) (0 : Nat)) (List.toArray []))) ::
(nat_lit 100, (@PySem.Obj.mk (@PySem.Value.type "tuple") Option.none (@PySem.Data.seq (List.toArray [(@PySem.Value.str (@PySem.Str.ofString "__class__") (303 : Nat))]) (0 : Nat)) (List.toArray []))) ::
(nat_lit 102, (@PySem.Obj.mk (@PySem.Value.type "tuple") Option.none (@PySem.Data.seq (List.toArray [(@PySem.Value.str (@PySem.Str.ofString "self") (304 : Nat)), (@PySem.Value.str (@PySem.Str.ofString "place") (305 : Nat))]) (0 : Nat)) (List.toArray []))) ::
(nat_lit 103, (@PySem.Obj.mk (@PySem.Value.type "tuple") Option.none (@PySem.Data.seq (List.toArray []) (0 : Nat)) (List.toArray []))) ::
(nat_lit 105, (@PySem.Obj.mk (@PySem.Value.type "code") Option.none (@PySem.Data.fields (List.toArray [(@PySem.Value.str (@PySem.Str.ofString "__init__") (300 : Nat)), (@PySem.Value.str (@PySem.Str.ofString "BadPlace.__init__") (301 : Nat)), (@PySem.Value.str (@PySem.Str.ofString "/claim/cut.py") (302 : Nat)), (@PySem.Value.int (21 : Int) (0 : Nat)), (@PySem.Value.int (2 : Int) (0 : Nat)), (@PySem.Value.int (0 : Int) (0 : Nat)), (@PySem.Value.int (0 : Int) (0 : Nat)), (@PySem.Value.int (3 : Int) (0 : Nat)), (@PySem.Value.ref (100 : Nat)), (@PySem.Value.bool Bool.true), (@PySem.Value.int (181 : Int) (0 : Nat)), (@PySem.Value.ref (101 : Nat)), PySem.Value.none, (@PySem.Value.ref (102 : Nat)), (@PySem.Value.ref (103 : Nat)), (@PySem.Value.ref (104 : Nat)), (@PySem.Value.int (306 : Int) (0 : Nat)), (@PySem.Value.int (21 : Int) (0 : Nat)), (@PySem.Value.str (@PySem.Str.ofString "/claim/cut.py") (307 : Nat))])) (List.toArray []))) ::
(nat_lit 106, (@PySem.Obj.mk (@PySem.Value.type "function") Option.none (@PySem.Data.func (PySem.FuncData.mk (@PySem.Str.ofString "__init__") (@PySem.Str.ofString "BadPlace.__init__") (defArgs s_BadPlace___init__) (PySem.FuncBody.stmts (defBody s_BadPlace___init__)) (defScope s_BadPlace___init__) (3 : Nat) [((@PySem.Str.ofString "__class__"), (94 : Nat))] PySem.Value.none PySem.Value.none PySem.Value.none (@PySem.Value.str (@PySem.Str.ofString "quietprobes.errors") (187 : Nat)) Option.none (@PySem.Value.ref (105 : Nat)) (@PySem.Value.ref (99 : Nat)) (0 : Nat))) (List.toArray []))) ::
(nat_lit 107, (@PySem.Obj.mk (@PySem.Value.type "tuple") Option.none (@PySem.Data.seq (List.toArray [(@PySem.Value.str (@PySem.Str.ofString "place") (309 : Nat))]) (0 : Nat)) (List.toArray []))) ::
(nat_lit 108, (@PySem.Obj.mk (@PySem.Value.type "dict") Option.none (@PySem.Data.dict (List.toArray [(@PySem.DictEntry.mk (@PySem.PyData.keyHash P (@PySem.Str.ofString "__module__")) (@PySem.Value.str (@PySem.Str.ofString "__module__") (295 : Nat)) (@PySem.Value.str (@PySem.Str.ofString "quietprobes.errors") (187 : Nat))), (@PySem.DictEntry.mk (@PySem.PyData.keyHash P (@PySem.Str.ofString "__firstlineno__")) (@PySem.Value.str (@PySem.Str.ofString "__firstlineno__") (299 : Nat)) (@PySem.Value.int (19 : Int) (298 : Nat))), (@PySem.DictEntry.mk (@PySem.PyData.keyHash P (@PySem.Str.ofString "__init__")) (@PySem.Value.str (@PySem.Str.ofString "__init__") (308 : Nat)) (@PySem.Value.ref (106 : Nat))), (@PySem.DictEntry.mk (@PySem.PyData.keyHash P (@PySem.Str.ofString "__static_attributes__")) (@PySem.Value.str (@PySem.Str.ofString "__static_attributes__") (310 : Nat)) (@PySem.Value.ref (107 : Nat))), (@PySem.DictEntry.mk (@PySem.PyData.keyHash P (@PySem.Str.ofString "__doc__")) (@PySem.Value.str (@PySem.Str.ofString "__doc__") (312 : Nat)) PySem.Value.none)]) (3 : Nat)) (List.toArray []))) ::
(nat_lit 109, (@PySem.Obj.mk (@PySem.Value.type "type") Option.none (@PySem.Data.cls (@PySem.ClassData.mk (@PySem.Str.ofString "BadPlace") [(@PySem.Value.ref (24 : Nat))] [(@PySem.Value.ref (109 : Nat)), (@PySem.Value.ref (24 : Nat)), (@PySem.Value.type "ValueError"), (@PySem.Value.type "Exception"), (@PySem.Value.type "BaseException"), (@PySem.Value.type "object")] (108 : Nat) (@PySem.Str.ofString "BadPlace") Bool.true [] [] Bool.false Option.none Bool.false)) (List.toArray [(Option.some (@PySem.Value.ref (91 : Nat))), Option.none, (Option.some (@PySem.Value.str (@PySem.Str.ofString "BadPlace") (288 : Nat))), (Option.some (@PySem.Value.str (@PySem.Str.ofString "BadPlace") (296 : Nat))), (Option.some (@PySem.Value.builtin "ValueError.__new__")), (Option.some (@PySem.Value.bool Bool.true))]))) ::
(nat_lit 112, (@PySem.Obj.mk (@PySem.Value.type "tuple") Option.none (@PySem.Data.seq (List.toArray [(@PySem.Value.ref (24 : Nat))]) (0 : Nat)) (List.toArray []))) ::
(nat_lit 115, (@PySem.Obj.mk (@PySem.Value.type "cell") Option.none (@PySem.Data.cell (Option.some (@PySem.Value.ref (130 : Nat)))) (List.toArray []))) ::
(nat_lit 120, (@PySem.Obj.mk (@PySem.Value.type "tuple") Option.none (@PySem.Data.seq (List.toArray [(@PySem.Value.ref (115 : Nat))]) (0 : Nat)) (List.toArray []))) ::
(nat_lit 121, (@PySem.Obj.mk (@PySem.Value.type "tuple") Option.none (@PySem.Data.seq (List.toArray [(@PySem.Value.str (@PySem.Str.ofString "__class__") (330 : Nat))]) (0 : Nat)) (List.toArray []))) ::
(nat_lit 123, (@PySem.Obj.mk (@PySem.Value.type "tuple") Option.none (@PySem.Data.seq (List.toArray [(@PySem.Value.str (@PySem.Str.ofString "self") (331 : Nat)), (@PySem.Value.str (@PySem.Str.ofString "mode") (332 : Nat))]) (0 : Nat)) (List.toArray []))) ::
(nat_lit 124, (@PySem.Obj.mk (@PySem.Value.type "tuple") Option.none (@PySem.Data.seq (List.toArray []) (0 : Nat)) (List.toArray []))) ::
(nat_lit 126, (@PySem.Obj.mk (@PySem.Value.type "code") Option.none (@PySem.Data.fields (List.toArray [(@PySem.Value.str (@PySem.Str.ofString "__init__") (327 : Nat)), (@PySem.Value.str (@PySem.Str.ofString "BadMode.__init__") (328 : Nat)), (@PySem.Value.str (@PySem.Str.ofString "/claim/cut.py") (329 : Nat)), (@PySem.Value.int (26 : Int) (0 : Nat)), (@PySem.Value.int (2 : Int) (0 : Nat)), (@PySem.Value.int (0 : Int) (0 : Nat)), (@PySem.Value.int (0 : Int) (0 : Nat)), (@PySem.Value.int (3 : Int) (0 : Nat)), (@PySem.Value.ref (121 : Nat)), (@PySem.Value.bool Bool.true), (@PySem.Value.int (181 : Int) (0 : Nat)), (@PySem.Value.ref (122 : Nat)), PySem.Value.none, (@PySem.Value.ref (123 : Nat)), (@PySem.Value.ref (124 : Nat)), (@PySem.Value.ref (125 : Nat)), (@PySem.Value.int (333 : Int) (0 : Nat)), (@PySem.Value.int (26 : Int) (0 : Nat)), (@PySem.Value.str (@PySem.Str.ofString "/claim/cut.py") (334 : Nat))])) (List.toArray []))) ::
(nat_lit 127, (@PySem.Obj.mk (@PySem.Value.type "function") Option.none (@PySem.Data.func (PySem.FuncData.mk (@PySem.Str.ofString "__init__") (@PySem.Str.ofString "BadMode.__init__") (defArgs s_BadMode___init__) (PySem.FuncBody.stmts (defBody s_BadMode___init__)) (defScope s_BadMode___init__) (3 : Nat) [((@PySem.Str.ofString "__class__"), (115 : Nat))] PySem.Value.none PySem.Value.none PySem.Value.none (@PySem.Value.str (@PySem.Str.ofString "quietprobes.errors") (187 : Nat)) Option.none (@PySem.Value.ref (126 : Nat)) (@PySem.Value.ref (120 : Nat)) (0 : Nat))) (List.toArray []))) ::
(nat_lit 128, (@PySem.Obj.mk (@PySem.Value.type "tuple") Option.none (@PySem.Data.seq (List.toArray [(@PySem.Value.str (@PySem.Str.ofString "mode") (336 : Nat))]) (0 : Nat)) (List.toArray []))) ::
(nat_lit 129, (@PySem.Obj.mk (@PySem.Value.type "dict") Option.none (@PySem.Data.dict (List.toArray [(@PySem.DictEntry.mk (@PySem.PyData.keyHash P (@PySem.Str.ofString "__module__")) (@PySem.Value.str (@PySem.Str.ofString "__module__") (322 : Nat)) (@PySem.Value.str (@PySem.Str.ofString "quietprobes.errors") (187 : Nat))), (@PySem.DictEntry.mk (@PySem.PyData.keyHash P (@PySem.Str.ofString "__firstlineno__")) (@PySem.Value.str (@PySem.Str.ofString "__firstlineno__") (326 : Nat)) (@PySem.Value.int (24 : Int) (325 : Nat))), (@PySem.DictEntry.mk (@PySem.PyData.keyHash P (@PySem.Str.ofString "__init__")) (@PySem.Value.str (@PySem.Str.ofString "__init__") (335 : Nat)) (@PySem.Value.ref (127 : Nat))), (@PySem.DictEntry.mk (@PySem.PyData.keyHash P (@PySem.Str.ofString "__static_attributes__")) (@PySem.Value.str (@PySem.Str.ofString "__static_attributes__") (337 : Nat)) (@PySem.Value.ref (128 : Nat))), (@PySem.DictEntry.mk (@PySem.PyData.keyHash P (@PySem.Str.ofString "__doc__")) (@PySem.Value.str (@PySem.Str.ofString "__doc__") (339 : Nat)) PySem.Value.none)]) (3 : Nat)) (List.toArray []))) ::
(nat_lit 130, (@PySem.Obj.mk (@PySem.Value.type "type") Option.none (@PySem.Data.cls (@PySem.ClassData.mk (@PySem.Str.ofString "BadMode") [(@PySem.Value.ref (24 : Nat))] [(@PySem.Value.ref (130 : Nat)), (@PySem.Value.ref (24 : Nat)), (@PySem.Value.type "ValueError"), (@PySem.Value.type "Exception"), (@PySem.Value.type "BaseException"), (@PySem.Value.type "object")] (129 : Nat) (@PySem.Str.ofString "BadMode") Bool.true [] [] Bool.false Option.none Bool.false)) (List.toArray [(Option.some (@PySem.Value.ref (112 : Nat))), Option.none, (Option.some (@PySem.Value.str (@PySem.Str.ofString "BadMode") (315 : Nat))), (Option.some (@PySem.Value.str (@PySem.Str.ofString "BadMode") (323 : Nat))), (Option.some (@PySem.Value.builtin "ValueError.__new__")), (Option.some (@PySem.Value.bool Bool.true))]))) ::
(nat_lit 133, (@PySem.Obj.mk (@PySem.Value.type "tuple") Option.none (@PySem.Data.seq (List.toArray [(@PySem.Value.ref (24 : Nat))]) (0 : Nat)) (List.toArray []))) ::
(nat_lit 136, (@PySem.Obj.mk (@PySem.Value.type "cell") Option.none (@PySem.Data.cell (Option.some (@PySem.Value.ref (151 : Nat)))) (List.toArray []))) ::
(nat_lit 141, (@PySem.Obj.mk (@PySem.Value.type "tuple") Option.none (@PySem.Data.seq (List.toArray [(@PySem.Value.ref (136 : Nat))]) (0 : Nat)) (List.toArray []))) ::
(nat_lit 142, (@PySem.Obj.mk (@PySem.Value.type "tuple") Option.none (@PySem.Data.seq (List.toArray [(@PySem.Value.str (@PySem.Str.ofString "__class__") (357 : Nat))]) (0 : Nat)) (List.toArray []))) ::
(nat_lit 144, (@PySem.Obj.mk (@PySem.Value.type "tuple") Option.none (@PySem.Data.seq (List.toArray [(@PySem.Value.str (@PySem.Str.ofString "self") (358 : Nat)), (@PySem.Value.str (@PySem.Str.ofString "part") (359 : Nat))]) (0 : Nat)) (List.toArray []))) ::
(nat_lit 145, (@PySem.Obj.mk (@PySem.Value.type "tuple") Option.none (@PySem.Data.seq (List.toArray []) (0 : Nat)) (List.toArray []))) ::
(nat_lit 147, (@PySem.Obj.mk (@PySem.Value.type "code") Option.none (@PySem.Data.fields (List.toArray [(@PySem.Value.str (@PySem.Str.ofString "__init__") (354 : Nat)), (@PySem.Value.str (@PySem.Str.ofString "BadContents.__init__") (355 : Nat)), (@PySem.Value.str (@PySem.Str.ofString "/claim/cut.py") (356 : Nat)), (@PySem.Value.int (31 : Int) (0 : Nat)), (@PySem.Value.int (2 : Int) (0 : Nat)), (@PySem.Value.int (0 : Int) (0 : Nat)), (@PySem.Value.int (0 : Int) (0 : Nat)), (@PySem.Value.int (3 : Int) (0 : Nat)), (@PySem.Value.ref (142 : Nat)), (@PySem.Value.bool Bool.true), (@PySem.Value.int (181 : Int) (0 : Nat)), (@PySem.Value.ref (143 : Nat)), PySem.Value.none, (@PySem.Value.ref (144 : Nat)), (@PySem.Value.ref (145 : Nat)), (@PySem.Value.ref (146 : Nat)), (@PySem.Value.int (360 : Int) (0 : Nat)), (@PySem.Value.int (31 : Int) (0 : Nat)), (@PySem.Value.str (@PySem.Str.ofString "/claim/cut.py") (361 : Nat))])) (List.toArray []))) ::
(nat_lit 148, (@PySem.Obj.mk (@PySem.Value.type "function") Option.none (@PySem.Data.func (PySem.FuncData.mk (@PySem.Str.ofString "__init__") (@PySem.Str.ofString "BadContents.__init__") (defArgs s_BadContents___init__) (PySem.FuncBody.stmts (defBody s_BadContents___init__)) (defScope s_BadContents___init__) (3 : Nat) [((@PySem.Str.ofString "__class__"), (136 : Nat))] PySem.Value.none PySem.Value.none PySem.Value.none (@PySem.Value.str (@PySem.Str.ofString "quietprobes.errors") (187 : Nat)) Option.none (@PySem.Value.ref (147 : Nat)) (@PySem.Value.ref (141 : Nat)) (0 : Nat))) (List.toArray []))) ::
(nat_lit 149, (@PySem.Obj.mk (@PySem.Value.type "tuple") Option.none (@PySem.Data.seq (List.toArray [(@PySem.Value.str (@PySem.Str.ofString "part") (363 : Nat))]) (0 : Nat)) (List.toArray []))) ::
(nat_lit 150, (@PySem.Obj.mk (@PySem.Value.type "dict") Option.none (@PySem.Data.dict (List.toArray [(@PySem.DictEntry.mk (@PySem.PyData.keyHash P (@PySem.Str.ofString "__module__")) (@PySem.Value.str (@PySem.Str.ofString "__module__") (349 : Nat)) (@PySem.Value.str (@PySem.Str.ofString "quietprobes.errors") (187 : Nat))), (@PySem.DictEntry.mk (@PySem.PyData.keyHash P (@PySem.Str.ofString "__firstlineno__")) (@PySem.Value.str (@PySem.Str.ofString "__firstlineno__") (353 : Nat)) (@PySem.Value.int (29 : Int) (352 : Nat))), (@PySem.DictEntry.mk (@PySem.PyData.keyHash P (@PySem.Str.ofString "__init__")) (@PySem.Value.str (@PySem.Str.ofString "__init__") (362 : Nat)) (@PySem.Value.ref (148 : Nat))), (@PySem.DictEntry.mk (@PySem.PyData.keyHash P (@PySem.Str.ofString "__static_attributes__")) (@PySem.Value.str (@PySem.Str.ofString "__static_attributes__") (364 : Nat)) (@PySem.Value.ref (149 : Nat))), (@PySem.DictEntry.mk (@PySem.PyData.keyHash P (@PySem.Str.ofString "__doc__")) (@PySem.Value.str (@PySem.Str.ofString "__doc__") (366 : Nat)) PySem.Value.none)]) (3 : Nat)) (List.toArray []))) ::
(nat_lit 151, (@PySem.Obj.mk (@PySem.Value.type "type") Option.none (@PySem.Data.cls (@PySem.ClassData.mk (@PySem.Str.ofString "BadContents") [(@PySem.Value.ref (24 : Nat))] [(@PySem.Value.ref (151 : Nat)), (@PySem.Value.ref (24 : Nat)), (@PySem.Value.type "ValueError"), (@PySem.Value.type "Exception"), (@PySem.Value.type "BaseException"), (@PySem.Value.type "object")] (150 : Nat) (@PySem.Str.ofString "BadContents") Bool.true [] [] Bool.false Option.none Bool.false)) (List.toArray [(Option.some (@PySem.Value.ref (133 : Nat))), Option.none, (Option.some (@PySem.Value.str (@PySem.Str.ofString "BadContents") (342 : Nat))), (Option.some (@PySem.Value.str (@PySem.Str.ofString "BadContents") (350 : Nat))), (Option.some (@PySem.Value.builtin "ValueError.__new__")), (Option.some (@PySem.Value.bool Bool.true))]))) ::
(nat_lit 154, (@PySem.Obj.mk (@PySem.Value.type "tuple") Option.none (@PySem.Data.seq (List.toArray [(@PySem.Value.ref (24 : Nat))]) (0 : Nat)) (List.toArray []))) ::
(nat_lit 157, (@PySem.Obj.mk (@PySem.Value.type "cell") Option.none (@PySem.Data.cell (Option.some (@PySem.Value.ref (172 : Nat)))) (List.toArray []))) ::
(nat_lit 162, (@PySem.Obj.mk (@PySem.Value.type "tuple") Option.none (@PySem.Data.seq (List.toArray [(@PySem.Value.ref (157 : Nat))]) (0 : Nat)) (List.toArray []))) ::
(nat_lit 163, (@PySem.Obj.mk (@PySem.Value.type "tuple") Option.none (@PySem.Data.seq (List.toArray [(@PySem.Value.str (@PySem.Str.ofString "__class__") (384 : Nat))]) (0 : Nat)) (List.toArray []))) ::
(nat_lit 165, (@PySem.Obj.mk (@PySem.Value.type "tuple") Option.none (@PySem.Data.seq (List.toArray [(@PySem.Value.str (@PySem.Str.ofString "self") (385 : Nat)), (@PySem.Value.str (@PySem.Str.ofString "turn") (386 : Nat))]) (0 : Nat)) (List.toArray []))) ::
(nat_lit 166, (@PySem.Obj.mk (@PySem.Value.type "tuple") Option.none (@PySem.Data.seq (List.toArray []) (0 : Nat)) (List.toArray []))) ::
(nat_lit 168, (@PySem.Obj.mk (@PySem.Value.type "code") Option.none (@PySem.Data.fields (List.toArray [(@PySem.Value.str (@PySem.Str.ofString "__init__") (381 : Nat)), (@PySem.Value.str (@PySem.Str.ofString "BadTurn.__init__") (382 : Nat)), (@PySem.Value.str (@PySem.Str.ofString "/claim/cut.py") (383 : Nat)), (@PySem.Value.int (36 : Int) (0 : Nat)), (@PySem.Value.int (2 : Int) (0 : Nat)), (@PySem.Value.int (0 : Int) (0 : Nat)), (@PySem.Value.int (0 : Int) (0 : Nat)), (@PySem.Value.int (3 : Int) (0 : Nat)), (@PySem.Value.ref (163 : Nat)), (@PySem.Value.bool Bool.true), (@PySem.Value.int (181 : Int) (0 : Nat)), (@PySem.Value.ref (164 : Nat)), PySem.Value.none, (@PySem.Value.ref (165 : Nat)), (@PySem.Value.ref (166 : Nat)), (@PySem.Value.ref (167 : Nat)), (@PySem.Value.int (387 : Int) (0 : Nat)), (@PySem.Value.int (36 : Int) (0 : Nat)), (@PySem.Value.str (@PySem.Str.ofString "/claim/cut.py") (388 : Nat))])) (List.toArray []))) ::
(nat_lit 169, (@PySem.Obj.mk (@PySem.Value.type "function") Option.none (@PySem.Data.func (PySem.FuncData.mk (@PySem.Str.ofString "__init__") (@PySem.Str.ofString "BadTurn.__init__") (defArgs s_BadTurn___init__) (PySem.FuncBody.stmts (defBody s_BadTurn___init__)) (defScope s_BadTurn___init__) (3 : Nat) [((@PySem.Str.ofString "__class__"), (157 : Nat))] PySem.Value.none PySem.Value.none PySem.Value.none (@PySem.Value.str (@PySem.Str.ofString "quietprobes.errors") (187 : Nat)) Option.none (@PySem.Value.ref (168 : Nat)) (@PySem.Value.ref (162 : Nat)) (0 : Nat))) (List.toArray []))) ::
(nat_lit 170, (@PySem.Obj.mk (@PySem.Value.type "tuple") Option.none (@PySem.Data.seq (List.toArray [(@PySem.Value.str (@PySem.Str.ofString "turn") (390 : Nat))]) (0 : Nat)) (List.toArray []))) ::
(nat_lit 171, (@PySem.Obj.mk (@PySem.Value.type "dict") Option.none (@PySem.Data.dict (List.toArray [(@PySem.DictEntry.mk (@PySem.PyData.keyHash P (@PySem.Str.ofString "__module__")) (@PySem.Value.str (@PySem.Str.ofString "__module__") (376 : Nat)) (@PySem.Value.str (@PySem.Str.ofString "quietprobes.errors") (187 : Nat))), (@PySem.DictEntry.mk (@PySem.PyData.keyHash P (@PySem.Str.ofString "__firstlineno__")) (@PySem.Value.str (@PySem.Str.ofString "__firstlineno__") (380 : Nat)) (@PySem.Value.int (34 : Int) (379 : Nat))), (@PySem.DictEntry.mk (@PySem.PyData.keyHash P (@PySem.Str.ofString "__init__")) (@PySem.Value.str (@PySem.Str.ofString "__init__") (389 : Nat)) (@PySem.Value.ref (169 : Nat))), (@PySem.DictEntry.mk (@PySem.PyData.keyHash P (@PySem.Str.ofString "__static_attributes__")) (@PySem.Value.str (@PySem.Str.ofString "__static_attributes__") (391 : Nat)) (@PySem.Value.ref (170 : Nat))), (@PySem.DictEntry.mk (@PySem.PyData.keyHash P (@PySem.Str.ofString "__doc__")) (@PySem.Value.str (@PySem.Str.ofString "__doc__") (393 : Nat)) PySem.Value.none)]) (3 : Nat)) (List.toArray []))) ::
(nat_lit 172, (@PySem.Obj.mk (@PySem.Value.type "type") Option.none (@PySem.Data.cls (@PySem.ClassData.mk (@PySem.Str.ofString "BadTurn") [(@PySem.Value.ref (24 : Nat))] [(@PySem.Value.ref (172 : Nat)), (@PySem.Value.ref (24 : Nat)), (@PySem.Value.type "ValueError"), (@PySem.Value.type "Exception"), (@PySem.Value.type "BaseException"), (@PySem.Value.type "object")] (171 : Nat) (@PySem.Str.ofString "BadTurn") Bool.true [] [] Bool.false Option.none Bool.false)) (List.toArray [(Option.some (@PySem.Value.ref (154 : Nat))), Option.none, (Option.some (@PySem.Value.str (@PySem.Str.ofString "BadTurn") (369 : Nat))), (Option.some (@PySem.Value.str (@PySem.Str.ofString "BadTurn") (377 : Nat))), (Option.some (@PySem.Value.builtin "ValueError.__new__")), (Option.some (@PySem.Value.bool Bool.true))]))) ::
(nat_lit 175, (@PySem.Obj.mk (@PySem.Value.type "tuple") Option.none (@PySem.Data.seq (List.toArray [(@PySem.Value.ref (24 : Nat))]) (0 : Nat)) (List.toArray []))) ::
(nat_lit 178, (@PySem.Obj.mk (@PySem.Value.type "cell") Option.none (@PySem.Data.cell (Option.some (@PySem.Value.ref (193 : Nat)))) (List.toArray []))) ::
(nat_lit 183, (@PySem.Obj.mk (@PySem.Value.type "tuple") Option.none (@PySem.Data.seq (List.toArray [(@PySem.Value.ref (178 : Nat))]) (0 : Nat)) (List.toArray []))) ::
(nat_lit 184, (@PySem.Obj.mk (@PySem.Value.type "tuple") Option.none (@PySem.Data.seq (List.toArray [(@PySem.Value.str (@PySem.Str.ofString "__class__") (411 : Nat))]) (0 : Nat)) (List.toArray []))) ::
(nat_lit 186, (@PySem.Obj.mk (@PySem.Value.type "tuple") Option.none (@PySem.Data.seq (List.toArray [(@PySem.Value.str (@PySem.Str.ofString "self") (412 : Nat)), (@PySem.Value.str (@PySem.Str.ofString "pair") (413 : Nat))]) (0 : Nat)) (List.toArray []))) ::
(nat_lit 187, (@PySem.Obj.mk (@PySem.Value.type "tuple") Option.none (@PySem.Data.seq (List.toArray []) (0 : Nat)) (List.toArray []))) ::
(nat_lit 189, (@PySem.Obj.mk (@PySem.Value.type "code") Option.none (@PySem.Data.fields (List.toArray [(@PySem.Value.str (@PySem.Str.ofString "__init__") (408 : Nat)), (@PySem.Value.str (@PySem.Str.ofString "BadPair.__init__") (409 : Nat)), (@PySem.Value.str (@PySem.Str.ofString "/claim/cut.py") (410 : Nat)), (@PySem.Value.int (41 : Int) (0 : Nat)), (@PySem.Value.int (2 : Int) (0 : Nat)), (@PySem.Value.int (0 : Int) (0 : Nat)), (@PySem.Value.int (0 : Int) (0 : Nat)), (@PySem.Value.int (3 : Int) (0 : Nat)), (@PySem.Value.ref (184 : Nat)), (@PySem.Value.bool Bool.true), (@PySem.Value.int (181 : Int) (0 : Nat)), (@PySem.Value.ref (185 : Nat)), PySem.Value.none, (@PySem.Value.ref (186 : Nat)), (@PySem.Value.ref (187 : Nat)), (@PySem.Value.ref (188 : Nat)), (@PySem.Value.int (414 : Int) (0 : Nat)), (@PySem.Value.int (41 : Int) (0 : Nat)), (@PySem.Value.str (@PySem.Str.ofString "/claim/cut.py") (415 : Nat))])) (List.toArray []))) ::
(nat_lit 190, (@PySem.Obj.mk (@PySem.Value.type "function") Option.none (@PySem.Data.func (PySem.FuncData.mk (@PySem.Str.ofString "__init__") (@PySem.Str.ofString "BadPair.__init__") (defArgs s_BadPair___init__) (PySem.FuncBody.stmts (defBody s_BadPair___init__)) (defScope s_BadPair___init__) (3 : Nat) [((@PySem.Str.ofString "__class__"), (178 : Nat))] PySem.Value.none PySem.Value.none PySem.Value.none (@PySem.Value.str (@PySem.Str.ofString "quietprobes.errors") (187 : Nat)) Option.none (@PySem.Value.ref (189 : Nat)) (@PySem.Value.ref (183 : Nat)) (0 : Nat))) (List.toArray []))) ::
(nat_lit 191, (@PySem.Obj.mk (@PySem.Value.type "tuple") Option.none (@PySem.Data.seq (List.toArray [(@PySem.Value.str (@PySem.Str.ofString "pair") (417 : Nat))]) (0 : Nat)) (List.toArray []))) ::
(nat_lit 192, (@PySem.Obj.mk (@PySem.Value.type "dict") Option.none (@PySem.Data.dict (List.toArray [(@PySem.DictEntry.mk (@PySem.PyData.keyHash P (@PySem.Str.ofString "__module__")) (@PySem.Value.str (@PySem.Str.ofString "__module__") (403 : Nat)) (@PySem.Value.str (@PySem.Str.ofString "quietprobes.errors") (187 : Nat))), (@PySem.DictEntry.mk (@PySem.PyData.keyHash P (@PySem.Str.ofString "__firstlineno__")) (@PySem.Value.str (@PySem.Str.ofString "__firstlineno__") (407 : Nat)) (@PySem.Value.int (39 : Int) (406 : Nat))), (@PySem.DictEntry.mk (@PySem.PyData.keyHash P (@PySem.Str.ofString "__init__")) (@PySem.Value.str (@PySem.Str.ofString "__init__") (416 : Nat)) (@PySem.Value.ref (190 : Nat))), (@PySem.DictEntry.mk (@PySem.PyData.keyHash P (@PySem.Str.ofString "__static_attributes__")) (@PySem.Value.str (@PySem.Str.ofString "__static_attributes__") (418 : Nat)) (@PySem.Value.ref (191 : Nat))), (@PySem.DictEntry.mk (@PySem.PyData.keyHash P (@PySem.Str.ofString "__doc__")) (@PySem.Value.str (@PySem.Str.ofString "__doc__") (420 : Nat)) PySem.Value.none)]) (3 : Nat)) (List.toArray []))) ::
(nat_lit 193, (@PySem.Obj.mk (@PySem.Value.type "type") Option.none (@PySem.Data.cls (@PySem.ClassData.mk (@PySem.Str.ofString "BadPair") [(@PySem.Value.ref (24 : Nat))] [(@PySem.Value.ref (193 : Nat)), (@PySem.Value.ref (24 : Nat)), (@PySem.Value.type "ValueError"), (@PySem.Value.type "Exception"), (@PySem.Value.type "BaseException"), (@PySem.Value.type "object")] (192 : Nat) (@PySem.Str.ofString "BadPair") Bool.true [] [] Bool.false Option.none Bool.false)) (List.toArray [(Option.some (@PySem.Value.ref (175 : Nat))), Option.none, (Option.some (@PySem.Value.str (@PySem.Str.ofString "BadPair") (396 : Nat))), (Option.some (@PySem.Value.str (@PySem.Str.ofString "BadPair") (404 : Nat))), (Option.some (@PySem.Value.builtin "ValueError.__new__")), (Option.some (@PySem.Value.bool Bool.true))]))) ::
(nat_lit 196, (@PySem.Obj.mk (@PySem.Value.type "tuple") Option.none (@PySem.Data.seq (List.toArray [(@PySem.Value.ref (24 : Nat))]) (0 : Nat)) (List.toArray []))) ::
(nat_lit 199, (@PySem.Obj.mk (@PySem.Value.type "cell") Option.none (@PySem.Data.cell (Option.some (@PySem.Value.ref (214 : Nat)))) (List.toArray []))) ::
(nat_lit 204, (@PySem.Obj.mk (@PySem.Value.type "tuple") Option.none (@PySem.Data.seq (List.toArray [(@PySem.Value.ref (199 : Nat))]) (0 : Nat)) (List.toArray []))) ::
(nat_lit 205, (@PySem.Obj.mk (@PySem.Value.type "tuple") Option.none (@PySem.Data.seq (List.toArray [(@PySem.Value.str (@PySem.Str.ofString "__class__") (438 : Nat))]) (0 : Nat)) (List.toArray []))) ::
(nat_lit 207, (@PySem.Obj.mk (@PySem.Value.type "tuple") Option.none (@PySem.Data.seq (List.toArray [(@PySem.Value.str (@PySem.Str.ofString "self") (439 : Nat)), (@PySem.Value.str (@PySem.Str.ofString "line") (440 : Nat))]) (0 : Nat)) (List.toArray []))) ::
(nat_lit 208, (@PySem.Obj.mk (@PySem.Value.type "tuple") Option.none (@PySem.Data.seq (List.toArray []) (0 : Nat)) (List.toArray []))) ::
(nat_lit 210, (@PySem.Obj.mk (@PySem.Value.type "code") Option.none (@PySem.Data.fields (List.toArray [(@PySem.Value.str (@PySem.Str.ofString "__init__") (435 : Nat)), (@PySem.Value.str (@PySem.Str.ofString "BadText.__init__") (436 : Nat)), (@PySem.Value.str (@PySem.Str.ofString "/claim/cut.py") (437 : Nat)), (@PySem.Value.int (46 : Int) (0 : Nat)), (@PySem.Value.int (2 : Int) (0 : Nat)), (@PySem.Value.int (0 : Int) (0 : Nat)), (@PySem.Value.int (0 : Int) (0 : Nat)), (@PySem.Value.int (3 : Int) (0 : Nat)), (@PySem.Value.ref (205 : Nat)), (@PySem.Value.bool Bool.true), (@PySem.Value.int (181 : Int) (0 : Nat)), (@PySem.Value.ref (206 : Nat)), PySem.Value.none, (@PySem.Value.ref (207 : Nat)), (@PySem.Value.ref (208 : Nat)), (@PySem.Value.ref (209 : Nat)), (@PySem.Value.int (441 : Int) (0 : Nat)), (@PySem.Value.int (46 : Int) (0 : Nat)), (@PySem.Value.str (@PySem.Str.ofString "/claim/cut.py") (442 : Nat))])) (List.toArray []))) ::
(nat_lit 211, (@PySem.Obj.mk (@PySem.Value.type "function") Option.none (@PySem.Data.func (PySem.FuncData.mk (@PySem.Str.ofString "__init__") (@PySem.Str.ofString "BadText.__init__") (defArgs s_BadText___init__) (PySem.FuncBody.stmts (defBody s_BadText___init__)) (defScope s_BadText___init__) (3 : Nat) [((@PySem.Str.ofString "__class__"), (199 : Nat))] PySem.Value.none PySem.Value.none PySem.Value.none (@PySem.Value.str (@PySem.Str.ofString "quietprobes.errors") (187 : Nat)) Option.none (@PySem.Value.ref (210 : Nat)) (@PySem.Value.ref (204 : Nat)) (0 : Nat))) (List.toArray []))) ::
(nat_lit 212, (@PySem.Obj.mk (@PySem.Value.type "tuple") Option.none (@PySem.Data.seq (List.toArray [(@PySem.Value.str (@PySem.Str.ofString "line") (444 : Nat))]) (0 : Nat)) (List.toArray []))) ::
(nat_lit 213, (@PySem.Obj.mk (@PySem.Value.type "dict") Option.none (@PySem.Data.dict (List.toArray [(@PySem.DictEntry.mk (@PySem.PyData.keyHash P (@PySem.Str.ofString "__module__")) (@PySem.Value.str (@PySem.Str.ofString "__module__") (430 : Nat)) (@PySem.Value.str (@PySem.Str.ofString "quietprobes.errors") (187 : Nat))), (@PySem.DictEntry.mk (@PySem.PyData.keyHash P (@PySem.Str.ofString "__firstlineno__")) (@PySem.Value.str (@PySem.Str.ofString "__firstlineno__") (434 : Nat)) (@PySem.Value.int (44 : Int) (433 : Nat))), (@PySem.DictEntry.mk (@PySem.PyData.keyHash P (@PySem.Str.ofString "__init__")) (@PySem.Value.str (@PySem.Str.ofString "__init__") (443 : Nat)) (@PySem.Value.ref (211 : Nat))), (@PySem.DictEntry.mk (@PySem.PyData.keyHash P (@PySem.Str.ofString "__static_attributes__")) (@PySem.Value.str (@PySem.Str.ofString "__static_attributes__") (445 : Nat)) (@PySem.Value.ref (212 : Nat))), (@PySem.DictEntry.mk (@PySem.PyData.keyHash P (@PySem.Str.ofString "__doc__")) (@PySem.Value.str (@PySem.Str.ofString "__doc__") (447 : Nat)) PySem.Value.none)]) (3 : Nat)) (List.toArray []))) ::
(nat_lit 214, (@PySem.Obj.mk (@PySem.Value.type "type") Option.none (@PySem.Data.cls (@PySem.ClassData.mk (@PySem.Str.ofString "BadText") [(@PySem.Value.ref (24 : Nat))] [(@PySem.Value.ref (214 : Nat)), (@PySem.Value.ref (24 : Nat)), (@PySem.Value.type "ValueError"), (@PySem.Value.type "Exception"), (@PySem.Value.type "BaseException"), (@PySem.Value.type "object")] (213 : Nat) (@PySem.Str.ofString "BadText") Bool.true [] [] Bool.false Option.none Bool.false)) (List.toArray [(Option.some (@PySem.Value.ref (196 : Nat))), Option.none, (Option.some (@PySem.Value.str (@PySem.Str.ofString "BadText") (423 : Nat))), (Option.some (@PySem.Value.str (@PySem.Str.ofString "BadText") (431 : Nat))), (Option.some (@PySem.Value.builtin "ValueError.__new__")), (Option.some (@PySem.Value.bool Bool.true))]))) ::
(nat_lit 217, (@PySem.Obj.mk (@PySem.Value.type "tuple") Option.none (@PySem.Data.seq (List.toArray [(@PySem.Value.ref (24 : Nat))]) (0 : Nat)) (List.toArray []))) ::
(nat_lit 220, (@PySem.Obj.mk (@PySem.Value.type "cell") Option.none (@PySem.Data.cell (Option.some (@PySem.Value.ref (235 : Nat)))) (List.toArray []))) ::
(nat_lit 225, (@PySem.Obj.mk (@PySem.Value.type "tuple") Option.none (@PySem.Data.seq (List.toArray [(@PySem.Value.ref (220 : Nat))]) (0 : Nat)) (List.toArray []))) ::
(nat_lit 226, (@PySem.Obj.mk (@PySem.Value.type "tuple") Option.none (@PySem.Data.seq (List.toArray [(@PySem.Value.str (@PySem.Str.ofString "__class__") (465 : Nat))]) (0 : Nat)) (List.toArray []))) ::
(nat_lit 228, (@PySem.Obj.mk (@PySem.Value.type "tuple") Option.none (@PySem.Data.seq (List.toArray [(@PySem.Value.str (@PySem.Str.ofString "self") (466 : Nat)), (@PySem.Value.str (@PySem.Str.ofString "command") (467 : Nat))]) (0 : Nat)) (List.toArray []))) ::
(nat_lit 229, (@PySem.Obj.mk (@PySem.Value.type "tuple") Option.none (@PySem.Data.seq (List.toArray []) (0 : Nat)) (List.toArray []))) ::
(nat_lit 231, (@PySem.Obj.mk (@PySem.Value.type "code") Option.none (@PySem.Data.fields (List.toArray [(@PySem.Value.str (@PySem.Str.ofString "__init__") (462 : Nat)), (@PySem.Value.str (@PySem.Str.ofString "BadCommand.__init__") (463 : Nat)), (@PySem.Value.str (@PySem.Str.ofString "/claim/cut.py") (464 : Nat)), (@PySem.Value.int (51 : Int) (0 : Nat)), (@PySem.Value.int (2 : Int) (0 : Nat)), (@PySem.Value.int (0 : Int) (0 : Nat)), (@PySem.Value.int (0 : Int) (0 : Nat)), (@PySem.Value.int (3 : Int) (0 : Nat)), (@PySem.Value.ref (226 : Nat)), (@PySem.Value.bool Bool.true), (@PySem.Value.int (181 : Int) (0 : Nat)), (@PySem.Value.ref (227 : Nat)), PySem.Value.none, (@PySem.Value.ref (228 : Nat)), (@PySem.Value.ref (229 : Nat)), (@PySem.Value.ref (230 : Nat)), (@PySem.Value.int (468 : Int) (0 : Nat)), (@PySem.Value.int (51 : Int) (0 : Nat)), (@PySem.Value.str (@PySem.Str.ofString "/claim/cut.py") (469 : Nat))])) (List.toArray []))) ::
(nat_lit 232, (@PySem.Obj.mk (@PySem.Value.type "function") Option.none (@PySem.Data.func (PySem.FuncData.mk (@PySem.Str.ofString "__init__") (@PySem.Str.ofString "BadCommand.__init__") (defArgs s_BadCommand___init__) (PySem.FuncBody.stmts (defBody s_BadCommand___init__)) (defScope s_BadCommand___init__) (3 : Nat) [((@PySem.Str.ofString "__class__"), (220 : Nat))] PySem.Value.none PySem.Value.none PySem.Value.none (@PySem.Value.str (@PySem.Str.ofString "quietprobes.errors") (187 : Nat)) Option.none (@PySem.Value.ref (231 : Nat)) (@PySem.Value.ref (225 : Nat)) (0 : Nat))) (List.toArray []))) ::
(nat_lit 233, (@PySem.Obj.mk (@PySem.Value.type "tuple") Option.none (@PySem.Data.seq (List.toArray [(@PySem.Value.str (@PySem.Str.ofString "command") (471 : Nat))]) (0 : Nat)) (List.toArray []))) ::
(nat_lit 234, (@PySem.Obj.mk (@PySem.Value.type "dict") Option.none (@PySem.Data.dict (List.toArray [(@PySem.DictEntry.mk (@PySem.PyData.keyHash P (@PySem.Str.ofString "__module__")) (@PySem.Value.str (@PySem.Str.ofString "__module__") (457 : Nat)) (@PySem.Value.str (@PySem.Str.ofString "quietprobes.errors") (187 : Nat))), (@PySem.DictEntry.mk (@PySem.PyData.keyHash P (@PySem.Str.ofString "__firstlineno__")) (@PySem.Value.str (@PySem.Str.ofString "__firstlineno__") (461 : Nat)) (@PySem.Value.int (49 : Int) (460 : Nat))), (@PySem.DictEntry.mk (@PySem.PyData.keyHash P (@PySem.Str.ofString "__init__")) (@PySem.Value.str (@PySem.Str.ofString "__init__") (470 : Nat)) (@PySem.Value.ref (232 : Nat))), (@PySem.DictEntry.mk (@PySem.PyData.keyHash P (@PySem.Str.ofString "__static_attributes__")) (@PySem.Value.str (@PySem.Str.ofString "__static_attributes__") (472 : Nat)) (@PySem.Value.ref (233 : Nat))), (@PySem.DictEntry.mk (@PySem.PyData.keyHash P (@PySem.Str.ofString "__doc__")) (@PySem.Value.str (@PySem.Str.ofString "__doc__") (474 : Nat)) PySem.Value.none)]) (3 : Nat)) (List.toArray []))) ::
(nat_lit 235, (@PySem.Obj.mk (@PySem.Value.type "type") Option.none (@PySem.Data.cls (@PySem.ClassData.mk (@PySem.Str.ofString "BadCommand") [(@PySem.Value.ref (24 : Nat))] [(@PySem.Value.ref (235 : Nat)), (@PySem.Value.ref (24 : Nat)), (@PySem.Value.type "ValueError"), (@PySem.Value.type "Exception"), (@PySem.Value.type "BaseException"), (@PySem.Value.type "object")] (234 : Nat) (@PySem.Str.ofString "BadCommand") Bool.true [] [] Bool.false Option.none Bool.false)) (List.toArray [(Option.some (@PySem.Value.ref (217 : Nat))), Option.none, (Option.some (@PySem.Value.str (@PySem.Str.ofString "BadCommand") (450 : Nat))), (Option.some (@PySem.Value.str (@PySem.Str.ofString "BadCommand") (458 : Nat))), (Option.some (@PySem.Value.builtin "ValueError.__new__")), (Option.some (@PySem.Value.bool Bool.true))]))) ::
(nat_lit 238, (@PySem.Obj.mk (@PySem.Value.type "tuple") Option.none (@PySem.Data.seq (List.toArray [(@PySem.Value.ref (24 : Nat))]) (0 : Nat)) (List.toArray []))) ::
(nat_lit 241, (@PySem.Obj.mk (@PySem.Value.type "cell") Option.none (@PySem.Data.cell (Option.some (@PySem.Value.ref (256 : Nat)))) (List.toArray []))) ::
(nat_lit 246, (@PySem.Obj.mk (@PySem.Value.type "tuple") Option.none (@PySem.Data.seq (List.toArray [(@PySem.Value.ref (241 : Nat))]) (0 : Nat)) (List.toArray []))) ::
(nat_lit 247, (@PySem.Obj.mk (@PySem.Value.type "tuple") Option.none (@PySem.Data.seq (List.toArray [(@PySem.Value.str (@PySem.Str.ofString "__class__") (492 : Nat))]) (0 : Nat)) (List.toArray []))) ::
(nat_lit 249, (@PySem.Obj.mk (@PySem.Value.type "tuple") Option.none (@PySem.Data.seq (List.toArray [(@PySem.Value.str (@PySem.Str.ofString "self") (493 : Nat)), (@PySem.Value.str (@PySem.Str.ofString "name") (494 : Nat))]) (0 : Nat)) (List.toArray []))) ::
(nat_lit 250, (@PySem.Obj.mk (@PySem.Value.type "tuple") Option.none (@PySem.Data.seq (List.toArray []) (0 : Nat)) (List.toArray []))) ::
(nat_lit 252, (@PySem.Obj.mk (@PySem.Value.type "code") Option.none (@PySem.Data.fields (List.toArray [(@PySem.Value.str (@PySem.Str.ofString "__init__") (489 : Nat)), (@PySem.Value.str (@PySem.Str.ofString "NoThing.__init__") (490 : Nat)), (@PySem.Value.str (@PySem.Str.ofString "/claim/cut.py") (491 : Nat)), (@PySem.Value.int (56 : Int) (0 : Nat)), (@PySem.Value.int (2 : Int) (0 : Nat)), (@PySem.Value.int (0 : Int) (0 : Nat)), (@PySem.Value.int (0 : Int) (0 : Nat)), (@PySem.Value.int (3 : Int) (0 : Nat)), (@PySem.Value.ref (247 : Nat)), (@PySem.Value.bool Bool.true), (@PySem.Value.int (181 : Int) (0 : Nat)), (@PySem.Value.ref (248 : Nat)), PySem.Value.none, (@PySem.Value.ref (249 : Nat)), (@PySem.Value.ref (250 : Nat)), (@PySem.Value.ref (251 : Nat)), (@PySem.Value.int (495 : Int) (0 : Nat)), (@PySem.Value.int (56 : Int) (0 : Nat)), (@PySem.Value.str (@PySem.Str.ofString "/claim/cut.py") (496 : Nat))])) (List.toArray []))) ::
(nat_lit 253, (@PySem.Obj.mk (@PySem.Value.type "function") Option.none (@PySem.Data.func (PySem.FuncData.mk (@PySem.Str.ofString "__init__") (@PySem.Str.ofString "NoThing.__init__") (defArgs s_NoThing___init__) (PySem.FuncBody.stmts (defBody s_NoThing___init__)) (defScope s_NoThing___init__) (3 : Nat) [((@PySem.Str.ofString "__class__"), (241 : Nat))] PySem.Value.none PySem.Value.none PySem.Value.none (@PySem.Value.str (@PySem.Str.ofString "quietprobes.errors") (187 : Nat)) Option.none (@PySem.Value.ref (252 : Nat)) (@PySem.Value.ref (246 : Nat)) (0 : Nat))) (List.toArray []))) ::
(nat_lit 254, (@PySem.Obj.mk (@PySem.Value.type "tuple") Option.none (@PySem.Data.seq (List.toArray [(@PySem.Value.str (@PySem.Str.ofString "name") (498 : Nat))]) (0 : Nat)) (List.toArray []))) ::
(nat_lit 255, (@PySem.Obj.mk (@PySem.Value.type "dict") Option.none (@PySem.Data.dict (List.toArray [(@PySem.DictEntry.mk (@PySem.PyData.keyHash P (@PySem.Str.ofString "__module__")) (@PySem.Value.str (@PySem.Str.ofString "__module__") (484 : Nat)) (@PySem.Value.str (@PySem.Str.ofString "quietprobes.errors") (187 : Nat))), (@PySem.DictEntry.mk (@PySem.PyData.keyHash P (@PySem.Str.ofString "__firstlineno__")) (@PySem.Value.str (@PySem.Str.ofString "__firstlineno__") (488 : Nat)) (@PySem.Value.int (54 : Int) (487 : Nat))), (@PySem.DictEntry.mk (@PySem.PyData.keyHash P (@PySem.Str.ofString "__init__")) (@PySem.Value.str (@PySem.Str.ofString "__init__") (497 : Nat)) (@PySem.Value.ref (253 : Nat))), (@PySem.DictEntry.mk (@PySem.PyData.keyHash P (@PySem.Str.ofString "__static_attributes__")) (@PySem.Value.str (@PySem.Str.ofString "__static_attributes__") (499 : Nat)) (@PySem.Value.ref (254 : Nat))), (@PySem.DictEntry.mk (@PySem.PyData.keyHash P (@PySem.Str.ofString "__doc__")) (@PySem.Value.str (@PySem.Str.ofString "__doc__") (501 : Nat)) PySem.Value.none)]) (3 : Nat)) (List.toArray []))) ::
(nat_lit 256, (@PySem.Obj.mk (@PySem.Value.type "type") Option.none (@PySem.Data.cls (@PySem.ClassData.mk (@PySem.Str.ofString "NoThing") [(@PySem.Value.ref (24 : Nat))] [(@PySem.Value.ref (256 : Nat)), (@PySem.Value.ref (24 : Nat)), (@PySem.Value.type "ValueError"), (@PySem.Value.type "Exception"), (@PySem.Value.type "BaseException"), (@PySem.Value.type "object")] (255 : Nat) (@PySem.Str.ofString "NoThing") Bool.true [] [] Bool.false Option.none Bool.false)) (List.toArray [(Option.some (@PySem.Value.ref (238 : Nat))), Option.none, (Option.some (@PySem.Value.str (@PySem.Str.ofString "NoThing") (477 : Nat))), (Option.some (@PySem.Value.str (@PySem.Str.ofString "NoThing") (485 : Nat))), (Option.some (@PySem.Value.builtin "ValueError.__new__")), (Option.some (@PySem.Value.bool Bool.true))]))) ::
(nat_lit 259, (@PySem.Obj.mk (@PySem.Value.type "tuple") Option.none (@PySem.Data.seq (List.toArray [(@PySem.Value.ref (24 : Nat))]) (0 : Nat)) (List.toArray []))) ::
(nat_lit 262, (@PySem.Obj.mk (@PySem.Value.type "cell") Option.none (@PySem.Data.cell (Option.some (@PySem.Value.ref (277 : Nat)))) (List.toArray []))) ::
(nat_lit 267, (@PySem.Obj.mk (@PySem.Value.type "tuple") Option.none (@PySem.Data.seq (List.toArray [(@PySem.Value.ref (262 : Nat))]) (0 : Nat)) (List.toArray []))) ::
(nat_lit 268, (@PySem.Obj.mk (@PySem.Value.type "tuple") Option.none (@PySem.Data.seq (List.toArray [(@PySem.Value.str (@PySem.Str.ofString "__class__") (519 : Nat))]) (0 : Nat)) (List.toArray []))) ::
(nat_lit 270, (@PySem.Obj.mk (@PySem.Value.type "tuple") Option.none (@PySem.Data.seq (List.toArray [(@PySem.Value.str (@PySem.Str.ofString "self") (520 : Nat)), (@PySem.Value.str (@PySem.Str.ofString "key") (521 : Nat))]) (0 : Nat)) (List.toArray []))) ::
(nat_lit 271, (@PySem.Obj.mk (@PySem.Value.type "tuple") Option.none (@PySem.Data.seq (List.toArray []) (0 : Nat)) (List.toArray []))) ::
(nat_lit 273, (@PySem.Obj.mk (@PySem.Value.type "code") Option.none (@PySem.Data.fields (List.toArray [(@PySem.Value.str (@PySem.Str.ofString "__init__") (516 : Nat)), (@PySem.Value.str (@PySem.Str.ofString "NoKey.__init__") (517 : Nat)), (@PySem.Value.str (@PySem.Str.ofString "/claim/cut.py") (518 : Nat)), (@PySem.Value.int (61 : Int) (0 : Nat)), (@PySem.Value.int (2 : Int) (0 : Nat)), (@PySem.Value.int (0 : Int) (0 : Nat)), (@PySem.Value.int (0 : Int) (0 : Nat)), (@PySem.Value.int (3 : Int) (0 : Nat)), (@PySem.Value.ref (268 : Nat)), (@PySem.Value.bool Bool.true), (@PySem.Value.int (181 : Int) (0 : Nat)), (@PySem.Value.ref (269 : Nat)), PySem.Value.none, (@PySem.Value.ref (270 : Nat)), (@PySem.Value.ref (271 : Nat)), (@PySem.Value.ref (272 : Nat)), (@PySem.Value.int (522 : Int) (0 : Nat)), (@PySem.Value.int (61 : Int) (0 : Nat)), (@PySem.Value.str (@PySem.Str.ofString "/claim/cut.py") (523 : Nat))])) (List.toArray []))) ::
(nat_lit 274, (@PySem.Obj.mk (@PySem.Value.type "function") Option.none (@PySem.Data.func (PySem.FuncData.mk (@PySem.Str.ofString "__init__") (@PySem.Str.ofString "NoKey.__init__") (defArgs s_NoKey___init__) (PySem.FuncBody.stmts (defBody s_NoKey___init__)) (defScope s_NoKey___init__) (3 : Nat) [((@PySem.Str.ofString "__class__"), (262 : Nat))] PySem.Value.none PySem.Value.none PySem.Value.none (@PySem.Value.str (@PySem.Str.ofString "quietprobes.errors") (187 : Nat)) Option.none (@PySem.Value.ref (273 : Nat)) (@PySem.Value.ref (267 : Nat)) (0 : Nat))) (List.toArray []))) ::
(nat_lit 275, (@PySem.Obj.mk (@PySem.Value.type "tuple") Option.none (@PySem.Data.seq (List.toArray [(@PySem.Value.str (@PySem.Str.ofString "key") (525 : Nat))]) (0 : Nat)) (List.toArray []))) ::
(nat_lit 276, (@PySem.Obj.mk (@PySem.Value.type "dict") Option.none (@PySem.Data.dict (List.toArray [(@PySem.DictEntry.mk (@PySem.PyData.keyHash P (@PySem.Str.ofString "__module__")) (@PySem.Value.str (@PySem.Str.ofString "__module__") (511 : Nat)) (@PySem.Value.str (@PySem.Str.ofString "quietprobes.errors") (187 : Nat))), (@PySem.DictEntry.mk (@PySem.PyData.keyHash P (@PySem.Str.ofString "__firstlineno__")) (@PySem.Value.str (@PySem.Str.ofString "__firstlineno__") (515 : Nat)) (@PySem.Value.int (59 : Int) (514 : Nat))), (@PySem.DictEntry.mk (@PySem.PyData.keyHash P (@PySem.Str.ofString "__init__")) (@PySem.Value.str (@PySem.Str.ofString "__init__") (524 : Nat)) (@PySem.Value.ref (274 : Nat))), (@PySem.DictEntry.mk (@PySem.PyData.keyHash P (@PySem.Str.ofString "__static_attributes__")) (@PySem.Value.str (@PySem.Str.ofString "__static_attributes__") (526 : Nat)) (@PySem.Value.ref (275 : Nat))), (@PySem.DictEntry.mk (@PySem.PyData.keyHash P (@PySem.Str.ofString "__doc__")) (@PySem.Value.str (@PySem.Str.ofString "__doc__") (528 : Nat)) PySem.Value.none)]) (3 : Nat)) (List.toArray []))) ::
(nat_lit 277, (@PySem.Obj.mk (@PySem.Value.type "type") Option.none (@PySem.Data.cls (@PySem.ClassData.mk (@PySem.Str.ofString "NoKey") [(@PySem.Value.ref (24 : Nat))] [(@PySem.Value.ref (277 : Nat)), (@PySem.Value.ref (24 : Nat)), (@PySem.Value.type "ValueError"), (@PySem.Value.type "Exception"), (@PySem.Value.type "BaseException"), (@PySem.Value.type "object")] (276 : Nat) (@PySem.Str.ofString "NoKey") Bool.true [] [] Bool.false Option.none Bool.false)) (List.toArray [(Option.some (@PySem.Value.ref (259 : Nat))), Option.none, (Option.some (@PySem.Value.str (@PySem.Str.ofString "NoKey") (504 : Nat))), (Option.some (@PySem.Value.str (@PySem.Str.ofString "NoKey") (512 : Nat))), (Option.some (@PySem.Value.builtin "ValueError.__new__")), (Option.some (@PySem.Value.bool Bool.true))]))) ::
(nat_lit 280, (@PySem.Obj.mk (@PySem.Value.type "tuple") Option.none (@PySem.Data.seq (List.toArray [(@PySem.Value.ref (24 : Nat))]) (0 : Nat)) (List.toArray []))) ::
(nat_lit 283, (@PySem.Obj.mk (@PySem.Value.type "cell") Option.none (@PySem.Data.cell (Option.some (@PySem.Value.ref (298 : Nat)))) (List.toArray []))) ::
(nat_lit 288, (@PySem.Obj.mk (@PySem.Value.type "tuple") Option.none (@PySem.Data.seq (List.toArray [(@PySem.Value.ref (283 : Nat))]) (0 : Nat)) (List.toArray []))) ::
(nat_lit 289, (@PySem.Obj.mk (@PySem.Value.type "tuple") Option.none (@PySem.Data.seq (List.toArray [(@PySem.Value.str (@PySem.Str.ofString "__class__") (546 : Nat))]) (0 : Nat)) (List.toArray []))) ::
(nat_lit 291, (@PySem.Obj.mk (@PySem.Value.type "tuple") Option.none (@PySem.Data.seq (List.toArray [(@PySem.Value.str (@PySem.Str.ofString "self") (547 : Nat)), (@PySem.Value.str (@PySem.Str.ofString "name") (548 : Nat))]) (0 : Nat)) (List.toArray []))) ::
(nat_lit 292, (@PySem.Obj.mk (@PySem.Value.type "tuple") Option.none (@PySem.Data.seq (List.toArray []) (0 : Nat)) (List.toArray []))) ::
(nat_lit 294, (@PySem.Obj.mk (@PySem.Value.type "code") Option.none (@PySem.Data.fields (List.toArray [(@PySem.Value.str (@PySem.Str.ofString "__init__") (543 : Nat)), (@PySem.Value.str (@PySem.Str.ofString "NoPart.__init__") (544 : Nat)), (@PySem.Value.str (@PySem.Str.ofString "/claim/cut.py") (545 : Nat)), (@PySem.Value.int (66 : Int) (0 : Nat)), (@PySem.Value.int (2 : Int) (0 : Nat)), (@PySem.Value.int (0 : Int) (0 : Nat)), (@PySem.Value.int (0 : Int) (0 : Nat)), (@PySem.Value.int (3 : Int) (0 : Nat)), (@PySem.Value.ref (289 : Nat)), (@PySem.Value.bool Bool.true), (@PySem.Value.int (181 : Int) (0 : Nat)), (@PySem.Value.ref (290 : Nat)), PySem.Value.none, (@PySem.Value.ref (291 : Nat)), (@PySem.Value.ref (292 : Nat)), (@PySem.Value.ref (293 : Nat)), (@PySem.Value.int (549 : Int) (0 : Nat)), (@PySem.Value.int (66 : Int) (0 : Nat)), (@PySem.Value.str (@PySem.Str.ofString "/claim/cut.py") (550 : Nat))])) (List.toArray []))) ::
(nat_lit 295, (@PySem.Obj.mk (@PySem.Value.type "function") Option.none (@PySem.Data.func (PySem.FuncData.mk (@PySem.Str.ofString "__init__") (@PySem.Str.ofString "NoPart.__init__") (defArgs s_NoPart___init__) (PySem.FuncBody.stmts (defBody s_NoPart___init__)) (defScope s_NoPart___init__) (3 : Nat) [((@PySem.Str.ofString "__class__"), (283 : Nat))] PySem.Value.none PySem.Value.none PySem.Value.none (@PySem.Value.str (@PySem.Str.ofString "quietprobes.errors") (187 : Nat)) Option.none (@PySem.Value.ref (294 : Nat)) (@PySem.Value.ref (288 : Nat)) (0 : Nat))) (List.toArray []))) ::
(nat_lit 296, (@PySem.Obj.mk (@PySem.Value.type "tuple") Option.none (@PySem.Data.seq (List.toArray [(@PySem.Value.str (@PySem.Str.ofString "name") (552 : Nat))]) (0 : Nat)) (List.toArray []))) ::
(nat_lit 297, (@PySem.Obj.mk (@PySem.Value.type "dict") Option.none (@PySem.Data.dict (List.toArray [(@PySem.DictEntry.mk (@PySem.PyData.keyHash P (@PySem.Str.ofString "__module__")) (@PySem.Value.str (@PySem.Str.ofString "__module__") (538 : Nat)) (@PySem.Value.str (@PySem.Str.ofString "quietprobes.errors") (187 : Nat))), (@PySem.DictEntry.mk (@PySem.PyData.keyHash P (@PySem.Str.ofString "__firstlineno__")) (@PySem.Value.str (@PySem.Str.ofString "__firstlineno__") (542 : Nat)) (@PySem.Value.int (64 : Int) (541 : Nat))), (@PySem.DictEntry.mk (@PySem.PyData.keyHash P (@PySem.Str.ofString "__init__")) (@PySem.Value.str (@PySem.Str.ofString "__init__") (551 : Nat)) (@PySem.Value.ref (295 : Nat))), (@PySem.DictEntry.mk (@PySem.PyData.keyHash P (@PySem.Str.ofString "__static_attributes__")) (@PySem.Value.str (@PySem.Str.ofString "__static_attributes__") (553 : Nat)) (@PySem.Value.ref (296 : Nat))), (@PySem.DictEntry.mk (@PySem.PyData.keyHash P (@PySem.Str.ofString "__doc__")) (@PySem.Value.str (@PySem.Str.ofString "__doc__") (555 : Nat)) PySem.Value.none)]) (3 : Nat)) (List.toArray []))) ::
(nat_lit 298, (@PySem.Obj.mk (@PySem.Value.type "type") Option.none (@PySem.Data.cls (@PySem.ClassData.mk (@PySem.Str.ofString "NoPart") [(@PySem.Value.ref (24 : Nat))] [(@PySem.Value.ref (298 : Nat)), (@PySem.Value.ref (24 : Nat)), (@PySem.Value.type "ValueError"), (@PySem.Value.type "Exception"), (@PySem.Value.type "BaseException"), (@PySem.Value.type "object")] (297 : Nat) (@PySem.Str.ofString "NoPart") Bool.true [] [] Bool.false Option.none Bool.false)) (List.toArray [(Option.some (@PySem.Value.ref (280 : Nat))), Option.none, (Option.some (@PySem.Value.str (@PySem.Str.ofString "NoPart") (531 : Nat))), (Option.some (@PySem.Value.str (@PySem.Str.ofString "NoPart") (539 : Nat))), (Option.some (@PySem.Value.builtin "ValueError.__new__")), (Option.some (@PySem.Value.bool Bool.true))]))) ::
(nat_lit 301, (@PySem.Obj.mk (@PySem.Value.type "tuple") Option.none (@PySem.Data.seq (List.toArray [(@PySem.Value.ref (24 : Nat))]) (0 : Nat)) (List.toArray []))) ::
(nat_lit 304, (@PySem.Obj.mk (@PySem.Value.type "cell") Option.none (@PySem.Data.cell (Option.some (@PySem.Value.ref (319 : Nat)))) (List.toArray []))) ::
(nat_lit 309, (@PySem.Obj.mk (@PySem.Value.type "tuple") Option.none (@PySem.Data.seq (List.toArray [(@PySem.Value.ref (304 : Nat))]) (0 : Nat)) (List.toArray []))) ::
(nat_lit 310, (@PySem.Obj.mk (@PySem.Value.type "tuple") Option.none (@PySem.Data.seq (List.toArray [(@PySem.Value.str (@PySem.Str.ofString "__class__") (573 : Nat))]) (0 : Nat)) (List.toArray []))) ::
(nat_lit 312, (@PySem.Obj.mk (@PySem.Value.type "tuple") Option.none (@PySem.Data.seq (List.toArray [(@PySem.Value.str (@PySem.Str.ofString "self") (574 : Nat)), (@PySem.Value.str (@PySem.Str.ofString "number") (575 : Nat))]) (0 : Nat)) (List.toArray []))) ::
(nat_lit 313, (@PySem.Obj.mk (@PySem.Value.type "tuple") Option.none (@PySem.Data.seq (List.toArray []) (0 : Nat)) (List.toArray []))) ::
(nat_lit 315, (@PySem.Obj.mk (@PySem.Value.type "code") Option.none (@PySem.Data.fields (List.toArray [(@PySem.Value.str (@PySem.Str.ofString "__init__") (570 : Nat)), (@PySem.Value.str (@PySem.Str.ofString "NoRow.__init__") (571 : Nat)), (@PySem.Value.str (@PySem.Str.ofString "/claim/cut.py") (572 : Nat)), (@PySem.Value.int (71 : Int) (0 : Nat)), (@PySem.Value.int (2 : Int) (0 : Nat)), (@PySem.Value.int (0 : Int) (0 : Nat)), (@PySem.Value.int (0 : Int) (0 : Nat)), (@PySem.Value.int (3 : Int) (0 : Nat)), (@PySem.Value.ref (310 : Nat)), (@PySem.Value.bool Bool.true), (@PySem.Value.int (181 : Int) (0 : Nat)), (@PySem.Value.ref (311 : Nat)), PySem.Value.none, (@PySem.Value.ref (312 : Nat)), (@PySem.Value.ref (313 : Nat)), (@PySem.Value.ref (314 : Nat)), (@PySem.Value.int (576 : Int) (0 : Nat)), (@PySem.Value.int (71 : Int) (0 : Nat)), (@PySem.Value.str (@PySem.Str.ofString "/claim/cut.py") (577 : Nat))])) (List.toArray []))) ::
(nat_lit 316, (@PySem.Obj.mk (@PySem.Value.type "function") Option.none (@PySem.Data.func (PySem.FuncData.mk (@PySem.Str.ofString "__init__") (@PySem.Str.ofString "NoRow.__init__") (defArgs s_NoRow___init__) (PySem.FuncBody.stmts (defBody s_NoRow___init__)) (defScope s_NoRow___init__) (3 : Nat) [((@PySem.Str.ofString "__class__"), (304 : Nat))] PySem.Value.none PySem.Value.none PySem.Value.none (@PySem.Value.str (@PySem.Str.ofString "quietprobes.errors") (187 : Nat)) Option.none (@PySem.Value.ref (315 : Nat)) (@PySem.Value.ref (309 : Nat)) (0 : Nat))) (List.toArray []))) ::
(nat_lit 317, (@PySem.Obj.mk (@PySem.Value.type "tuple") Option.none (@PySem.Data.seq (List.toArray [(@PySem.Value.str (@PySem.Str.ofString "number") (579 : Nat))]) (0 : Nat)) (List.toArray []))) ::
(nat_lit 318, (@PySem.Obj.mk (@PySem.Value.type "dict") Option.none (@PySem.Data.dict (List.toArray [(@PySem.DictEntry.mk (@PySem.PyData.keyHash P (@PySem.Str.ofString "__module__")) (@PySem.Value.str (@PySem.Str.ofString "__module__") (565 : Nat)) (@PySem.Value.str (@PySem.Str.ofString "quietprobes.errors") (187 : Nat))), (@PySem.DictEntry.mk (@PySem.PyData.keyHash P (@PySem.Str.ofString "__firstlineno__")) (@PySem.Value.str (@PySem.Str.ofString "__firstlineno__") (569 : Nat)) (@PySem.Value.int (69 : Int) (568 : Nat))), (@PySem.DictEntry.mk (@PySem.PyData.keyHash P (@PySem.Str.ofString "__init__")) (@PySem.Value.str (@PySem.Str.ofString "__init__") (578 : Nat)) (@PySem.Value.ref (316 : Nat))), (@PySem.DictEntry.mk (@PySem.PyData.keyHash P (@PySem.Str.ofString "__static_attributes__")) (@PySem.Value.str (@PySem.Str.ofString "__static_attributes__") (580 : Nat)) (@PySem.Value.ref (317 : Nat))), (@PySem.DictEntry.mk (@PySem.PyData.keyHash P (@PySem.Str.ofString "__doc__")) (@PySem.Value.str (@PySem.Str.ofString "__doc__") (582 : Nat)) PySem.Value.none)]) (3 : Nat)) (List.toArray []))) ::
(nat_lit 319, (@PySem.Obj.mk (@PySem.Value.type "type") Option.none (@PySem.Data.cls (@PySem.ClassData.mk (@PySem.Str.ofString "NoRow") [(@PySem.Value.ref (24 : Nat))] [(@PySem.Value.ref (319 : Nat)), (@PySem.Value.ref (24 : Nat)), (@PySem.Value.type "ValueError"), (@PySem.Value.type "Exception"), (@PySem.Value.type "BaseException"), (@PySem.Value.type "object")] (318 : Nat) (@PySem.Str.ofString "NoRow") Bool.true [] [] Bool.false Option.none Bool.false)) (List.toArray [(Option.some (@PySem.Value.ref (301 : Nat))), Option.none, (Option.some (@PySem.Value.str (@PySem.Str.ofString "NoRow") (558 : Nat))), (Option.some (@PySem.Value.str (@PySem.Str.ofString "NoRow") (566 : Nat))), (Option.some (@PySem.Value.builtin "ValueError.__new__")), (Option.some (@PySem.Value.bool Bool.true))]))) ::
(nat_lit 322, (@PySem.Obj.mk (@PySem.Value.type "tuple") Option.none (@PySem.Data.seq (List.toArray [(@PySem.Value.ref (24 : Nat))]) (0 : Nat)) (List.toArray []))) ::
(nat_lit 325, (@PySem.Obj.mk (@PySem.Value.type "cell") Option.none (@PySem.Data.cell (Option.some (@PySem.Value.ref (340 : Nat)))) (List.toArray []))) ::
(nat_lit 330, (@PySem.Obj.mk (@PySem.Value.type "tuple") Option.none (@PySem.Data.seq (List.toArray [(@PySem.Value.ref (325 : Nat))]) (0 : Nat)) (List.toArray []))) ::
(nat_lit 331, (@PySem.Obj.mk (@PySem.Value.type "tuple") Option.none (@PySem.Data.seq (List.toArray [(@PySem.Value.str (@PySem.Str.ofString "__class__") (600 : Nat))]) (0 : Nat)) (List.toArray []))) ::
(nat_lit 333, (@PySem.Obj.mk (@PySem.Value.type "tuple") Option.none (@PySem.Data.seq (List.toArray [(@PySem.Value.str (@PySem.Str.ofString "self") (601 : Nat)), (@PySem.Value.str (@PySem.Str.ofString "name") (602 : Nat))]) (0 : Nat)) (List.toArray []))) ::
(nat_lit 334, (@PySem.Obj.mk (@PySem.Value.type "tuple") Option.none (@PySem.Data.seq (List.toArray []) (0 : Nat)) (List.toArray []))) ::
(nat_lit 336, (@PySem.Obj.mk (@PySem.Value.type "code") Option.none (@PySem.Data.fields (List.toArray [(@PySem.Value.str (@PySem.Str.ofString "__init__") (597 : Nat)), (@PySem.Value.str (@PySem.Str.ofString "NoProbe.__init__") (598 : Nat)), (@PySem.Value.str (@PySem.Str.ofString "/claim/cut.py") (599 : Nat)), (@PySem.Value.int (76 : Int) (0 : Nat)), (@PySem.Value.int (2 : Int) (0 : Nat)), (@PySem.Value.int (0 : Int) (0 : Nat)), (@PySem.Value.int (0 : Int) (0 : Nat)), (@PySem.Value.int (3 : Int) (0 : Nat)), (@PySem.Value.ref (331 : Nat)), (@PySem.Value.bool Bool.true), (@PySem.Value.int (181 : Int) (0 : Nat)), (@PySem.Value.ref (332 : Nat)), PySem.Value.none, (@PySem.Value.ref (333 : Nat)), (@PySem.Value.ref (334 : Nat)), (@PySem.Value.ref (335 : Nat)), (@PySem.Value.int (603 : Int) (0 : Nat)), (@PySem.Value.int (76 : Int) (0 : Nat)), (@PySem.Value.str (@PySem.Str.ofString "/claim/cut.py") (604 : Nat))])) (List.toArray []))) ::
(nat_lit 337, (@PySem.Obj.mk (@PySem.Value.type "function") Option.none (@PySem.Data.func (PySem.FuncData.mk (@PySem.Str.ofString "__init__") (@PySem.Str.ofString "NoProbe.__init__") (defArgs s_NoProbe___init__) (PySem.FuncBody.stmts (defBody s_NoProbe___init__)) (defScope s_NoProbe___init__) (3 : Nat) [((@PySem.Str.ofString "__class__"), (325 : Nat))] PySem.Value.none PySem.Value.none PySem.Value.none (@PySem.Value.str (@PySem.Str.ofString "quietprobes.errors") (187 : Nat)) Option.none (@PySem.Value.ref (336 : Nat)) (@PySem.Value.ref (330 : Nat)) (0 : Nat))) (List.toArray []))) ::
(nat_lit 338, (@PySem.Obj.mk (@PySem.Value.type "tuple") Option.none (@PySem.Data.seq (List.toArray [(@PySem.Value.str (@PySem.Str.ofString "name") (606 : Nat))]) (0 : Nat)) (List.toArray []))) ::
(nat_lit 339, (@PySem.Obj.mk (@PySem.Value.type "dict") Option.none (@PySem.Data.dict (List.toArray [(@PySem.DictEntry.mk (@PySem.PyData.keyHash P (@PySem.Str.ofString "__module__")) (@PySem.Value.str (@PySem.Str.ofString "__module__") (592 : Nat)) (@PySem.Value.str (@PySem.Str.ofString "quietprobes.errors") (187 : Nat))), (@PySem.DictEntry.mk (@PySem.PyData.keyHash P (@PySem.Str.ofString "__firstlineno__")) (@PySem.Value.str (@PySem.Str.ofString "__firstlineno__") (596 : Nat)) (@PySem.Value.int (74 : Int) (595 : Nat))), (@PySem.DictEntry.mk (@PySem.PyData.keyHash P (@PySem.Str.ofString "__init__")) (@PySem.Value.str (@PySem.Str.ofString "__init__") (605 : Nat)) (@PySem.Value.ref (337 : Nat))), (@PySem.DictEntry.mk (@PySem.PyData.keyHash P (@PySem.Str.ofString "__static_attributes__")) (@PySem.Value.str (@PySem.Str.ofString "__static_attributes__") (607 : Nat)) (@PySem.Value.ref (338 : Nat))), (@PySem.DictEntry.mk (@PySem.PyData.keyHash P (@PySem.Str.ofString "__doc__")) (@PySem.Value.str (@PySem.Str.ofString "__doc__") (609 : Nat)) PySem.Value.none)]) (3 : Nat)) (List.toArray []))) ::
(nat_lit 340, (@PySem.Obj.mk (@PySem.Value.type "type") Option.none (@PySem.Data.cls (@PySem.ClassData.mk (@PySem.Str.ofString "NoProbe") [(@PySem.Value.ref (24 : Nat))] [(@PySem.Value.ref (340 : Nat)), (@PySem.Value.ref (24 : Nat)), (@PySem.Value.type "ValueError"), (@PySem.Value.type "Exception"), (@PySem.Value.type "BaseException"), (@PySem.Value.type "object")] (339 : Nat) (@PySem.Str.ofString "NoProbe") Bool.true [] [] Bool.false Option.none Bool.false)) (List.toArray [(Option.some (@PySem.Value.ref (322 : Nat))), Option.none, (Option.some (@PySem.Value.str (@PySem.Str.ofString "NoProbe") (585 : Nat))), (Option.some (@PySem.Value.str (@PySem.Str.ofString "NoProbe") (593 : Nat))), (Option.some (@PySem.Value.builtin "ValueError.__new__")), (Option.some (@PySem.Value.bool Bool.true))]))) ::
(nat_lit 343, (@PySem.Obj.mk (@PySem.Value.type "tuple") Option.none (@PySem.Data.seq (List.toArray [(@PySem.Value.ref (24 : Nat))]) (0 : Nat)) (List.toArray []))) ::
(nat_lit 346, (@PySem.Obj.mk (@PySem.Value.type "cell") Option.none (@PySem.Data.cell (Option.some (@PySem.Value.ref (361 : Nat)))) (List.toArray []))) ::
(nat_lit 351, (@PySem.Obj.mk (@PySem.Value.type "tuple") Option.none (@PySem.Data.seq (List.toArray [(@PySem.Value.ref (346 : Nat))]) (0 : Nat)) (List.toArray []))) ::
(nat_lit 352, (@PySem.Obj.mk (@PySem.Value.type "tuple") Option.none (@PySem.Data.seq (List.toArray [(@PySem.Value.str (@PySem.Str.ofString "__class__") (627 : Nat))]) (0 : Nat)) (List.toArray []))) ::
(nat_lit 354, (@PySem.Obj.mk (@PySem.Value.type "tuple") Option.none (@PySem.Data.seq (List.toArray [(@PySem.Value.str (@PySem.Str.ofString "self") (628 : Nat)), (@PySem.Value.str (@PySem.Str.ofString "name") (629 : Nat))]) (0 : Nat)) (List.toArray []))) ::
(nat_lit 355, (@PySem.Obj.mk (@PySem.Value.type "tuple") Option.none (@PySem.Data.seq (List.toArray []) (0 : Nat)) (List.toArray []))) ::
(nat_lit 357, (@PySem.Obj.mk (@PySem.Value.type "code") Option.none (@PySem.Data.fields (List.toArray [(@PySem.Value.str (@PySem.Str.ofString "__init__") (624 : Nat)), (@PySem.Value.str (@PySem.Str.ofString "NotNested.__init__") (625 : Nat)), (@PySem.Value.str (@PySem.Str.ofString "/claim/cut.py") (626 : Nat)), (@PySem.Value.int (81 : Int) (0 : Nat)), (@PySem.Value.int (2 : Int) (0 : Nat)), (@PySem.Value.int (0 : Int) (0 : Nat)), (@PySem.Value.int (0 : Int) (0 : Nat)), (@PySem.Value.int (3 : Int) (0 : Nat)), (@PySem.Value.ref (352 : Nat)), (@PySem.Value.bool Bool.true), (@PySem.Value.int (181 : Int) (0 : Nat)), (@PySem.Value.ref (353 : Nat)), PySem.Value.none, (@PySem.Value.ref (354 : Nat)), (@PySem.Value.ref (355 : Nat)), (@PySem.Value.ref (356 : Nat)), (@PySem.Value.int (630 : Int) (0 : Nat)), (@PySem.Value.int (81 : Int) (0 : Nat)), (@PySem.Value.str (@PySem.Str.ofString "/claim/cut.py") (631 : Nat))])) (List.toArray []))) ::
(nat_lit 358, (@PySem.Obj.mk (@PySem.Value.type "function") Option.none (@PySem.Data.func (PySem.FuncData.mk (@PySem.Str.ofString "__init__") (@PySem.Str.ofString "NotNested.__init__") (defArgs s_NotNested___init__) (PySem.FuncBody.stmts (defBody s_NotNested___init__)) (defScope s_NotNested___init__) (3 : Nat) [((@PySem.Str.ofString "__class__"), (346 : Nat))] PySem.Value.none PySem.Value.none PySem.Value.none (@PySem.Value.str (@PySem.Str.ofString "quietprobes.errors") (187 : Nat)) Option.none (@PySem.Value.ref (357 : Nat)) (@PySem.Value.ref (351 : Nat)) (0 : Nat))) (List.toArray []))) ::
(nat_lit 359, (@PySem.Obj.mk (@PySem.Value.type "tuple") Option.none (@PySem.Data.seq (List.toArray [(@PySem.Value.str (@PySem.Str.ofString "name") (633 : Nat))]) (0 : Nat)) (List.toArray []))) ::
(nat_lit 360, (@PySem.Obj.mk (@PySem.Value.type "dict") Option.none (@PySem.Data.dict (List.toArray [(@PySem.DictEntry.mk (@PySem.PyData.keyHash P (@PySem.Str.ofString "__module__")) (@PySem.Value.str (@PySem.Str.ofString "__module__") (619 : Nat)) (@PySem.Value.str (@PySem.Str.ofString "quietprobes.errors") (187 : Nat))), (@PySem.DictEntry.mk (@PySem.PyData.keyHash P (@PySem.Str.ofString "__firstlineno__")) (@PySem.Value.str (@PySem.Str.ofString "__firstlineno__") (623 : Nat)) (@PySem.Value.int (79 : Int) (622 : Nat))), (@PySem.DictEntry.mk (@PySem.PyData.keyHash P (@PySem.Str.ofString "__init__")) (@PySem.Value.str (@PySem.Str.ofString "__init__") (632 : Nat)) (@PySem.Value.ref (358 : Nat))), (@PySem.DictEntry.mk (@PySem.PyData.keyHash P (@PySem.Str.ofString "__static_attributes__")) (@PySem.Value.str (@PySem.Str.ofString "__static_attributes__") (634 : Nat)) (@PySem.Value.ref (359 : Nat))), (@PySem.DictEntry.mk (@PySem.PyData.keyHash P (@PySem.Str.ofString "__doc__")) (@PySem.Value.str (@PySem.Str.ofString "__doc__") (636 : Nat)) PySem.Value.none)]) (3 : Nat)) (List.toArray []))) ::
(nat_lit 361, (@PySem.Obj.mk (@PySem.Value.type "type") Option.none (@PySem.Data.cls (@PySem.ClassData.mk (@PySem.Str.ofString "NotNested") [(@PySem.Value.ref (24 : Nat))] [(@PySem.Value.ref (361 : Nat)), (@PySem.Value.ref (24 : Nat)), (@PySem.Value.type "ValueError"), (@PySem.Value.type "Exception"), (@PySem.Value.type "BaseException"), (@PySem.Value.type "object")] (360 : Nat) (@PySem.Str.ofString "NotNested") Bool.true [] [] Bool.false Option.none Bool.false)) (List.toArray [(Option.some (@PySem.Value.ref (343 : Nat))), Option.none, (Option.some (@PySem.Value.str (@PySem.Str.ofString "NotNested") (612 : Nat))), (Option.some (@PySem.Value.str (@PySem.Str.ofString "NotNested") (620 : Nat))), (Option.some (@PySem.Value.builtin "ValueError.__new__")), (Option.some (@PySem.Value.bool Bool.true))]))) ::
(nat_lit 364, (@PySem.Obj.mk (@PySem.Value.type "tuple") Option.none (@PySem.Data.seq (List.toArray [(@PySem.Value.ref (24 : Nat))]) (0 : Nat)) (List.toArray []))) ::
(nat_lit 367, (@PySem.Obj.mk (@PySem.Value.type "cell") Option.none (@PySem.Data.cell (Option.some (@PySem.Value.ref (382 : Nat)))) (List.toArray []))) ::
(nat_lit 372, (@PySem.Obj.mk (@PySem.Value.type "tuple") Option.none (@PySem.Data.seq (List.toArray [(@PySem.Value.ref (367 : Nat))]) (0 : Nat)) (List.toArray []))) ::
(nat_lit 373, (@PySem.Obj.mk (@PySem.Value.type "tuple") Option.none (@PySem.Data.seq (List.toArray [(@PySem.Value.str (@PySem.Str.ofString "__class__") (654 : Nat))]) (0 : Nat)) (List.toArray []))) ::
(nat_lit 375, (@PySem.Obj.mk (@PySem.Value.type "tuple") Option.none (@PySem.Data.seq (List.toArray [(@PySem.Value.str (@PySem.Str.ofString "self") (655 : Nat)), (@PySem.Value.str (@PySem.Str.ofString "name") (656 : Nat))]) (0 : Nat)) (List.toArray []))) ::
(nat_lit 376, (@PySem.Obj.mk (@PySem.Value.type "tuple") Option.none (@PySem.Data.seq (List.toArray []) (0 : Nat)) (List.toArray []))) ::
(nat_lit 378, (@PySem.Obj.mk (@PySem.Value.type "code") Option.none (@PySem.Data.fields (List.toArray [(@PySem.Value.str (@PySem.Str.ofString "__init__") (651 : Nat)), (@PySem.Value.str (@PySem.Str.ofString "Twice.__init__") (652 : Nat)), (@PySem.Value.str (@PySem.Str.ofString "/claim/cut.py") (653 : Nat)), (@PySem.Value.int (86 : Int) (0 : Nat)), (@PySem.Value.int (2 : Int) (0 : Nat)), (@PySem.Value.int (0 : Int) (0 : Nat)), (@PySem.Value.int (0 : Int) (0 : Nat)), (@PySem.Value.int (3 : Int) (0 : Nat)), (@PySem.Value.ref (373 : Nat)), (@PySem.Value.bool Bool.true), (@PySem.Value.int (181 : Int) (0 : Nat)), (@PySem.Value.ref (374 : Nat)), PySem.Value.none, (@PySem.Value.ref (375 : Nat)), (@PySem.Value.ref (376 : Nat)), (@PySem.Value.ref (377 : Nat)), (@PySem.Value.int (657 : Int) (0 : Nat)), (@PySem.Value.int (86 : Int) (0 : Nat)), (@PySem.Value.str (@PySem.Str.ofString "/claim/cut.py") (658 : Nat))])) (List.toArray []))) ::
(nat_lit 379, (@PySem.Obj.mk (@PySem.Value.type "function") Option.none (@PySem.Data.func (PySem.FuncData.mk (@PySem.Str.ofString "__init__") (@PySem.Str.ofString "Twice.__init__") (defArgs s_Twice___init__) (PySem.FuncBody.stmts (defBody s_Twice___init__)) (defScope s_Twice___init__) (3 : Nat) [((@PySem.Str.ofString "__class__"), (367 : Nat))] PySem.Value.none PySem.Value.none PySem.Value.none (@PySem.Value.str (@PySem.Str.ofString "quietprobes.errors") (187 : Nat)) Option.none (@PySem.Value.ref (378 : Nat)) (@PySem.Value.ref (372 : Nat)) (0 : Nat))) (List.toArray []))) ::
(nat_lit 380, (@PySem.Obj.mk (@PySem.Value.type "tuple") Option.none (@PySem.Data.seq (List.toArray [(@PySem.Value.str (@PySem.Str.ofString "name") (660 : Nat))]) (0 : Nat)) (List.toArray []))) ::
(nat_lit 381, (@PySem.Obj.mk (@PySem.Value.type "dict") Option.none (@PySem.Data.dict (List.toArray [(@PySem.DictEntry.mk (@PySem.PyData.keyHash P (@PySem.Str.ofString "__module__")) (@PySem.Value.str (@PySem.Str.ofString "__module__") (646 : Nat)) (@PySem.Value.str (@PySem.Str.ofString "quietprobes.errors") (187 : Nat))), (@PySem.DictEntry.mk (@PySem.PyData.keyHash P (@PySem.Str.ofString "__firstlineno__")) (@PySem.Value.str (@PySem.Str.ofString "__firstlineno__") (650 : Nat)) (@PySem.Value.int (84 : Int) (649 : Nat))), (@PySem.DictEntry.mk (@PySem.PyData.keyHash P (@PySem.Str.ofString "__init__")) (@PySem.Value.str (@PySem.Str.ofString "__init__") (659 : Nat)) (@PySem.Value.ref (379 : Nat))), (@PySem.DictEntry.mk (@PySem.PyData.keyHash P (@PySem.Str.ofString "__static_attributes__")) (@PySem.Value.str (@PySem.Str.ofString "__static_attributes__") (661 : Nat)) (@PySem.Value.ref (380 : Nat))), (@PySem.DictEntry.mk (@PySem.PyData.keyHash P (@PySem.Str.ofString "__doc__")) (@PySem.Value.str (@PySem.Str.ofString "__doc__") (663 : Nat)) PySem.Value.none)]) (3 : Nat)) (List.toArray []))) ::
(nat_lit 382, (@PySem.Obj.mk (@PySem.Value.type "type") Option.none (@PySem.Data.cls (@PySem.ClassData.mk (@PySem.Str.ofString "Twice") [(@PySem.Value.ref (24 : Nat))] [(@PySem.Value.ref (382 : Nat)), (@PySem.Value.ref (24 : Nat)), (@PySem.Value.type "ValueError"), (@PySem.Value.type "Exception"), (@PySem.Value.type "BaseException"), (@PySem.Value.type "object")] (381 : Nat) (@PySem.Str.ofString "Twice") Bool.true [] [] Bool.false Option.none Bool.false)) (List.toArray [(Option.some (@PySem.Value.ref (364 : Nat))), Option.none, (Option.some (@PySem.Value.str (@PySem.Str.ofString "Twice") (639 : Nat))), (Option.some (@PySem.Value.str (@PySem.Str.ofString "Twice") (647 : Nat))), (Option.some (@PySem.Value.builtin "ValueError.__new__")), (Option.some (@PySem.Value.bool Bool.true))]))) ::
(nat_lit 385, (@PySem.Obj.mk (@PySem.Value.type "tuple") Option.none (@PySem.Data.seq (List.toArray [(@PySem.Value.ref (24 : Nat))]) (0 : Nat)) (List.toArray []))) ::
(nat_lit 388, (@PySem.Obj.mk (@PySem.Value.type "cell") Option.none (@PySem.Data.cell (Option.some (@PySem.Value.ref (403 : Nat)))) (List.toArray []))) ::
(nat_lit 393, (@PySem.Obj.mk (@PySem.Value.type "tuple") Option.none (@PySem.Data.seq (List.toArray [(@PySem.Value.ref (388 : Nat))]) (0 : Nat)) (List.toArray []))) ::
(nat_lit 394, (@PySem.Obj.mk (@PySem.Value.type "tuple") Option.none (@PySem.Data.seq (List.toArray [(@PySem.Value.str (@PySem.Str.ofString "__class__") (681 : Nat))]) (0 : Nat)) (List.toArray []))) ::
(nat_lit 396, (@PySem.Obj.mk (@PySem.Value.type "tuple") Option.none (@PySem.Data.seq (List.toArray [(@PySem.Value.str (@PySem.Str.ofString "self") (682 : Nat)), (@PySem.Value.str (@PySem.Str.ofString "number") (683 : Nat))]) (0 : Nat)) (List.toArray []))) ::
(nat_lit 397, (@PySem.Obj.mk (@PySem.Value.type "tuple") Option.none (@PySem.Data.seq (List.toArray []) (0 : Nat)) (List.toArray []))) ::
(nat_lit 399, (@PySem.Obj.mk (@PySem.Value.type "code") Option.none (@PySem.Data.fields (List.toArray [(@PySem.Value.str (@PySem.Str.ofString "__init__") (678 : Nat)), (@PySem.Value.str (@PySem.Str.ofString "Unmatched.__init__") (679 : Nat)), (@PySem.Value.str (@PySem.Str.ofString "/claim/cut.py") (680 : Nat)), (@PySem.Value.int (91 : Int) (0 : Nat)), (@PySem.Value.int (2 : Int) (0 : Nat)), (@PySem.Value.int (0 : Int) (0 : Nat)), (@PySem.Value.int (0 : Int) (0 : Nat)), (@PySem.Value.int (3 : Int) (0 : Nat)), (@PySem.Value.ref (394 : Nat)), (@PySem.Value.bool Bool.true), (@PySem.Value.int (181 : Int) (0 : Nat)), (@PySem.Value.ref (395 : Nat)), PySem.Value.none, (@PySem.Value.ref (396 : Nat)), (@PySem.Value.ref (397 : Nat)), (@PySem.Value.ref (398 : Nat)), (@PySem.Value.int (684 : Int) (0 : Nat)), (@PySem.Value.int (91 : Int) (0 : Nat)), (@PySem.Value.str (@PySem.Str.ofString "/claim/cut.py") (685 : Nat))])) (List.toArray []))) ::
(nat_lit 400, (@PySem.Obj.mk (@PySem.Value.type "function") Option.none (@PySem.Data.func (PySem.FuncData.mk (@PySem.Str.ofString "__init__") (@PySem.Str.ofString "Unmatched.__init__") (defArgs s_Unmatched___init__) (PySem.FuncBody.stmts (defBody s_Unmatched___init__)) (defScope s_Unmatched___init__) (3 : Nat) [((@PySem.Str.ofString "__class__"), (388 : Nat))] PySem.Value.none PySem.Value.none PySem.Value.none (@PySem.Value.str (@PySem.Str.ofString "quietprobes.errors") (187 : Nat)) Option.none (@PySem.Value.ref (399 : Nat)) (@PySem.Value.ref (393 : Nat)) (0 : Nat))) (List.toArray []))) ::
(nat_lit 401, (@PySem.Obj.mk (@PySem.Value.type "tuple") Option.none (@PySem.Data.seq (List.toArray [(@PySem.Value.str (@PySem.Str.ofString "number") (687 : Nat))]) (0 : Nat)) (List.toArray []))) ::
(nat_lit 402, (@PySem.Obj.mk (@PySem.Value.type "dict") Option.none (@PySem.Data.dict (List.toArray [(@PySem.DictEntry.mk (@PySem.PyData.keyHash P (@PySem.Str.ofString "__module__")) (@PySem.Value.str (@PySem.Str.ofString "__module__") (673 : Nat)) (@PySem.Value.str (@PySem.Str.ofString "quietprobes.errors") (187 : Nat))), (@PySem.DictEntry.mk (@PySem.PyData.keyHash P (@PySem.Str.ofString "__firstlineno__")) (@PySem.Value.str (@PySem.Str.ofString "__firstlineno__") (677 : Nat)) (@PySem.Value.int (89 : Int) (676 : Nat))), (@PySem.DictEntry.mk (@PySem.PyData.keyHash P (@PySem.Str.ofString "__init__")) (@PySem.Value.str (@PySem.Str.ofString "__init__") (686 : Nat)) (@PySem.Value.ref (400 : Nat))), (@PySem.DictEntry.mk (@PySem.PyData.keyHash P (@PySem.Str.ofString "__static_attributes__")) (@PySem.Value.str (@PySem.Str.ofString "__static_attributes__") (688 : Nat)) (@PySem.Value.ref (401 : Nat))), (@PySem.DictEntry.mk (@PySem.PyData.keyHash P (@PySem.Str.ofString "__doc__")) (@PySem.Value.str (@PySem.Str.ofString "__doc__") (690 : Nat)) PySem.Value.none)]) (3 : Nat)) (List.toArray []))) ::
(nat_lit 403, (@PySem.Obj.mk (@PySem.Value.type "type") Option.none (@PySem.Data.cls (@PySem.ClassData.mk (@PySem.Str.ofString "Unmatched") [(@PySem.Value.ref (24 : Nat))] [(@PySem.Value.ref (403 : Nat)), (@PySem.Value.ref (24 : Nat)), (@PySem.Value.type "ValueError"), (@PySem.Value.type "Exception"), (@PySem.Value.type "BaseException"), (@PySem.Value.type "object")] (402 : Nat) (@PySem.Str.ofString "Unmatched") Bool.true [] [] Bool.false Option.none Bool.false)) (List.toArray [(Option.some (@PySem.Value.ref (385 : Nat))), Option.none, (Option.some (@PySem.Value.str (@PySem.Str.ofString "Unmatched") (666 : Nat))), (Option.some (@PySem.Value.str (@PySem.Str.ofString "Unmatched") (674 : Nat))), (Option.some (@PySem.Value.builtin "ValueError.__new__")), (Option.some (@PySem.Value.bool Bool.true))]))) ::
(nat_lit 406, (@PySem.Obj.mk (@PySem.Value.type "tuple") Option.none (@PySem.Data.seq (List.toArray [(@PySem.Value.ref (24 : Nat))]) (0 : Nat)) (List.toArray []))) ::
(nat_lit 409, (@PySem.Obj.mk (@PySem.Value.type "cell") Option.none (@PySem.Data.cell (Option.some (@PySem.Value.ref (424 : Nat)))) (List.toArray []))) ::
(nat_lit 414, (@PySem.Obj.mk (@PySem.Value.type "tuple") Option.none (@PySem.Data.seq (List.toArray [(@PySem.Value.ref (409 : Nat))]) (0 : Nat)) (List.toArray []))) ::
(nat_lit 415, (@PySem.Obj.mk (@PySem.Value.type "tuple") Option.none (@PySem.Data.seq (List.toArray [(@PySem.Value.str (@PySem.Str.ofString "__class__") (708 : Nat))]) (0 : Nat)) (List.toArray []))) ::
(nat_lit 417, (@PySem.Obj.mk (@PySem.Value.type "tuple") Option.none (@PySem.Data.seq (List.toArray [(@PySem.Value.str (@PySem.Str.ofString "self") (709 : Nat)), (@PySem.Value.str (@PySem.Str.ofString "limit") (710 : Nat))]) (0 : Nat)) (List.toArray []))) ::
(nat_lit 418, (@PySem.Obj.mk (@PySem.Value.type "tuple") Option.none (@PySem.Data.seq (List.toArray []) (0 : Nat)) (List.toArray []))) ::
(nat_lit 420, (@PySem.Obj.mk (@PySem.Value.type "code") Option.none (@PySem.Data.fields (List.toArray [(@PySem.Value.str (@PySem.Str.ofString "__init__") (705 : Nat)), (@PySem.Value.str (@PySem.Str.ofString "TooMany.__init__") (706 : Nat)), (@PySem.Value.str (@PySem.Str.ofString "/claim/cut.py") (707 : Nat)), (@PySem.Value.int (96 : Int) (0 : Nat)), (@PySem.Value.int (2 : Int) (0 : Nat)), (@PySem.Value.int (0 : Int) (0 : Nat)), (@PySem.Value.int (0 : Int) (0 : Nat)), (@PySem.Value.int (3 : Int) (0 : Nat)), (@PySem.Value.ref (415 : Nat)), (@PySem.Value.bool Bool.true), (@PySem.Value.int (181 : Int) (0 : Nat)), (@PySem.Value.ref (416 : Nat)), PySem.Value.none, (@PySem.Value.ref (417 : Nat)), (@PySem.Value.ref (418 : Nat)), (@PySem.Value.ref (419 : Nat)), (@PySem.Value.int (711 : Int) (0 : Nat)), (@PySem.Value.int (96 : Int) (0 : Nat)), (@PySem.Value.str (@PySem.Str.ofString "/claim/cut.py") (712 : Nat))])) (List.toArray []))) ::
(nat_lit 421, (@PySem.Obj.mk (@PySem.Value.type "function") Option.none (@PySem.Data.func (PySem.FuncData.mk (@PySem.Str.ofString "__init__") (@PySem.Str.ofString "TooMany.__init__") (defArgs s_TooMany___init__) (PySem.FuncBody.stmts (defBody s_TooMany___init__)) (defScope s_TooMany___init__) (3 : Nat) [((@PySem.Str.ofString "__class__"), (409 : Nat))] PySem.Value.none PySem.Value.none PySem.Value.none (@PySem.Value.str (@PySem.Str.ofString "quietprobes.errors") (187 : Nat)) Option.none (@PySem.Value.ref (420 : Nat)) (@PySem.Value.ref (414 : Nat)) (0 : Nat))) (List.toArray []))) ::
(nat_lit 422, (@PySem.Obj.mk (@PySem.Value.type "tuple") Option.none (@PySem.Data.seq (List.toArray [(@PySem.Value.str (@PySem.Str.ofString "limit") (714 : Nat))]) (0 : Nat)) (List.toArray []))) ::
(nat_lit 423, (@PySem.Obj.mk (@PySem.Value.type "dict") Option.none (@PySem.Data.dict (List.toArray [(@PySem.DictEntry.mk (@PySem.PyData.keyHash P (@PySem.Str.ofString "__module__")) (@PySem.Value.str (@PySem.Str.ofString "__module__") (700 : Nat)) (@PySem.Value.str (@PySem.Str.ofString "quietprobes.errors") (187 : Nat))), (@PySem.DictEntry.mk (@PySem.PyData.keyHash P (@PySem.Str.ofString "__firstlineno__")) (@PySem.Value.str (@PySem.Str.ofString "__firstlineno__") (704 : Nat)) (@PySem.Value.int (94 : Int) (703 : Nat))), (@PySem.DictEntry.mk (@PySem.PyData.keyHash P (@PySem.Str.ofString "__init__")) (@PySem.Value.str (@PySem.Str.ofString "__init__") (713 : Nat)) (@PySem.Value.ref (421 : Nat))), (@PySem.DictEntry.mk (@PySem.PyData.keyHash P (@PySem.Str.ofString "__static_attributes__")) (@PySem.Value.str (@PySem.Str.ofString "__static_attributes__") (715 : Nat)) (@PySem.Value.ref (422 : Nat))), (@PySem.DictEntry.mk (@PySem.PyData.keyHash P (@PySem.Str.ofString "__doc__")) (@PySem.Value.str (@PySem.Str.ofString "__doc__") (717 : Nat)) PySem.Value.none)]) (3 : Nat)) (List.toArray []))) ::
(nat_lit 424, (@PySem.Obj.mk (@PySem.Value.type "type") Option.none (@PySem.Data.cls (@PySem.ClassData.mk (@PySem.Str.ofString "TooMany") [(@PySem.Value.ref (24 : Nat))] [(@PySem.Value.ref (424 : Nat)), (@PySem.Value.ref (24 : Nat)), (@PySem.Value.type "ValueError"), (@PySem.Value.type "Exception"), (@PySem.Value.type "BaseException"), (@PySem.Value.type "object")] (423 : Nat) (@PySem.Str.ofString "TooMany") Bool.true [] [] Bool.false Option.none Bool.false)) (List.toArray [(Option.some (@PySem.Value.ref (406 : Nat))), Option.none, (Option.some (@PySem.Value.str (@PySem.Str.ofString "TooMany") (693 : Nat))), (Option.some (@PySem.Value.str (@PySem.Str.ofString "TooMany") (701 : Nat))), (Option.some (@PySem.Value.builtin "ValueError.__new__")), (Option.some (@PySem.Value.bool Bool.true))]))) ::
(nat_lit 427, (@PySem.Obj.mk (@PySem.Value.type "tuple") Option.none (@PySem.Data.seq (List.toArray [(@PySem.Value.ref (24 : Nat))]) (0 : Nat)) (List.toArray []))) ::
(nat_lit 430, (@PySem.Obj.mk (@PySem.Value.type "cell") Option.none (@PySem.Data.cell (Option.some (@PySem.Value.ref (445 : Nat)))) (List.toArray []))) ::
(nat_lit 435, (@PySem.Obj.mk (@PySem.Value.type "tuple") Option.none (@PySem.Data.seq (List.toArray [(@PySem.Value.ref (430 : Nat))]) (0 : Nat)) (List.toArray []))) ::
(nat_lit 436, (@PySem.Obj.mk (@PySem.Value.type "tuple") Option.none (@PySem.Data.seq (List.toArray [(@PySem.Value.str (@PySem.Str.ofString "__class__") (735 : Nat))]) (0 : Nat)) (List.toArray []))) ::
(nat_lit 438, (@PySem.Obj.mk (@PySem.Value.type "tuple") Option.none (@PySem.Data.seq (List.toArray [(@PySem.Value.str (@PySem.Str.ofString "self") (736 : Nat))]) (0 : Nat)) (List.toArray []))) ::
(nat_lit 439, (@PySem.Obj.mk (@PySem.Value.type "tuple") Option.none (@PySem.Data.seq (List.toArray []) (0 : Nat)) (List.toArray []))) ::
(nat_lit 441, (@PySem.Obj.mk (@PySem.Value.type "code") Option.none (@PySem.Data.fields (List.toArray [(@PySem.Value.str (@PySem.Str.ofString "__init__") (732 : Nat)), (@PySem.Value.str (@PySem.Str.ofString "Watched.__init__") (733 : Nat)), (@PySem.Value.str (@PySem.Str.ofString "/claim/cut.py") (734 : Nat)), (@PySem.Value.int (101 : Int) (0 : Nat)), (@PySem.Value.int (1 : Int) (0 : Nat)), (@PySem.Value.int (0 : Int) (0 : Nat)), (@PySem.Value.int (0 : Int) (0 : Nat)), (@PySem.Value.int (3 : Int) (0 : Nat)), (@PySem.Value.ref (436 : Nat)), (@PySem.Value.bool Bool.true), (@PySem.Value.int (181 : Int) (0 : Nat)), (@PySem.Value.ref (437 : Nat)), PySem.Value.none, (@PySem.Value.ref (438 : Nat)), (@PySem.Value.ref (439 : Nat)), (@PySem.Value.ref (440 : Nat)), (@PySem.Value.int (737 : Int) (0 : Nat)), (@PySem.Value.int (101 : Int) (0 : Nat)), (@PySem.Value.str (@PySem.Str.ofString "/claim/cut.py") (738 : Nat))])) (List.toArray []))) ::
(nat_lit 442, (@PySem.Obj.mk (@PySem.Value.type "function") Option.none (@PySem.Data.func (PySem.FuncData.mk (@PySem.Str.ofString "__init__") (@PySem.Str.ofString "Watched.__init__") (defArgs s_Watched___init__) (PySem.FuncBody.stmts (defBody s_Watched___init__)) (defScope s_Watched___init__) (3 : Nat) [((@PySem.Str.ofString "__class__"), (430 : Nat))] PySem.Value.none PySem.Value.none PySem.Value.none (@PySem.Value.str (@PySem.Str.ofString "quietprobes.errors") (187 : Nat)) Option.none (@PySem.Value.ref (441 : Nat)) (@PySem.Value.ref (435 : Nat)) (0 : Nat))) (List.toArray []))) ::
(nat_lit 443, (@PySem.Obj.mk (@PySem.Value.type "tuple") Option.none (@PySem.Data.seq (List.toArray []) (0 : Nat)) (List.toArray []))) ::
(nat_lit 444, (@PySem.Obj.mk (@PySem.Value.type "dict") Option.none (@PySem.Data.dict (List.toArray [(@PySem.DictEntry.mk (@PySem.PyData.keyHash P (@PySem.Str.ofString "__module__")) (@PySem.Value.str (@PySem.Str.ofString "__module__") (727 : Nat)) (@PySem.Value.str (@PySem.Str.ofString "quietprobes.errors") (187 : Nat))), (@PySem.DictEntry.mk (@PySem.PyData.keyHash P (@PySem.Str.ofString "__firstlineno__")) (@PySem.Value.str (@PySem.Str.ofString "__firstlineno__") (731 : Nat)) (@PySem.Value.int (99 : Int) (730 : Nat))), (@PySem.DictEntry.mk (@PySem.PyData.keyHash P (@PySem.Str.ofString "__init__")) (@PySem.Value.str (@PySem.Str.ofString "__init__") (739 : Nat)) (@PySem.Value.ref (442 : Nat))), (@PySem.DictEntry.mk (@PySem.PyData.keyHash P (@PySem.Str.ofString "__static_attributes__")) (@PySem.Value.str (@PySem.Str.ofString "__static_attributes__") (740 : Nat)) (@PySem.Value.ref (443 : Nat))), (@PySem.DictEntry.mk (@PySem.PyData.keyHash P (@PySem.Str.ofString "__doc__")) (@PySem.Value.str (@PySem.Str.ofString "__doc__") (742 : Nat)) PySem.Value.none)]) (3 : Nat)) (List.toArray []))) ::
(nat_lit 445, (@PySem.Obj.mk (@PySem.Value.type "type") Option.none (@PySem.Data.cls (@PySem.ClassData.mk (@PySem.Str.ofString "Watched") [(@PySem.Value.ref (24 : Nat))] [(@PySem.Value.ref (445 : Nat)), (@PySem.Value.ref (24 : Nat)), (@PySem.Value.type "ValueError"), (@PySem.Value.type "Exception"), (@PySem.Value.type "BaseException"), (@PySem.Value.type "object")] (444 : Nat) (@PySem.Str.ofString "Watched") Bool.true [] [] Bool.false Option.none Bool.false)) (List.toArray [(Option.some (@PySem.Value.ref (427 : Nat))), Option.none, (Option.some (@PySem.Value.str (@PySem.Str.ofString "Watched") (720 : Nat))), (Option.some (@PySem.Value.str (@PySem.Str.ofString "Watched") (728 : Nat))), (Option.some (@PySem.Value.builtin "ValueError.__new__")), (Option.some (@PySem.Value.bool Bool.true))]))) ::
(nat_lit 448, (@PySem.Obj.mk (@PySem.Value.type "tuple") Option.none (@PySem.Data.seq (List.toArray [(@PySem.Value.ref (24 : Nat))]) (0 : Nat)) (List.toArray []))) ::
(nat_lit 451, (@PySem.Obj.mk (@PySem.Value.type "cell") Option.none (@PySem.Data.cell (Option.some (@PySem.Value.ref (466 : Nat)))) (List.toArray []))) ::
(nat_lit 456, (@PySem.Obj.mk (@PySem.Value.type "tuple") Option.none (@PySem.Data.seq (List.toArray [(@PySem.Value.ref (451 : Nat))]) (0 : Nat)) (List.toArray []))) ::
(nat_lit 457, (@PySem.Obj.mk (@PySem.Value.type "tuple") Option.none (@PySem.Data.seq (List.toArray [(@PySem.Value.str (@PySem.Str.ofString "__class__") (760 : Nat))]) (0 : Nat)) (List.toArray []))) ::
(nat_lit 459, (@PySem.Obj.mk (@PySem.Value.type "tuple") Option.none (@PySem.Data.seq (List.toArray [(@PySem.Value.str (@PySem.Str.ofString "self") (761 : Nat))]) (0 : Nat)) (List.toArray []))) ::
(nat_lit 460, (@PySem.Obj.mk (@PySem.Value.type "tuple") Option.none (@PySem.Data.seq (List.toArray []) (0 : Nat)) (List.toArray []))) ::
(nat_lit 462, (@PySem.Obj.mk (@PySem.Value.type "code") Option.none (@PySem.Data.fields (List.toArray [(@PySem.Value.str (@PySem.Str.ofString "__init__") (757 : Nat)), (@PySem.Value.str (@PySem.Str.ofString "Over.__init__") (758 : Nat)), (@PySem.Value.str (@PySem.Str.ofString "/claim/cut.py") (759 : Nat)), (@PySem.Value.int (105 : Int) (0 : Nat)), (@PySem.Value.int (1 : Int) (0 : Nat)), (@PySem.Value.int (0 : Int) (0 : Nat)), (@PySem.Value.int (0 : Int) (0 : Nat)), (@PySem.Value.int (3 : Int) (0 : Nat)), (@PySem.Value.ref (457 : Nat)), (@PySem.Value.bool Bool.true), (@PySem.Value.int (181 : Int) (0 : Nat)), (@PySem.Value.ref (458 : Nat)), PySem.Value.none, (@PySem.Value.ref (459 : Nat)), (@PySem.Value.ref (460 : Nat)), (@PySem.Value.ref (461 : Nat)), (@PySem.Value.int (762 : Int) (0 : Nat)), (@PySem.Value.int (105 : Int) (0 : Nat)), (@PySem.Value.str (@PySem.Str.ofString "/claim/cut.py") (763 : Nat))])) (List.toArray []))) ::
(nat_lit 463, (@PySem.Obj.mk (@PySem.Value.type "function") Option.none (@PySem.Data.func (PySem.FuncData.mk (@PySem.Str.ofString "__init__") (@PySem.Str.ofString "Over.__init__") (defArgs s_Over___init__) (PySem.FuncBody.stmts (defBody s_Over___init__)) (defScope s_Over___init__) (3 : Nat) [((@PySem.Str.ofString "__class__"), (451 : Nat))] PySem.Value.none PySem.Value.none PySem.Value.none (@PySem.Value.str (@PySem.Str.ofString "quietprobes.errors") (187 : Nat)) Option.none (@PySem.Value.ref (462 : Nat)) (@PySem.Value.ref (456 : Nat)) (0 : Nat))) (List.toArray []))) ::
(nat_lit 464, (@PySem.Obj.mk (@PySem.Value.type "tuple") Option.none (@PySem.Data.seq (List.toArray []) (0 : Nat)) (List.toArray []))) ::
(nat_lit 465, (@PySem.Obj.mk (@PySem.Value.type "dict") Option.none (@PySem.Data.dict (List.toArray [(@PySem.DictEntry.mk (@PySem.PyData.keyHash P (@PySem.Str.ofString "__module__")) (@PySem.Value.str (@PySem.Str.ofString "__module__") (752 : Nat)) (@PySem.Value.str (@PySem.Str.ofString "quietprobes.errors") (187 : Nat))), (@PySem.DictEntry.mk (@PySem.PyData.keyHash P (@PySem.Str.ofString "__firstlineno__")) (@PySem.Value.str (@PySem.Str.ofString "__firstlineno__") (756 : Nat)) (@PySem.Value.int (103 : Int) (755 : Nat))), (@PySem.DictEntry.mk (@PySem.PyData.keyHash P (@PySem.Str.ofString "__init__")) (@PySem.Value.str (@PySem.Str.ofString "__init__") (764 : Nat)) (@PySem.Value.ref (463 : Nat))), (@PySem.DictEntry.mk (@PySem.PyData.keyHash P (@PySem.Str.ofString "__static_attributes__")) (@PySem.Value.str (@PySem.Str.ofString "__static_attributes__") (765 : Nat)) (@PySem.Value.ref (464 : Nat))), (@PySem.DictEntry.mk (@PySem.PyData.keyHash P (@PySem.Str.ofString "__doc__")) (@PySem.Value.str (@PySem.Str.ofString "__doc__") (767 : Nat)) PySem.Value.none)]) (3 : Nat)) (List.toArray []))) ::
(nat_lit 466, (@PySem.Obj.mk (@PySem.Value.type "type") Option.none (@PySem.Data.cls (@PySem.ClassData.mk (@PySem.Str.ofString "Over") [(@PySem.Value.ref (24 : Nat))] [(@PySem.Value.ref (466 : Nat)), (@PySem.Value.ref (24 : Nat)), (@PySem.Value.type "ValueError"), (@PySem.Value.type "Exception"), (@PySem.Value.type "BaseException"), (@PySem.Value.type "object")] (465 : Nat) (@PySem.Str.ofString "Over") Bool.true [] [] Bool.false Option.none Bool.false)) (List.toArray [(Option.some (@PySem.Value.ref (448 : Nat))), Option.none, (Option.some (@PySem.Value.str (@PySem.Str.ofString "Over") (745 : Nat))), (Option.some (@PySem.Value.str (@PySem.Str.ofString "Over") (753 : Nat))), (Option.some (@PySem.Value.builtin "ValueError.__new__")), (Option.some (@PySem.Value.bool Bool.true))]))) ::
(nat_lit 469, (@PySem.Obj.mk (@PySem.Value.type "tuple") Option.none (@PySem.Data.seq (List.toArray []) (0 : Nat)) (List.toArray []))) ::
(nat_lit 471, (@PySem.Obj.mk (@PySem.Value.type "tuple") Option.none (@PySem.Data.seq (List.toArray [(@PySem.Value.str (@PySem.Str.ofString "_law_script") (775 : Nat))]) (0 : Nat)) (List.toArray []))) ::
(nat_lit 472, (@PySem.Obj.mk (@PySem.Value.type "tuple") Option.none (@PySem.Data.seq (List.toArray []) (0 : Nat)) (List.toArray []))) ::
(nat_lit 474, (@PySem.Obj.mk (@PySem.Value.type "code") Option.none (@PySem.Data.fields (List.toArray [(@PySem.Value.str (@PySem.Str.ofString "_law_pool") (772 : Nat)), (@PySem.Value.str (@PySem.Str.ofString "_law_pool") (773 : Nat)), (@PySem.Value.str (@PySem.Str.ofString "/claim/cut.py") (774 : Nat)), (@PySem.Value.int (108 : Int) (0 : Nat)), (@PySem.Value.int (1 : Int) (0 : Nat)), (@PySem.Value.int (0 : Int) (0 : Nat)), (@PySem.Value.int (0 : Int) (0 : Nat)), (@PySem.Value.int (3 : Int) (0 : Nat)), (@PySem.Value.ref (469 : Nat)), (@PySem.Value.bool Bool.true), (@PySem.Value.int (181 : Int) (0 : Nat)), (@PySem.Value.ref (470 : Nat)), PySem.Value.none, (@PySem.Value.ref (471 : Nat)), (@PySem.Value.ref (472 : Nat)), (@PySem.Value.ref (473 : Nat)), (@PySem.Value.int (776 : Int) (0 : Nat)), (@PySem.Value.int (108 : Int) (0 : Nat)), (@PySem.Value.str (@PySem.Str.ofString "/claim/cut.py") (777 : Nat))])) (List.toArray []))) ::
(nat_lit 475, (@PySem.Obj.mk (@PySem.Value.type "function") Option.none (@PySem.Data.func (PySem.FuncData.mk (@PySem.Str.ofString "_law_pool") (@PySem.Str.ofString "_law_pool") (defArgs s__law_pool) (PySem.FuncBody.stmts (defBody s__law_pool)) (defScope s__law_pool) (3 : Nat) [] PySem.Value.none PySem.Value.none PySem.Value.none (@PySem.Value.str (@PySem.Str.ofString "law_quietprobes_k05_errors_and_their_attribu") (770 : Nat)) Option.none (@PySem.Value.ref (474 : Nat)) PySem.Value.none (0 : Nat))) (List.toArray []))) ::
(nat_lit 476, (@PySem.Obj.mk (@PySem.Value.type "tuple") Option.none (@PySem.Data.seq (List.toArray []) (0 : Nat)) (List.toArray []))) ::
(nat_lit 478, (@PySem.Obj.mk (@PySem.Value.type "tuple") Option.none (@PySem.Data.seq (List.toArray [(@PySem.Value.str (@PySem.Str.ofString "_law_pool_here") (782 : Nat)), (@PySem.Value.str (@PySem.Str.ofString "_law_many") (783 : Nat)), (@PySem.Value.str (@PySem.Str.ofString "_law_cell") (784 : Nat)), (@PySem.Value.str (@PySem.Str.ofString "_law_code") (785 : Nat)), (@PySem.Value.str (@PySem.Str.ofString "_law_digit") (786 : Nat)), (@PySem.Value.str (@PySem.Str.ofString "_law_far") (787 : Nat)), (@PySem.Value.str (@PySem.Str.ofString "_law_mixed") (788 : Nat))]) (0 : Nat)) (List.toArray []))) ::
(nat_lit 479, (@PySem.Obj.mk (@PySem.Value.type "tuple") Option.none (@PySem.Data.seq (List.toArray []) (0 : Nat)) (List.toArray []))) ::
(nat_lit 481, (@PySem.Obj.mk (@PySem.Value.type "code") Option.none (@PySem.Data.fields (List.toArray [(@PySem.Value.str (@PySem.Str.ofString "_law_draw") (779 : Nat)), (@PySem.Value.str (@PySem.Str.ofString "_law_draw") (780 : Nat)), (@PySem.Value.str (@PySem.Str.ofString "/claim/cut.py") (781 : Nat)), (@PySem.Value.int (110 : Int) (0 : Nat)), (@PySem.Value.int (2 : Int) (0 : Nat)), (@PySem.Value.int (0 : Int) (0 : Nat)), (@PySem.Value.int (0 : Int) (0 : Nat)), (@PySem.Value.int (3 : Int) (0 : Nat)), (@PySem.Value.ref (476 : Nat)), (@PySem.Value.bool Bool.true), (@PySem.Value.int (181 : Int) (0 : Nat)), (@PySem.Value.ref (477 : Nat)), PySem.Value.none, (@PySem.Value.ref (478 : Nat)), (@PySem.Value.ref (479 : Nat)), (@PySem.Value.ref (480 : Nat)), (@PySem.Value.int (789 : Int) (0 : Nat)), (@PySem.Value.int (110 : Int) (0 : Nat)), (@PySem.Value.str (@PySem.Str.ofString "/claim/cut.py") (790 : Nat))])) (List.toArray []))) ::
(nat_lit 482, (@PySem.Obj.mk (@PySem.Value.type "function") Option.none (@PySem.Data.func (PySem.FuncData.mk (@PySem.Str.ofString "_law_draw") (@PySem.Str.ofString "_law_draw") (defArgs s__law_draw) (PySem.FuncBody.stmts (defBody s__law_draw)) (defScope s__law_draw) (3 : Nat) [] PySem.Value.none PySem.Value.none PySem.Value.none (@PySem.Value.str (@PySem.Str.ofString "law_quietprobes_k05_errors_and_their_attribu") (770 : Nat)) Option.none (@PySem.Value.ref (481 : Nat)) PySem.Value.none (0 : Nat))) (List.toArray []))) ::
(nat_lit 483, (@PySem.Obj.mk (@PySem.Value.type "tuple") Option.none (@PySem.Data.seq (List.toArray []) (0 : Nat)) (List.toArray []))) ::
(nat_lit 486, (@PySem.Obj.mk (@PySem.Value.type "code") Option.none (@PySem.Data.fields (List.toArray [(@PySem.Value.str (@PySem.Str.ofString "_law_word") (792 : Nat)), (@PySem.Value.str (@PySem.Str.ofString "_law_word") (793 : Nat)), (@PySem.Value.str (@PySem.Str.ofString "/claim/cut.py") (794 : Nat)), (@PySem.Value.int (128 : Int) (0 : Nat)), (@PySem.Value.int (1 : Int) (0 : Nat)), (@PySem.Value.int (0 : Int) (0 : Nat)), (@PySem.Value.int (0 : Int) (0 : Nat)), (@PySem.Value.int (3 : Int) (0 : Nat)), (@PySem.Value.ref (483 : Nat)), (@PySem.Value.bool Bool.true), (@PySem.Value.int (181 : Int) (0 : Nat)), (@PySem.Value.ref (484 : Nat)), PySem.Value.none, PySem.Value.none, PySem.Value.none, (@PySem.Value.ref (485 : Nat)), (@PySem.Value.int (795 : Int) (0 : Nat)), (@PySem.Value.int (128 : Int) (0 : Nat)), (@PySem.Value.str (@PySem.Str.ofString "/claim/cut.py") (796 : Nat))])) (List.toArray []))) ::
(nat_lit 487, (@PySem.Obj.mk (@PySem.Value.type "function") Option.none (@PySem.Data.func (PySem.FuncData.mk (@PySem.Str.ofString "_law_word") (@PySem.Str.ofString "_law_word") (defArgs s__law_word) (PySem.FuncBody.stmts (defBody s__law_word)) (defScope s__law_word) (3 : Nat) [] PySem.Value.none PySem.Value.none PySem.Value.none (@PySem.Value.str (@PySem.Str.ofString "law_quietprobes_k05_errors_and_their_attribu") (770 : Nat)) Option.none (@PySem.Value.ref (486 : Nat)) PySem.Value.none (0 : Nat))) (List.toArray []))) ::
(nat_lit 488, (@PySem.Obj.mk (@PySem.Value.type "tuple") Option.none (@PySem.Data.seq (List.toArray []) (0 : Nat)) (List.toArray []))) ::
(nat_lit 491, (@PySem.Obj.mk (@PySem.Value.type "code") Option.none (@PySem.Data.fields (List.toArray [(@PySem.Value.str (@PySem.Str.ofString "_law_object") (798 : Nat)), (@PySem.Value.str (@PySem.Str.ofString "_law_object") (799 : Nat)), (@PySem.Value.str (@PySem.Str.ofString "/claim/cut.py") (800 : Nat)), (@PySem.Value.int (131 : Int) (0 : Nat)), (@PySem.Value.int (2 : Int) (0 : Nat)), (@PySem.Value.int (0 : Int) (0 : Nat)), (@PySem.Value.int (0 : Int) (0 : Nat)), (@PySem.Value.int (3 : Int) (0 : Nat)), (@PySem.Value.ref (488 : Nat)), (@PySem.Value.bool Bool.true), (@PySem.Value.int (181 : Int) (0 : Nat)), (@PySem.Value.ref (489 : Nat)), PySem.Value.none, PySem.Value.none, PySem.Value.none, (@PySem.Value.ref (490 : Nat)), (@PySem.Value.int (801 : Int) (0 : Nat)), (@PySem.Value.int (131 : Int) (0 : Nat)), (@PySem.Value.str (@PySem.Str.ofString "/claim/cut.py") (802 : Nat))])) (List.toArray []))) ::
(nat_lit 492, (@PySem.Obj.mk (@PySem.Value.type "function") Option.none (@PySem.Data.func (PySem.FuncData.mk (@PySem.Str.ofString "_law_object") (@PySem.Str.ofString "_law_object") (defArgs s__law_object) (PySem.FuncBody.stmts (defBody s__law_object)) (defScope s__law_object) (3 : Nat) [] PySem.Value.none PySem.Value.none PySem.Value.none (@PySem.Value.str (@PySem.Str.ofString "law_quietprobes_k05_errors_and_their_attribu") (770 : Nat)) Option.none (@PySem.Value.ref (491 : Nat)) PySem.Value.none (0 : Nat))) (List.toArray []))) ::
(nat_lit 493, (@PySem.Obj.mk (@PySem.Value.type "tuple") Option.none (@PySem.Data.seq (List.toArray []) (0 : Nat)) (List.toArray []))) ::
(nat_lit 495, (@PySem.Obj.mk (@PySem.Value.type "tuple") Option.none (@PySem.Data.seq (List.toArray [(@PySem.Value.str (@PySem.Str.ofString "_law_actual") (807 : Nat)), (@PySem.Value.str (@PySem.Str.ofString "_law_due") (808 : Nat)), (@PySem.Value.str (@PySem.Str.ofString "_law_k") (809 : Nat))]) (0 : Nat)) (List.toArray []))) ::
(nat_lit 496, (@PySem.Obj.mk (@PySem.Value.type "tuple") Option.none (@PySem.Data.seq (List.toArray []) (0 : Nat)) (List.toArray []))) ::
(nat_lit 498, (@PySem.Obj.mk (@PySem.Value.type "code") Option.none (@PySem.Data.fields (List.toArray [(@PySem.Value.str (@PySem.Str.ofString "_law_same") (804 : Nat)), (@PySem.Value.str (@PySem.Str.ofString "_law_same") (805 : Nat)), (@PySem.Value.str (@PySem.Str.ofString "/claim/cut.py") (806 : Nat)), (@PySem.Value.int (150 : Int) (0 : Nat)), (@PySem.Value.int (2 : Int) (0 : Nat)), (@PySem.Value.int (0 : Int) (0 : Nat)), (@PySem.Value.int (0 : Int) (0 : Nat)), (@PySem.Value.int (3 : Int) (0 : Nat)), (@PySem.Value.ref (493 : Nat)), (@PySem.Value.bool Bool.true), (@PySem.Value.int (181 : Int) (0 : Nat)), (@PySem.Value.ref (494 : Nat)), PySem.Value.none, (@PySem.Value.ref (495 : Nat)), (@PySem.Value.ref (496 : Nat)), (@PySem.Value.ref (497 : Nat)), (@PySem.Value.int (810 : Int) (0 : Nat)), (@PySem.Value.int (150 : Int) (0 : Nat)), (@PySem.Value.str (@PySem.Str.ofString "/claim/cut.py") (811 : Nat))])) (List.toArray []))) ::
(nat_lit 499, (@PySem.Obj.mk (@PySem.Value.type "function") Option.none (@PySem.Data.func (PySem.FuncData.mk (@PySem.Str.ofString "_law_same") (@PySem.Str.ofString "_law_same") (defArgs s__law_same) (PySem.FuncBody.stmts (defBody s__law_same)) (defScope s__law_same) (3 : Nat) [] PySem.Value.none PySem.Value.none PySem.Value.none (@PySem.Value.str (@PySem.Str.ofString "law_quietprobes_k05_errors_and_their_attribu") (770 : Nat)) Option.none (@PySem.Value.ref (498 : Nat)) PySem.Value.none (0 : Nat))) (List.toArray []))) ::
(nat_lit 500, (@PySem.Obj.mk (@PySem.Value.type "tuple") Option.none (@PySem.Data.seq (List.toArray []) (0 : Nat)) (List.toArray []))) ::
(nat_lit 502, (@PySem.Obj.mk (@PySem.Value.type "tuple") Option.none (@PySem.Data.seq (List.toArray [(@PySem.Value.str (@PySem.Str.ofString "_law_error") (816 : Nat))]) (0 : Nat)) (List.toArray []))) ::
(nat_lit 503, (@PySem.Obj.mk (@PySem.Value.type "tuple") Option.none (@PySem.Data.seq (List.toArray []) (0 : Nat)) (List.toArray []))) ::
(nat_lit 505, (@PySem.Obj.mk (@PySem.Value.type "code") Option.none (@PySem.Data.fields (List.toArray [(@PySem.Value.str (@PySem.Str.ofString "_law_classes") (813 : Nat)), (@PySem.Value.str (@PySem.Str.ofString "_law_classes") (814 : Nat)), (@PySem.Value.str (@PySem.Str.ofString "/claim/cut.py") (815 : Nat)), (@PySem.Value.int (169 : Int) (0 : Nat)), (@PySem.Value.int (1 : Int) (0 : Nat)), (@PySem.Value.int (0 : Int) (0 : Nat)), (@PySem.Value.int (0 : Int) (0 : Nat)), (@PySem.Value.int (3 : Int) (0 : Nat)), (@PySem.Value.ref (500 : Nat)), (@PySem.Value.bool Bool.true), (@PySem.Value.int (181 : Int) (0 : Nat)), (@PySem.Value.ref (501 : Nat)), PySem.Value.none, (@PySem.Value.ref (502 : Nat)), (@PySem.Value.ref (503 : Nat)), (@PySem.Value.ref (504 : Nat)), (@PySem.Value.int (817 : Int) (0 : Nat)), (@PySem.Value.int (169 : Int) (0 : Nat)), (@PySem.Value.str (@PySem.Str.ofString "/claim/cut.py") (818 : Nat))])) (List.toArray []))) ::
(nat_lit 506, (@PySem.Obj.mk (@PySem.Value.type "function") Option.none (@PySem.Data.func (PySem.FuncData.mk (@PySem.Str.ofString "_law_classes") (@PySem.Str.ofString "_law_classes") (defArgs s__law_classes) (PySem.FuncBody.stmts (defBody s__law_classes)) (defScope s__law_classes) (3 : Nat) [] PySem.Value.none PySem.Value.none PySem.Value.none (@PySem.Value.str (@PySem.Str.ofString "law_quietprobes_k05_errors_and_their_attribu") (770 : Nat)) Option.none (@PySem.Value.ref (505 : Nat)) PySem.Value.none (0 : Nat))) (List.toArray []))) ::
(nat_lit 507, (@PySem.Obj.mk (@PySem.Value.type "tuple") Option.none (@PySem.Data.seq (List.toArray []) (0 : Nat)) (List.toArray []))) ::
(nat_lit 509, (@PySem.Obj.mk (@PySem.Value.type "tuple") Option.none (@PySem.Data.seq (List.toArray [(@PySem.Value.str (@PySem.Str.ofString "_law_errors") (823 : Nat))]) (0 : Nat)) (List.toArray []))) ::
(nat_lit 510, (@PySem.Obj.mk (@PySem.Value.type "tuple") Option.none (@PySem.Data.seq (List.toArray []) (0 : Nat)) (List.toArray []))) ::
(nat_lit 512, (@PySem.Obj.mk (@PySem.Value.type "code") Option.none (@PySem.Data.fields (List.toArray [(@PySem.Value.str (@PySem.Str.ofString "_law_attributes") (820 : Nat)), (@PySem.Value.str (@PySem.Str.ofString "_law_attributes") (821 : Nat)), (@PySem.Value.str (@PySem.Str.ofString "/claim/cut.py") (822 : Nat)), (@PySem.Value.int (171 : Int) (0 : Nat)), (@PySem.Value.int (1 : Int) (0 : Nat)), (@PySem.Value.int (0 : Int) (0 : Nat)), (@PySem.Value.int (0 : Int) (0 : Nat)), (@PySem.Value.int (3 : Int) (0 : Nat)), (@PySem.Value.ref (507 : Nat)), (@PySem.Value.bool Bool.true), (@PySem.Value.int (181 : Int) (0 : Nat)), (@PySem.Value.ref (508 : Nat)), PySem.Value.none, (@PySem.Value.ref (509 : Nat)), (@PySem.Value.ref (510 : Nat)), (@PySem.Value.ref (511 : Nat)), (@PySem.Value.int (824 : Int) (0 : Nat)), (@PySem.Value.int (171 : Int) (0 : Nat)), (@PySem.Value.str (@PySem.Str.ofString "/claim/cut.py") (825 : Nat))])) (List.toArray []))) ::
(nat_lit 513, (@PySem.Obj.mk (@PySem.Value.type "function") Option.none (@PySem.Data.func (PySem.FuncData.mk (@PySem.Str.ofString "_law_attributes") (@PySem.Str.ofString "_law_attributes") (defArgs s__law_attributes) (PySem.FuncBody.stmts (defBody s__law_attributes)) (defScope s__law_attributes) (3 : Nat) [] PySem.Value.none PySem.Value.none PySem.Value.none (@PySem.Value.str (@PySem.Str.ofString "law_quietprobes_k05_errors_and_their_attribu") (770 : Nat)) Option.none (@PySem.Value.ref (512 : Nat)) PySem.Value.none (0 : Nat))) (List.toArray []))) ::
(nat_lit 514, (@PySem.Obj.mk (@PySem.Value.type "tuple") Option.none (@PySem.Data.seq (List.toArray []) (0 : Nat)) (List.toArray []))) ::
(nat_lit 517, (@PySem.Obj.mk (@PySem.Value.type "code") Option.none (@PySem.Data.fields (List.toArray [(@PySem.Value.str (@PySem.Str.ofString "law") (827 : Nat)), (@PySem.Value.str (@PySem.Str.ofString "law") (828 : Nat)), (@PySem.Value.str (@PySem.Str.ofString "/claim/cut.py") (829 : Nat)), (@PySem.Value.int (173 : Int) (0 : Nat)), (@PySem.Value.int (1 : Int) (0 : Nat)), (@PySem.Value.int (0 : Int) (0 : Nat)), (@PySem.Value.int (0 : Int) (0 : Nat)), (@PySem.Value.int (3 : Int) (0 : Nat)), (@PySem.Value.ref (514 : Nat)), (@PySem.Value.bool Bool.true), (@PySem.Value.int (181 : Int) (0 : Nat)), (@PySem.Value.ref (515 : Nat)), PySem.Value.none, PySem.Value.none, PySem.Value.none, (@PySem.Value.ref (516 : Nat)), (@PySem.Value.int (830 : Int) (0 : Nat)), (@PySem.Value.int (173 : Int) (0 : Nat)), (@PySem.Value.str (@PySem.Str.ofString "/claim/cut.py") (831 : Nat))])) (List.toArray []))) ::
(nat_lit 518, (@PySem.Obj.mk (@PySem.Value.type "function") Option.none (@PySem.Data.func (PySem.FuncData.mk (@PySem.Str.ofString "law") (@PySem.Str.ofString "law") (defArgs s_law) (PySem.FuncBody.stmts (defBody s_law)) (defScope s_law) (3 : Nat) [] PySem.Value.none PySem.Value.none PySem.Value.none (@PySem.Value.str (@PySem.Str.ofString "law_quietprobes_k05_errors_and_their_attribu") (770 : Nat)) Option.none (@PySem.Value.ref (517 : Nat)) PySem.Value.none (0 : Nat))) (List.toArray []))) :: []
def KA : List Nat := nat_lit 2 :: nat_lit 3 :: nat_lit 15 :: nat_lit 22 :: nat_lit 23 :: nat_lit 24 :: nat_lit 25 :: nat_lit 28 :: nat_lit 31 :: nat_lit 36 :: nat_lit 37 :: nat_lit 39 :: nat_lit 40 :: nat_lit 42 :: nat_lit 43 :: nat_lit 44 :: nat_lit 45 :: nat_lit 46 :: nat_lit 49 :: nat_lit 52 :: nat_lit 57 :: nat_lit 58 :: nat_lit 60 :: nat_lit 61 :: nat_lit 63 :: nat_lit 64 :: nat_lit 65 :: nat_lit 66 :: nat_lit 67 :: nat_lit 70 :: nat_lit 73 :: nat_lit 78 :: nat_lit 79 :: nat_lit 81 :: nat_lit 82 :: nat_lit 84 :: nat_lit 85 :: nat_lit 86 :: nat_lit 87 :: nat_lit 88 :: nat_lit 91 :: nat_lit 94 :: nat_lit 99 :: nat_lit 100 :: nat_lit 102 :: nat_lit 103 :: nat_lit 105 :: nat_lit 106 :: nat_lit 107 :: nat_lit 108 :: nat_lit 109 :: nat_lit 112 :: nat_lit 115 :: nat_lit 120 :: nat_lit 121 :: nat_lit 123 :: nat_lit 124 :: nat_lit 126 :: nat_lit 127 :: nat_lit 128 :: nat_lit 129 :: nat_lit 130 :: nat_lit 133 :: nat_lit 136 :: nat_lit 141 :: nat_lit 142 :: nat_lit 144 :: nat_lit 145 :: nat_lit 147 :: nat_lit 148 :: nat_lit 149 :: nat_lit 150 :: nat_lit 151 :: nat_lit 154 :: nat_lit 157 :: nat_lit 162 :: nat_lit 163 :: nat_lit 165 :: nat_lit 166 :: nat_lit 168 :: nat_lit 169 :: nat_lit 170 :: nat_lit 171 :: nat_lit 172 :: nat_lit 175 :: nat_lit 178 :: nat_lit 183 :: nat_lit 184 :: nat_lit 186 :: nat_lit 187 :: nat_lit 189 :: nat_lit 190 :: nat_lit 191 :: nat_lit 192 :: nat_lit 193 :: nat_lit 196 :: nat_lit 199 :: nat_lit 204 :: nat_lit 205 :: nat_lit 207 :: nat_lit 208 :: nat_lit 210 :: nat_lit 211 :: nat_lit 212 :: nat_lit 213 :: nat_lit 214 :: nat_lit 217 :: nat_lit 220 :: nat_lit 225 :: nat_lit 226 :: nat_lit 228 :: nat_lit 229 :: nat_lit 231 :: nat_lit 232 :: nat_lit 233 :: nat_lit 234 :: nat_lit 235 :: nat_lit 238 :: nat_lit 241 :: nat_lit 246 :: nat_lit 247 :: nat_lit 249 :: nat_lit 250 :: nat_lit 252 :: nat_lit 253 :: nat_lit 254 :: nat_lit 255 :: nat_lit 256 :: nat_lit 259 :: nat_lit 262 :: nat_lit 267 :: nat_lit 268 :: nat_lit 270 :: nat_lit 271 :: nat_lit 273 :: nat_lit 274 :: nat_lit 275 :: nat_lit 276 :: nat_lit 277 :: nat_lit 280 :: nat_lit 283 :: nat_lit 288 :: nat_lit 289 :: nat_lit 291 :: nat_lit 292 :: nat_lit 294 :: nat_lit 295 :: nat_lit 296 :: nat_lit 297 :: nat_lit 298 :: nat_lit 301 :: nat_lit 304 :: nat_lit 309 :: nat_lit 310 :: nat_lit 312 :: nat_lit 313 :: nat_lit 315 :: nat_lit 316 :: nat_lit 317 :: nat_lit 318 :: nat_lit 319 :: nat_lit 322 :: nat_lit 325 :: nat_lit 330 :: nat_lit 331 :: nat_lit 333 :: nat_lit 334 :: nat_lit 336 :: nat_lit 337 :: nat_lit 338 :: nat_lit 339 :: nat_lit 340 :: nat_lit 343 :: nat_lit 346 :: nat_lit 351 :: nat_lit 352 :: nat_lit 354 :: nat_lit 355 :: nat_lit 357 :: nat_lit 358 :: nat_lit 359 :: nat_lit 360 :: nat_lit 361 :: nat_lit 364 :: nat_lit 367 :: nat_lit 372 :: nat_lit 373 :: nat_lit 375 :: nat_lit 376 :: nat_lit 378 :: nat_lit 379 :: nat_lit 380 :: nat_lit 381 :: nat_lit 382 :: nat_lit 385 :: nat_lit 388 :: nat_lit 393 :: nat_lit 394 :: nat_lit 396 :: nat_lit 397 :: nat_lit 399 :: nat_lit 400 :: nat_lit 401 :: nat_lit 402 :: nat_lit 403 :: nat_lit 406 :: nat_lit 409 :: nat_lit 414 :: nat_lit 415 :: nat_lit 417 :: nat_lit 418 :: nat_lit 420 :: nat_lit 421 :: nat_lit 422 :: nat_lit 423 :: nat_lit 424 :: nat_lit 427 :: nat_lit 430 :: nat_lit 435 :: nat_lit 436 :: nat_lit 438 :: nat_lit 439 :: nat_lit 441 :: nat_lit 442 :: nat_lit 443 :: nat_lit 444 :: nat_lit 445 :: nat_lit 448 :: nat_lit 451 :: nat_lit 456 :: nat_lit 457 :: nat_lit 459 :: nat_lit 460 :: nat_lit 462 :: nat_lit 463 :: nat_lit 464 :: nat_lit 465 :: nat_lit 466 :: nat_lit 469 :: nat_lit 471 :: nat_lit 472 :: nat_lit 474 :: nat_lit 475 :: nat_lit 476 :: nat_lit 478 :: nat_lit 479 :: nat_lit 481 :: nat_lit 482 :: nat_lit 483 :: nat_lit 486 :: nat_lit 487 :: nat_lit 488 :: nat_lit 491 :: nat_lit 492 :: nat_lit 493 :: nat_lit 495 :: nat_lit 496 :: nat_lit 498 :: nat_lit 499 :: nat_lit 500 :: nat_lit 502 :: nat_lit 503 :: nat_lit 505 :: nat_lit 506 :: nat_lit 507 :: nat_lit 509 :: nat_lit 510 :: nat_lit 512 :: nat_lit 513 :: nat_lit 514 :: nat_lit 517 :: nat_lit 518 :: []
abbrev RR : PySem.W.OpenRow := PySem.W.OpenLaw.row PySem.Challenge.rw_quietprobes_k05_errors_and_their_attribu
abbrev qv : Program := PySem.W.view RR.prog [31]
abbrev loo : List PySem.Str := "QuietError" :: "BadName" :: "BadDeed" :: "BadRow" :: "BadPlace" :: "BadMode" :: "BadContents" :: "BadTurn" :: "BadPair" :: "BadText" :: "BadCommand" :: "NoThing" :: "NoKey" :: "NoPart" :: "NoRow" :: "NoProbe" :: "NotNested" :: "Twice" :: "Unmatched" :: "TooMany" :: "Watched" :: "Over" :: "_law_pool" :: "_law_draw" :: "_law_word" :: "_law_object" :: "_law_same" :: "_law_classes" :: "_law_attributes" :: []
theorem KA_eq (P : PySem.Params) : KA = (KF P).map (·.1) := by kernel_rfl
abbrev hk : PySem.W.Hook := PySem.W.kHook KF KA KA_eq
def obK (s : PySem.W.SharedT) : hk.α := KA.map (HandSHeadRun.getT s)
theorem obK_eq (s : PySem.W.SharedT) : obK s = hk.obs s.abs := by
  show KA.map (HandSHeadRun.getT s) = KA.map s.abs.heap.get?
  exact congrArg KA.map (funext fun a => HandSHeadRun.getT_eq s a)
set_option maxHeartbeats 0 in
theorem run (w : World) : HandSHeadRun.RunEq RR qv hk obK 11950 loo w := by
  intro os
  kernel_rfl
theorem run_all (w : World) : HandSHeadRun.RunEq RR qv hk obK 11950 loo w := run w
set_option maxHeartbeats 0 in
theorem all_mk {l : PySem.W.OpenLaw} {w : World} {K : PySem.W.Frag} {h : Heap} {mg : Str → Option Value} {fa : Addr} (X : K.In h) (G : h.Ns mainGlobals mg) (hfa : mg "law" = some (.ref fa))
    {C_QuietError : Addr}
    {f0 : Addr} {oc0 kV0 dc0 pm0 cd0 ct0 : Value} {od0 an0 : Option Addr} {sl0 : Array (Option Value)}
    {f1 : Addr} {oc1 kV1 dc1 pm1 cd1 ct1 : Value} {od1 an1 : Option Addr} {sl1 : Array (Option Value)}
    {f2 : Addr} {oc2 kV2 dc2 pm2 cd2 ct2 : Value} {od2 an2 : Option Addr} {sl2 : Array (Option Value)}
    {f3 : Addr} {oc3 kV3 dc3 pm3 cd3 ct3 : Value} {od3 an3 : Option Addr} {sl3 : Array (Option Value)}
    {f4 : Addr} {oc4 kV4 dc4 pm4 cd4 ct4 : Value} {od4 an4 : Option Addr} {sl4 : Array (Option Value)}
    {f5 : Addr} {oc5 kV5 dc5 pm5 cd5 ct5 : Value} {od5 an5 : Option Addr} {sl5 : Array (Option Value)}
    {f6 : Addr} {oc6 kV6 dc6 pm6 cd6 ct6 : Value} {od6 an6 : Option Addr} {sl6 : Array (Option Value)}
    {f7 : Addr} {oc7 kV7 dc7 pm7 cd7 ct7 : Value} {od7 an7 : Option Addr} {sl7 : Array (Option Value)}
    {C_BadName fI_BadName cc_BadName cda_BadName N_BadName : Addr} {kV_BadName dc_BadName pm_BadName ct_BadName oc_BadName ccl_BadName cl_BadName : Value} {an_BadName od_BadName cdd_BadName cld_BadName : Option Addr} {osl_BadName ccs_BadName csl_BadName : Array (Option Value)} {vs_BadName : Array Value} {file_BadName : Str} {tf_BadName : Tok} {nm_BadName q_BadName : Str} {bs_BadName bm_BadName : List Value} {sn_BadName : List Str} {sub_BadName : List Value} {ab_BadName : Bool} {col_BadName : Option Bool} {dd_BadName : Option Addr} {k0_BadName k1_BadName k2_BadName k3_BadName k5_BadName : Option Value}
    {C_BadDeed fI_BadDeed cc_BadDeed cda_BadDeed N_BadDeed : Addr} {kV_BadDeed dc_BadDeed pm_BadDeed ct_BadDeed oc_BadDeed ccl_BadDeed cl_BadDeed : Value} {an_BadDeed od_BadDeed cdd_BadDeed cld_BadDeed : Option Addr} {osl_BadDeed ccs_BadDeed csl_BadDeed : Array (Option Value)} {vs_BadDeed : Array Value} {file_BadDeed : Str} {tf_BadDeed : Tok} {nm_BadDeed q_BadDeed : Str} {bs_BadDeed bm_BadDeed : List Value} {sn_BadDeed : List Str} {sub_BadDeed : List Value} {ab_BadDeed : Bool} {col_BadDeed : Option Bool} {dd_BadDeed : Option Addr} {k0_BadDeed k1_BadDeed k2_BadDeed k3_BadDeed k5_BadDeed : Option Value}
    {C_BadRow fI_BadRow cc_BadRow cda_BadRow N_BadRow : Addr} {kV_BadRow dc_BadRow pm_BadRow ct_BadRow oc_BadRow ccl_BadRow cl_BadRow : Value} {an_BadRow od_BadRow cdd_BadRow cld_BadRow : Option Addr} {osl_BadRow ccs_BadRow csl_BadRow : Array (Option Value)} {vs_BadRow : Array Value} {file_BadRow : Str} {tf_BadRow : Tok} {nm_BadRow q_BadRow : Str} {bs_BadRow bm_BadRow : List Value} {sn_BadRow : List Str} {sub_BadRow : List Value} {ab_BadRow : Bool} {col_BadRow : Option Bool} {dd_BadRow : Option Addr} {k0_BadRow k1_BadRow k2_BadRow k3_BadRow k5_BadRow : Option Value}
    {C_BadPlace fI_BadPlace cc_BadPlace cda_BadPlace N_BadPlace : Addr} {kV_BadPlace dc_BadPlace pm_BadPlace ct_BadPlace oc_BadPlace ccl_BadPlace cl_BadPlace : Value} {an_BadPlace od_BadPlace cdd_BadPlace cld_BadPlace : Option Addr} {osl_BadPlace ccs_BadPlace csl_BadPlace : Array (Option Value)} {vs_BadPlace : Array Value} {file_BadPlace : Str} {tf_BadPlace : Tok} {nm_BadPlace q_BadPlace : Str} {bs_BadPlace bm_BadPlace : List Value} {sn_BadPlace : List Str} {sub_BadPlace : List Value} {ab_BadPlace : Bool} {col_BadPlace : Option Bool} {dd_BadPlace : Option Addr} {k0_BadPlace k1_BadPlace k2_BadPlace k3_BadPlace k5_BadPlace : Option Value}
    {C_BadMode fI_BadMode cc_BadMode cda_BadMode N_BadMode : Addr} {kV_BadMode dc_BadMode pm_BadMode ct_BadMode oc_BadMode ccl_BadMode cl_BadMode : Value} {an_BadMode od_BadMode cdd_BadMode cld_BadMode : Option Addr} {osl_BadMode ccs_BadMode csl_BadMode : Array (Option Value)} {vs_BadMode : Array Value} {file_BadMode : Str} {tf_BadMode : Tok} {nm_BadMode q_BadMode : Str} {bs_BadMode bm_BadMode : List Value} {sn_BadMode : List Str} {sub_BadMode : List Value} {ab_BadMode : Bool} {col_BadMode : Option Bool} {dd_BadMode : Option Addr} {k0_BadMode k1_BadMode k2_BadMode k3_BadMode k5_BadMode : Option Value}
    {C_BadContents fI_BadContents cc_BadContents cda_BadContents N_BadContents : Addr} {kV_BadContents dc_BadContents pm_BadContents ct_BadContents oc_BadContents ccl_BadContents cl_BadContents : Value} {an_BadContents od_BadContents cdd_BadContents cld_BadContents : Option Addr} {osl_BadContents ccs_BadContents csl_BadContents : Array (Option Value)} {vs_BadContents : Array Value} {file_BadContents : Str} {tf_BadContents : Tok} {nm_BadContents q_BadContents : Str} {bs_BadContents bm_BadContents : List Value} {sn_BadContents : List Str} {sub_BadContents : List Value} {ab_BadContents : Bool} {col_BadContents : Option Bool} {dd_BadContents : Option Addr} {k0_BadContents k1_BadContents k2_BadContents k3_BadContents k5_BadContents : Option Value}
    {C_BadTurn fI_BadTurn cc_BadTurn cda_BadTurn N_BadTurn : Addr} {kV_BadTurn dc_BadTurn pm_BadTurn ct_BadTurn oc_BadTurn ccl_BadTurn cl_BadTurn : Value} {an_BadTurn od_BadTurn cdd_BadTurn cld_BadTurn : Option Addr} {osl_BadTurn ccs_BadTurn csl_BadTurn : Array (Option Value)} {vs_BadTurn : Array Value} {file_BadTurn : Str} {tf_BadTurn : Tok} {nm_BadTurn q_BadTurn : Str} {bs_BadTurn bm_BadTurn : List Value} {sn_BadTurn : List Str} {sub_BadTurn : List Value} {ab_BadTurn : Bool} {col_BadTurn : Option Bool} {dd_BadTurn : Option Addr} {k0_BadTurn k1_BadTurn k2_BadTurn k3_BadTurn k5_BadTurn : Option Value}
    {C_BadPair fI_BadPair cc_BadPair cda_BadPair N_BadPair : Addr} {kV_BadPair dc_BadPair pm_BadPair ct_BadPair oc_BadPair ccl_BadPair cl_BadPair : Value} {an_BadPair od_BadPair cdd_BadPair cld_BadPair : Option Addr} {osl_BadPair ccs_BadPair csl_BadPair : Array (Option Value)} {vs_BadPair : Array Value} {file_BadPair : Str} {tf_BadPair : Tok} {nm_BadPair q_BadPair : Str} {bs_BadPair bm_BadPair : List Value} {sn_BadPair : List Str} {sub_BadPair : List Value} {ab_BadPair : Bool} {col_BadPair : Option Bool} {dd_BadPair : Option Addr} {k0_BadPair k1_BadPair k2_BadPair k3_BadPair k5_BadPair : Option Value}
    {C_BadText fI_BadText cc_BadText cda_BadText N_BadText : Addr} {kV_BadText dc_BadText pm_BadText ct_BadText oc_BadText ccl_BadText cl_BadText : Value} {an_BadText od_BadText cdd_BadText cld_BadText : Option Addr} {osl_BadText ccs_BadText csl_BadText : Array (Option Value)} {vs_BadText : Array Value} {file_BadText : Str} {tf_BadText : Tok} {nm_BadText q_BadText : Str} {bs_BadText bm_BadText : List Value} {sn_BadText : List Str} {sub_BadText : List Value} {ab_BadText : Bool} {col_BadText : Option Bool} {dd_BadText : Option Addr} {k0_BadText k1_BadText k2_BadText k3_BadText k5_BadText : Option Value}
    {C_BadCommand fI_BadCommand cc_BadCommand cda_BadCommand N_BadCommand : Addr} {kV_BadCommand dc_BadCommand pm_BadCommand ct_BadCommand oc_BadCommand ccl_BadCommand cl_BadCommand : Value} {an_BadCommand od_BadCommand cdd_BadCommand cld_BadCommand : Option Addr} {osl_BadCommand ccs_BadCommand csl_BadCommand : Array (Option Value)} {vs_BadCommand : Array Value} {file_BadCommand : Str} {tf_BadCommand : Tok} {nm_BadCommand q_BadCommand : Str} {bs_BadCommand bm_BadCommand : List Value} {sn_BadCommand : List Str} {sub_BadCommand : List Value} {ab_BadCommand : Bool} {col_BadCommand : Option Bool} {dd_BadCommand : Option Addr} {k0_BadCommand k1_BadCommand k2_BadCommand k3_BadCommand k5_BadCommand : Option Value}
    {C_NoThing fI_NoThing cc_NoThing cda_NoThing N_NoThing : Addr} {kV_NoThing dc_NoThing pm_NoThing ct_NoThing oc_NoThing ccl_NoThing cl_NoThing : Value} {an_NoThing od_NoThing cdd_NoThing cld_NoThing : Option Addr} {osl_NoThing ccs_NoThing csl_NoThing : Array (Option Value)} {vs_NoThing : Array Value} {file_NoThing : Str} {tf_NoThing : Tok} {nm_NoThing q_NoThing : Str} {bs_NoThing bm_NoThing : List Value} {sn_NoThing : List Str} {sub_NoThing : List Value} {ab_NoThing : Bool} {col_NoThing : Option Bool} {dd_NoThing : Option Addr} {k0_NoThing k1_NoThing k2_NoThing k3_NoThing k5_NoThing : Option Value}
    {C_NoKey fI_NoKey cc_NoKey cda_NoKey N_NoKey : Addr} {kV_NoKey dc_NoKey pm_NoKey ct_NoKey oc_NoKey ccl_NoKey cl_NoKey : Value} {an_NoKey od_NoKey cdd_NoKey cld_NoKey : Option Addr} {osl_NoKey ccs_NoKey csl_NoKey : Array (Option Value)} {vs_NoKey : Array Value} {file_NoKey : Str} {tf_NoKey : Tok} {nm_NoKey q_NoKey : Str} {bs_NoKey bm_NoKey : List Value} {sn_NoKey : List Str} {sub_NoKey : List Value} {ab_NoKey : Bool} {col_NoKey : Option Bool} {dd_NoKey : Option Addr} {k0_NoKey k1_NoKey k2_NoKey k3_NoKey k5_NoKey : Option Value}
    {C_NoPart fI_NoPart cc_NoPart cda_NoPart N_NoPart : Addr} {kV_NoPart dc_NoPart pm_NoPart ct_NoPart oc_NoPart ccl_NoPart cl_NoPart : Value} {an_NoPart od_NoPart cdd_NoPart cld_NoPart : Option Addr} {osl_NoPart ccs_NoPart csl_NoPart : Array (Option Value)} {vs_NoPart : Array Value} {file_NoPart : Str} {tf_NoPart : Tok} {nm_NoPart q_NoPart : Str} {bs_NoPart bm_NoPart : List Value} {sn_NoPart : List Str} {sub_NoPart : List Value} {ab_NoPart : Bool} {col_NoPart : Option Bool} {dd_NoPart : Option Addr} {k0_NoPart k1_NoPart k2_NoPart k3_NoPart k5_NoPart : Option Value}
    {C_NoRow fI_NoRow cc_NoRow cda_NoRow N_NoRow : Addr} {kV_NoRow dc_NoRow pm_NoRow ct_NoRow oc_NoRow ccl_NoRow cl_NoRow : Value} {an_NoRow od_NoRow cdd_NoRow cld_NoRow : Option Addr} {osl_NoRow ccs_NoRow csl_NoRow : Array (Option Value)} {vs_NoRow : Array Value} {file_NoRow : Str} {tf_NoRow : Tok} {nm_NoRow q_NoRow : Str} {bs_NoRow bm_NoRow : List Value} {sn_NoRow : List Str} {sub_NoRow : List Value} {ab_NoRow : Bool} {col_NoRow : Option Bool} {dd_NoRow : Option Addr} {k0_NoRow k1_NoRow k2_NoRow k3_NoRow k5_NoRow : Option Value}
    {C_NoProbe fI_NoProbe cc_NoProbe cda_NoProbe N_NoProbe : Addr} {kV_NoProbe dc_NoProbe pm_NoProbe ct_NoProbe oc_NoProbe ccl_NoProbe cl_NoProbe : Value} {an_NoProbe od_NoProbe cdd_NoProbe cld_NoProbe : Option Addr} {osl_NoProbe ccs_NoProbe csl_NoProbe : Array (Option Value)} {vs_NoProbe : Array Value} {file_NoProbe : Str} {tf_NoProbe : Tok} {nm_NoProbe q_NoProbe : Str} {bs_NoProbe bm_NoProbe : List Value} {sn_NoProbe : List Str} {sub_NoProbe : List Value} {ab_NoProbe : Bool} {col_NoProbe : Option Bool} {dd_NoProbe : Option Addr} {k0_NoProbe k1_NoProbe k2_NoProbe k3_NoProbe k5_NoProbe : Option Value}
    {C_NotNested fI_NotNested cc_NotNested cda_NotNested N_NotNested : Addr} {kV_NotNested dc_NotNested pm_NotNested ct_NotNested oc_NotNested ccl_NotNested cl_NotNested : Value} {an_NotNested od_NotNested cdd_NotNested cld_NotNested : Option Addr} {osl_NotNested ccs_NotNested csl_NotNested : Array (Option Value)} {vs_NotNested : Array Value} {file_NotNested : Str} {tf_NotNested : Tok} {nm_NotNested q_NotNested : Str} {bs_NotNested bm_NotNested : List Value} {sn_NotNested : List Str} {sub_NotNested : List Value} {ab_NotNested : Bool} {col_NotNested : Option Bool} {dd_NotNested : Option Addr} {k0_NotNested k1_NotNested k2_NotNested k3_NotNested k5_NotNested : Option Value}
    {C_Twice fI_Twice cc_Twice cda_Twice N_Twice : Addr} {kV_Twice dc_Twice pm_Twice ct_Twice oc_Twice ccl_Twice cl_Twice : Value} {an_Twice od_Twice cdd_Twice cld_Twice : Option Addr} {osl_Twice ccs_Twice csl_Twice : Array (Option Value)} {vs_Twice : Array Value} {file_Twice : Str} {tf_Twice : Tok} {nm_Twice q_Twice : Str} {bs_Twice bm_Twice : List Value} {sn_Twice : List Str} {sub_Twice : List Value} {ab_Twice : Bool} {col_Twice : Option Bool} {dd_Twice : Option Addr} {k0_Twice k1_Twice k2_Twice k3_Twice k5_Twice : Option Value}
    {C_Unmatched fI_Unmatched cc_Unmatched cda_Unmatched N_Unmatched : Addr} {kV_Unmatched dc_Unmatched pm_Unmatched ct_Unmatched oc_Unmatched ccl_Unmatched cl_Unmatched : Value} {an_Unmatched od_Unmatched cdd_Unmatched cld_Unmatched : Option Addr} {osl_Unmatched ccs_Unmatched csl_Unmatched : Array (Option Value)} {vs_Unmatched : Array Value} {file_Unmatched : Str} {tf_Unmatched : Tok} {nm_Unmatched q_Unmatched : Str} {bs_Unmatched bm_Unmatched : List Value} {sn_Unmatched : List Str} {sub_Unmatched : List Value} {ab_Unmatched : Bool} {col_Unmatched : Option Bool} {dd_Unmatched : Option Addr} {k0_Unmatched k1_Unmatched k2_Unmatched k3_Unmatched k5_Unmatched : Option Value}
    {C_TooMany fI_TooMany cc_TooMany cda_TooMany N_TooMany : Addr} {kV_TooMany dc_TooMany pm_TooMany ct_TooMany oc_TooMany ccl_TooMany cl_TooMany : Value} {an_TooMany od_TooMany cdd_TooMany cld_TooMany : Option Addr} {osl_TooMany ccs_TooMany csl_TooMany : Array (Option Value)} {vs_TooMany : Array Value} {file_TooMany : Str} {tf_TooMany : Tok} {nm_TooMany q_TooMany : Str} {bs_TooMany bm_TooMany : List Value} {sn_TooMany : List Str} {sub_TooMany : List Value} {ab_TooMany : Bool} {col_TooMany : Option Bool} {dd_TooMany : Option Addr} {k0_TooMany k1_TooMany k2_TooMany k3_TooMany k5_TooMany : Option Value}
    {C_Watched fI_Watched cc_Watched cda_Watched N_Watched : Addr} {kV_Watched dc_Watched pm_Watched ct_Watched oc_Watched ccl_Watched cl_Watched : Value} {an_Watched od_Watched cdd_Watched cld_Watched : Option Addr} {osl_Watched ccs_Watched csl_Watched : Array (Option Value)} {vs_Watched : Array Value} {file_Watched : Str} {tf_Watched : Tok} {nm_Watched q_Watched : Str} {bs_Watched bm_Watched : List Value} {sn_Watched : List Str} {sub_Watched : List Value} {ab_Watched : Bool} {col_Watched : Option Bool} {dd_Watched : Option Addr} {k0_Watched k1_Watched k2_Watched k3_Watched k5_Watched : Option Value}
    {C_Over fI_Over cc_Over cda_Over N_Over : Addr} {kV_Over dc_Over pm_Over ct_Over oc_Over ccl_Over cl_Over : Value} {an_Over od_Over cdd_Over cld_Over : Option Addr} {osl_Over ccs_Over csl_Over : Array (Option Value)} {vs_Over : Array Value} {file_Over : Str} {tf_Over : Tok} {nm_Over q_Over : Str} {bs_Over bm_Over : List Value} {sn_Over : List Str} {sub_Over : List Value} {ab_Over : Bool} {col_Over : Option Bool} {dd_Over : Option Addr} {k0_Over k1_Over k2_Over k3_Over k5_Over : Option Value}
    (a0 : PySem.W.nsIn K mainGlobals "_law_pool" = some (some (.ref f0))) (l0 : K.lookup f0 = some ⟨oc0, od0, .func (PySem.W.fnOf "_law_pool" "_law_pool" (defArgs s__law_pool) (defBody s__law_pool) (defScope s__law_pool) .none kV0 dc0 pm0 an0 cd0 ct0), sl0⟩) (c0 : PySem.W.codeIn K cd0 "_law_pool" = true) (k0 : PySem.W.keepIn K (.ref f0) = true)
    (a1 : PySem.W.nsIn K mainGlobals "_law_draw" = some (some (.ref f1))) (l1 : K.lookup f1 = some ⟨oc1, od1, .func (PySem.W.fnOf "_law_draw" "_law_draw" (defArgs s__law_draw) (defBody s__law_draw) (defScope s__law_draw) .none kV1 dc1 pm1 an1 cd1 ct1), sl1⟩) (c1 : PySem.W.codeIn K cd1 "_law_draw" = true) (k1 : PySem.W.keepIn K (.ref f1) = true)
    (a2 : PySem.W.nsIn K mainGlobals "_law_word" = some (some (.ref f2))) (l2 : K.lookup f2 = some ⟨oc2, od2, .func (PySem.W.fnOf "_law_word" "_law_word" (defArgs s__law_word) (defBody s__law_word) (defScope s__law_word) .none kV2 dc2 pm2 an2 cd2 ct2), sl2⟩) (c2 : PySem.W.codeIn K cd2 "_law_word" = true) (k2 : PySem.W.keepIn K (.ref f2) = true)
    (a3 : PySem.W.nsIn K mainGlobals "_law_object" = some (some (.ref f3))) (l3 : K.lookup f3 = some ⟨oc3, od3, .func (PySem.W.fnOf "_law_object" "_law_object" (defArgs s__law_object) (defBody s__law_object) (defScope s__law_object) .none kV3 dc3 pm3 an3 cd3 ct3), sl3⟩) (c3 : PySem.W.codeIn K cd3 "_law_object" = true) (k3 : PySem.W.keepIn K (.ref f3) = true)
    (a4 : PySem.W.nsIn K mainGlobals "_law_same" = some (some (.ref f4))) (l4 : K.lookup f4 = some ⟨oc4, od4, .func (PySem.W.fnOf "_law_same" "_law_same" (defArgs s__law_same) (defBody s__law_same) (defScope s__law_same) .none kV4 dc4 pm4 an4 cd4 ct4), sl4⟩) (c4 : PySem.W.codeIn K cd4 "_law_same" = true) (k4 : PySem.W.keepIn K (.ref f4) = true)
    (a5 : PySem.W.nsIn K mainGlobals "_law_classes" = some (some (.ref f5))) (l5 : K.lookup f5 = some ⟨oc5, od5, .func (PySem.W.fnOf "_law_classes" "_law_classes" (defArgs s__law_classes) (defBody s__law_classes) (defScope s__law_classes) .none kV5 dc5 pm5 an5 cd5 ct5), sl5⟩) (c5 : PySem.W.codeIn K cd5 "_law_classes" = true) (k5 : PySem.W.keepIn K (.ref f5) = true)
    (a6 : PySem.W.nsIn K mainGlobals "_law_attributes" = some (some (.ref f6))) (l6 : K.lookup f6 = some ⟨oc6, od6, .func (PySem.W.fnOf "_law_attributes" "_law_attributes" (defArgs s__law_attributes) (defBody s__law_attributes) (defScope s__law_attributes) .none kV6 dc6 pm6 an6 cd6 ct6), sl6⟩) (c6 : PySem.W.codeIn K cd6 "_law_attributes" = true) (k6 : PySem.W.keepIn K (.ref f6) = true)
    (a7 : PySem.W.nsIn K mainGlobals "law" = some (some (.ref f7))) (l7 : K.lookup f7 = some ⟨oc7, od7, .func (PySem.W.fnOf "law" "law" (defArgs s_law) (defBody s_law) (defScope s_law) .none kV7 dc7 pm7 an7 cd7 ct7), sl7⟩) (c7 : PySem.W.codeIn K cd7 "law" = true) (k7 : PySem.W.keepIn K (.ref f7) = true)
    (z_len : PySem.W.nsIn K mainGlobals "len" = some none)
    (z_int : PySem.W.nsIn K mainGlobals "int" = some none)
    (z_list : PySem.W.nsIn K mainGlobals "list" = some none)
    (z_tuple : PySem.W.nsIn K mainGlobals "tuple" = some none)
    (z_isi : PySem.W.nsIn K mainGlobals "isinstance" = some none)
    (z_range : PySem.W.nsIn K mainGlobals "range" = some none)
    (z_all : PySem.W.nsIn K mainGlobals "all" = some none)
    (z_any : PySem.W.nsIn K mainGlobals "any" = some none)
    (z_str : PySem.W.nsIn K mainGlobals "str" = some none)
    (z_bool : PySem.W.nsIn K mainGlobals "bool" = some none)
    (z_enum : PySem.W.nsIn K mainGlobals "enumerate" = some none)
    (z_zip : PySem.W.nsIn K mainGlobals "zip" = some none)
    (z_sum : PySem.W.nsIn K mainGlobals "sum" = some none)
    (z_max : PySem.W.nsIn K mainGlobals "max" = some none)
    (z_min : PySem.W.nsIn K mainGlobals "min" = some none)
    (z_sorted : PySem.W.nsIn K mainGlobals "sorted" = some none)
    (z_set : PySem.W.nsIn K mainGlobals "set" = some none)
    (z_dict : PySem.W.nsIn K mainGlobals "dict" = some none)
    (oq : PySem.W.nsIn K cStatics "thirdparty.any" = some none) (z_super : PySem.W.nsIn K mainGlobals "super" = some none) (gtc : PySem.W.specialIn K (.builtin "object.__class__") "__get__" = some (some (.builtin "getset_descriptor.__get__"))) (tkc : PySem.W.takesIn K (.builtin "object.__class__") = some true) (tsup : (l.prog.main.scope.names.lookup ("super" : Str)).isSome = false)
    (ecg_BadName : PySem.W.nsIn K mainGlobals "BadName" = some (some (.ref C_BadName)))
    (exL_BadName : K.lookup C_BadName = some (excClassObj nm_BadName q_BadName C_BadName N_BadName bs_BadName bm_BadName true sn_BadName sub_BadName ab_BadName col_BadName dd_BadName k0_BadName k1_BadName k2_BadName k3_BadName k5_BadName "ValueError.__new__"))
    (esa_BadName : PySem.W.findIn K (.ref C_BadName) "__setattr__" = some (some (.builtin "object.__setattr__")))
    (eex_BadName : PySem.W.subIn K (.ref C_BadName) (.type "BaseException") = some true)
    (ety_BadName : PySem.W.typeIn K (.ref C_BadName) = some (.type "type"))
    (ekC_BadName : PySem.W.keepIn K (.ref C_BadName) = true)
    (ei1_BadName : PySem.W.findIn K (.ref C_BadName) "__init__" = some (some (.ref fI_BadName)))
    (ei2_BadName : PySem.W.typeIn K (.ref fI_BadName) = some (.type "function"))
    (emr_BadName : PySem.W.mroIn K C_BadName (.ref C_BadName) = some true)
    (esv_BadName : PySem.W.subIn K (.ref C_BadName) (.type "ValueError") = some true)
    (esu_BadName : PySem.W.ks_superIn K C_BadName C_BadName "__init__" = some (some (.builtin "ValueError.__init__")))
    (elk_BadName : K.lookup fI_BadName = some ⟨oc_BadName, od_BadName, .func (PySem.W.ksFn "__init__" "BadName.__init__" (defArgs s_BadName___init__) (defBody s_BadName___init__) (defScope s_BadName___init__) .none kV_BadName dc_BadName pm_BadName an_BadName (.ref cda_BadName) ct_BadName cc_BadName), osl_BadName⟩)
    (ehc_BadName : PySem.W.codeIn K (.ref cda_BadName) "BadName.__init__" = true)
    (eno_BadName : PySem.W.findIn K (.ref C_BadName) "name" = some none)
    (eco_BadName : K.lookup cda_BadName = some ⟨ccl_BadName, cdd_BadName, .fields vs_BadName, ccs_BadName⟩)
    (ece_BadName : K.lookup cc_BadName = some ⟨cl_BadName, cld_BadName, .cell (some (.ref C_BadName)), csl_BadName⟩)
    (ega_BadName : PySem.W.findIn K (.ref C_BadName) "__getattribute__" = some (some (.builtin "BaseException.__getattribute__")))
    (egg_BadName : PySem.W.findIn K (.ref C_BadName) "__getattr__" = some none)
    (ehd_BadName : PySem.W.hasDictIn K C_BadName = true)
    (ese_BadName : PySem.W.subIn K (.ref C_BadName) (.ref C_BadName) = some true)
    (ebm_BadName : PySem.HandSPX.refsVE bm_BadName = true)
    (evs_BadName : vs_BadName[2]? = some (.str file_BadName tf_BadName))
    (efl_BadName : ((l.prog.main.file : Str) == file_BadName) = true)
    (emb_BadName : bm_BadName = [.ref C_QuietError, .type "ValueError", .type "Exception", .type "BaseException", .type "object"])
    (ekl_BadName : PySem.W.findIn K (.ref C_BadName) "__class__" = some (some (.builtin "object.__class__")))
    (emo_BadName : PySem.W.mroIn K C_BadName (.type "object") = some true)
    (ecg_BadDeed : PySem.W.nsIn K mainGlobals "BadDeed" = some (some (.ref C_BadDeed)))
    (exL_BadDeed : K.lookup C_BadDeed = some (excClassObj nm_BadDeed q_BadDeed C_BadDeed N_BadDeed bs_BadDeed bm_BadDeed true sn_BadDeed sub_BadDeed ab_BadDeed col_BadDeed dd_BadDeed k0_BadDeed k1_BadDeed k2_BadDeed k3_BadDeed k5_BadDeed "ValueError.__new__"))
    (esa_BadDeed : PySem.W.findIn K (.ref C_BadDeed) "__setattr__" = some (some (.builtin "object.__setattr__")))
    (eex_BadDeed : PySem.W.subIn K (.ref C_BadDeed) (.type "BaseException") = some true)
    (ety_BadDeed : PySem.W.typeIn K (.ref C_BadDeed) = some (.type "type"))
    (ekC_BadDeed : PySem.W.keepIn K (.ref C_BadDeed) = true)
    (ei1_BadDeed : PySem.W.findIn K (.ref C_BadDeed) "__init__" = some (some (.ref fI_BadDeed)))
    (ei2_BadDeed : PySem.W.typeIn K (.ref fI_BadDeed) = some (.type "function"))
    (emr_BadDeed : PySem.W.mroIn K C_BadDeed (.ref C_BadDeed) = some true)
    (esv_BadDeed : PySem.W.subIn K (.ref C_BadDeed) (.type "ValueError") = some true)
    (esu_BadDeed : PySem.W.ks_superIn K C_BadDeed C_BadDeed "__init__" = some (some (.builtin "ValueError.__init__")))
    (elk_BadDeed : K.lookup fI_BadDeed = some ⟨oc_BadDeed, od_BadDeed, .func (PySem.W.ksFn "__init__" "BadDeed.__init__" (defArgs s_BadDeed___init__) (defBody s_BadDeed___init__) (defScope s_BadDeed___init__) .none kV_BadDeed dc_BadDeed pm_BadDeed an_BadDeed (.ref cda_BadDeed) ct_BadDeed cc_BadDeed), osl_BadDeed⟩)
    (ehc_BadDeed : PySem.W.codeIn K (.ref cda_BadDeed) "BadDeed.__init__" = true)
    (eno_BadDeed : PySem.W.findIn K (.ref C_BadDeed) "deed" = some none)
    (eco_BadDeed : K.lookup cda_BadDeed = some ⟨ccl_BadDeed, cdd_BadDeed, .fields vs_BadDeed, ccs_BadDeed⟩)
    (ece_BadDeed : K.lookup cc_BadDeed = some ⟨cl_BadDeed, cld_BadDeed, .cell (some (.ref C_BadDeed)), csl_BadDeed⟩)
    (ega_BadDeed : PySem.W.findIn K (.ref C_BadDeed) "__getattribute__" = some (some (.builtin "BaseException.__getattribute__")))
    (egg_BadDeed : PySem.W.findIn K (.ref C_BadDeed) "__getattr__" = some none)
    (ehd_BadDeed : PySem.W.hasDictIn K C_BadDeed = true)
    (ese_BadDeed : PySem.W.subIn K (.ref C_BadDeed) (.ref C_BadDeed) = some true)
    (ebm_BadDeed : PySem.HandSPX.refsVE bm_BadDeed = true)
    (evs_BadDeed : vs_BadDeed[2]? = some (.str file_BadDeed tf_BadDeed))
    (efl_BadDeed : ((l.prog.main.file : Str) == file_BadDeed) = true)
    (emb_BadDeed : bm_BadDeed = [.ref C_QuietError, .type "ValueError", .type "Exception", .type "BaseException", .type "object"])
    (ekl_BadDeed : PySem.W.findIn K (.ref C_BadDeed) "__class__" = some (some (.builtin "object.__class__")))
    (emo_BadDeed : PySem.W.mroIn K C_BadDeed (.type "object") = some true)
    (ecg_BadRow : PySem.W.nsIn K mainGlobals "BadRow" = some (some (.ref C_BadRow)))
    (exL_BadRow : K.lookup C_BadRow = some (excClassObj nm_BadRow q_BadRow C_BadRow N_BadRow bs_BadRow bm_BadRow true sn_BadRow sub_BadRow ab_BadRow col_BadRow dd_BadRow k0_BadRow k1_BadRow k2_BadRow k3_BadRow k5_BadRow "ValueError.__new__"))
    (esa_BadRow : PySem.W.findIn K (.ref C_BadRow) "__setattr__" = some (some (.builtin "object.__setattr__")))
    (eex_BadRow : PySem.W.subIn K (.ref C_BadRow) (.type "BaseException") = some true)
    (ety_BadRow : PySem.W.typeIn K (.ref C_BadRow) = some (.type "type"))
    (ekC_BadRow : PySem.W.keepIn K (.ref C_BadRow) = true)
    (ei1_BadRow : PySem.W.findIn K (.ref C_BadRow) "__init__" = some (some (.ref fI_BadRow)))
    (ei2_BadRow : PySem.W.typeIn K (.ref fI_BadRow) = some (.type "function"))
    (emr_BadRow : PySem.W.mroIn K C_BadRow (.ref C_BadRow) = some true)
    (esv_BadRow : PySem.W.subIn K (.ref C_BadRow) (.type "ValueError") = some true)
    (esu_BadRow : PySem.W.ks_superIn K C_BadRow C_BadRow "__init__" = some (some (.builtin "ValueError.__init__")))
    (elk_BadRow : K.lookup fI_BadRow = some ⟨oc_BadRow, od_BadRow, .func (PySem.W.ksFn "__init__" "BadRow.__init__" (defArgs s_BadRow___init__) (defBody s_BadRow___init__) (defScope s_BadRow___init__) .none kV_BadRow dc_BadRow pm_BadRow an_BadRow (.ref cda_BadRow) ct_BadRow cc_BadRow), osl_BadRow⟩)
    (ehc_BadRow : PySem.W.codeIn K (.ref cda_BadRow) "BadRow.__init__" = true)
    (eno_BadRow : PySem.W.findIn K (.ref C_BadRow) "number" = some none)
    (eco_BadRow : K.lookup cda_BadRow = some ⟨ccl_BadRow, cdd_BadRow, .fields vs_BadRow, ccs_BadRow⟩)
    (ece_BadRow : K.lookup cc_BadRow = some ⟨cl_BadRow, cld_BadRow, .cell (some (.ref C_BadRow)), csl_BadRow⟩)
    (ega_BadRow : PySem.W.findIn K (.ref C_BadRow) "__getattribute__" = some (some (.builtin "BaseException.__getattribute__")))
    (egg_BadRow : PySem.W.findIn K (.ref C_BadRow) "__getattr__" = some none)
    (ehd_BadRow : PySem.W.hasDictIn K C_BadRow = true)
    (ese_BadRow : PySem.W.subIn K (.ref C_BadRow) (.ref C_BadRow) = some true)
    (ebm_BadRow : PySem.HandSPX.refsVE bm_BadRow = true)
    (evs_BadRow : vs_BadRow[2]? = some (.str file_BadRow tf_BadRow))
    (efl_BadRow : ((l.prog.main.file : Str) == file_BadRow) = true)
    (emb_BadRow : bm_BadRow = [.ref C_QuietError, .type "ValueError", .type "Exception", .type "BaseException", .type "object"])
    (ekl_BadRow : PySem.W.findIn K (.ref C_BadRow) "__class__" = some (some (.builtin "object.__class__")))
    (emo_BadRow : PySem.W.mroIn K C_BadRow (.type "object") = some true)
    (ecg_BadPlace : PySem.W.nsIn K mainGlobals "BadPlace" = some (some (.ref C_BadPlace)))
    (exL_BadPlace : K.lookup C_BadPlace = some (excClassObj nm_BadPlace q_BadPlace C_BadPlace N_BadPlace bs_BadPlace bm_BadPlace true sn_BadPlace sub_BadPlace ab_BadPlace col_BadPlace dd_BadPlace k0_BadPlace k1_BadPlace k2_BadPlace k3_BadPlace k5_BadPlace "ValueError.__new__"))
    (esa_BadPlace : PySem.W.findIn K (.ref C_BadPlace) "__setattr__" = some (some (.builtin "object.__setattr__")))
    (eex_BadPlace : PySem.W.subIn K (.ref C_BadPlace) (.type "BaseException") = some true)
    (ety_BadPlace : PySem.W.typeIn K (.ref C_BadPlace) = some (.type "type"))
    (ekC_BadPlace : PySem.W.keepIn K (.ref C_BadPlace) = true)
    (ei1_BadPlace : PySem.W.findIn K (.ref C_BadPlace) "__init__" = some (some (.ref fI_BadPlace)))
    (ei2_BadPlace : PySem.W.typeIn K (.ref fI_BadPlace) = some (.type "function"))
    (emr_BadPlace : PySem.W.mroIn K C_BadPlace (.ref C_BadPlace) = some true)
    (esv_BadPlace : PySem.W.subIn K (.ref C_BadPlace) (.type "ValueError") = some true)
    (esu_BadPlace : PySem.W.ks_superIn K C_BadPlace C_BadPlace "__init__" = some (some (.builtin "ValueError.__init__")))
    (elk_BadPlace : K.lookup fI_BadPlace = some ⟨oc_BadPlace, od_BadPlace, .func (PySem.W.ksFn "__init__" "BadPlace.__init__" (defArgs s_BadPlace___init__) (defBody s_BadPlace___init__) (defScope s_BadPlace___init__) .none kV_BadPlace dc_BadPlace pm_BadPlace an_BadPlace (.ref cda_BadPlace) ct_BadPlace cc_BadPlace), osl_BadPlace⟩)
    (ehc_BadPlace : PySem.W.codeIn K (.ref cda_BadPlace) "BadPlace.__init__" = true)
    (eno_BadPlace : PySem.W.findIn K (.ref C_BadPlace) "place" = some none)
    (eco_BadPlace : K.lookup cda_BadPlace = some ⟨ccl_BadPlace, cdd_BadPlace, .fields vs_BadPlace, ccs_BadPlace⟩)
    (ece_BadPlace : K.lookup cc_BadPlace = some ⟨cl_BadPlace, cld_BadPlace, .cell (some (.ref C_BadPlace)), csl_BadPlace⟩)
    (ega_BadPlace : PySem.W.findIn K (.ref C_BadPlace) "__getattribute__" = some (some (.builtin "BaseException.__getattribute__")))
    (egg_BadPlace : PySem.W.findIn K (.ref C_BadPlace) "__getattr__" = some none)
    (ehd_BadPlace : PySem.W.hasDictIn K C_BadPlace = true)
    (ese_BadPlace : PySem.W.subIn K (.ref C_BadPlace) (.ref C_BadPlace) = some true)
    (ebm_BadPlace : PySem.HandSPX.refsVE bm_BadPlace = true)
    (evs_BadPlace : vs_BadPlace[2]? = some (.str file_BadPlace tf_BadPlace))
    (efl_BadPlace : ((l.prog.main.file : Str) == file_BadPlace) = true)
    (emb_BadPlace : bm_BadPlace = [.ref C_QuietError, .type "ValueError", .type "Exception", .type "BaseException", .type "object"])
    (ekl_BadPlace : PySem.W.findIn K (.ref C_BadPlace) "__class__" = some (some (.builtin "object.__class__")))
    (emo_BadPlace : PySem.W.mroIn K C_BadPlace (.type "object") = some true)
    (ecg_BadMode : PySem.W.nsIn K mainGlobals "BadMode" = some (some (.ref C_BadMode)))
    (exL_BadMode : K.lookup C_BadMode = some (excClassObj nm_BadMode q_BadMode C_BadMode N_BadMode bs_BadMode bm_BadMode true sn_BadMode sub_BadMode ab_BadMode col_BadMode dd_BadMode k0_BadMode k1_BadMode k2_BadMode k3_BadMode k5_BadMode "ValueError.__new__"))
    (esa_BadMode : PySem.W.findIn K (.ref C_BadMode) "__setattr__" = some (some (.builtin "object.__setattr__")))
    (eex_BadMode : PySem.W.subIn K (.ref C_BadMode) (.type "BaseException") = some true)
    (ety_BadMode : PySem.W.typeIn K (.ref C_BadMode) = some (.type "type"))
    (ekC_BadMode : PySem.W.keepIn K (.ref C_BadMode) = true)
    (ei1_BadMode : PySem.W.findIn K (.ref C_BadMode) "__init__" = some (some (.ref fI_BadMode)))
    (ei2_BadMode : PySem.W.typeIn K (.ref fI_BadMode) = some (.type "function"))
    (emr_BadMode : PySem.W.mroIn K C_BadMode (.ref C_BadMode) = some true)
    (esv_BadMode : PySem.W.subIn K (.ref C_BadMode) (.type "ValueError") = some true)
    (esu_BadMode : PySem.W.ks_superIn K C_BadMode C_BadMode "__init__" = some (some (.builtin "ValueError.__init__")))
    (elk_BadMode : K.lookup fI_BadMode = some ⟨oc_BadMode, od_BadMode, .func (PySem.W.ksFn "__init__" "BadMode.__init__" (defArgs s_BadMode___init__) (defBody s_BadMode___init__) (defScope s_BadMode___init__) .none kV_BadMode dc_BadMode pm_BadMode an_BadMode (.ref cda_BadMode) ct_BadMode cc_BadMode), osl_BadMode⟩)
    (ehc_BadMode : PySem.W.codeIn K (.ref cda_BadMode) "BadMode.__init__" = true)
    (eno_BadMode : PySem.W.findIn K (.ref C_BadMode) "mode" = some none)
    (eco_BadMode : K.lookup cda_BadMode = some ⟨ccl_BadMode, cdd_BadMode, .fields vs_BadMode, ccs_BadMode⟩)
    (ece_BadMode : K.lookup cc_BadMode = some ⟨cl_BadMode, cld_BadMode, .cell (some (.ref C_BadMode)), csl_BadMode⟩)
    (ega_BadMode : PySem.W.findIn K (.ref C_BadMode) "__getattribute__" = some (some (.builtin "BaseException.__getattribute__")))
    (egg_BadMode : PySem.W.findIn K (.ref C_BadMode) "__getattr__" = some none)
    (ehd_BadMode : PySem.W.hasDictIn K C_BadMode = true)
    (ese_BadMode : PySem.W.subIn K (.ref C_BadMode) (.ref C_BadMode) = some true)
    (ebm_BadMode : PySem.HandSPX.refsVE bm_BadMode = true)
    (evs_BadMode : vs_BadMode[2]? = some (.str file_BadMode tf_BadMode))
    (efl_BadMode : ((l.prog.main.file : Str) == file_BadMode) = true)
    (emb_BadMode : bm_BadMode = [.ref C_QuietError, .type "ValueError", .type "Exception", .type "BaseException", .type "object"])
    (ekl_BadMode : PySem.W.findIn K (.ref C_BadMode) "__class__" = some (some (.builtin "object.__class__")))
    (emo_BadMode : PySem.W.mroIn K C_BadMode (.type "object") = some true)
    (ecg_BadContents : PySem.W.nsIn K mainGlobals "BadContents" = some (some (.ref C_BadContents)))
    (exL_BadContents : K.lookup C_BadContents = some (excClassObj nm_BadContents q_BadContents C_BadContents N_BadContents bs_BadContents bm_BadContents true sn_BadContents sub_BadContents ab_BadContents col_BadContents dd_BadContents k0_BadContents k1_BadContents k2_BadContents k3_BadContents k5_BadContents "ValueError.__new__"))
    (esa_BadContents : PySem.W.findIn K (.ref C_BadContents) "__setattr__" = some (some (.builtin "object.__setattr__")))
    (eex_BadContents : PySem.W.subIn K (.ref C_BadContents) (.type "BaseException") = some true)
    (ety_BadContents : PySem.W.typeIn K (.ref C_BadContents) = some (.type "type"))
    (ekC_BadContents : PySem.W.keepIn K (.ref C_BadContents) = true)
    (ei1_BadContents : PySem.W.findIn K (.ref C_BadContents) "__init__" = some (some (.ref fI_BadContents)))
    (ei2_BadContents : PySem.W.typeIn K (.ref fI_BadContents) = some (.type "function"))
    (emr_BadContents : PySem.W.mroIn K C_BadContents (.ref C_BadContents) = some true)
    (esv_BadContents : PySem.W.subIn K (.ref C_BadContents) (.type "ValueError") = some true)
    (esu_BadContents : PySem.W.ks_superIn K C_BadContents C_BadContents "__init__" = some (some (.builtin "ValueError.__init__")))
    (elk_BadContents : K.lookup fI_BadContents = some ⟨oc_BadContents, od_BadContents, .func (PySem.W.ksFn "__init__" "BadContents.__init__" (defArgs s_BadContents___init__) (defBody s_BadContents___init__) (defScope s_BadContents___init__) .none kV_BadContents dc_BadContents pm_BadContents an_BadContents (.ref cda_BadContents) ct_BadContents cc_BadContents), osl_BadContents⟩)
    (ehc_BadContents : PySem.W.codeIn K (.ref cda_BadContents) "BadContents.__init__" = true)
    (eno_BadContents : PySem.W.findIn K (.ref C_BadContents) "part" = some none)
    (eco_BadContents : K.lookup cda_BadContents = some ⟨ccl_BadContents, cdd_BadContents, .fields vs_BadContents, ccs_BadContents⟩)
    (ece_BadContents : K.lookup cc_BadContents = some ⟨cl_BadContents, cld_BadContents, .cell (some (.ref C_BadContents)), csl_BadContents⟩)
    (ega_BadContents : PySem.W.findIn K (.ref C_BadContents) "__getattribute__" = some (some (.builtin "BaseException.__getattribute__")))
    (egg_BadContents : PySem.W.findIn K (.ref C_BadContents) "__getattr__" = some none)
    (ehd_BadContents : PySem.W.hasDictIn K C_BadContents = true)
    (ese_BadContents : PySem.W.subIn K (.ref C_BadContents) (.ref C_BadContents) = some true)
    (ebm_BadContents : PySem.HandSPX.refsVE bm_BadContents = true)
    (evs_BadContents : vs_BadContents[2]? = some (.str file_BadContents tf_BadContents))
    (efl_BadContents : ((l.prog.main.file : Str) == file_BadContents) = true)
    (emb_BadContents : bm_BadContents = [.ref C_QuietError, .type "ValueError", .type "Exception", .type "BaseException", .type "object"])
    (ekl_BadContents : PySem.W.findIn K (.ref C_BadContents) "__class__" = some (some (.builtin "object.__class__")))
    (emo_BadContents : PySem.W.mroIn K C_BadContents (.type "object") = some true)
    (ecg_BadTurn : PySem.W.nsIn K mainGlobals "BadTurn" = some (some (.ref C_BadTurn)))
    (exL_BadTurn : K.lookup C_BadTurn = some (excClassObj nm_BadTurn q_BadTurn C_BadTurn N_BadTurn bs_BadTurn bm_BadTurn true sn_BadTurn sub_BadTurn ab_BadTurn col_BadTurn dd_BadTurn k0_BadTurn k1_BadTurn k2_BadTurn k3_BadTurn k5_BadTurn "ValueError.__new__"))
    (esa_BadTurn : PySem.W.findIn K (.ref C_BadTurn) "__setattr__" = some (some (.builtin "object.__setattr__")))
    (eex_BadTurn : PySem.W.subIn K (.ref C_BadTurn) (.type "BaseException") = some true)
    (ety_BadTurn : PySem.W.typeIn K (.ref C_BadTurn) = some (.type "type"))
    (ekC_BadTurn : PySem.W.keepIn K (.ref C_BadTurn) = true)
    (ei1_BadTurn : PySem.W.findIn K (.ref C_BadTurn) "__init__" = some (some (.ref fI_BadTurn)))
    (ei2_BadTurn : PySem.W.typeIn K (.ref fI_BadTurn) = some (.type "function"))
    (emr_BadTurn : PySem.W.mroIn K C_BadTurn (.ref C_BadTurn) = some true)
    (esv_BadTurn : PySem.W.subIn K (.ref C_BadTurn) (.type "ValueError") = some true)
    (esu_BadTurn : PySem.W.ks_superIn K C_BadTurn C_BadTurn "__init__" = some (some (.builtin "ValueError.__init__")))
    (elk_BadTurn : K.lookup fI_BadTurn = some ⟨oc_BadTurn, od_BadTurn, .func (PySem.W.ksFn "__init__" "BadTurn.__init__" (defArgs s_BadTurn___init__) (defBody s_BadTurn___init__) (defScope s_BadTurn___init__) .none kV_BadTurn dc_BadTurn pm_BadTurn an_BadTurn (.ref cda_BadTurn) ct_BadTurn cc_BadTurn), osl_BadTurn⟩)
    (ehc_BadTurn : PySem.W.codeIn K (.ref cda_BadTurn) "BadTurn.__init__" = true)
    (eno_BadTurn : PySem.W.findIn K (.ref C_BadTurn) "turn" = some none)
    (eco_BadTurn : K.lookup cda_BadTurn = some ⟨ccl_BadTurn, cdd_BadTurn, .fields vs_BadTurn, ccs_BadTurn⟩)
    (ece_BadTurn : K.lookup cc_BadTurn = some ⟨cl_BadTurn, cld_BadTurn, .cell (some (.ref C_BadTurn)), csl_BadTurn⟩)
    (ega_BadTurn : PySem.W.findIn K (.ref C_BadTurn) "__getattribute__" = some (some (.builtin "BaseException.__getattribute__")))
    (egg_BadTurn : PySem.W.findIn K (.ref C_BadTurn) "__getattr__" = some none)
    (ehd_BadTurn : PySem.W.hasDictIn K C_BadTurn = true)
    (ese_BadTurn : PySem.W.subIn K (.ref C_BadTurn) (.ref C_BadTurn) = some true)
    (ebm_BadTurn : PySem.HandSPX.refsVE bm_BadTurn = true)
    (evs_BadTurn : vs_BadTurn[2]? = some (.str file_BadTurn tf_BadTurn))
    (efl_BadTurn : ((l.prog.main.file : Str) == file_BadTurn) = true)
    (emb_BadTurn : bm_BadTurn = [.ref C_QuietError, .type "ValueError", .type "Exception", .type "BaseException", .type "object"])
    (ekl_BadTurn : PySem.W.findIn K (.ref C_BadTurn) "__class__" = some (some (.builtin "object.__class__")))
    (emo_BadTurn : PySem.W.mroIn K C_BadTurn (.type "object") = some true)
    (ecg_BadPair : PySem.W.nsIn K mainGlobals "BadPair" = some (some (.ref C_BadPair)))
    (exL_BadPair : K.lookup C_BadPair = some (excClassObj nm_BadPair q_BadPair C_BadPair N_BadPair bs_BadPair bm_BadPair true sn_BadPair sub_BadPair ab_BadPair col_BadPair dd_BadPair k0_BadPair k1_BadPair k2_BadPair k3_BadPair k5_BadPair "ValueError.__new__"))
    (esa_BadPair : PySem.W.findIn K (.ref C_BadPair) "__setattr__" = some (some (.builtin "object.__setattr__")))
    (eex_BadPair : PySem.W.subIn K (.ref C_BadPair) (.type "BaseException") = some true)
    (ety_BadPair : PySem.W.typeIn K (.ref C_BadPair) = some (.type "type"))
    (ekC_BadPair : PySem.W.keepIn K (.ref C_BadPair) = true)
    (ei1_BadPair : PySem.W.findIn K (.ref C_BadPair) "__init__" = some (some (.ref fI_BadPair)))
    (ei2_BadPair : PySem.W.typeIn K (.ref fI_BadPair) = some (.type "function"))
    (emr_BadPair : PySem.W.mroIn K C_BadPair (.ref C_BadPair) = some true)
    (esv_BadPair : PySem.W.subIn K (.ref C_BadPair) (.type "ValueError") = some true)
    (esu_BadPair : PySem.W.ks_superIn K C_BadPair C_BadPair "__init__" = some (some (.builtin "ValueError.__init__")))
    (elk_BadPair : K.lookup fI_BadPair = some ⟨oc_BadPair, od_BadPair, .func (PySem.W.ksFn "__init__" "BadPair.__init__" (defArgs s_BadPair___init__) (defBody s_BadPair___init__) (defScope s_BadPair___init__) .none kV_BadPair dc_BadPair pm_BadPair an_BadPair (.ref cda_BadPair) ct_BadPair cc_BadPair), osl_BadPair⟩)
    (ehc_BadPair : PySem.W.codeIn K (.ref cda_BadPair) "BadPair.__init__" = true)
    (eno_BadPair : PySem.W.findIn K (.ref C_BadPair) "pair" = some none)
    (eco_BadPair : K.lookup cda_BadPair = some ⟨ccl_BadPair, cdd_BadPair, .fields vs_BadPair, ccs_BadPair⟩)
    (ece_BadPair : K.lookup cc_BadPair = some ⟨cl_BadPair, cld_BadPair, .cell (some (.ref C_BadPair)), csl_BadPair⟩)
    (ega_BadPair : PySem.W.findIn K (.ref C_BadPair) "__getattribute__" = some (some (.builtin "BaseException.__getattribute__")))
    (egg_BadPair : PySem.W.findIn K (.ref C_BadPair) "__getattr__" = some none)
    (ehd_BadPair : PySem.W.hasDictIn K C_BadPair = true)
    (ese_BadPair : PySem.W.subIn K (.ref C_BadPair) (.ref C_BadPair) = some true)
    (ebm_BadPair : PySem.HandSPX.refsVE bm_BadPair = true)
    (evs_BadPair : vs_BadPair[2]? = some (.str file_BadPair tf_BadPair))
    (efl_BadPair : ((l.prog.main.file : Str) == file_BadPair) = true)
    (emb_BadPair : bm_BadPair = [.ref C_QuietError, .type "ValueError", .type "Exception", .type "BaseException", .type "object"])
    (ekl_BadPair : PySem.W.findIn K (.ref C_BadPair) "__class__" = some (some (.builtin "object.__class__")))
    (emo_BadPair : PySem.W.mroIn K C_BadPair (.type "object") = some true)
    (ecg_BadText : PySem.W.nsIn K mainGlobals "BadText" = some (some (.ref C_BadText)))
    (exL_BadText : K.lookup C_BadText = some (excClassObj nm_BadText q_BadText C_BadText N_BadText bs_BadText bm_BadText true sn_BadText sub_BadText ab_BadText col_BadText dd_BadText k0_BadText k1_BadText k2_BadText k3_BadText k5_BadText "ValueError.__new__"))
    (esa_BadText : PySem.W.findIn K (.ref C_BadText) "__setattr__" = some (some (.builtin "object.__setattr__")))
    (eex_BadText : PySem.W.subIn K (.ref C_BadText) (.type "BaseException") = some true)
    (ety_BadText : PySem.W.typeIn K (.ref C_BadText) = some (.type "type"))
    (ekC_BadText : PySem.W.keepIn K (.ref C_BadText) = true)
    (ei1_BadText : PySem.W.findIn K (.ref C_BadText) "__init__" = some (some (.ref fI_BadText)))
    (ei2_BadText : PySem.W.typeIn K (.ref fI_BadText) = some (.type "function"))
    (emr_BadText : PySem.W.mroIn K C_BadText (.ref C_BadText) = some true)
    (esv_BadText : PySem.W.subIn K (.ref C_BadText) (.type "ValueError") = some true)
    (esu_BadText : PySem.W.ks_superIn K C_BadText C_BadText "__init__" = some (some (.builtin "ValueError.__init__")))
    (elk_BadText : K.lookup fI_BadText = some ⟨oc_BadText, od_BadText, .func (PySem.W.ksFn "__init__" "BadText.__init__" (defArgs s_BadText___init__) (defBody s_BadText___init__) (defScope s_BadText___init__) .none kV_BadText dc_BadText pm_BadText an_BadText (.ref cda_BadText) ct_BadText cc_BadText), osl_BadText⟩)
    (ehc_BadText : PySem.W.codeIn K (.ref cda_BadText) "BadText.__init__" = true)
    (eno_BadText : PySem.W.findIn K (.ref C_BadText) "line" = some none)
    (eco_BadText : K.lookup cda_BadText = some ⟨ccl_BadText, cdd_BadText, .fields vs_BadText, ccs_BadText⟩)
    (ece_BadText : K.lookup cc_BadText = some ⟨cl_BadText, cld_BadText, .cell (some (.ref C_BadText)), csl_BadText⟩)
    (ega_BadText : PySem.W.findIn K (.ref C_BadText) "__getattribute__" = some (some (.builtin "BaseException.__getattribute__")))
    (egg_BadText : PySem.W.findIn K (.ref C_BadText) "__getattr__" = some none)
    (ehd_BadText : PySem.W.hasDictIn K C_BadText = true)
    (ese_BadText : PySem.W.subIn K (.ref C_BadText) (.ref C_BadText) = some true)
    (ebm_BadText : PySem.HandSPX.refsVE bm_BadText = true)
    (evs_BadText : vs_BadText[2]? = some (.str file_BadText tf_BadText))
    (efl_BadText : ((l.prog.main.file : Str) == file_BadText) = true)
    (emb_BadText : bm_BadText = [.ref C_QuietError, .type "ValueError", .type "Exception", .type "BaseException", .type "object"])
    (ekl_BadText : PySem.W.findIn K (.ref C_BadText) "__class__" = some (some (.builtin "object.__class__")))
    (emo_BadText : PySem.W.mroIn K C_BadText (.type "object") = some true)
    (ecg_BadCommand : PySem.W.nsIn K mainGlobals "BadCommand" = some (some (.ref C_BadCommand)))
    (exL_BadCommand : K.lookup C_BadCommand = some (excClassObj nm_BadCommand q_BadCommand C_BadCommand N_BadCommand bs_BadCommand bm_BadCommand true sn_BadCommand sub_BadCommand ab_BadCommand col_BadCommand dd_BadCommand k0_BadCommand k1_BadCommand k2_BadCommand k3_BadCommand k5_BadCommand "ValueError.__new__"))
    (esa_BadCommand : PySem.W.findIn K (.ref C_BadCommand) "__setattr__" = some (some (.builtin "object.__setattr__")))
    (eex_BadCommand : PySem.W.subIn K (.ref C_BadCommand) (.type "BaseException") = some true)
    (ety_BadCommand : PySem.W.typeIn K (.ref C_BadCommand) = some (.type "type"))
    (ekC_BadCommand : PySem.W.keepIn K (.ref C_BadCommand) = true)
    (ei1_BadCommand : PySem.W.findIn K (.ref C_BadCommand) "__init__" = some (some (.ref fI_BadCommand)))
    (ei2_BadCommand : PySem.W.typeIn K (.ref fI_BadCommand) = some (.type "function"))
    (emr_BadCommand : PySem.W.mroIn K C_BadCommand (.ref C_BadCommand) = some true)
    (esv_BadCommand : PySem.W.subIn K (.ref C_BadCommand) (.type "ValueError") = some true)
    (esu_BadCommand : PySem.W.ks_superIn K C_BadCommand C_BadCommand "__init__" = some (some (.builtin "ValueError.__init__")))
    (elk_BadCommand : K.lookup fI_BadCommand = some ⟨oc_BadCommand, od_BadCommand, .func (PySem.W.ksFn "__init__" "BadCommand.__init__" (defArgs s_BadCommand___init__) (defBody s_BadCommand___init__) (defScope s_BadCommand___init__) .none kV_BadCommand dc_BadCommand pm_BadCommand an_BadCommand (.ref cda_BadCommand) ct_BadCommand cc_BadCommand), osl_BadCommand⟩)
    (ehc_BadCommand : PySem.W.codeIn K (.ref cda_BadCommand) "BadCommand.__init__" = true)
    (eno_BadCommand : PySem.W.findIn K (.ref C_BadCommand) "command" = some none)
    (eco_BadCommand : K.lookup cda_BadCommand = some ⟨ccl_BadCommand, cdd_BadCommand, .fields vs_BadCommand, ccs_BadCommand⟩)
    (ece_BadCommand : K.lookup cc_BadCommand = some ⟨cl_BadCommand, cld_BadCommand, .cell (some (.ref C_BadCommand)), csl_BadCommand⟩)
    (ega_BadCommand : PySem.W.findIn K (.ref C_BadCommand) "__getattribute__" = some (some (.builtin "BaseException.__getattribute__")))
    (egg_BadCommand : PySem.W.findIn K (.ref C_BadCommand) "__getattr__" = some none)
    (ehd_BadCommand : PySem.W.hasDictIn K C_BadCommand = true)
    (ese_BadCommand : PySem.W.subIn K (.ref C_BadCommand) (.ref C_BadCommand) = some true)
    (ebm_BadCommand : PySem.HandSPX.refsVE bm_BadCommand = true)
    (evs_BadCommand : vs_BadCommand[2]? = some (.str file_BadCommand tf_BadCommand))
    (efl_BadCommand : ((l.prog.main.file : Str) == file_BadCommand) = true)
    (emb_BadCommand : bm_BadCommand = [.ref C_QuietError, .type "ValueError", .type "Exception", .type "BaseException", .type "object"])
    (ekl_BadCommand : PySem.W.findIn K (.ref C_BadCommand) "__class__" = some (some (.builtin "object.__class__")))
    (emo_BadCommand : PySem.W.mroIn K C_BadCommand (.type "object") = some true)
    (ecg_NoThing : PySem.W.nsIn K mainGlobals "NoThing" = some (some (.ref C_NoThing)))
    (exL_NoThing : K.lookup C_NoThing = some (excClassObj nm_NoThing q_NoThing C_NoThing N_NoThing bs_NoThing bm_NoThing true sn_NoThing sub_NoThing ab_NoThing col_NoThing dd_NoThing k0_NoThing k1_NoThing k2_NoThing k3_NoThing k5_NoThing "ValueError.__new__"))
    (esa_NoThing : PySem.W.findIn K (.ref C_NoThing) "__setattr__" = some (some (.builtin "object.__setattr__")))
    (eex_NoThing : PySem.W.subIn K (.ref C_NoThing) (.type "BaseException") = some true)
    (ety_NoThing : PySem.W.typeIn K (.ref C_NoThing) = some (.type "type"))
    (ekC_NoThing : PySem.W.keepIn K (.ref C_NoThing) = true)
    (ei1_NoThing : PySem.W.findIn K (.ref C_NoThing) "__init__" = some (some (.ref fI_NoThing)))
    (ei2_NoThing : PySem.W.typeIn K (.ref fI_NoThing) = some (.type "function"))
    (emr_NoThing : PySem.W.mroIn K C_NoThing (.ref C_NoThing) = some true)
    (esv_NoThing : PySem.W.subIn K (.ref C_NoThing) (.type "ValueError") = some true)
    (esu_NoThing : PySem.W.ks_superIn K C_NoThing C_NoThing "__init__" = some (some (.builtin "ValueError.__init__")))
    (elk_NoThing : K.lookup fI_NoThing = some ⟨oc_NoThing, od_NoThing, .func (PySem.W.ksFn "__init__" "NoThing.__init__" (defArgs s_NoThing___init__) (defBody s_NoThing___init__) (defScope s_NoThing___init__) .none kV_NoThing dc_NoThing pm_NoThing an_NoThing (.ref cda_NoThing) ct_NoThing cc_NoThing), osl_NoThing⟩)
    (ehc_NoThing : PySem.W.codeIn K (.ref cda_NoThing) "NoThing.__init__" = true)
    (eno_NoThing : PySem.W.findIn K (.ref C_NoThing) "name" = some none)
    (eco_NoThing : K.lookup cda_NoThing = some ⟨ccl_NoThing, cdd_NoThing, .fields vs_NoThing, ccs_NoThing⟩)
    (ece_NoThing : K.lookup cc_NoThing = some ⟨cl_NoThing, cld_NoThing, .cell (some (.ref C_NoThing)), csl_NoThing⟩)
    (ega_NoThing : PySem.W.findIn K (.ref C_NoThing) "__getattribute__" = some (some (.builtin "BaseException.__getattribute__")))
    (egg_NoThing : PySem.W.findIn K (.ref C_NoThing) "__getattr__" = some none)
    (ehd_NoThing : PySem.W.hasDictIn K C_NoThing = true)
    (ese_NoThing : PySem.W.subIn K (.ref C_NoThing) (.ref C_NoThing) = some true)
    (ebm_NoThing : PySem.HandSPX.refsVE bm_NoThing = true)
    (evs_NoThing : vs_NoThing[2]? = some (.str file_NoThing tf_NoThing))
    (efl_NoThing : ((l.prog.main.file : Str) == file_NoThing) = true)
    (emb_NoThing : bm_NoThing = [.ref C_QuietError, .type "ValueError", .type "Exception", .type "BaseException", .type "object"])
    (ekl_NoThing : PySem.W.findIn K (.ref C_NoThing) "__class__" = some (some (.builtin "object.__class__")))
    (emo_NoThing : PySem.W.mroIn K C_NoThing (.type "object") = some true)
    (ecg_NoKey : PySem.W.nsIn K mainGlobals "NoKey" = some (some (.ref C_NoKey)))
    (exL_NoKey : K.lookup C_NoKey = some (excClassObj nm_NoKey q_NoKey C_NoKey N_NoKey bs_NoKey bm_NoKey true sn_NoKey sub_NoKey ab_NoKey col_NoKey dd_NoKey k0_NoKey k1_NoKey k2_NoKey k3_NoKey k5_NoKey "ValueError.__new__"))
    (esa_NoKey : PySem.W.findIn K (.ref C_NoKey) "__setattr__" = some (some (.builtin "object.__setattr__")))
    (eex_NoKey : PySem.W.subIn K (.ref C_NoKey) (.type "BaseException") = some true)
    (ety_NoKey : PySem.W.typeIn K (.ref C_NoKey) = some (.type "type"))
    (ekC_NoKey : PySem.W.keepIn K (.ref C_NoKey) = true)
    (ei1_NoKey : PySem.W.findIn K (.ref C_NoKey) "__init__" = some (some (.ref fI_NoKey)))
    (ei2_NoKey : PySem.W.typeIn K (.ref fI_NoKey) = some (.type "function"))
    (emr_NoKey : PySem.W.mroIn K C_NoKey (.ref C_NoKey) = some true)
    (esv_NoKey : PySem.W.subIn K (.ref C_NoKey) (.type "ValueError") = some true)
    (esu_NoKey : PySem.W.ks_superIn K C_NoKey C_NoKey "__init__" = some (some (.builtin "ValueError.__init__")))
    (elk_NoKey : K.lookup fI_NoKey = some ⟨oc_NoKey, od_NoKey, .func (PySem.W.ksFn "__init__" "NoKey.__init__" (defArgs s_NoKey___init__) (defBody s_NoKey___init__) (defScope s_NoKey___init__) .none kV_NoKey dc_NoKey pm_NoKey an_NoKey (.ref cda_NoKey) ct_NoKey cc_NoKey), osl_NoKey⟩)
    (ehc_NoKey : PySem.W.codeIn K (.ref cda_NoKey) "NoKey.__init__" = true)
    (eno_NoKey : PySem.W.findIn K (.ref C_NoKey) "key" = some none)
    (eco_NoKey : K.lookup cda_NoKey = some ⟨ccl_NoKey, cdd_NoKey, .fields vs_NoKey, ccs_NoKey⟩)
    (ece_NoKey : K.lookup cc_NoKey = some ⟨cl_NoKey, cld_NoKey, .cell (some (.ref C_NoKey)), csl_NoKey⟩)
    (ega_NoKey : PySem.W.findIn K (.ref C_NoKey) "__getattribute__" = some (some (.builtin "BaseException.__getattribute__")))
    (egg_NoKey : PySem.W.findIn K (.ref C_NoKey) "__getattr__" = some none)
    (ehd_NoKey : PySem.W.hasDictIn K C_NoKey = true)
    (ese_NoKey : PySem.W.subIn K (.ref C_NoKey) (.ref C_NoKey) = some true)
    (ebm_NoKey : PySem.HandSPX.refsVE bm_NoKey = true)
    (evs_NoKey : vs_NoKey[2]? = some (.str file_NoKey tf_NoKey))
    (efl_NoKey : ((l.prog.main.file : Str) == file_NoKey) = true)
    (emb_NoKey : bm_NoKey = [.ref C_QuietError, .type "ValueError", .type "Exception", .type "BaseException", .type "object"])
    (ekl_NoKey : PySem.W.findIn K (.ref C_NoKey) "__class__" = some (some (.builtin "object.__class__")))
    (emo_NoKey : PySem.W.mroIn K C_NoKey (.type "object") = some true)
    (ecg_NoPart : PySem.W.nsIn K mainGlobals "NoPart" = some (some (.ref C_NoPart)))
    (exL_NoPart : K.lookup C_NoPart = some (excClassObj nm_NoPart q_NoPart C_NoPart N_NoPart bs_NoPart bm_NoPart true sn_NoPart sub_NoPart ab_NoPart col_NoPart dd_NoPart k0_NoPart k1_NoPart k2_NoPart k3_NoPart k5_NoPart "ValueError.__new__"))
    (esa_NoPart : PySem.W.findIn K (.ref C_NoPart) "__setattr__" = some (some (.builtin "object.__setattr__")))
    (eex_NoPart : PySem.W.subIn K (.ref C_NoPart) (.type "BaseException") = some true)
    (ety_NoPart : PySem.W.typeIn K (.ref C_NoPart) = some (.type "type"))
    (ekC_NoPart : PySem.W.keepIn K (.ref C_NoPart) = true)
    (ei1_NoPart : PySem.W.findIn K (.ref C_NoPart) "__init__" = some (some (.ref fI_NoPart)))
    (ei2_NoPart : PySem.W.typeIn K (.ref fI_NoPart) = some (.type "function"))
    (emr_NoPart : PySem.W.mroIn K C_NoPart (.ref C_NoPart) = some true)
    (esv_NoPart : PySem.W.subIn K (.ref C_NoPart) (.type "ValueError") = some true)
    (esu_NoPart : PySem.W.ks_superIn K C_NoPart C_NoPart "__init__" = some (some (.builtin "ValueError.__init__")))
    (elk_NoPart : K.lookup fI_NoPart = some ⟨oc_NoPart, od_NoPart, .func (PySem.W.ksFn "__init__" "NoPart.__init__" (defArgs s_NoPart___init__) (defBody s_NoPart___init__) (defScope s_NoPart___init__) .none kV_NoPart dc_NoPart pm_NoPart an_NoPart (.ref cda_NoPart) ct_NoPart cc_NoPart), osl_NoPart⟩)
    (ehc_NoPart : PySem.W.codeIn K (.ref cda_NoPart) "NoPart.__init__" = true)
    (eno_NoPart : PySem.W.findIn K (.ref C_NoPart) "name" = some none)
    (eco_NoPart : K.lookup cda_NoPart = some ⟨ccl_NoPart, cdd_NoPart, .fields vs_NoPart, ccs_NoPart⟩)
    (ece_NoPart : K.lookup cc_NoPart = some ⟨cl_NoPart, cld_NoPart, .cell (some (.ref C_NoPart)), csl_NoPart⟩)
    (ega_NoPart : PySem.W.findIn K (.ref C_NoPart) "__getattribute__" = some (some (.builtin "BaseException.__getattribute__")))
    (egg_NoPart : PySem.W.findIn K (.ref C_NoPart) "__getattr__" = some none)
    (ehd_NoPart : PySem.W.hasDictIn K C_NoPart = true)
    (ese_NoPart : PySem.W.subIn K (.ref C_NoPart) (.ref C_NoPart) = some true)
    (ebm_NoPart : PySem.HandSPX.refsVE bm_NoPart = true)
    (evs_NoPart : vs_NoPart[2]? = some (.str file_NoPart tf_NoPart))
    (efl_NoPart : ((l.prog.main.file : Str) == file_NoPart) = true)
    (emb_NoPart : bm_NoPart = [.ref C_QuietError, .type "ValueError", .type "Exception", .type "BaseException", .type "object"])
    (ekl_NoPart : PySem.W.findIn K (.ref C_NoPart) "__class__" = some (some (.builtin "object.__class__")))
    (emo_NoPart : PySem.W.mroIn K C_NoPart (.type "object") = some true)
    (ecg_NoRow : PySem.W.nsIn K mainGlobals "NoRow" = some (some (.ref C_NoRow)))
    (exL_NoRow : K.lookup C_NoRow = some (excClassObj nm_NoRow q_NoRow C_NoRow N_NoRow bs_NoRow bm_NoRow true sn_NoRow sub_NoRow ab_NoRow col_NoRow dd_NoRow k0_NoRow k1_NoRow k2_NoRow k3_NoRow k5_NoRow "ValueError.__new__"))
    (esa_NoRow : PySem.W.findIn K (.ref C_NoRow) "__setattr__" = some (some (.builtin "object.__setattr__")))
    (eex_NoRow : PySem.W.subIn K (.ref C_NoRow) (.type "BaseException") = some true)
    (ety_NoRow : PySem.W.typeIn K (.ref C_NoRow) = some (.type "type"))
    (ekC_NoRow : PySem.W.keepIn K (.ref C_NoRow) = true)
    (ei1_NoRow : PySem.W.findIn K (.ref C_NoRow) "__init__" = some (some (.ref fI_NoRow)))
    (ei2_NoRow : PySem.W.typeIn K (.ref fI_NoRow) = some (.type "function"))
    (emr_NoRow : PySem.W.mroIn K C_NoRow (.ref C_NoRow) = some true)
    (esv_NoRow : PySem.W.subIn K (.ref C_NoRow) (.type "ValueError") = some true)
    (esu_NoRow : PySem.W.ks_superIn K C_NoRow C_NoRow "__init__" = some (some (.builtin "ValueError.__init__")))
    (elk_NoRow : K.lookup fI_NoRow = some ⟨oc_NoRow, od_NoRow, .func (PySem.W.ksFn "__init__" "NoRow.__init__" (defArgs s_NoRow___init__) (defBody s_NoRow___init__) (defScope s_NoRow___init__) .none kV_NoRow dc_NoRow pm_NoRow an_NoRow (.ref cda_NoRow) ct_NoRow cc_NoRow), osl_NoRow⟩)
    (ehc_NoRow : PySem.W.codeIn K (.ref cda_NoRow) "NoRow.__init__" = true)
    (eno_NoRow : PySem.W.findIn K (.ref C_NoRow) "number" = some none)
    (eco_NoRow : K.lookup cda_NoRow = some ⟨ccl_NoRow, cdd_NoRow, .fields vs_NoRow, ccs_NoRow⟩)
    (ece_NoRow : K.lookup cc_NoRow = some ⟨cl_NoRow, cld_NoRow, .cell (some (.ref C_NoRow)), csl_NoRow⟩)
    (ega_NoRow : PySem.W.findIn K (.ref C_NoRow) "__getattribute__" = some (some (.builtin "BaseException.__getattribute__")))
    (egg_NoRow : PySem.W.findIn K (.ref C_NoRow) "__getattr__" = some none)
    (ehd_NoRow : PySem.W.hasDictIn K C_NoRow = true)
    (ese_NoRow : PySem.W.subIn K (.ref C_NoRow) (.ref C_NoRow) = some true)
    (ebm_NoRow : PySem.HandSPX.refsVE bm_NoRow = true)
    (evs_NoRow : vs_NoRow[2]? = some (.str file_NoRow tf_NoRow))
    (efl_NoRow : ((l.prog.main.file : Str) == file_NoRow) = true)
    (emb_NoRow : bm_NoRow = [.ref C_QuietError, .type "ValueError", .type "Exception", .type "BaseException", .type "object"])
    (ekl_NoRow : PySem.W.findIn K (.ref C_NoRow) "__class__" = some (some (.builtin "object.__class__")))
    (emo_NoRow : PySem.W.mroIn K C_NoRow (.type "object") = some true)
    (ecg_NoProbe : PySem.W.nsIn K mainGlobals "NoProbe" = some (some (.ref C_NoProbe)))
    (exL_NoProbe : K.lookup C_NoProbe = some (excClassObj nm_NoProbe q_NoProbe C_NoProbe N_NoProbe bs_NoProbe bm_NoProbe true sn_NoProbe sub_NoProbe ab_NoProbe col_NoProbe dd_NoProbe k0_NoProbe k1_NoProbe k2_NoProbe k3_NoProbe k5_NoProbe "ValueError.__new__"))
    (esa_NoProbe : PySem.W.findIn K (.ref C_NoProbe) "__setattr__" = some (some (.builtin "object.__setattr__")))
    (eex_NoProbe : PySem.W.subIn K (.ref C_NoProbe) (.type "BaseException") = some true)
    (ety_NoProbe : PySem.W.typeIn K (.ref C_NoProbe) = some (.type "type"))
    (ekC_NoProbe : PySem.W.keepIn K (.ref C_NoProbe) = true)
    (ei1_NoProbe : PySem.W.findIn K (.ref C_NoProbe) "__init__" = some (some (.ref fI_NoProbe)))
    (ei2_NoProbe : PySem.W.typeIn K (.ref fI_NoProbe) = some (.type "function"))
    (emr_NoProbe : PySem.W.mroIn K C_NoProbe (.ref C_NoProbe) = some true)
    (esv_NoProbe : PySem.W.subIn K (.ref C_NoProbe) (.type "ValueError") = some true)
    (esu_NoProbe : PySem.W.ks_superIn K C_NoProbe C_NoProbe "__init__" = some (some (.builtin "ValueError.__init__")))
    (elk_NoProbe : K.lookup fI_NoProbe = some ⟨oc_NoProbe, od_NoProbe, .func (PySem.W.ksFn "__init__" "NoProbe.__init__" (defArgs s_NoProbe___init__) (defBody s_NoProbe___init__) (defScope s_NoProbe___init__) .none kV_NoProbe dc_NoProbe pm_NoProbe an_NoProbe (.ref cda_NoProbe) ct_NoProbe cc_NoProbe), osl_NoProbe⟩)
    (ehc_NoProbe : PySem.W.codeIn K (.ref cda_NoProbe) "NoProbe.__init__" = true)
    (eno_NoProbe : PySem.W.findIn K (.ref C_NoProbe) "name" = some none)
    (eco_NoProbe : K.lookup cda_NoProbe = some ⟨ccl_NoProbe, cdd_NoProbe, .fields vs_NoProbe, ccs_NoProbe⟩)
    (ece_NoProbe : K.lookup cc_NoProbe = some ⟨cl_NoProbe, cld_NoProbe, .cell (some (.ref C_NoProbe)), csl_NoProbe⟩)
    (ega_NoProbe : PySem.W.findIn K (.ref C_NoProbe) "__getattribute__" = some (some (.builtin "BaseException.__getattribute__")))
    (egg_NoProbe : PySem.W.findIn K (.ref C_NoProbe) "__getattr__" = some none)
    (ehd_NoProbe : PySem.W.hasDictIn K C_NoProbe = true)
    (ese_NoProbe : PySem.W.subIn K (.ref C_NoProbe) (.ref C_NoProbe) = some true)
    (ebm_NoProbe : PySem.HandSPX.refsVE bm_NoProbe = true)
    (evs_NoProbe : vs_NoProbe[2]? = some (.str file_NoProbe tf_NoProbe))
    (efl_NoProbe : ((l.prog.main.file : Str) == file_NoProbe) = true)
    (emb_NoProbe : bm_NoProbe = [.ref C_QuietError, .type "ValueError", .type "Exception", .type "BaseException", .type "object"])
    (ekl_NoProbe : PySem.W.findIn K (.ref C_NoProbe) "__class__" = some (some (.builtin "object.__class__")))
    (emo_NoProbe : PySem.W.mroIn K C_NoProbe (.type "object") = some true)
    (ecg_NotNested : PySem.W.nsIn K mainGlobals "NotNested" = some (some (.ref C_NotNested)))
    (exL_NotNested : K.lookup C_NotNested = some (excClassObj nm_NotNested q_NotNested C_NotNested N_NotNested bs_NotNested bm_NotNested true sn_NotNested sub_NotNested ab_NotNested col_NotNested dd_NotNested k0_NotNested k1_NotNested k2_NotNested k3_NotNested k5_NotNested "ValueError.__new__"))
    (esa_NotNested : PySem.W.findIn K (.ref C_NotNested) "__setattr__" = some (some (.builtin "object.__setattr__")))
    (eex_NotNested : PySem.W.subIn K (.ref C_NotNested) (.type "BaseException") = some true)
    (ety_NotNested : PySem.W.typeIn K (.ref C_NotNested) = some (.type "type"))
    (ekC_NotNested : PySem.W.keepIn K (.ref C_NotNested) = true)
    (ei1_NotNested : PySem.W.findIn K (.ref C_NotNested) "__init__" = some (some (.ref fI_NotNested)))
    (ei2_NotNested : PySem.W.typeIn K (.ref fI_NotNested) = some (.type "function"))
    (emr_NotNested : PySem.W.mroIn K C_NotNested (.ref C_NotNested) = some true)
    (esv_NotNested : PySem.W.subIn K (.ref C_NotNested) (.type "ValueError") = some true)
    (esu_NotNested : PySem.W.ks_superIn K C_NotNested C_NotNested "__init__" = some (some (.builtin "ValueError.__init__")))
    (elk_NotNested : K.lookup fI_NotNested = some ⟨oc_NotNested, od_NotNested, .func (PySem.W.ksFn "__init__" "NotNested.__init__" (defArgs s_NotNested___init__) (defBody s_NotNested___init__) (defScope s_NotNested___init__) .none kV_NotNested dc_NotNested pm_NotNested an_NotNested (.ref cda_NotNested) ct_NotNested cc_NotNested), osl_NotNested⟩)
    (ehc_NotNested : PySem.W.codeIn K (.ref cda_NotNested) "NotNested.__init__" = true)
    (eno_NotNested : PySem.W.findIn K (.ref C_NotNested) "name" = some none)
    (eco_NotNested : K.lookup cda_NotNested = some ⟨ccl_NotNested, cdd_NotNested, .fields vs_NotNested, ccs_NotNested⟩)
    (ece_NotNested : K.lookup cc_NotNested = some ⟨cl_NotNested, cld_NotNested, .cell (some (.ref C_NotNested)), csl_NotNested⟩)
    (ega_NotNested : PySem.W.findIn K (.ref C_NotNested) "__getattribute__" = some (some (.builtin "BaseException.__getattribute__")))
    (egg_NotNested : PySem.W.findIn K (.ref C_NotNested) "__getattr__" = some none)
    (ehd_NotNested : PySem.W.hasDictIn K C_NotNested = true)
    (ese_NotNested : PySem.W.subIn K (.ref C_NotNested) (.ref C_NotNested) = some true)
    (ebm_NotNested : PySem.HandSPX.refsVE bm_NotNested = true)
    (evs_NotNested : vs_NotNested[2]? = some (.str file_NotNested tf_NotNested))
    (efl_NotNested : ((l.prog.main.file : Str) == file_NotNested) = true)
    (emb_NotNested : bm_NotNested = [.ref C_QuietError, .type "ValueError", .type "Exception", .type "BaseException", .type "object"])
    (ekl_NotNested : PySem.W.findIn K (.ref C_NotNested) "__class__" = some (some (.builtin "object.__class__")))
    (emo_NotNested : PySem.W.mroIn K C_NotNested (.type "object") = some true)
    (ecg_Twice : PySem.W.nsIn K mainGlobals "Twice" = some (some (.ref C_Twice)))
    (exL_Twice : K.lookup C_Twice = some (excClassObj nm_Twice q_Twice C_Twice N_Twice bs_Twice bm_Twice true sn_Twice sub_Twice ab_Twice col_Twice dd_Twice k0_Twice k1_Twice k2_Twice k3_Twice k5_Twice "ValueError.__new__"))
    (esa_Twice : PySem.W.findIn K (.ref C_Twice) "__setattr__" = some (some (.builtin "object.__setattr__")))
    (eex_Twice : PySem.W.subIn K (.ref C_Twice) (.type "BaseException") = some true)
    (ety_Twice : PySem.W.typeIn K (.ref C_Twice) = some (.type "type"))
    (ekC_Twice : PySem.W.keepIn K (.ref C_Twice) = true)
    (ei1_Twice : PySem.W.findIn K (.ref C_Twice) "__init__" = some (some (.ref fI_Twice)))
    (ei2_Twice : PySem.W.typeIn K (.ref fI_Twice) = some (.type "function"))
    (emr_Twice : PySem.W.mroIn K C_Twice (.ref C_Twice) = some true)
    (esv_Twice : PySem.W.subIn K (.ref C_Twice) (.type "ValueError") = some true)
    (esu_Twice : PySem.W.ks_superIn K C_Twice C_Twice "__init__" = some (some (.builtin "ValueError.__init__")))
    (elk_Twice : K.lookup fI_Twice = some ⟨oc_Twice, od_Twice, .func (PySem.W.ksFn "__init__" "Twice.__init__" (defArgs s_Twice___init__) (defBody s_Twice___init__) (defScope s_Twice___init__) .none kV_Twice dc_Twice pm_Twice an_Twice (.ref cda_Twice) ct_Twice cc_Twice), osl_Twice⟩)
    (ehc_Twice : PySem.W.codeIn K (.ref cda_Twice) "Twice.__init__" = true)
    (eno_Twice : PySem.W.findIn K (.ref C_Twice) "name" = some none)
    (eco_Twice : K.lookup cda_Twice = some ⟨ccl_Twice, cdd_Twice, .fields vs_Twice, ccs_Twice⟩)
    (ece_Twice : K.lookup cc_Twice = some ⟨cl_Twice, cld_Twice, .cell (some (.ref C_Twice)), csl_Twice⟩)
    (ega_Twice : PySem.W.findIn K (.ref C_Twice) "__getattribute__" = some (some (.builtin "BaseException.__getattribute__")))
    (egg_Twice : PySem.W.findIn K (.ref C_Twice) "__getattr__" = some none)
    (ehd_Twice : PySem.W.hasDictIn K C_Twice = true)
    (ese_Twice : PySem.W.subIn K (.ref C_Twice) (.ref C_Twice) = some true)
    (ebm_Twice : PySem.HandSPX.refsVE bm_Twice = true)
    (evs_Twice : vs_Twice[2]? = some (.str file_Twice tf_Twice))
    (efl_Twice : ((l.prog.main.file : Str) == file_Twice) = true)
    (emb_Twice : bm_Twice = [.ref C_QuietError, .type "ValueError", .type "Exception", .type "BaseException", .type "object"])
    (ekl_Twice : PySem.W.findIn K (.ref C_Twice) "__class__" = some (some (.builtin "object.__class__")))
    (emo_Twice : PySem.W.mroIn K C_Twice (.type "object") = some true)
    (ecg_Unmatched : PySem.W.nsIn K mainGlobals "Unmatched" = some (some (.ref C_Unmatched)))
    (exL_Unmatched : K.lookup C_Unmatched = some (excClassObj nm_Unmatched q_Unmatched C_Unmatched N_Unmatched bs_Unmatched bm_Unmatched true sn_Unmatched sub_Unmatched ab_Unmatched col_Unmatched dd_Unmatched k0_Unmatched k1_Unmatched k2_Unmatched k3_Unmatched k5_Unmatched "ValueError.__new__"))
    (esa_Unmatched : PySem.W.findIn K (.ref C_Unmatched) "__setattr__" = some (some (.builtin "object.__setattr__")))
    (eex_Unmatched : PySem.W.subIn K (.ref C_Unmatched) (.type "BaseException") = some true)
    (ety_Unmatched : PySem.W.typeIn K (.ref C_Unmatched) = some (.type "type"))
    (ekC_Unmatched : PySem.W.keepIn K (.ref C_Unmatched) = true)
    (ei1_Unmatched : PySem.W.findIn K (.ref C_Unmatched) "__init__" = some (some (.ref fI_Unmatched)))
    (ei2_Unmatched : PySem.W.typeIn K (.ref fI_Unmatched) = some (.type "function"))
    (emr_Unmatched : PySem.W.mroIn K C_Unmatched (.ref C_Unmatched) = some true)
    (esv_Unmatched : PySem.W.subIn K (.ref C_Unmatched) (.type "ValueError") = some true)
    (esu_Unmatched : PySem.W.ks_superIn K C_Unmatched C_Unmatched "__init__" = some (some (.builtin "ValueError.__init__")))
    (elk_Unmatched : K.lookup fI_Unmatched = some ⟨oc_Unmatched, od_Unmatched, .func (PySem.W.ksFn "__init__" "Unmatched.__init__" (defArgs s_Unmatched___init__) (defBody s_Unmatched___init__) (defScope s_Unmatched___init__) .none kV_Unmatched dc_Unmatched pm_Unmatched an_Unmatched (.ref cda_Unmatched) ct_Unmatched cc_Unmatched), osl_Unmatched⟩)
    (ehc_Unmatched : PySem.W.codeIn K (.ref cda_Unmatched) "Unmatched.__init__" = true)
    (eno_Unmatched : PySem.W.findIn K (.ref C_Unmatched) "number" = some none)
    (eco_Unmatched : K.lookup cda_Unmatched = some ⟨ccl_Unmatched, cdd_Unmatched, .fields vs_Unmatched, ccs_Unmatched⟩)
    (ece_Unmatched : K.lookup cc_Unmatched = some ⟨cl_Unmatched, cld_Unmatched, .cell (some (.ref C_Unmatched)), csl_Unmatched⟩)
    (ega_Unmatched : PySem.W.findIn K (.ref C_Unmatched) "__getattribute__" = some (some (.builtin "BaseException.__getattribute__")))
    (egg_Unmatched : PySem.W.findIn K (.ref C_Unmatched) "__getattr__" = some none)
    (ehd_Unmatched : PySem.W.hasDictIn K C_Unmatched = true)
    (ese_Unmatched : PySem.W.subIn K (.ref C_Unmatched) (.ref C_Unmatched) = some true)
    (ebm_Unmatched : PySem.HandSPX.refsVE bm_Unmatched = true)
    (evs_Unmatched : vs_Unmatched[2]? = some (.str file_Unmatched tf_Unmatched))
    (efl_Unmatched : ((l.prog.main.file : Str) == file_Unmatched) = true)
    (emb_Unmatched : bm_Unmatched = [.ref C_QuietError, .type "ValueError", .type "Exception", .type "BaseException", .type "object"])
    (ekl_Unmatched : PySem.W.findIn K (.ref C_Unmatched) "__class__" = some (some (.builtin "object.__class__")))
    (emo_Unmatched : PySem.W.mroIn K C_Unmatched (.type "object") = some true)
    (ecg_TooMany : PySem.W.nsIn K mainGlobals "TooMany" = some (some (.ref C_TooMany)))
    (exL_TooMany : K.lookup C_TooMany = some (excClassObj nm_TooMany q_TooMany C_TooMany N_TooMany bs_TooMany bm_TooMany true sn_TooMany sub_TooMany ab_TooMany col_TooMany dd_TooMany k0_TooMany k1_TooMany k2_TooMany k3_TooMany k5_TooMany "ValueError.__new__"))
    (esa_TooMany : PySem.W.findIn K (.ref C_TooMany) "__setattr__" = some (some (.builtin "object.__setattr__")))
    (eex_TooMany : PySem.W.subIn K (.ref C_TooMany) (.type "BaseException") = some true)
    (ety_TooMany : PySem.W.typeIn K (.ref C_TooMany) = some (.type "type"))
    (ekC_TooMany : PySem.W.keepIn K (.ref C_TooMany) = true)
    (ei1_TooMany : PySem.W.findIn K (.ref C_TooMany) "__init__" = some (some (.ref fI_TooMany)))
    (ei2_TooMany : PySem.W.typeIn K (.ref fI_TooMany) = some (.type "function"))
    (emr_TooMany : PySem.W.mroIn K C_TooMany (.ref C_TooMany) = some true)
    (esv_TooMany : PySem.W.subIn K (.ref C_TooMany) (.type "ValueError") = some true)
    (esu_TooMany : PySem.W.ks_superIn K C_TooMany C_TooMany "__init__" = some (some (.builtin "ValueError.__init__")))
    (elk_TooMany : K.lookup fI_TooMany = some ⟨oc_TooMany, od_TooMany, .func (PySem.W.ksFn "__init__" "TooMany.__init__" (defArgs s_TooMany___init__) (defBody s_TooMany___init__) (defScope s_TooMany___init__) .none kV_TooMany dc_TooMany pm_TooMany an_TooMany (.ref cda_TooMany) ct_TooMany cc_TooMany), osl_TooMany⟩)
    (ehc_TooMany : PySem.W.codeIn K (.ref cda_TooMany) "TooMany.__init__" = true)
    (eno_TooMany : PySem.W.findIn K (.ref C_TooMany) "limit" = some none)
    (eco_TooMany : K.lookup cda_TooMany = some ⟨ccl_TooMany, cdd_TooMany, .fields vs_TooMany, ccs_TooMany⟩)
    (ece_TooMany : K.lookup cc_TooMany = some ⟨cl_TooMany, cld_TooMany, .cell (some (.ref C_TooMany)), csl_TooMany⟩)
    (ega_TooMany : PySem.W.findIn K (.ref C_TooMany) "__getattribute__" = some (some (.builtin "BaseException.__getattribute__")))
    (egg_TooMany : PySem.W.findIn K (.ref C_TooMany) "__getattr__" = some none)
    (ehd_TooMany : PySem.W.hasDictIn K C_TooMany = true)
    (ese_TooMany : PySem.W.subIn K (.ref C_TooMany) (.ref C_TooMany) = some true)
    (ebm_TooMany : PySem.HandSPX.refsVE bm_TooMany = true)
    (evs_TooMany : vs_TooMany[2]? = some (.str file_TooMany tf_TooMany))
    (efl_TooMany : ((l.prog.main.file : Str) == file_TooMany) = true)
    (emb_TooMany : bm_TooMany = [.ref C_QuietError, .type "ValueError", .type "Exception", .type "BaseException", .type "object"])
    (ekl_TooMany : PySem.W.findIn K (.ref C_TooMany) "__class__" = some (some (.builtin "object.__class__")))
    (emo_TooMany : PySem.W.mroIn K C_TooMany (.type "object") = some true)
    (ecg_Watched : PySem.W.nsIn K mainGlobals "Watched" = some (some (.ref C_Watched)))
    (exL_Watched : K.lookup C_Watched = some (excClassObj nm_Watched q_Watched C_Watched N_Watched bs_Watched bm_Watched true sn_Watched sub_Watched ab_Watched col_Watched dd_Watched k0_Watched k1_Watched k2_Watched k3_Watched k5_Watched "ValueError.__new__"))
    (esa_Watched : PySem.W.findIn K (.ref C_Watched) "__setattr__" = some (some (.builtin "object.__setattr__")))
    (eex_Watched : PySem.W.subIn K (.ref C_Watched) (.type "BaseException") = some true)
    (ety_Watched : PySem.W.typeIn K (.ref C_Watched) = some (.type "type"))
    (ekC_Watched : PySem.W.keepIn K (.ref C_Watched) = true)
    (ei1_Watched : PySem.W.findIn K (.ref C_Watched) "__init__" = some (some (.ref fI_Watched)))
    (ei2_Watched : PySem.W.typeIn K (.ref fI_Watched) = some (.type "function"))
    (emr_Watched : PySem.W.mroIn K C_Watched (.ref C_Watched) = some true)
    (esv_Watched : PySem.W.subIn K (.ref C_Watched) (.type "ValueError") = some true)
    (esu_Watched : PySem.W.ks_superIn K C_Watched C_Watched "__init__" = some (some (.builtin "ValueError.__init__")))
    (elk_Watched : K.lookup fI_Watched = some ⟨oc_Watched, od_Watched, .func (PySem.W.ksFn "__init__" "Watched.__init__" (defArgs s_Watched___init__) (defBody s_Watched___init__) (defScope s_Watched___init__) .none kV_Watched dc_Watched pm_Watched an_Watched (.ref cda_Watched) ct_Watched cc_Watched), osl_Watched⟩)
    (ehc_Watched : PySem.W.codeIn K (.ref cda_Watched) "Watched.__init__" = true)
    (eco_Watched : K.lookup cda_Watched = some ⟨ccl_Watched, cdd_Watched, .fields vs_Watched, ccs_Watched⟩)
    (ece_Watched : K.lookup cc_Watched = some ⟨cl_Watched, cld_Watched, .cell (some (.ref C_Watched)), csl_Watched⟩)
    (ega_Watched : PySem.W.findIn K (.ref C_Watched) "__getattribute__" = some (some (.builtin "BaseException.__getattribute__")))
    (egg_Watched : PySem.W.findIn K (.ref C_Watched) "__getattr__" = some none)
    (ehd_Watched : PySem.W.hasDictIn K C_Watched = true)
    (ese_Watched : PySem.W.subIn K (.ref C_Watched) (.ref C_Watched) = some true)
    (ebm_Watched : PySem.HandSPX.refsVE bm_Watched = true)
    (evs_Watched : vs_Watched[2]? = some (.str file_Watched tf_Watched))
    (efl_Watched : ((l.prog.main.file : Str) == file_Watched) = true)
    (emb_Watched : bm_Watched = [.ref C_QuietError, .type "ValueError", .type "Exception", .type "BaseException", .type "object"])
    (ekl_Watched : PySem.W.findIn K (.ref C_Watched) "__class__" = some (some (.builtin "object.__class__")))
    (emo_Watched : PySem.W.mroIn K C_Watched (.type "object") = some true)
    (ecg_Over : PySem.W.nsIn K mainGlobals "Over" = some (some (.ref C_Over)))
    (exL_Over : K.lookup C_Over = some (excClassObj nm_Over q_Over C_Over N_Over bs_Over bm_Over true sn_Over sub_Over ab_Over col_Over dd_Over k0_Over k1_Over k2_Over k3_Over k5_Over "ValueError.__new__"))
    (esa_Over : PySem.W.findIn K (.ref C_Over) "__setattr__" = some (some (.builtin "object.__setattr__")))
    (eex_Over : PySem.W.subIn K (.ref C_Over) (.type "BaseException") = some true)
    (ety_Over : PySem.W.typeIn K (.ref C_Over) = some (.type "type"))
    (ekC_Over : PySem.W.keepIn K (.ref C_Over) = true)
    (ei1_Over : PySem.W.findIn K (.ref C_Over) "__init__" = some (some (.ref fI_Over)))
    (ei2_Over : PySem.W.typeIn K (.ref fI_Over) = some (.type "function"))
    (emr_Over : PySem.W.mroIn K C_Over (.ref C_Over) = some true)
    (esv_Over : PySem.W.subIn K (.ref C_Over) (.type "ValueError") = some true)
    (esu_Over : PySem.W.ks_superIn K C_Over C_Over "__init__" = some (some (.builtin "ValueError.__init__")))
    (elk_Over : K.lookup fI_Over = some ⟨oc_Over, od_Over, .func (PySem.W.ksFn "__init__" "Over.__init__" (defArgs s_Over___init__) (defBody s_Over___init__) (defScope s_Over___init__) .none kV_Over dc_Over pm_Over an_Over (.ref cda_Over) ct_Over cc_Over), osl_Over⟩)
    (ehc_Over : PySem.W.codeIn K (.ref cda_Over) "Over.__init__" = true)
    (eco_Over : K.lookup cda_Over = some ⟨ccl_Over, cdd_Over, .fields vs_Over, ccs_Over⟩)
    (ece_Over : K.lookup cc_Over = some ⟨cl_Over, cld_Over, .cell (some (.ref C_Over)), csl_Over⟩)
    (ega_Over : PySem.W.findIn K (.ref C_Over) "__getattribute__" = some (some (.builtin "BaseException.__getattribute__")))
    (egg_Over : PySem.W.findIn K (.ref C_Over) "__getattr__" = some none)
    (ehd_Over : PySem.W.hasDictIn K C_Over = true)
    (ese_Over : PySem.W.subIn K (.ref C_Over) (.ref C_Over) = some true)
    (ebm_Over : PySem.HandSPX.refsVE bm_Over = true)
    (evs_Over : vs_Over[2]? = some (.str file_Over tf_Over))
    (efl_Over : ((l.prog.main.file : Str) == file_Over) = true)
    (emb_Over : bm_Over = [.ref C_QuietError, .type "ValueError", .type "Exception", .type "BaseException", .type "object"])
    (ekl_Over : PySem.W.findIn K (.ref C_Over) "__class__" = some (some (.builtin "object.__class__")))
    (emo_Over : PySem.W.mroIn K C_Over (.type "object") = some true)
    (ra_QuietError : PySem.W.nsIn K mainGlobals "QuietError" = some (some (.ref C_QuietError))) (ehd_QuietError : PySem.W.hasDictIn K C_QuietError = true) (ety_QuietError : PySem.W.typeIn K (.ref C_QuietError) = some (.type "type")) (zo_ValueError : PySem.W.nsIn K mainGlobals "ValueError" = some none) (zo_LookupError : PySem.W.nsIn K mainGlobals "LookupError" = some none)
    (ndE : ([C_BadName, C_BadDeed, C_BadRow, C_BadPlace, C_BadMode, C_BadContents, C_BadTurn, C_BadPair, C_BadText, C_BadCommand, C_NoThing, C_NoKey, C_NoPart, C_NoRow, C_NoProbe, C_NotNested, C_Twice, C_Unmatched, C_TooMany, C_Watched, C_Over, C_QuietError] : List Addr).Nodup) :
    ∃ fd : FuncData, (∀ (s : Shared) (v : Value), BindsTo s fd ⟨[v], []⟩ [("_law_script", v)]) ∧ ∀ base : Heap, K.In base → base.Ns mainGlobals mg → FnOk l.prog w K mg base CX0 11 fa fd ["_law_script"] (spLaw K) := by
  have D__law_pool : Dfn K mg "_law_pool" s__law_pool ["_law_script"] := dfn_mk X G a0 l0 c0 k0 fun _ _ _ _ _ _ us hl => match us, hl with | [_], _ => rfl
  have D__law_draw : Dfn K mg "_law_draw" s__law_draw ["_law_pool_here", "_law_many"] := dfn_mk X G a1 l1 c1 k1 fun _ _ _ _ _ _ us hl => match us, hl with | [_, _], _ => rfl
  have D__law_word : Dfn K mg "_law_word" s__law_word ["_law_pool_here"] := dfn_mk X G a2 l2 c2 k2 fun _ _ _ _ _ _ us hl => match us, hl with | [_], _ => rfl
  have D__law_object : Dfn K mg "_law_object" s__law_object ["_law_pool_here", "_law_depth"] := dfn_mk X G a3 l3 c3 k3 fun _ _ _ _ _ _ us hl => match us, hl with | [_, _], _ => rfl
  have D__law_same : Dfn K mg "_law_same" s__law_same ["_law_actual", "_law_due"] := dfn_mk X G a4 l4 c4 k4 fun _ _ _ _ _ _ us hl => match us, hl with | [_, _], _ => rfl
  have D__law_classes : Dfn K mg "_law_classes" s__law_classes ["_law_error"] := dfn_mk X G a5 l5 c5 k5 fun _ _ _ _ _ _ us hl => match us, hl with | [_], _ => rfl
  have D__law_attributes : Dfn K mg "_law_attributes" s__law_attributes ["_law_errors"] := dfn_mk X G a6 l6 c6 k6 fun _ _ _ _ _ _ us hl => match us, hl with | [_], _ => rfl
  have B : Bl mg := ⟨PySem.W.mg_none_of X G z_len, PySem.W.mg_none_of X G z_int, PySem.W.mg_none_of X G z_list, PySem.W.mg_none_of X G z_tuple, PySem.W.mg_none_of X G z_isi, PySem.W.mg_none_of X G z_range, PySem.W.mg_none_of X G z_all, PySem.W.mg_none_of X G z_any, PySem.W.mg_none_of X G z_str, PySem.W.mg_none_of X G z_bool, PySem.W.mg_none_of X G z_enum, PySem.W.mg_none_of X G z_zip, PySem.W.mg_none_of X G z_sum, PySem.W.mg_none_of X G z_max, PySem.W.mg_none_of X G z_min, PySem.W.mg_none_of X G z_sorted, PySem.W.mg_none_of X G z_set, PySem.W.mg_none_of X G z_dict⟩
  have X_BadName : ∀ base, ErrX l.prog w K mg base "BadName" C_BadName "name" := fun base => errX_mk (st := s_BadName___init__) X G ecg_BadName exL_BadName esa_BadName eex_BadName ety_BadName ekC_BadName ei1_BadName ei2_BadName emr_BadName esv_BadName esu_BadName oq z_super elk_BadName ehc_BadName eno_BadName eco_BadName ece_BadName ega_BadName egg_BadName ehd_BadName ese_BadName ebm_BadName evs_BadName efl_BadName tsup rfl ⟨_, rfl, rfl⟩ ⟨rfl, rfl, rfl, rfl⟩ (by decide +kernel) ⟨rfl, rfl, rfl⟩ (by decide) ⟨by decide, by decide⟩ (fun L => rfl) (fun L => rfl) (fun L => ⟨_, rfl⟩) (fun L => rfl) (fun us hl => match us, hl with | [_, _], _ => rfl)
  have X_BadDeed : ∀ base, ErrX l.prog w K mg base "BadDeed" C_BadDeed "deed" := fun base => errX_mk (st := s_BadDeed___init__) X G ecg_BadDeed exL_BadDeed esa_BadDeed eex_BadDeed ety_BadDeed ekC_BadDeed ei1_BadDeed ei2_BadDeed emr_BadDeed esv_BadDeed esu_BadDeed oq z_super elk_BadDeed ehc_BadDeed eno_BadDeed eco_BadDeed ece_BadDeed ega_BadDeed egg_BadDeed ehd_BadDeed ese_BadDeed ebm_BadDeed evs_BadDeed efl_BadDeed tsup rfl ⟨_, rfl, rfl⟩ ⟨rfl, rfl, rfl, rfl⟩ (by decide +kernel) ⟨rfl, rfl, rfl⟩ (by decide) ⟨by decide, by decide⟩ (fun L => rfl) (fun L => rfl) (fun L => ⟨_, rfl⟩) (fun L => rfl) (fun us hl => match us, hl with | [_, _], _ => rfl)
  have X_BadRow : ∀ base, ErrX l.prog w K mg base "BadRow" C_BadRow "number" := fun base => errX_mk (st := s_BadRow___init__) X G ecg_BadRow exL_BadRow esa_BadRow eex_BadRow ety_BadRow ekC_BadRow ei1_BadRow ei2_BadRow emr_BadRow esv_BadRow esu_BadRow oq z_super elk_BadRow ehc_BadRow eno_BadRow eco_BadRow ece_BadRow ega_BadRow egg_BadRow ehd_BadRow ese_BadRow ebm_BadRow evs_BadRow efl_BadRow tsup rfl ⟨_, rfl, rfl⟩ ⟨rfl, rfl, rfl, rfl⟩ (by decide +kernel) ⟨rfl, rfl, rfl⟩ (by decide) ⟨by decide, by decide⟩ (fun L => rfl) (fun L => rfl) (fun L => ⟨_, rfl⟩) (fun L => rfl) (fun us hl => match us, hl with | [_, _], _ => rfl)
  have X_BadPlace : ∀ base, ErrX l.prog w K mg base "BadPlace" C_BadPlace "place" := fun base => errX_mk (st := s_BadPlace___init__) X G ecg_BadPlace exL_BadPlace esa_BadPlace eex_BadPlace ety_BadPlace ekC_BadPlace ei1_BadPlace ei2_BadPlace emr_BadPlace esv_BadPlace esu_BadPlace oq z_super elk_BadPlace ehc_BadPlace eno_BadPlace eco_BadPlace ece_BadPlace ega_BadPlace egg_BadPlace ehd_BadPlace ese_BadPlace ebm_BadPlace evs_BadPlace efl_BadPlace tsup rfl ⟨_, rfl, rfl⟩ ⟨rfl, rfl, rfl, rfl⟩ (by decide +kernel) ⟨rfl, rfl, rfl⟩ (by decide) ⟨by decide, by decide⟩ (fun L => rfl) (fun L => rfl) (fun L => ⟨_, rfl⟩) (fun L => rfl) (fun us hl => match us, hl with | [_, _], _ => rfl)
  have X_BadMode : ∀ base, ErrX l.prog w K mg base "BadMode" C_BadMode "mode" := fun base => errX_mk (st := s_BadMode___init__) X G ecg_BadMode exL_BadMode esa_BadMode eex_BadMode ety_BadMode ekC_BadMode ei1_BadMode ei2_BadMode emr_BadMode esv_BadMode esu_BadMode oq z_super elk_BadMode ehc_BadMode eno_BadMode eco_BadMode ece_BadMode ega_BadMode egg_BadMode ehd_BadMode ese_BadMode ebm_BadMode evs_BadMode efl_BadMode tsup rfl ⟨_, rfl, rfl⟩ ⟨rfl, rfl, rfl, rfl⟩ (by decide +kernel) ⟨rfl, rfl, rfl⟩ (by decide) ⟨by decide, by decide⟩ (fun L => rfl) (fun L => rfl) (fun L => ⟨_, rfl⟩) (fun L => rfl) (fun us hl => match us, hl with | [_, _], _ => rfl)
  have X_BadContents : ∀ base, ErrX l.prog w K mg base "BadContents" C_BadContents "part" := fun base => errX_mk (st := s_BadContents___init__) X G ecg_BadContents exL_BadContents esa_BadContents eex_BadContents ety_BadContents ekC_BadContents ei1_BadContents ei2_BadContents emr_BadContents esv_BadContents esu_BadContents oq z_super elk_BadContents ehc_BadContents eno_BadContents eco_BadContents ece_BadContents ega_BadContents egg_BadContents ehd_BadContents ese_BadContents ebm_BadContents evs_BadContents efl_BadContents tsup rfl ⟨_, rfl, rfl⟩ ⟨rfl, rfl, rfl, rfl⟩ (by decide +kernel) ⟨rfl, rfl, rfl⟩ (by decide) ⟨by decide, by decide⟩ (fun L => rfl) (fun L => rfl) (fun L => ⟨_, rfl⟩) (fun L => rfl) (fun us hl => match us, hl with | [_, _], _ => rfl)
  have X_BadTurn : ∀ base, ErrX l.prog w K mg base "BadTurn" C_BadTurn "turn" := fun base => errX_mk (st := s_BadTurn___init__) X G ecg_BadTurn exL_BadTurn esa_BadTurn eex_BadTurn ety_BadTurn ekC_BadTurn ei1_BadTurn ei2_BadTurn emr_BadTurn esv_BadTurn esu_BadTurn oq z_super elk_BadTurn ehc_BadTurn eno_BadTurn eco_BadTurn ece_BadTurn ega_BadTurn egg_BadTurn ehd_BadTurn ese_BadTurn ebm_BadTurn evs_BadTurn efl_BadTurn tsup rfl ⟨_, rfl, rfl⟩ ⟨rfl, rfl, rfl, rfl⟩ (by decide +kernel) ⟨rfl, rfl, rfl⟩ (by decide) ⟨by decide, by decide⟩ (fun L => rfl) (fun L => rfl) (fun L => ⟨_, rfl⟩) (fun L => rfl) (fun us hl => match us, hl with | [_, _], _ => rfl)
  have X_BadPair : ∀ base, ErrX l.prog w K mg base "BadPair" C_BadPair "pair" := fun base => errX_mk (st := s_BadPair___init__) X G ecg_BadPair exL_BadPair esa_BadPair eex_BadPair ety_BadPair ekC_BadPair ei1_BadPair ei2_BadPair emr_BadPair esv_BadPair esu_BadPair oq z_super elk_BadPair ehc_BadPair eno_BadPair eco_BadPair ece_BadPair ega_BadPair egg_BadPair ehd_BadPair ese_BadPair ebm_BadPair evs_BadPair efl_BadPair tsup rfl ⟨_, rfl, rfl⟩ ⟨rfl, rfl, rfl, rfl⟩ (by decide +kernel) ⟨rfl, rfl, rfl⟩ (by decide) ⟨by decide, by decide⟩ (fun L => rfl) (fun L => rfl) (fun L => ⟨_, rfl⟩) (fun L => rfl) (fun us hl => match us, hl with | [_, _], _ => rfl)
  have X_BadText : ∀ base, ErrX l.prog w K mg base "BadText" C_BadText "line" := fun base => errX_mk (st := s_BadText___init__) X G ecg_BadText exL_BadText esa_BadText eex_BadText ety_BadText ekC_BadText ei1_BadText ei2_BadText emr_BadText esv_BadText esu_BadText oq z_super elk_BadText ehc_BadText eno_BadText eco_BadText ece_BadText ega_BadText egg_BadText ehd_BadText ese_BadText ebm_BadText evs_BadText efl_BadText tsup rfl ⟨_, rfl, rfl⟩ ⟨rfl, rfl, rfl, rfl⟩ (by decide +kernel) ⟨rfl, rfl, rfl⟩ (by decide) ⟨by decide, by decide⟩ (fun L => rfl) (fun L => rfl) (fun L => ⟨_, rfl⟩) (fun L => rfl) (fun us hl => match us, hl with | [_, _], _ => rfl)
  have X_BadCommand : ∀ base, ErrX l.prog w K mg base "BadCommand" C_BadCommand "command" := fun base => errX_mk (st := s_BadCommand___init__) X G ecg_BadCommand exL_BadCommand esa_BadCommand eex_BadCommand ety_BadCommand ekC_BadCommand ei1_BadCommand ei2_BadCommand emr_BadCommand esv_BadCommand esu_BadCommand oq z_super elk_BadCommand ehc_BadCommand eno_BadCommand eco_BadCommand ece_BadCommand ega_BadCommand egg_BadCommand ehd_BadCommand ese_BadCommand ebm_BadCommand evs_BadCommand efl_BadCommand tsup rfl ⟨_, rfl, rfl⟩ ⟨rfl, rfl, rfl, rfl⟩ (by decide +kernel) ⟨rfl, rfl, rfl⟩ (by decide) ⟨by decide, by decide⟩ (fun L => rfl) (fun L => rfl) (fun L => ⟨_, rfl⟩) (fun L => rfl) (fun us hl => match us, hl with | [_, _], _ => rfl)
  have X_NoThing : ∀ base, ErrX l.prog w K mg base "NoThing" C_NoThing "name" := fun base => errX_mk (st := s_NoThing___init__) X G ecg_NoThing exL_NoThing esa_NoThing eex_NoThing ety_NoThing ekC_NoThing ei1_NoThing ei2_NoThing emr_NoThing esv_NoThing esu_NoThing oq z_super elk_NoThing ehc_NoThing eno_NoThing eco_NoThing ece_NoThing ega_NoThing egg_NoThing ehd_NoThing ese_NoThing ebm_NoThing evs_NoThing efl_NoThing tsup rfl ⟨_, rfl, rfl⟩ ⟨rfl, rfl, rfl, rfl⟩ (by decide +kernel) ⟨rfl, rfl, rfl⟩ (by decide) ⟨by decide, by decide⟩ (fun L => rfl) (fun L => rfl) (fun L => ⟨_, rfl⟩) (fun L => rfl) (fun us hl => match us, hl with | [_, _], _ => rfl)
  have X_NoKey : ∀ base, ErrX l.prog w K mg base "NoKey" C_NoKey "key" := fun base => errX_mk (st := s_NoKey___init__) X G ecg_NoKey exL_NoKey esa_NoKey eex_NoKey ety_NoKey ekC_NoKey ei1_NoKey ei2_NoKey emr_NoKey esv_NoKey esu_NoKey oq z_super elk_NoKey ehc_NoKey eno_NoKey eco_NoKey ece_NoKey ega_NoKey egg_NoKey ehd_NoKey ese_NoKey ebm_NoKey evs_NoKey efl_NoKey tsup rfl ⟨_, rfl, rfl⟩ ⟨rfl, rfl, rfl, rfl⟩ (by decide +kernel) ⟨rfl, rfl, rfl⟩ (by decide) ⟨by decide, by decide⟩ (fun L => rfl) (fun L => rfl) (fun L => ⟨_, rfl⟩) (fun L => rfl) (fun us hl => match us, hl with | [_, _], _ => rfl)
  have X_NoPart : ∀ base, ErrX l.prog w K mg base "NoPart" C_NoPart "name" := fun base => errX_mk (st := s_NoPart___init__) X G ecg_NoPart exL_NoPart esa_NoPart eex_NoPart ety_NoPart ekC_NoPart ei1_NoPart ei2_NoPart emr_NoPart esv_NoPart esu_NoPart oq z_super elk_NoPart ehc_NoPart eno_NoPart eco_NoPart ece_NoPart ega_NoPart egg_NoPart ehd_NoPart ese_NoPart ebm_NoPart evs_NoPart efl_NoPart tsup rfl ⟨_, rfl, rfl⟩ ⟨rfl, rfl, rfl, rfl⟩ (by decide +kernel) ⟨rfl, rfl, rfl⟩ (by decide) ⟨by decide, by decide⟩ (fun L => rfl) (fun L => rfl) (fun L => ⟨_, rfl⟩) (fun L => rfl) (fun us hl => match us, hl with | [_, _], _ => rfl)
  have X_NoRow : ∀ base, ErrX l.prog w K mg base "NoRow" C_NoRow "number" := fun base => errX_mk (st := s_NoRow___init__) X G ecg_NoRow exL_NoRow esa_NoRow eex_NoRow ety_NoRow ekC_NoRow ei1_NoRow ei2_NoRow emr_NoRow esv_NoRow esu_NoRow oq z_super elk_NoRow ehc_NoRow eno_NoRow eco_NoRow ece_NoRow ega_NoRow egg_NoRow ehd_NoRow ese_NoRow ebm_NoRow evs_NoRow efl_NoRow tsup rfl ⟨_, rfl, rfl⟩ ⟨rfl, rfl, rfl, rfl⟩ (by decide +kernel) ⟨rfl, rfl, rfl⟩ (by decide) ⟨by decide, by decide⟩ (fun L => rfl) (fun L => rfl) (fun L => ⟨_, rfl⟩) (fun L => rfl) (fun us hl => match us, hl with | [_, _], _ => rfl)
  have X_NoProbe : ∀ base, ErrX l.prog w K mg base "NoProbe" C_NoProbe "name" := fun base => errX_mk (st := s_NoProbe___init__) X G ecg_NoProbe exL_NoProbe esa_NoProbe eex_NoProbe ety_NoProbe ekC_NoProbe ei1_NoProbe ei2_NoProbe emr_NoProbe esv_NoProbe esu_NoProbe oq z_super elk_NoProbe ehc_NoProbe eno_NoProbe eco_NoProbe ece_NoProbe ega_NoProbe egg_NoProbe ehd_NoProbe ese_NoProbe ebm_NoProbe evs_NoProbe efl_NoProbe tsup rfl ⟨_, rfl, rfl⟩ ⟨rfl, rfl, rfl, rfl⟩ (by decide +kernel) ⟨rfl, rfl, rfl⟩ (by decide) ⟨by decide, by decide⟩ (fun L => rfl) (fun L => rfl) (fun L => ⟨_, rfl⟩) (fun L => rfl) (fun us hl => match us, hl with | [_, _], _ => rfl)
  have X_NotNested : ∀ base, ErrX l.prog w K mg base "NotNested" C_NotNested "name" := fun base => errX_mk (st := s_NotNested___init__) X G ecg_NotNested exL_NotNested esa_NotNested eex_NotNested ety_NotNested ekC_NotNested ei1_NotNested ei2_NotNested emr_NotNested esv_NotNested esu_NotNested oq z_super elk_NotNested ehc_NotNested eno_NotNested eco_NotNested ece_NotNested ega_NotNested egg_NotNested ehd_NotNested ese_NotNested ebm_NotNested evs_NotNested efl_NotNested tsup rfl ⟨_, rfl, rfl⟩ ⟨rfl, rfl, rfl, rfl⟩ (by decide +kernel) ⟨rfl, rfl, rfl⟩ (by decide) ⟨by decide, by decide⟩ (fun L => rfl) (fun L => rfl) (fun L => ⟨_, rfl⟩) (fun L => rfl) (fun us hl => match us, hl with | [_, _], _ => rfl)
  have X_Twice : ∀ base, ErrX l.prog w K mg base "Twice" C_Twice "name" := fun base => errX_mk (st := s_Twice___init__) X G ecg_Twice exL_Twice esa_Twice eex_Twice ety_Twice ekC_Twice ei1_Twice ei2_Twice emr_Twice esv_Twice esu_Twice oq z_super elk_Twice ehc_Twice eno_Twice eco_Twice ece_Twice ega_Twice egg_Twice ehd_Twice ese_Twice ebm_Twice evs_Twice efl_Twice tsup rfl ⟨_, rfl, rfl⟩ ⟨rfl, rfl, rfl, rfl⟩ (by decide +kernel) ⟨rfl, rfl, rfl⟩ (by decide) ⟨by decide, by decide⟩ (fun L => rfl) (fun L => rfl) (fun L => ⟨_, rfl⟩) (fun L => rfl) (fun us hl => match us, hl with | [_, _], _ => rfl)
  have X_Unmatched : ∀ base, ErrX l.prog w K mg base "Unmatched" C_Unmatched "number" := fun base => errX_mk (st := s_Unmatched___init__) X G ecg_Unmatched exL_Unmatched esa_Unmatched eex_Unmatched ety_Unmatched ekC_Unmatched ei1_Unmatched ei2_Unmatched emr_Unmatched esv_Unmatched esu_Unmatched oq z_super elk_Unmatched ehc_Unmatched eno_Unmatched eco_Unmatched ece_Unmatched ega_Unmatched egg_Unmatched ehd_Unmatched ese_Unmatched ebm_Unmatched evs_Unmatched efl_Unmatched tsup rfl ⟨_, rfl, rfl⟩ ⟨rfl, rfl, rfl, rfl⟩ (by decide +kernel) ⟨rfl, rfl, rfl⟩ (by decide) ⟨by decide, by decide⟩ (fun L => rfl) (fun L => rfl) (fun L => ⟨_, rfl⟩) (fun L => rfl) (fun us hl => match us, hl with | [_, _], _ => rfl)
  have X_TooMany : ∀ base, ErrX l.prog w K mg base "TooMany" C_TooMany "limit" := fun base => errX_mk (st := s_TooMany___init__) X G ecg_TooMany exL_TooMany esa_TooMany eex_TooMany ety_TooMany ekC_TooMany ei1_TooMany ei2_TooMany emr_TooMany esv_TooMany esu_TooMany oq z_super elk_TooMany ehc_TooMany eno_TooMany eco_TooMany ece_TooMany ega_TooMany egg_TooMany ehd_TooMany ese_TooMany ebm_TooMany evs_TooMany efl_TooMany tsup rfl ⟨_, rfl, rfl⟩ ⟨rfl, rfl, rfl, rfl⟩ (by decide +kernel) ⟨rfl, rfl, rfl⟩ (by decide) ⟨by decide, by decide⟩ (fun L => rfl) (fun L => rfl) (fun L => ⟨_, rfl⟩) (fun L => rfl) (fun us hl => match us, hl with | [_, _], _ => rfl)
  have X_Watched : ∀ base, ErrX0 l.prog w K mg base "Watched" C_Watched := fun base => errX0_mk (st := s_Watched___init__) X G ecg_Watched exL_Watched esa_Watched eex_Watched ety_Watched ekC_Watched ei1_Watched ei2_Watched emr_Watched esv_Watched esu_Watched oq z_super elk_Watched ehc_Watched eco_Watched ece_Watched ehd_Watched ebm_Watched evs_Watched efl_Watched tsup rfl ⟨_, rfl, rfl⟩ ⟨rfl, rfl, rfl⟩ (by decide +kernel) ⟨rfl, rfl, rfl⟩ (fun L => rfl) (fun L => rfl) (fun L => ⟨_, rfl⟩) (fun us hl => match us, hl with | [_], _ => rfl)
  have X_Over : ∀ base, ErrX0 l.prog w K mg base "Over" C_Over := fun base => errX0_mk (st := s_Over___init__) X G ecg_Over exL_Over esa_Over eex_Over ety_Over ekC_Over ei1_Over ei2_Over emr_Over esv_Over esu_Over oq z_super elk_Over ehc_Over eco_Over ece_Over ehd_Over ebm_Over evs_Over efl_Over tsup rfl ⟨_, rfl, rfl⟩ ⟨rfl, rfl, rfl⟩ (by decide +kernel) ⟨rfl, rfl, rfl⟩ (fun L => rfl) (fun L => rfl) (fun L => ⟨_, rfl⟩) (fun us hl => match us, hl with | [_], _ => rfl)
  have R_QuietError : mg "QuietError" = some (.ref C_QuietError) := PySem.W.mg_of X G ra_QuietError
  have ED_BadName : ErrD K C_QuietError C_BadName := errD_mk exL_BadName emb_BadName ⟨ega_BadName, egg_BadName, eex_BadName, ehd_BadName, ekl_BadName, gtc, tkc, emo_BadName⟩ ety_BadName
  have ED_BadDeed : ErrD K C_QuietError C_BadDeed := errD_mk exL_BadDeed emb_BadDeed ⟨ega_BadDeed, egg_BadDeed, eex_BadDeed, ehd_BadDeed, ekl_BadDeed, gtc, tkc, emo_BadDeed⟩ ety_BadDeed
  have ED_BadRow : ErrD K C_QuietError C_BadRow := errD_mk exL_BadRow emb_BadRow ⟨ega_BadRow, egg_BadRow, eex_BadRow, ehd_BadRow, ekl_BadRow, gtc, tkc, emo_BadRow⟩ ety_BadRow
  have ED_BadPlace : ErrD K C_QuietError C_BadPlace := errD_mk exL_BadPlace emb_BadPlace ⟨ega_BadPlace, egg_BadPlace, eex_BadPlace, ehd_BadPlace, ekl_BadPlace, gtc, tkc, emo_BadPlace⟩ ety_BadPlace
  have ED_BadMode : ErrD K C_QuietError C_BadMode := errD_mk exL_BadMode emb_BadMode ⟨ega_BadMode, egg_BadMode, eex_BadMode, ehd_BadMode, ekl_BadMode, gtc, tkc, emo_BadMode⟩ ety_BadMode
  have ED_BadContents : ErrD K C_QuietError C_BadContents := errD_mk exL_BadContents emb_BadContents ⟨ega_BadContents, egg_BadContents, eex_BadContents, ehd_BadContents, ekl_BadContents, gtc, tkc, emo_BadContents⟩ ety_BadContents
  have ED_BadTurn : ErrD K C_QuietError C_BadTurn := errD_mk exL_BadTurn emb_BadTurn ⟨ega_BadTurn, egg_BadTurn, eex_BadTurn, ehd_BadTurn, ekl_BadTurn, gtc, tkc, emo_BadTurn⟩ ety_BadTurn
  have ED_BadPair : ErrD K C_QuietError C_BadPair := errD_mk exL_BadPair emb_BadPair ⟨ega_BadPair, egg_BadPair, eex_BadPair, ehd_BadPair, ekl_BadPair, gtc, tkc, emo_BadPair⟩ ety_BadPair
  have ED_BadText : ErrD K C_QuietError C_BadText := errD_mk exL_BadText emb_BadText ⟨ega_BadText, egg_BadText, eex_BadText, ehd_BadText, ekl_BadText, gtc, tkc, emo_BadText⟩ ety_BadText
  have ED_BadCommand : ErrD K C_QuietError C_BadCommand := errD_mk exL_BadCommand emb_BadCommand ⟨ega_BadCommand, egg_BadCommand, eex_BadCommand, ehd_BadCommand, ekl_BadCommand, gtc, tkc, emo_BadCommand⟩ ety_BadCommand
  have ED_NoThing : ErrD K C_QuietError C_NoThing := errD_mk exL_NoThing emb_NoThing ⟨ega_NoThing, egg_NoThing, eex_NoThing, ehd_NoThing, ekl_NoThing, gtc, tkc, emo_NoThing⟩ ety_NoThing
  have ED_NoKey : ErrD K C_QuietError C_NoKey := errD_mk exL_NoKey emb_NoKey ⟨ega_NoKey, egg_NoKey, eex_NoKey, ehd_NoKey, ekl_NoKey, gtc, tkc, emo_NoKey⟩ ety_NoKey
  have ED_NoPart : ErrD K C_QuietError C_NoPart := errD_mk exL_NoPart emb_NoPart ⟨ega_NoPart, egg_NoPart, eex_NoPart, ehd_NoPart, ekl_NoPart, gtc, tkc, emo_NoPart⟩ ety_NoPart
  have ED_NoRow : ErrD K C_QuietError C_NoRow := errD_mk exL_NoRow emb_NoRow ⟨ega_NoRow, egg_NoRow, eex_NoRow, ehd_NoRow, ekl_NoRow, gtc, tkc, emo_NoRow⟩ ety_NoRow
  have ED_NoProbe : ErrD K C_QuietError C_NoProbe := errD_mk exL_NoProbe emb_NoProbe ⟨ega_NoProbe, egg_NoProbe, eex_NoProbe, ehd_NoProbe, ekl_NoProbe, gtc, tkc, emo_NoProbe⟩ ety_NoProbe
  have ED_NotNested : ErrD K C_QuietError C_NotNested := errD_mk exL_NotNested emb_NotNested ⟨ega_NotNested, egg_NotNested, eex_NotNested, ehd_NotNested, ekl_NotNested, gtc, tkc, emo_NotNested⟩ ety_NotNested
  have ED_Twice : ErrD K C_QuietError C_Twice := errD_mk exL_Twice emb_Twice ⟨ega_Twice, egg_Twice, eex_Twice, ehd_Twice, ekl_Twice, gtc, tkc, emo_Twice⟩ ety_Twice
  have ED_Unmatched : ErrD K C_QuietError C_Unmatched := errD_mk exL_Unmatched emb_Unmatched ⟨ega_Unmatched, egg_Unmatched, eex_Unmatched, ehd_Unmatched, ekl_Unmatched, gtc, tkc, emo_Unmatched⟩ ety_Unmatched
  have ED_TooMany : ErrD K C_QuietError C_TooMany := errD_mk exL_TooMany emb_TooMany ⟨ega_TooMany, egg_TooMany, eex_TooMany, ehd_TooMany, ekl_TooMany, gtc, tkc, emo_TooMany⟩ ety_TooMany
  have ED_Watched : ErrD K C_QuietError C_Watched := errD_mk exL_Watched emb_Watched ⟨ega_Watched, egg_Watched, eex_Watched, ehd_Watched, ekl_Watched, gtc, tkc, emo_Watched⟩ ety_Watched
  have ED_Over : ErrD K C_QuietError C_Over := errD_mk exL_Over emb_Over ⟨ega_Over, egg_Over, eex_Over, ehd_Over, ekl_Over, gtc, tkc, emo_Over⟩ ety_Over
  refine law_end (st := s_law) X G hfa a7 l7 c7 k7 (fun _ => rfl) (fun base fd F => ?_)
  have c_draw := c__law_draw (P := l.prog) (w := w) (base := base) B D__law_draw
  obtain ⟨fp, fdp, GP, gP, kP, bP⟩ := c__law_pool (P := l.prog) (w := w) (base := base) B D__law_pool
  have c_word := c__law_word B c_draw D__law_word
  have c_obj := c__law_object B c_draw c_word D__law_object 2
  have c_same := c__law_same (P := l.prog) (w := w) (base := base) B D__law_same 9
  obtain ⟨Cs, hCs⟩ : ∃ Cs : List Addr, Cs = [C_BadName, C_BadDeed, C_BadRow, C_BadPlace, C_BadMode, C_BadContents, C_BadTurn, C_BadPair, C_BadText, C_BadCommand, C_NoThing, C_NoKey, C_NoPart, C_NoRow, C_NoProbe, C_NotNested, C_Twice, C_Unmatched, C_TooMany, C_Watched, C_Over] := ⟨_, rfl⟩
  have hED : ∀ D ∈ Cs, ErrD K C_QuietError D := by
    intro D hD
    rw [hCs] at hD
    simp only [List.mem_cons, List.not_mem_nil, or_false] at hD
    rcases hD with rfl | rfl | rfl | rfl | rfl | rfl | rfl | rfl | rfl | rfl | rfl | rfl | rfl | rfl | rfl | rfl | rfl | rfl | rfl | rfl | rfl
    · exact ED_BadName
    · exact ED_BadDeed
    · exact ED_BadRow
    · exact ED_BadPlace
    · exact ED_BadMode
    · exact ED_BadContents
    · exact ED_BadTurn
    · exact ED_BadPair
    · exact ED_BadText
    · exact ED_BadCommand
    · exact ED_NoThing
    · exact ED_NoKey
    · exact ED_NoPart
    · exact ED_NoRow
    · exact ED_NoProbe
    · exact ED_NotNested
    · exact ED_Twice
    · exact ED_Unmatched
    · exact ED_TooMany
    · exact ED_Watched
    · exact ED_Over
  have hnd2 : (Cs ++ [C_QuietError]).Nodup := by rw [hCs]; exact ndE
  have hnd : Cs.Nodup := (List.nodup_append.mp hnd2).1
  have hq : C_QuietError ∉ Cs := fun k => (List.nodup_append.mp hnd2).2.2 _ k _ (List.mem_singleton.mpr rfl) rfl
  have T : ∀ C, C ∈ Cs → IsTab K Cs C := fun C hC => isTab_of hED hq hC
  have c_cls := c__law_classes (P := l.prog) (w := w) (base := base) hCs B (T _ (by rw [hCs]; simp)) (X_BadName base).c.g (T _ (by rw [hCs]; simp)) (X_BadDeed base).c.g (T _ (by rw [hCs]; simp)) (X_BadRow base).c.g (T _ (by rw [hCs]; simp)) (X_BadPlace base).c.g (T _ (by rw [hCs]; simp)) (X_BadMode base).c.g (T _ (by rw [hCs]; simp)) (X_BadContents base).c.g (T _ (by rw [hCs]; simp)) (X_BadTurn base).c.g (T _ (by rw [hCs]; simp)) (X_BadPair base).c.g (T _ (by rw [hCs]; simp)) (X_BadText base).c.g (T _ (by rw [hCs]; simp)) (X_BadCommand base).c.g (T _ (by rw [hCs]; simp)) (X_NoThing base).c.g (T _ (by rw [hCs]; simp)) (X_NoKey base).c.g (T _ (by rw [hCs]; simp)) (X_NoPart base).c.g (T _ (by rw [hCs]; simp)) (X_NoRow base).c.g (T _ (by rw [hCs]; simp)) (X_NoProbe base).c.g (T _ (by rw [hCs]; simp)) (X_NotNested base).c.g (T _ (by rw [hCs]; simp)) (X_Twice base).c.g (T _ (by rw [hCs]; simp)) (X_Unmatched base).c.g (T _ (by rw [hCs]; simp)) (X_TooMany base).c.g (T _ (by rw [hCs]; simp)) (X_Watched base).g (T _ (by rw [hCs]; simp)) (X_Over base).g D__law_classes
  have c_att := c__law_attributes (P := l.prog) (w := w) (base := base) (C_Watched := C_Watched) (C_Over := C_Over) B (X_BadName base) (X_BadDeed base) (X_BadRow base) (X_BadPlace base) (X_BadMode base) (X_BadContents base) (X_BadTurn base) (X_BadPair base) (X_BadText base) (X_BadCommand base) (X_NoThing base) (X_NoKey base) (X_NoPart base) (X_NoRow base) (X_NoProbe base) (X_NotNested base) (X_Twice base) (X_Unmatched base) (X_TooMany base) D__law_attributes
  exact ok_law hCs hnd F GP gP kP bP B (X_BadName base) (X_BadDeed base) (X_BadRow base) (X_BadPlace base) (X_BadMode base) (X_BadContents base) (X_BadTurn base) (X_BadPair base) (X_BadText base) (X_BadCommand base) (X_NoThing base) (X_NoKey base) (X_NoPart base) (X_NoRow base) (X_NoProbe base) (X_NotNested base) (X_Twice base) (X_Unmatched base) (X_TooMany base) (X_Watched base) (X_Over base) (isQ_of hED ehd_QuietError ety_QuietError) R_QuietError (isB_of hED (by decide +kernel) (by decide)) (PySem.W.mg_none_of X G zo_ValueError) (isB_of hED (by decide +kernel) (by decide)) (PySem.W.mg_none_of X G zo_LookupError) (isB_of hED (by decide +kernel) (by decide)) c_obj c_same c_cls c_att
theorem walk {l : PySem.W.OpenLaw} {q : Program} {loose : List Str} {XP : (Str → Option Value) → Heap → Prop} {YP : World → Heap → Prop} {d : DefRec} {K : Params → PySem.W.Frag} (hn : l.most = some 63) (hdf : d.params.defaults = [])
    (hY : ∀ (w : World) (h : Heap), YP w h → (K w.params).In h)
    (F : ∀ (w : World) (mg : Str → Option Value) (fa : Addr) (h : Heap), (K w.params).In h → h.Ns mainGlobals mg → mg d.name = some (.ref fa) →
      ∃ fd : FuncData, (∀ (s : Shared) (u : Value), BindsTo s fd ⟨[u], []⟩ [("_law_script", u)]) ∧ ∀ base : Heap, (K w.params).In base → base.Ns mainGlobals mg → FnOk l.prog w (K w.params) mg base CX0 11 fa fd ["_law_script"] (spLaw (K w.params))) :
    PySem.W.WalkO q loose XP YP l.row.toRowW d [] (fun f vs => PySem.call f vs) :=
  L2.walk_of (n := 63) (k := 11) (x := "_law_script") (CX := fun _ => CX0) (sp := fun w => spLaw (K w.params)) hn (by decide) hdf ⟨rfl, by decide, by decide⟩ hY F (fun _ _ a ns hl _ hS => ⟨a, ns, rfl, hS, hl, fun _ => rfl⟩) fun _ _ _ _ _ z => z
end Q
open PySem PySem.W PyProof.Rows
set_option maxRecDepth 100000 in
set_option maxHeartbeats 0 in
theorem PySem.Challenge.cw_quietprobes_k05_errors_and_their_attribu_holds : PySem.Challenge.rw_quietprobes_k05_errors_and_their_attribu.Holds := by
  w_on; o_law
  refine HandSHeadRun.head_any (r := OpenLaw.row PySem.Challenge.rw_quietprobes_k05_errors_and_their_attribu) (q := Q.qv) (H := PySem.W.kHook Q.KF Q.KA Q.KA_eq) (ob := Q.obK) (M := 11950) (loose := Q.loo) (d := HandSHeadRun.topDef (OpenLaw.row PySem.Challenge.rw_quietprobes_k05_errors_and_their_attribu).prog 31) (kwd := []) Q.obK_eq (by kernel_rfl) (fun s => by kernel_rfl) Q.run_all (by kernel_rfl) (by kernel_rfl) (by kernel_rfl) (by rfl) (by first | assumption | decide +kernel) (by decide +kernel) ⟨rfl, rfl, rfl, rfl, rfl, by decide +kernel⟩ ?hw ?hc
  case hw => w_witness2
  k_fill
  refine Q.walk (l := PySem.Challenge.rw_quietprobes_k05_errors_and_their_attribu) rfl (by kernel_rfl) (fun w h Y => PySem.W.kIn_of Y) ?F
  case F =>
    intro w mg fa h KX G hmg0
    have hmg : mg ("law" : PySem.Str) = some (.ref fa) := by
      have e : (HandSHeadRun.topDef (OpenLaw.row PySem.Challenge.rw_quietprobes_k05_errors_and_their_attribu).prog 31).name = ("law" : PySem.Str) := by kernel_rfl
      rw [← e]
      exact hmg0
    refine' Q.all_mk KX G hmg ?a0 ?l0 ?c0 ?k0 ?a1 ?l1 ?c1 ?k1 ?a2 ?l2 ?c2 ?k2 ?a3 ?l3 ?c3 ?k3 ?a4 ?l4 ?c4 ?k4 ?a5 ?l5 ?c5 ?k5 ?a6 ?l6 ?c6 ?k6 ?a7 ?l7 ?c7 ?k7 ?z_len ?z_int ?z_list ?z_tuple ?z_isi ?z_range ?z_all ?z_any ?z_str ?z_bool ?z_enum ?z_zip ?z_sum ?z_max ?z_min ?z_sorted ?z_set ?z_dict ?oq ?z_super ?gtc ?tkc ?tsup ?ecg_BadName ?exL_BadName ?esa_BadName ?eex_BadName ?ety_BadName ?ekC_BadName ?ei1_BadName ?ei2_BadName ?emr_BadName ?esv_BadName ?esu_BadName ?elk_BadName ?ehc_BadName ?eno_BadName ?eco_BadName ?ece_BadName ?ega_BadName ?egg_BadName ?ehd_BadName ?ese_BadName ?ebm_BadName ?evs_BadName ?efl_BadName ?emb_BadName ?ekl_BadName ?emo_BadName ?ecg_BadDeed ?exL_BadDeed ?esa_BadDeed ?eex_BadDeed ?ety_BadDeed ?ekC_BadDeed ?ei1_BadDeed ?ei2_BadDeed ?emr_BadDeed ?esv_BadDeed ?esu_BadDeed ?elk_BadDeed ?ehc_BadDeed ?eno_BadDeed ?eco_BadDeed ?ece_BadDeed ?ega_BadDeed ?egg_BadDeed ?ehd_BadDeed ?ese_BadDeed ?ebm_BadDeed ?evs_BadDeed ?efl_BadDeed ?emb_BadDeed ?ekl_BadDeed ?emo_BadDeed ?ecg_BadRow ?exL_BadRow ?esa_BadRow ?eex_BadRow ?ety_BadRow ?ekC_BadRow ?ei1_BadRow ?ei2_BadRow ?emr_BadRow ?esv_BadRow ?esu_BadRow ?elk_BadRow ?ehc_BadRow ?eno_BadRow ?eco_BadRow ?ece_BadRow ?ega_BadRow ?egg_BadRow ?ehd_BadRow ?ese_BadRow ?ebm_BadRow ?evs_BadRow ?efl_BadRow ?emb_BadRow ?ekl_BadRow ?emo_BadRow ?ecg_BadPlace ?exL_BadPlace ?esa_BadPlace ?eex_BadPlace ?ety_BadPlace ?ekC_BadPlace ?ei1_BadPlace ?ei2_BadPlace ?emr_BadPlace ?esv_BadPlace ?esu_BadPlace ?elk_BadPlace ?ehc_BadPlace ?eno_BadPlace ?eco_BadPlace ?ece_BadPlace ?ega_BadPlace ?egg_BadPlace ?ehd_BadPlace ?ese_BadPlace ?ebm_BadPlace ?evs_BadPlace ?efl_BadPlace ?emb_BadPlace ?ekl_BadPlace ?emo_BadPlace ?ecg_BadMode ?exL_BadMode ?esa_BadMode ?eex_BadMode ?ety_BadMode ?ekC_BadMode ?ei1_BadMode ?ei2_BadMode ?emr_BadMode ?esv_BadMode ?esu_BadMode ?elk_BadMode ?ehc_BadMode ?eno_BadMode ?eco_BadMode ?ece_BadMode ?ega_BadMode ?egg_BadMode ?ehd_BadMode ?ese_BadMode ?ebm_BadMode ?evs_BadMode ?efl_BadMode ?emb_BadMode ?ekl_BadMode ?emo_BadMode ?ecg_BadContents ?exL_BadContents ?esa_BadContents ?eex_BadContents ?ety_BadContents ?ekC_BadContents ?ei1_BadContents ?ei2_BadContents ?emr_BadContents ?esv_BadContents ?esu_BadContents ?elk_BadContents ?ehc_BadContents ?eno_BadContents ?eco_BadContents ?ece_BadContents ?ega_BadContents ?egg_BadContents ?ehd_BadContents ?ese_BadContents ?ebm_BadContents ?evs_BadContents ?efl_BadContents ?emb_BadContents ?ekl_BadContents ?emo_BadContents ?ecg_BadTurn ?exL_BadTurn ?esa_BadTurn ?eex_BadTurn ?ety_BadTurn ?ekC_BadTurn ?ei1_BadTurn ?ei2_BadTurn ?emr_BadTurn ?esv_BadTurn ?esu_BadTurn ?elk_BadTurn ?ehc_BadTurn ?eno_BadTurn ?eco_BadTurn ?ece_BadTurn ?ega_BadTurn ?egg_BadTurn ?ehd_BadTurn ?ese_BadTurn ?ebm_BadTurn ?evs_BadTurn ?efl_BadTurn ?emb_BadTurn ?ekl_BadTurn ?emo_BadTurn ?ecg_BadPair ?exL_BadPair ?esa_BadPair ?eex_BadPair ?ety_BadPair ?ekC_BadPair ?ei1_BadPair ?ei2_BadPair ?emr_BadPair ?esv_BadPair ?esu_BadPair ?elk_BadPair ?ehc_BadPair ?eno_BadPair ?eco_BadPair ?ece_BadPair ?ega_BadPair ?egg_BadPair ?ehd_BadPair ?ese_BadPair ?ebm_BadPair ?evs_BadPair ?efl_BadPair ?emb_BadPair ?ekl_BadPair ?emo_BadPair ?ecg_BadText ?exL_BadText ?esa_BadText ?eex_BadText ?ety_BadText ?ekC_BadText ?ei1_BadText ?ei2_BadText ?emr_BadText ?esv_BadText ?esu_BadText ?elk_BadText ?ehc_BadText ?eno_BadText ?eco_BadText ?ece_BadText ?ega_BadText ?egg_BadText ?ehd_BadText ?ese_BadText ?ebm_BadText ?evs_BadText ?efl_BadText ?emb_BadText ?ekl_BadText ?emo_BadText ?ecg_BadCommand ?exL_BadCommand ?esa_BadCommand ?eex_BadCommand ?ety_BadCommand ?ekC_BadCommand ?ei1_BadCommand ?ei2_BadCommand ?emr_BadCommand ?esv_BadCommand ?esu_BadCommand ?elk_BadCommand ?ehc_BadCommand ?eno_BadCommand ?eco_BadCommand ?ece_BadCommand ?ega_BadCommand ?egg_BadCommand ?ehd_BadCommand ?ese_BadCommand ?ebm_BadCommand ?evs_BadCommand ?efl_BadCommand ?emb_BadCommand ?ekl_BadCommand ?emo_BadCommand ?ecg_NoThing ?exL_NoThing ?esa_NoThing ?eex_NoThing ?ety_NoThing ?ekC_NoThing ?ei1_NoThing ?ei2_NoThing ?emr_NoThing ?esv_NoThing ?esu_NoThing ?elk_NoThing ?ehc_NoThing ?eno_NoThing ?eco_NoThing ?ece_NoThing ?ega_NoThing ?egg_NoThing ?ehd_NoThing ?ese_NoThing ?ebm_NoThing ?evs_NoThing ?efl_NoThing ?emb_NoThing ?ekl_NoThing ?emo_NoThing ?ecg_NoKey ?exL_NoKey ?esa_NoKey ?eex_NoKey ?ety_NoKey ?ekC_NoKey ?ei1_NoKey ?ei2_NoKey ?emr_NoKey ?esv_NoKey ?esu_NoKey ?elk_NoKey ?ehc_NoKey ?eno_NoKey ?eco_NoKey ?ece_NoKey ?ega_NoKey ?egg_NoKey ?ehd_NoKey ?ese_NoKey ?ebm_NoKey ?evs_NoKey ?efl_NoKey ?emb_NoKey ?ekl_NoKey ?emo_NoKey ?ecg_NoPart ?exL_NoPart ?esa_NoPart ?eex_NoPart ?ety_NoPart ?ekC_NoPart ?ei1_NoPart ?ei2_NoPart ?emr_NoPart ?esv_NoPart ?esu_NoPart ?elk_NoPart ?ehc_NoPart ?eno_NoPart ?eco_NoPart ?ece_NoPart ?ega_NoPart ?egg_NoPart ?ehd_NoPart ?ese_NoPart ?ebm_NoPart ?evs_NoPart ?efl_NoPart ?emb_NoPart ?ekl_NoPart ?emo_NoPart ?ecg_NoRow ?exL_NoRow ?esa_NoRow ?eex_NoRow ?ety_NoRow ?ekC_NoRow ?ei1_NoRow ?ei2_NoRow ?emr_NoRow ?esv_NoRow ?esu_NoRow ?elk_NoRow ?ehc_NoRow ?eno_NoRow ?eco_NoRow ?ece_NoRow ?ega_NoRow ?egg_NoRow ?ehd_NoRow ?ese_NoRow ?ebm_NoRow ?evs_NoRow ?efl_NoRow ?emb_NoRow ?ekl_NoRow ?emo_NoRow ?ecg_NoProbe ?exL_NoProbe ?esa_NoProbe ?eex_NoProbe ?ety_NoProbe ?ekC_NoProbe ?ei1_NoProbe ?ei2_NoProbe ?emr_NoProbe ?esv_NoProbe ?esu_NoProbe ?elk_NoProbe ?ehc_NoProbe ?eno_NoProbe ?eco_NoProbe ?ece_NoProbe ?ega_NoProbe ?egg_NoProbe ?ehd_NoProbe ?ese_NoProbe ?ebm_NoProbe ?evs_NoProbe ?efl_NoProbe ?emb_NoProbe ?ekl_NoProbe ?emo_NoProbe ?ecg_NotNested ?exL_NotNested ?esa_NotNested ?eex_NotNested ?ety_NotNested ?ekC_NotNested ?ei1_NotNested ?ei2_NotNested ?emr_NotNested ?esv_NotNested ?esu_NotNested ?elk_NotNested ?ehc_NotNested ?eno_NotNested ?eco_NotNested ?ece_NotNested ?ega_NotNested ?egg_NotNested ?ehd_NotNested ?ese_NotNested ?ebm_NotNested ?evs_NotNested ?efl_NotNested ?emb_NotNested ?ekl_NotNested ?emo_NotNested ?ecg_Twice ?exL_Twice ?esa_Twice ?eex_Twice ?ety_Twice ?ekC_Twice ?ei1_Twice ?ei2_Twice ?emr_Twice ?esv_Twice ?esu_Twice ?elk_Twice ?ehc_Twice ?eno_Twice ?eco_Twice ?ece_Twice ?ega_Twice ?egg_Twice ?ehd_Twice ?ese_Twice ?ebm_Twice ?evs_Twice ?efl_Twice ?emb_Twice ?ekl_Twice ?emo_Twice ?ecg_Unmatched ?exL_Unmatched ?esa_Unmatched ?eex_Unmatched ?ety_Unmatched ?ekC_Unmatched ?ei1_Unmatched ?ei2_Unmatched ?emr_Unmatched ?esv_Unmatched ?esu_Unmatched ?elk_Unmatched ?ehc_Unmatched ?eno_Unmatched ?eco_Unmatched ?ece_Unmatched ?ega_Unmatched ?egg_Unmatched ?ehd_Unmatched ?ese_Unmatched ?ebm_Unmatched ?evs_Unmatched ?efl_Unmatched ?emb_Unmatched ?ekl_Unmatched ?emo_Unmatched ?ecg_TooMany ?exL_TooMany ?esa_TooMany ?eex_TooMany ?ety_TooMany ?ekC_TooMany ?ei1_TooMany ?ei2_TooMany ?emr_TooMany ?esv_TooMany ?esu_TooMany ?elk_TooMany ?ehc_TooMany ?eno_TooMany ?eco_TooMany ?ece_TooMany ?ega_TooMany ?egg_TooMany ?ehd_TooMany ?ese_TooMany ?ebm_TooMany ?evs_TooMany ?efl_TooMany ?emb_TooMany ?ekl_TooMany ?emo_TooMany ?ecg_Watched ?exL_Watched ?esa_Watched ?eex_Watched ?ety_Watched ?ekC_Watched ?ei1_Watched ?ei2_Watched ?emr_Watched ?esv_Watched ?esu_Watched ?elk_Watched ?ehc_Watched ?eco_Watched ?ece_Watched ?ega_Watched ?egg_Watched ?ehd_Watched ?ese_Watched ?ebm_Watched ?evs_Watched ?efl_Watched ?emb_Watched ?ekl_Watched ?emo_Watched ?ecg_Over ?exL_Over ?esa_Over ?eex_Over ?ety_Over ?ekC_Over ?ei1_Over ?ei2_Over ?emr_Over ?esv_Over ?esu_Over ?elk_Over ?ehc_Over ?eco_Over ?ece_Over ?ega_Over ?egg_Over ?ehd_Over ?ese_Over ?ebm_Over ?evs_Over ?efl_Over ?emb_Over ?ekl_Over ?emo_Over ?ra_QuietError ?ehd_QuietError ?ety_QuietError ?zo_ValueError ?zo_LookupError ?ndE
    case a0 => k_is
    case l0 => k_is
    case c0 => k_is
    case k0 => k_is
    case a1 => k_is
    case l1 => k_is
    case c1 => k_is
    case k1 => k_is
    case a2 => k_is
    case l2 => k_is
    case c2 => k_is
    case k2 => k_is
    case a3 => k_is
    case l3 => k_is
    case c3 => k_is
    case k3 => k_is
    case a4 => k_is
    case l4 => k_is
    case c4 => k_is
    case k4 => k_is
    case a5 => k_is
    case l5 => k_is
    case c5 => k_is
    case k5 => k_is
    case a6 => k_is
    case l6 => k_is
    case c6 => k_is
    case k6 => k_is
    case a7 => k_is
    case l7 => k_is
    case c7 => k_is
    case k7 => k_is
    case z_len => k_is
    case z_int => k_is
    case z_list => k_is
    case z_tuple => k_is
    case z_isi => k_is
    case z_range => k_is
    case z_all => k_is
    case z_any => k_is
    case z_str => k_is
    case z_bool => k_is
    case z_enum => k_is
    case z_zip => k_is
    case z_sum => k_is
    case z_max => k_is
    case z_min => k_is
    case z_sorted => k_is
    case z_set => k_is
    case z_dict => k_is
    case oq => k_is
    case z_super => k_is
    case gtc => k_is
    case tkc => k_is
    case tsup => first | rfl | decide +kernel
    case ecg_BadName => k_is
    case exL_BadName => k_is
    case esa_BadName => k_is
    case eex_BadName => k_is
    case ety_BadName => k_is
    case ekC_BadName => k_is
    case ei1_BadName => k_is
    case ei2_BadName => k_is
    case emr_BadName => k_is
    case esv_BadName => k_is
    case esu_BadName => ks_is
    case elk_BadName => k_is
    case ehc_BadName => k_is
    case eno_BadName => k_is
    case eco_BadName => k_is
    case ece_BadName => k_is
    case ega_BadName => k_is
    case egg_BadName => k_is
    case ehd_BadName => k_is
    case ese_BadName => k_is
    case ebm_BadName => first | rfl | decide +kernel
    case evs_BadName => rfl
    case efl_BadName => first | rfl | decide +kernel
    case emb_BadName => rfl
    case ekl_BadName => k_is
    case emo_BadName => k_is
    case ecg_BadDeed => k_is
    case exL_BadDeed => k_is
    case esa_BadDeed => k_is
    case eex_BadDeed => k_is
    case ety_BadDeed => k_is
    case ekC_BadDeed => k_is
    case ei1_BadDeed => k_is
    case ei2_BadDeed => k_is
    case emr_BadDeed => k_is
    case esv_BadDeed => k_is
    case esu_BadDeed => ks_is
    case elk_BadDeed => k_is
    case ehc_BadDeed => k_is
    case eno_BadDeed => k_is
    case eco_BadDeed => k_is
    case ece_BadDeed => k_is
    case ega_BadDeed => k_is
    case egg_BadDeed => k_is
    case ehd_BadDeed => k_is
    case ese_BadDeed => k_is
    case ebm_BadDeed => first | rfl | decide +kernel
    case evs_BadDeed => rfl
    case efl_BadDeed => first | rfl | decide +kernel
    case emb_BadDeed => rfl
    case ekl_BadDeed => k_is
    case emo_BadDeed => k_is
    case ecg_BadRow => k_is
    case exL_BadRow => k_is
    case esa_BadRow => k_is
    case eex_BadRow => k_is
    case ety_BadRow => k_is
    case ekC_BadRow => k_is
    case ei1_BadRow => k_is
    case ei2_BadRow => k_is
    case emr_BadRow => k_is
    case esv_BadRow => k_is
    case esu_BadRow => ks_is
    case elk_BadRow => k_is
    case ehc_BadRow => k_is
    case eno_BadRow => k_is
    case eco_BadRow => k_is
    case ece_BadRow => k_is
    case ega_BadRow => k_is
    case egg_BadRow => k_is
    case ehd_BadRow => k_is
    case ese_BadRow => k_is
    case ebm_BadRow => first | rfl | decide +kernel
    case evs_BadRow => rfl
    case efl_BadRow => first | rfl | decide +kernel
    case emb_BadRow => rfl
    case ekl_BadRow => k_is
    case emo_BadRow => k_is
    case ecg_BadPlace => k_is
    case exL_BadPlace => k_is
    case esa_BadPlace => k_is
    case eex_BadPlace => k_is
    case ety_BadPlace => k_is
    case ekC_BadPlace => k_is
    case ei1_BadPlace => k_is
    case ei2_BadPlace => k_is
    case emr_BadPlace => k_is
    case esv_BadPlace => k_is
    case esu_BadPlace => ks_is
    case elk_BadPlace => k_is
    case ehc_BadPlace => k_is
    case eno_BadPlace => k_is
    case eco_BadPlace => k_is
    case ece_BadPlace => k_is
    case ega_BadPlace => k_is
    case egg_BadPlace => k_is
    case ehd_BadPlace => k_is
    case ese_BadPlace => k_is
    case ebm_BadPlace => first | rfl | decide +kernel
    case evs_BadPlace => rfl
    case efl_BadPlace => first | rfl | decide +kernel
    case emb_BadPlace => rfl
    case ekl_BadPlace => k_is
    case emo_BadPlace => k_is
    case ecg_BadMode => k_is
    case exL_BadMode => k_is
    case esa_BadMode => k_is
    case eex_BadMode => k_is
    case ety_BadMode => k_is
    case ekC_BadMode => k_is
    case ei1_BadMode => k_is
    case ei2_BadMode => k_is
    case emr_BadMode => k_is
    case esv_BadMode => k_is
    case esu_BadMode => ks_is
    case elk_BadMode => k_is
    case ehc_BadMode => k_is
    case eno_BadMode => k_is
    case eco_BadMode => k_is
    case ece_BadMode => k_is
    case ega_BadMode => k_is
    case egg_BadMode => k_is
    case ehd_BadMode => k_is
    case ese_BadMode => k_is
    case ebm_BadMode => first | rfl | decide +kernel
    case evs_BadMode => rfl
    case efl_BadMode => first | rfl | decide +kernel
    case emb_BadMode => rfl
    case ekl_BadMode => k_is
    case emo_BadMode => k_is
    case ecg_BadContents => k_is
    case exL_BadContents => k_is
    case esa_BadContents => k_is
    case eex_BadContents => k_is
    case ety_BadContents => k_is
    case ekC_BadContents => k_is
    case ei1_BadContents => k_is
    case ei2_BadContents => k_is
    case emr_BadContents => k_is
    case esv_BadContents => k_is
    case esu_BadContents => ks_is
    case elk_BadContents => k_is
    case ehc_BadContents => k_is
    case eno_BadContents => k_is
    case eco_BadContents => k_is
    case ece_BadContents => k_is
    case ega_BadContents => k_is
    case egg_BadContents => k_is
    case ehd_BadContents => k_is
    case ese_BadContents => k_is
    case ebm_BadContents => first | rfl | decide +kernel
    case evs_BadContents => rfl
    case efl_BadContents => first | rfl | decide +kernel
    case emb_BadContents => rfl
    case ekl_BadContents => k_is
    case emo_BadContents => k_is
    case ecg_BadTurn => k_is
    case exL_BadTurn => k_is
    case esa_BadTurn => k_is
    case eex_BadTurn => k_is
    case ety_BadTurn => k_is
    case ekC_BadTurn => k_is
    case ei1_BadTurn => k_is
    case ei2_BadTurn => k_is
    case emr_BadTurn => k_is
    case esv_BadTurn => k_is
    case esu_BadTurn => ks_is
    case elk_BadTurn => k_is
    case ehc_BadTurn => k_is
    case eno_BadTurn => k_is
    case eco_BadTurn => k_is
    case ece_BadTurn => k_is
    case ega_BadTurn => k_is
    case egg_BadTurn => k_is
    case ehd_BadTurn => k_is
    case ese_BadTurn => k_is
    case ebm_BadTurn => first | rfl | decide +kernel
    case evs_BadTurn => rfl
    case efl_BadTurn => first | rfl | decide +kernel
    case emb_BadTurn => rfl
    case ekl_BadTurn => k_is
    case emo_BadTurn => k_is
    case ecg_BadPair => k_is
    case exL_BadPair => k_is
    case esa_BadPair => k_is
    case eex_BadPair => k_is
    case ety_BadPair => k_is
    case ekC_BadPair => k_is
    case ei1_BadPair => k_is
    case ei2_BadPair => k_is
    case emr_BadPair => k_is
    case esv_BadPair => k_is
    case esu_BadPair => ks_is
    case elk_BadPair => k_is
    case ehc_BadPair => k_is
    case eno_BadPair => k_is
    case eco_BadPair => k_is
    case ece_BadPair => k_is
    case ega_BadPair => k_is
    case egg_BadPair => k_is
    case ehd_BadPair => k_is
    case ese_BadPair => k_is
    case ebm_BadPair => first | rfl | decide +kernel
    case evs_BadPair => rfl
    case efl_BadPair => first | rfl | decide +kernel
    case emb_BadPair => rfl
    case ekl_BadPair => k_is
    case emo_BadPair => k_is
    case ecg_BadText => k_is
    case exL_BadText => k_is
    case esa_BadText => k_is
    case eex_BadText => k_is
    case ety_BadText => k_is
    case ekC_BadText => k_is
    case ei1_BadText => k_is
    case ei2_BadText => k_is
    case emr_BadText => k_is
    case esv_BadText => k_is
    case esu_BadText => ks_is
    case elk_BadText => k_is
    case ehc_BadText => k_is
    case eno_BadText => k_is
    case eco_BadText => k_is
    case ece_BadText => k_is
    case ega_BadText => k_is
    case egg_BadText => k_is
    case ehd_BadText => k_is
    case ese_BadText => k_is
    case ebm_BadText => first | rfl | decide +kernel
    case evs_BadText => rfl
    case efl_BadText => first | rfl | decide +kernel
    case emb_BadText => rfl
    case ekl_BadText => k_is
    case emo_BadText => k_is
    case ecg_BadCommand => k_is
    case exL_BadCommand => k_is
    case esa_BadCommand => k_is
    case eex_BadCommand => k_is
    case ety_BadCommand => k_is
    case ekC_BadCommand => k_is
    case ei1_BadCommand => k_is
    case ei2_BadCommand => k_is
    case emr_BadCommand => k_is
    case esv_BadCommand => k_is
    case esu_BadCommand => ks_is
    case elk_BadCommand => k_is
    case ehc_BadCommand => k_is
    case eno_BadCommand => k_is
    case eco_BadCommand => k_is
    case ece_BadCommand => k_is
    case ega_BadCommand => k_is
    case egg_BadCommand => k_is
    case ehd_BadCommand => k_is
    case ese_BadCommand => k_is
    case ebm_BadCommand => first | rfl | decide +kernel
    case evs_BadCommand => rfl
    case efl_BadCommand => first | rfl | decide +kernel
    case emb_BadCommand => rfl
    case ekl_BadCommand => k_is
    case emo_BadCommand => k_is
    case ecg_NoThing => k_is
    case exL_NoThing => k_is
    case esa_NoThing => k_is
    case eex_NoThing => k_is
    case ety_NoThing => k_is
    case ekC_NoThing => k_is
    case ei1_NoThing => k_is
    case ei2_NoThing => k_is
    case emr_NoThing => k_is
    case esv_NoThing => k_is
    case esu_NoThing => ks_is
    case elk_NoThing => k_is
    case ehc_NoThing => k_is
    case eno_NoThing => k_is
    case eco_NoThing => k_is
    case ece_NoThing => k_is
    case ega_NoThing => k_is
    case egg_NoThing => k_is
    case ehd_NoThing => k_is
    case ese_NoThing => k_is
    case ebm_NoThing => first | rfl | decide +kernel
    case evs_NoThing => rfl
    case efl_NoThing => first | rfl | decide +kernel
    case emb_NoThing => rfl
    case ekl_NoThing => k_is
    case emo_NoThing => k_is
    case ecg_NoKey => k_is
    case exL_NoKey => k_is
    case esa_NoKey => k_is
    case eex_NoKey => k_is
    case ety_NoKey => k_is
    case ekC_NoKey => k_is
    case ei1_NoKey => k_is
    case ei2_NoKey => k_is
    case emr_NoKey => k_is
    case esv_NoKey => k_is
    case esu_NoKey => ks_is
    case elk_NoKey => k_is
    case ehc_NoKey => k_is
    case eno_NoKey => k_is
    case eco_NoKey => k_is
    case ece_NoKey => k_is
    case ega_NoKey => k_is
    case egg_NoKey => k_is
    case ehd_NoKey => k_is
    case ese_NoKey => k_is
    case ebm_NoKey => first | rfl | decide +kernel
    case evs_NoKey => rfl
    case efl_NoKey => first | rfl | decide +kernel
    case emb_NoKey => rfl
    case ekl_NoKey => k_is
    case emo_NoKey => k_is
    case ecg_NoPart => k_is
    case exL_NoPart => k_is
    case esa_NoPart => k_is
    case eex_NoPart => k_is
    case ety_NoPart => k_is
    case ekC_NoPart => k_is
    case ei1_NoPart => k_is
    case ei2_NoPart => k_is
    case emr_NoPart => k_is
    case esv_NoPart => k_is
    case esu_NoPart => ks_is
    case elk_NoPart => k_is
    case ehc_NoPart => k_is
    case eno_NoPart => k_is
    case eco_NoPart => k_is
    case ece_NoPart => k_is
    case ega_NoPart => k_is
    case egg_NoPart => k_is
    case ehd_NoPart => k_is
    case ese_NoPart => k_is
    case ebm_NoPart => first | rfl | decide +kernel
    case evs_NoPart => rfl
    case efl_NoPart => first | rfl | decide +kernel
    case emb_NoPart => rfl
    case ekl_NoPart => k_is
    case emo_NoPart => k_is
    case ecg_NoRow => k_is
    case exL_NoRow => k_is
    case esa_NoRow => k_is
    case eex_NoRow => k_is
    case ety_NoRow => k_is
    case ekC_NoRow => k_is
    case ei1_NoRow => k_is
    case ei2_NoRow => k_is
    case emr_NoRow => k_is
    case esv_NoRow => k_is
    case esu_NoRow => ks_is
    case elk_NoRow => k_is
    case ehc_NoRow => k_is
    case eno_NoRow => k_is
    case eco_NoRow => k_is
    case ece_NoRow => k_is
    case ega_NoRow => k_is
    case egg_NoRow => k_is
    case ehd_NoRow => k_is
    case ese_NoRow => k_is
    case ebm_NoRow => first | rfl | decide +kernel
    case evs_NoRow => rfl
    case efl_NoRow => first | rfl | decide +kernel
    case emb_NoRow => rfl
    case ekl_NoRow => k_is
    case emo_NoRow => k_is
    case ecg_NoProbe => k_is
    case exL_NoProbe => k_is
    case esa_NoProbe => k_is
    case eex_NoProbe => k_is
    case ety_NoProbe => k_is
    case ekC_NoProbe => k_is
    case ei1_NoProbe => k_is
    case ei2_NoProbe => k_is
    case emr_NoProbe => k_is
    case esv_NoProbe => k_is
    case esu_NoProbe => ks_is
    case elk_NoProbe => k_is
    case ehc_NoProbe => k_is
    case eno_NoProbe => k_is
    case eco_NoProbe => k_is
    case ece_NoProbe => k_is
    case ega_NoProbe => k_is
    case egg_NoProbe => k_is
    case ehd_NoProbe => k_is
    case ese_NoProbe => k_is
    case ebm_NoProbe => first | rfl | decide +kernel
    case evs_NoProbe => rfl
    case efl_NoProbe => first | rfl | decide +kernel
    case emb_NoProbe => rfl
    case ekl_NoProbe => k_is
    case emo_NoProbe => k_is
    case ecg_NotNested => k_is
    case exL_NotNested => k_is
    case esa_NotNested => k_is
    case eex_NotNested => k_is
    case ety_NotNested => k_is
    case ekC_NotNested => k_is
    case ei1_NotNested => k_is
    case ei2_NotNested => k_is
    case emr_NotNested => k_is
    case esv_NotNested => k_is
    case esu_NotNested => ks_is
    case elk_NotNested => k_is
    case ehc_NotNested => k_is
    case eno_NotNested => k_is
    case eco_NotNested => k_is
    case ece_NotNested => k_is
    case ega_NotNested => k_is
    case egg_NotNested => k_is
    case ehd_NotNested => k_is
    case ese_NotNested => k_is
    case ebm_NotNested => first | rfl | decide +kernel
    case evs_NotNested => rfl
    case efl_NotNested => first | rfl | decide +kernel
    case emb_NotNested => rfl
    case ekl_NotNested => k_is
    case emo_NotNested => k_is
    case ecg_Twice => k_is
    case exL_Twice => k_is
    case esa_Twice => k_is
    case eex_Twice => k_is
    case ety_Twice => k_is
    case ekC_Twice => k_is
    case ei1_Twice => k_is
    case ei2_Twice => k_is
    case emr_Twice => k_is
    case esv_Twice => k_is
    case esu_Twice => ks_is
    case elk_Twice => k_is
    case ehc_Twice => k_is
    case eno_Twice => k_is
    case eco_Twice => k_is
    case ece_Twice => k_is
    case ega_Twice => k_is
    case egg_Twice => k_is
    case ehd_Twice => k_is
    case ese_Twice => k_is
    case ebm_Twice => first | rfl | decide +kernel
    case evs_Twice => rfl
    case efl_Twice => first | rfl | decide +kernel
    case emb_Twice => rfl
    case ekl_Twice => k_is
    case emo_Twice => k_is
    case ecg_Unmatched => k_is
    case exL_Unmatched => k_is
    case esa_Unmatched => k_is
    case eex_Unmatched => k_is
    case ety_Unmatched => k_is
    case ekC_Unmatched => k_is
    case ei1_Unmatched => k_is
    case ei2_Unmatched => k_is
    case emr_Unmatched => k_is
    case esv_Unmatched => k_is
    case esu_Unmatched => ks_is
    case elk_Unmatched => k_is
    case ehc_Unmatched => k_is
    case eno_Unmatched => k_is
    case eco_Unmatched => k_is
    case ece_Unmatched => k_is
    case ega_Unmatched => k_is
    case egg_Unmatched => k_is
    case ehd_Unmatched => k_is
    case ese_Unmatched => k_is
    case ebm_Unmatched => first | rfl | decide +kernel
    case evs_Unmatched => rfl
    case efl_Unmatched => first | rfl | decide +kernel
    case emb_Unmatched => rfl
    case ekl_Unmatched => k_is
    case emo_Unmatched => k_is
    case ecg_TooMany => k_is
    case exL_TooMany => k_is
    case esa_TooMany => k_is
    case eex_TooMany => k_is
    case ety_TooMany => k_is
    case ekC_TooMany => k_is
    case ei1_TooMany => k_is
    case ei2_TooMany => k_is
    case emr_TooMany => k_is
    case esv_TooMany => k_is
    case esu_TooMany => ks_is
    case elk_TooMany => k_is
    case ehc_TooMany => k_is
    case eno_TooMany => k_is
    case eco_TooMany => k_is
    case ece_TooMany => k_is
    case ega_TooMany => k_is
    case egg_TooMany => k_is
    case ehd_TooMany => k_is
    case ese_TooMany => k_is
    case ebm_TooMany => first | rfl | decide +kernel
    case evs_TooMany => rfl
    case efl_TooMany => first | rfl | decide +kernel
    case emb_TooMany => rfl
    case ekl_TooMany => k_is
    case emo_TooMany => k_is
    case ecg_Watched => k_is
    case exL_Watched => k_is
    case esa_Watched => k_is
    case eex_Watched => k_is
    case ety_Watched => k_is
    case ekC_Watched => k_is
    case ei1_Watched => k_is
    case ei2_Watched => k_is
    case emr_Watched => k_is
    case esv_Watched => k_is
    case esu_Watched => ks_is
    case elk_Watched => k_is
    case ehc_Watched => k_is
    case eco_Watched => k_is
    case ece_Watched => k_is
    case ega_Watched => k_is
    case egg_Watched => k_is
    case ehd_Watched => k_is
    case ese_Watched => k_is
    case ebm_Watched => first | rfl | decide +kernel
    case evs_Watched => rfl
    case efl_Watched => first | rfl | decide +kernel
    case emb_Watched => rfl
    case ekl_Watched => k_is
    case emo_Watched => k_is
    case ecg_Over => k_is
    case exL_Over => k_is
    case esa_Over => k_is
    case eex_Over => k_is
    case ety_Over => k_is
    case ekC_Over => k_is
    case ei1_Over => k_is
    case ei2_Over => k_is
    case emr_Over => k_is
    case esv_Over => k_is
    case esu_Over => ks_is
    case elk_Over => k_is
    case ehc_Over => k_is
    case eco_Over => k_is
    case ece_Over => k_is
    case ega_Over => k_is
    case egg_Over => k_is
    case ehd_Over => k_is
    case ese_Over => k_is
    case ebm_Over => first | rfl | decide +kernel
    case evs_Over => rfl
    case efl_Over => first | rfl | decide +kernel
    case emb_Over => rfl
    case ekl_Over => k_is
    case emo_Over => k_is
    case ra_QuietError => k_is
    case ehd_QuietError => k_is
    case ety_QuietError => k_is
    case zo_ValueError => k_is
    case zo_LookupError => k_is
    case ndE => decide
