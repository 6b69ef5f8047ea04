import PyProof.Rows.All
import Wide.All
import OpenK.AllK
import Wide.FinOn
import HandS.Base
import HandS.Call
import HandS.List
import HandS.Comp
import HandS.Ends
import HandS.Dict
import HandS.Iter
import HandS.Text
import HandS.Deep
import HandS.IsInst
import HandS.Star
import HandS.Words
import HandS.Wide
import HandS.Exc
import HandS.More
import HandS.TupAny
import KE.KUnpackStar
import HandS.ForMost
import HandS.ForExc
import HandS.Zip
import PyProof.RulesMatch
import KE.KExcSuper
import HandS.ExcInit
import HandS.ClsMeth
import HandS.SlotsOwn
import HandS.TryMany
import HandS.WordsExc
import HandS.ExcField
import PyProof.InstNe
import HandS.Defaults
import HandS.ExcIs
import KE.RegKSuper
import KE.KCallOwn
import HandS.DictComp
import KE.GoesEnum
import OpenK.KMeth
import HandS.Flow
import HandS.Small
import HandS.Style
import HandS.Zip0
import HandS.TryOnly
import HandS.SetKeys
import HandS.WordsDict
import HandS.OwnEq
import KE.KOpsOwn
import OpenK.KOps
import HandS.Records
import PyProof.StrOps2
import HandS.Property
import PyProof.NeKinds
import HandS.Strs
import HandS.FStr
import HandS.Nested
import HandS.NestedK
import KE.IntTextText
import HandS.EndTab
import HandS.Head0
import HandS.Head1
import HandS.Head2
import HandS.Evl
import PySem.Challenge.RW_quietprobes_k39_contents_read
set_option Elab.async false
set_option linter.all false
set_option maxRecDepth 100000
set_option autoImplicit false
namespace G
open PySem PySem.Spec L2
/-- a value told as data; adr: an address of which the assertion speaks -/
inductive D where
  | non | bl (b : Bool) | int (i : Int) | str (x : Str) | adr (a : Addr) | lst (ds : List D) | tup (ds : List D)
  /-- an instance that stays as it is: its class, its fields' names, what they hold -/
  | ins (C : Addr) (fs : List Str) (ds : List D)
  /-- a dict that stays as it is -/
  | dct (ks : List Key) (ds : List D)
/-- a text whose signs are signs, and that isn't long -/
def sok (x : Str) : Prop := PyData.strOk x = true ∧ x.length ≤ 1000000
def ks6 : List String := ["NoneType", "bool", "int", "str", "list", "tuple", "dict"]
def ks5 : List String := ["str", "int", "bool", "list", "tuple"]
/-- a class whose fields are plainly read and stored, none of these names being the class's own -/
structure Plain (K : PySem.W.Frag) (C : Addr) : Prop where
  cls : Cls K C
  kls : PySem.W.findIn K (.ref C) "__class__" = some (some (.builtin "object.__class__"))
  get : PySem.W.specialIn K (.builtin "object.__class__") "__get__" = some (some (.builtin "getset_descriptor.__get__"))
  tak : PySem.W.takesIn K (.builtin "object.__class__") = some true
  mro : PySem.W.mroIn K C (.type "object") = some true
  sub : ∀ T ∈ ks5, PySem.W.subIn K (.ref C) (.type T) = some false
structure Good (K : PySem.W.Frag) (C : Addr) (fs : List Str) : Prop where
  p : Plain K C
  no : ∀ f ∈ fs, NoAttr K C f
theorem Good.cls {K : PySem.W.Frag} {C : Addr} {fs : List Str} (g : Good K C fs) : Cls K C := g.p.cls
/-- what may be changed, and is data while nobody owns it -/
def Dat : HO → Prop
  | .lst _ => True
  | .ins _ _ _ => True
  | .dK _ => True
  | _ => False
mutual
/-- v is d in the heap H; no list, dict, instance of it is among M -/
inductive Is (K : PySem.W.Frag) (M : Addr → Prop) (H : Hp) : V → D → Prop
  | non : Is K M H .non .non
  | bl (b : Bool) : Is K M H (.bl b) (.bl b)
  | int (i : Int) : Is K M H (.int i) (.int i)
  | str {x : Str} : sok x → Is K M H (.str x) (.str x)
  | adr (a : Addr) : Is K M H (.ref a) (.adr a)
  | lst {a : Addr} {xs : List V} {ds : List D} : ¬ M a → H a = some (.lst xs) → IsAll K M H xs ds → Is K M H (.ref a) (.lst ds)
  | tup {a : Addr} {xs : List V} {ds : List D} : SqT K H a xs → IsAll K M H xs ds → Is K M H (.ref a) (.tup ds)
  | ins {a C dx : Addr} {kvs : List (Str × V)} {fs : List Str} {ds : List D} : ¬ M a → H a = some (.ins C dx kvs) → kvs.map (·.1) = fs → Good K C fs → IsAll K M H (kvs.map (·.2)) ds → Is K M H (.ref a) (.ins C fs ds)
  | dct {a : Addr} {kvs : List (Key × V)} {ks : List Key} {ds : List D} : ¬ M a → H a = some (.dK kvs) → kvs.map (·.1) = ks → IsAll K M H (kvs.map (·.2)) ds → Is K M H (.ref a) (.dct ks ds)
inductive IsAll (K : PySem.W.Frag) (M : Addr → Prop) (H : Hp) : List V → List D → Prop
  | nil : IsAll K M H [] []
  | cons {v : V} {vs : List V} {d : D} {ds : List D} : Is K M H v d → IsAll K M H vs ds → IsAll K M H (v :: vs) (d :: ds)
end
section
variable {K : PySem.W.Frag} {M M' : Addr → Prop} {H H' : Hp}
mutual
theorem Is.go (hl : ∀ a o, Dat o → ¬ M a → H a = some o → ¬ M' a ∧ H' a = some o) (ht : ∀ a xs, SqT K H a xs → SqT K H' a xs) : ∀ (d : D) (v : V), Is K M H v d → Is K M' H' v d
  | .non, _, h => by cases h; exact .non
  | .bl b, _, h => by cases h; exact .bl b
  | .int i, _, h => by cases h; exact .int i
  | .str x, _, h => by cases h with | str o => exact .str o
  | .adr a, _, h => by cases h; exact .adr a
  | .lst ds, _, h => by
    cases h with
    | lst n s h => exact .lst (hl _ (.lst _) True.intro n s).1 (hl _ (.lst _) True.intro n s).2 (IsAll.go hl ht ds _ h)
  | .tup ds, _, h => by
    cases h with
    | tup s h => exact .tup (ht _ _ s) (IsAll.go hl ht ds _ h)
  | .ins C fs ds, _, h => by
    cases h with
    | ins n s e g h => exact .ins (hl _ (.ins _ _ _) True.intro n s).1 (hl _ (.ins _ _ _) True.intro n s).2 e g (IsAll.go hl ht ds _ h)
  | .dct ks ds, _, h => by
    cases h with
    | dct n s e h => exact .dct (hl _ (.dK _) True.intro n s).1 (hl _ (.dK _) True.intro n s).2 e (IsAll.go hl ht ds _ h)
theorem IsAll.go (hl : ∀ a o, Dat o → ¬ M a → H a = some o → ¬ M' a ∧ H' a = some o) (ht : ∀ a xs, SqT K H a xs → SqT K H' a xs) : ∀ (ds : List D) (vs : List V), IsAll K M H vs ds → IsAll K M' H' vs ds
  | [], _, h => by cases h; exact .nil
  | d :: ds, _, h => by
    cases h with
    | cons h1 h2 => exact .cons (Is.go hl ht d _ h1) (IsAll.go hl ht ds _ h2)
end
theorem IsAll.length : ∀ {vs : List V} {ds : List D}, IsAll K M H vs ds → vs.length = ds.length
  | _, _, .nil => rfl
  | _, _, .cons _ h => by rw [List.length_cons, List.length_cons, IsAll.length h]
theorem IsAll.get : ∀ {vs : List V} {ds : List D} {i : Nat} {v : V}, IsAll K M H vs ds → vs[i]? = some v → ∃ d, ds[i]? = some d ∧ Is K M H v d
  | _, _, i, v, .nil, e => by simp at e
  | _, _, 0, v, .cons h _, e => by simp at e; subst e; exact ⟨_, rfl, h⟩
  | _, _, i + 1, v, .cons _ t, e => by
    obtain ⟨d, h1, h2⟩ := IsAll.get (i := i) (v := v) t (by simpa using e)
    exact ⟨d, by simpa using h1, h2⟩
theorem IsAll.getD : ∀ {vs : List V} {ds : List D} {i : Nat} {d : D}, IsAll K M H vs ds → ds[i]? = some d → ∃ v, vs[i]? = some v ∧ Is K M H v d
  | _, _, i, v, .nil, e => by simp at e
  | _, _, 0, v, .cons h _, e => by simp at e; subst e; exact ⟨_, rfl, h⟩
  | _, _, i + 1, d, .cons _ t, e => by
    obtain ⟨v, h1, h2⟩ := IsAll.getD (i := i) (d := d) t (by simpa using e)
    exact ⟨v, by simpa using h1, h2⟩
theorem IsAll.append : ∀ {vs ws : List V} {ds es : List D}, IsAll K M H vs ds → IsAll K M H ws es → IsAll K M H (vs ++ ws) (ds ++ es)
  | _, _, _, _, .nil, s => s
  | _, _, _, _, .cons r t, s => .cons r (IsAll.append t s)
theorem IsAll.take : ∀ {vs : List V} {ds : List D} (n : Nat), IsAll K M H vs ds → IsAll K M H (vs.take n) (ds.take n)
  | _, _, 0, _ => .nil
  | _, _, _ + 1, .nil => .nil
  | _, _, n + 1, .cons r t => .cons r (IsAll.take n t)
theorem IsAll.drop : ∀ {vs : List V} {ds : List D} (n : Nat), IsAll K M H vs ds → IsAll K M H (vs.drop n) (ds.drop n)
  | _, _, 0, r => r
  | _, _, _ + 1, .nil => .nil
  | _, _, n + 1, .cons r t => IsAll.drop n t
end
def Ext (H H' : Hp) : Prop := ∀ b o, H b = some o → H' b = some o
theorem Ext.refl (H : Hp) : Ext H H := fun _ _ h => h
theorem Ext.new {H : Hp} {p : Addr} {o : HO} (h : H p = none) : Ext H (upd H p o) := fun a u e => by
  rw [upd_ne (ne_of_none e h)]
  exact e
theorem Ext.sqt {K : PySem.W.Frag} {H H' : Hp} (e : Ext H H') {a : Addr} {xs : List V} (h : SqT K H a xs) : SqT K H' a xs := by
  rcases h with (h | ⟨o, h⟩) | h
  · exact .inl (.inl (e _ _ h))
  · exact .inl (.inr ⟨o, e _ _ h⟩)
  · exact .inr h
theorem is_ext {K : PySem.W.Frag} {N : Addr → Prop} {H H' : Hp} (e : Ext H H') (v : V) (d : D) (h : Is K N H v d) : Is K N H' v d := Is.go (fun a o _ n s => ⟨n, e _ _ s⟩) (fun a xs s => e.sqt s) d v h
theorem is_anti {K : PySem.W.Frag} {N N' : Addr → Prop} {H : Hp} (e : ∀ a, N' a → N a) {v : V} {d : D} (h : Is K N H v d) : Is K N' H v d := Is.go (fun a o _ n s => ⟨fun z => n (e a z), s⟩) (fun a xs s => s) d v h
/-- nothing that may be changed stands there -/
def NoDat (H : Hp) (p : Addr) : Prop := ∀ o, H p = some o → ¬ Dat o
theorem nodat {H : Hp} {p : Addr} (hp : H p = none) : NoDat H p := fun o e => by rw [hp] at e; cases e
theorem is_growD {K : PySem.W.Frag} {N : Addr → Prop} {H : Hp} {p : Addr} (hp : NoDat H p) {v : V} {d : D} (h : Is K N H v d) : Is K (fun a => N a ∨ a = p) H v d :=
  Is.go (fun a o dt n s => ⟨fun z => z.elim n fun e => (by rw [e] at s; exact hp o s dt), s⟩) (fun a xs s => s) d v h
theorem is_grow {K : PySem.W.Frag} {N : Addr → Prop} {H : Hp} {p : Addr} (hp : H p = none) {v : V} {d : D} (h : Is K N H v d) : Is K (fun a => N a ∨ a = p) H v d := is_growD (nodat hp) h
theorem all_of {K : PySem.W.Frag} {N N' : Addr → Prop} {H H' : Hp} (f : ∀ v d, Is K N H v d → Is K N' H' v d) : ∀ {vs : List V} {ds : List D}, IsAll K N H vs ds → IsAll K N' H' vs ds
  | _, _, .nil => .nil
  | _, _, .cons h t => .cons (f _ _ h) (all_of f t)
/-- a piece of what the heap is known to hold: it owns the objects at M, and speaks besides of data alone -/
structure At where
  M : Addr → Prop
  R : PySem.W.Frag → (Addr → Prop) → Hp → Prop
  loc : ∀ {K : PySem.W.Frag} {N : Addr → Prop} {H H' : Hp}, (∀ b o, M b → H b = some o → H' b = some o) → (∀ v d, Is K N H v d → Is K N H' v d) → R K N H → R K N H'
  anti : ∀ {K : PySem.W.Frag} {N N' : Addr → Prop} {H : Hp}, (∀ a, N' a → N a) → R K N H → R K N' H
  grow : ∀ {K : PySem.W.Frag} {N : Addr → Prop} {H : Hp} {p : Addr}, NoDat H p → R K N H → R K (fun a => N a ∨ a = p) H
  al : ∀ {K : PySem.W.Frag} {N : Addr → Prop} {H : Hp}, R K N H → ∀ a, M a → ∃ o, H a = some o
abbrev Rs := List (At)
section
variable {K : PySem.W.Frag}
def mem : Rs → Addr → Prop
  | [], _ => False
  | t :: r, a => t.M a ∨ mem r a
def hold (K : PySem.W.Frag) (N : Addr → Prop) : Rs → Hp → Prop
  | [], _ => True
  | t :: r, H => t.R K N H ∧ (∀ a, t.M a → ¬ mem r a) ∧ hold K N r H
theorem hold_ext {N : Addr → Prop} {H H' : Hp} (e : Ext H H') : ∀ {r : Rs}, hold K N r H → hold K N r H'
  | [], _ => True.intro
  | t :: r, h => ⟨t.loc (fun b o _ q => e b o q) (is_ext e) h.1, h.2.1, hold_ext e h.2.2⟩
theorem hold_loc {N : Addr → Prop} {H H' : Hp} : ∀ {r : Rs}, (∀ b o, mem r b → H b = some o → H' b = some o) → (∀ v d, Is K N H v d → Is K N H' v d) → hold K N r H → hold K N r H'
  | [], _, _, _ => True.intro
  | t :: r, f, g, h => ⟨t.loc (fun b o z q => f b o (.inl z) q) g h.1, h.2.1, hold_loc (fun b o z q => f b o (.inr z) q) g h.2.2⟩
theorem hold_anti {N N' : Addr → Prop} {H : Hp} (e : ∀ a, N' a → N a) : ∀ {r : Rs}, hold K N r H → hold K N' r H
  | [], _ => True.intro
  | t :: r, h => ⟨t.anti e h.1, h.2.1, hold_anti e h.2.2⟩
theorem hold_growD {N : Addr → Prop} {H : Hp} {p : Addr} (hp : NoDat H p) : ∀ {r : Rs}, hold K N r H → hold K (fun a => N a ∨ a = p) r H
  | [], _ => True.intro
  | t :: r, h => ⟨t.grow hp h.1, h.2.1, hold_growD hp h.2.2⟩
theorem hold_grow {N : Addr → Prop} {H : Hp} {p : Addr} (hp : H p = none) {r : Rs} (h : hold K N r H) : hold K (fun a => N a ∨ a = p) r H := hold_growD (nodat hp) h
theorem hold_al {N : Addr → Prop} {H : Hp} : ∀ {r : Rs}, hold K N r H → ∀ a, mem r a → ∃ o, H a = some o
  | [], _, _, z => z.elim
  | t :: r, h, a, .inl z => t.al h.1 a z
  | t :: r, h, a, .inr z => hold_al h.2.2 a z
theorem mem_append {r r' : Rs} {a : Addr} : mem (r ++ r') a ↔ mem r a ∨ mem r' a := by
  induction r with
  | nil => exact ⟨.inr, fun z => z.elim False.elim id⟩
  | cons t r ih =>
    show (t.M a ∨ mem (r ++ r') a) ↔ ((t.M a ∨ mem r a) ∨ mem r' a)
    rw [ih, or_assoc]
theorem hold_append {N : Addr → Prop} {r r' : Rs} {H : Hp} : hold K N (r ++ r') H ↔ hold K N r H ∧ hold K N r' H ∧ ∀ a, mem r a → ¬ mem r' a := by
  induction r with
  | nil => exact ⟨fun h => ⟨True.intro, h, fun _ z => z.elim⟩, fun h => h.2.1⟩
  | cons t r ih =>
    constructor
    · rintro ⟨h1, h2, h3⟩
      obtain ⟨i1, i2, i3⟩ := ih.mp h3
      exact ⟨⟨h1, fun a z y => h2 a z (mem_append.mpr (.inl y)), i1⟩, i2, fun a z => z.elim (fun z y => h2 a z (mem_append.mpr (.inr y))) (i3 a)⟩
    · rintro ⟨⟨h1, h2, h3⟩, h4, h5⟩
      exact ⟨h1, fun a z y => (mem_append.mp y).elim (h2 a z) (h5 a (.inl z)), ih.mpr ⟨h3, h4, fun a z => h5 a (.inr z)⟩⟩
/-- a list of our own at l that is being filled -/
def lstA (l : Addr) (ds : List D) : At where
  M := fun a => a = l
  R := fun K N H => ∃ vs, H l = some (.lst vs) ∧ IsAll K N H vs ds
  loc := fun f g ⟨vs, h, i⟩ => ⟨vs, f _ _ rfl h, all_of g i⟩
  anti := fun e ⟨vs, h, i⟩ => ⟨vs, h, all_of (fun _ _ => is_anti e) i⟩
  grow := fun hp ⟨vs, h, i⟩ => ⟨vs, h, all_of (fun _ _ => is_growD hp) i⟩
  al := fun ⟨vs, h, _⟩ a z => ⟨.lst vs, by rw [show a = l from z]; exact h⟩
end
/-- what r tells is so -/
def Rok (K : PySem.W.Frag) (r : Rs) (H : Hp) : Prop := hold K (mem r) r H
theorem Rok.ext {K : PySem.W.Frag} {r : Rs} {H H' : Hp} (h : Rok K r H) (e : Ext H H') : Rok K r H' := hold_ext e h
/-- all data stand as they stood -/
def Kp (K : PySem.W.Frag) (r : Rs) (H : Hp) (r' : Rs) (H' : Hp) : Prop := ∀ v d, Is K (mem r) H v d → Is K (mem r') H' v d
section
variable {K : PySem.W.Frag} {r r' r1 r2 : Rs} {H H' H1 H2 : Hp}
theorem Kp.refl : Kp K r H r H := fun _ _ h => h
theorem Kp.trans (a : Kp K r H r1 H1) (b : Kp K r1 H1 r2 H2) : Kp K r H r2 H2 := fun v d h => b v d (a v d h)
theorem Kp.ext (e : Ext H H') : Kp K r H r H' := is_ext e
theorem Kp.all (k : Kp K r H r' H') {vs : List V} {ds : List D} (h : IsAll K (mem r) H vs ds) : IsAll K (mem r') H' vs ds := all_of k h
/-- r knows more than r' -/
structure le (r r' : Rs) : Prop where
  m : ∀ a, mem r' a → mem r a
  r : ∀ K H, Rok K r H → Rok K r' H
theorem le.refl : le r r := ⟨fun _ h => h, fun _ _ h => h⟩
theorem le.trans (a : le r r1) (b : le r1 r2) : le r r2 := ⟨fun x h => a.m x (b.m x h), fun K H h => b.r K H (a.r K H h)⟩
theorem le.kp (l : le r r') : Kp K r H r' H := fun _ _ h => is_anti l.m h
theorem le.drop {t : Rs} : le (r ++ t) r := ⟨fun a h => mem_append.mpr (.inl h), fun K H h => hold_anti (fun a z => mem_append.mpr (.inl z)) (hold_append.mp h).1⟩
end
abbrev Dl := List (Option D)
def lk : Dl → Nat → Option D
  | [], _ => none
  | x :: _, 0 => x
  | _ :: l, n + 1 => lk l n
theorem lk_get : ∀ {δ : Dl} {i : Nat} {d : D}, lk δ i = some d → δ[i]? = some (some d)
  | [], i, d, h => by simp [lk] at h
  | x :: l, 0, d, h => by simp only [lk] at h; simp [h]
  | x :: l, n + 1, d, h => by
    simp only [lk] at h
    have := lk_get h
    simpa using this
/-- the names' slots hold the data -/
structure Okb (K : PySem.W.Frag) (r : Rs) (δ : Dl) (σ : St) (H : Hp) : Prop where
  env : ∀ (i : Nat) (d : D), δ[i]? = some (some d) → ∃ v, σ[i]? = some (some v) ∧ Is K (mem r) H v d
  r : Rok K r H
  len : δ.length = σ.length
theorem Okb.step {K : PySem.W.Frag} {r r' : Rs} {δ : Dl} {σ : St} {H H' : Hp} (o : Okb K r δ σ H) (k : Kp K r H r' H') (hr : Rok K r' H') : Okb K r' δ σ H' :=
  ⟨fun i d e => let ⟨v, h1, h2⟩ := o.env i d e; ⟨v, h1, k v d h2⟩, hr, o.len⟩
theorem Okb.set {K : PySem.W.Frag} {r : Rs} {δ : Dl} {σ : St} {H : Hp} (o : Okb K r δ σ H) {i : Nat} {v : V} {d : D} (h : Is K (mem r) H v d) : Okb K r (δ.set i (some d)) (σ.set i (some v)) H := by
  refine ⟨fun j e he => ?_, o.r, by rw [List.length_set, List.length_set]; exact o.len⟩
  by_cases hj : j = i
  · subst hj
    have hl : j < δ.length := by
      have := (List.getElem?_eq_some_iff.mp he).1
      rwa [List.length_set] at this
    rw [List.getElem?_set_self hl] at he
    cases he
    exact ⟨v, List.getElem?_set_self (o.len ▸ hl), h⟩
  · rw [List.getElem?_set_ne (Ne.symm hj)] at he ⊢
    exact o.env j e he
theorem Okb.drop {K : PySem.W.Frag} {r : Rs} {δ : Dl} {σ : St} {H : Hp} (o : Okb K r δ σ H) {i : Nat} : Okb K r (δ.set i none) (σ.set i none) H := by
  refine ⟨fun j e he => ?_, o.r, by rw [List.length_set, List.length_set]; exact o.len⟩
  by_cases hj : j = i
  · subst hj
    have hl : j < δ.length := by
      have := (List.getElem?_eq_some_iff.mp he).1
      rwa [List.length_set] at this
    rw [List.getElem?_set_self hl] at he
    cases he
  · rw [List.getElem?_set_ne (Ne.symm hj)] at he ⊢
    exact o.env j e he
/-- what is told of an exception: its class, its fields' names, what they hold; the slots, the pieces -/
abbrev XT := Addr → List Str → List D → Dl → Rs → Prop
/-- an exception's own dict -/
def ExAt (K : PySem.W.Frag) (r : Rs) (H : Hp) (a : Option Addr) (fs : List Str) (ds : List D) : Prop := match a with
  | some a => ¬ mem r a ∧ ∃ kvs : List (Str × V), H a = some (.xd kvs) ∧ kvs.map Prod.fst = fs ∧ IsAll K (mem r) H (kvs.map Prod.snd) ds
  | none => fs = [] ∧ ds = []
/-- what is wanted where an exception leaves -/
def Xc (K : PySem.W.Frag) (W : WX) (XR : XT) (r : Rs) (H : Hp) : Prop := ∀ C fs ds δ' r' σ' a H', XR C fs ds δ' r' → Okb K r' δ' σ' H' → Kp K r H r' H' → ExAt K r' H' a fs ds → W (.ref C) a σ' H'
theorem Xc.step {K : PySem.W.Frag} {W : WX} {XR : XT} {r r' : Rs} {H H' : Hp} (x : Xc K W XR r H) (k : Kp K r H r' H') : Xc K W XR r' H' := fun C fs ds δ' r2 σ' a H2 q o k2 e => x C fs ds δ' r2 σ' a H2 q o (k.trans k2) e
structure Ok (K : PySem.W.Frag) (W : WX) (XR : XT) (r : Rs) (δ : Dl) (σ : St) (H : Hp) : Prop where
  b : Okb K r δ σ H
  x : Xc K W XR r H
theorem Ok.r {K : PySem.W.Frag} {W : WX} {XR : XT} {p : Rs} {δ : Dl} {σ : St} {H : Hp} (o : Ok K W XR p δ σ H) : Rok K p H := o.b.r
section
variable {K : PySem.W.Frag} {W : WX} {XR : XT} {r r' : Rs} {δ : Dl} {σ : St} {H H' : Hp}
theorem Ok.env (o : Ok K W XR r δ σ H) : ∀ (i : Nat) (d : D), δ[i]? = some (some d) → ∃ v, σ[i]? = some (some v) ∧ Is K (mem r) H v d := o.b.env
theorem Ok.len (o : Ok K W XR r δ σ H) : δ.length = σ.length := o.b.len
theorem Ok.step (o : Ok K W XR r δ σ H) (k : Kp K r H r' H') (hr : Rok K r' H') : Ok K W XR r' δ σ H' := ⟨o.b.step k hr, o.x.step k⟩
theorem Ok.set (o : Ok K W XR r δ σ H) {i : Nat} {v : V} {d : D} (h : Is K (mem r) H v d) : Ok K W XR r (δ.set i (some d)) (σ.set i (some v)) H := ⟨o.b.set h, o.x⟩
theorem Ok.drop (o : Ok K W XR r δ σ H) {i : Nat} : Ok K W XR r (δ.set i none) (σ.set i none) H := ⟨o.b.drop, o.x⟩
end
abbrev PK1 := D → Rs → Prop
/-- readings over data: of an expression, of arguments, of a test -/
abbrev AT := XT → Dl → Rs → PK1 → Prop
abbrev AL := XT → Dl → Rs → (List D → Rs → Prop) → Prop
abbrev AB := XT → Dl → Rs → (Bool → Rs → Prop) → Prop
def TD (K : PySem.W.Frag) (W : WX) (t : AT) : TE := fun σ H Q => ∃ XR δ r P, Ok K W XR r δ σ H ∧ t XR δ r P ∧ ∀ d r' v H', P d r' → Ok K W XR r' δ σ H' → Kp K r H r' H' → Is K (mem r') H' v d → Q v H'
def TDL (K : PySem.W.Frag) (W : WX) (t : AL) : TA := fun σ H Q => ∃ XR δ r P, Ok K W XR r δ σ H ∧ t XR δ r P ∧ ∀ ds r' vs H', P ds r' → Ok K W XR r' δ σ H' → Kp K r H r' H' → IsAll K (mem r') H' vs ds → Q vs H'
def TDB (K : PySem.W.Frag) (W : WX) (t : AB) : TT := fun σ H Q => ∃ XR δ r P, Ok K W XR r δ σ H ∧ t XR δ r P ∧ ∀ b r' H', P b r' → Ok K W XR r' δ σ H' → Kp K r H r' H' → Q b H'
def PD (X : Cx) (W : WX) (e : Expr) (t : AT) : Prop := PE X e (TD X.K W t)
def PDL (X : Cx) (W : WX) (es : List Expr) (t : AL) : Prop := PA X es (TDL X.K W t)
def PDB (X : Cx) (W : WX) (e : Expr) (t : AB) : Prop := PT X e (TDB X.K W t)
def PDW (X : Cx) (W : WX) (e : Expr) (t : AB) : Prop := PW X e (TDB X.K W t)
theorem imE {X : Cx} {e : Expr} {t t' : TE} (h : PE X e t) (i : ∀ σ H Q, t' σ H Q → t σ H Q) : PE X e t' := ⟨fun pins s σ H Q I q => h.run pins s σ H Q I (i σ H Q q)⟩
theorem imA {X : Cx} {e : List Expr} {t t' : TA} (h : PA X e t) (i : ∀ σ H Q, t' σ H Q → t σ H Q) : PA X e t' := ⟨fun pos pins s σ H Q I q => h.run pos pins s σ H Q I (i σ H Q q)⟩
theorem imT {X : Cx} {e : Expr} {t t' : TT} (h : PT X e t) (i : ∀ σ H Q, t' σ H Q → t σ H Q) : PT X e t' := ⟨fun pins s σ H Q I q => h.run pins s σ H Q I (i σ H Q q)⟩
theorem imW {X : Cx} {e : Expr} {t t' : TT} (h : PW X e t) (i : ∀ σ H Q, t' σ H Q → t σ H Q) : PW X e t' := ⟨fun wh pins s σ H Q I q => h.run wh pins s σ H Q I (i σ H Q q)⟩
theorem imS {X : Cx} {e : Stmt} {t t' : TS} (h : PS X e t) (i : ∀ D σ H, t' D σ H → t D σ H) : PS X e t' := ⟨fun pins s σ H D I q => h.run pins s σ H D I (i D σ H q)⟩
theorem imSs {X : Cx} {e : List Stmt} {t t' : TS} (h : PSs X e t) (i : ∀ D σ H, t' D σ H → t D σ H) : PSs X e t' := ⟨fun pins s σ H D I q => h.run pins s σ H D I (i D σ H q)⟩
def aVar (i : Nat) : AT := fun x δ r P => match lk δ i with | some d => P d r | none => False
def aC (d : D) : AT := fun x _ r P => P d r
section
variable {X : Cx} {W : WX}
theorem td_var {K : PySem.W.Frag} {W : WX} {i : Nat} {σ : St} {H : Hp} {Q : VK} (q : TD K W (aVar i) σ H Q) : tVar i σ H Q := by
  obtain ⟨XR, δ, r, P, o, h, k⟩ := q
  unfold aVar at h
  split at h
  · rename_i d hd
    obtain ⟨v, h1, h2⟩ := o.env i d (lk_get hd)
    exact ⟨v, h1, k d r v H h o Kp.refl h2⟩
  · exact h.elim
theorem dv (i : Nat) {x : Str} {pos : Pos} (hN : X.N[i]? = some x := by rfl) (hv : Vis X.env.scope x := by first | exact Or.inl rfl | exact Or.inr (Or.inl rfl) | exact Or.inr (Or.inr rfl)) (hd : (x == ("__debug__" : Str)) = false := by decide)
    (hcd : (x == ("__classdict__" : Str)) = false := by decide) : PD X W (.Name x pos) (aVar i) := imE (pe_var hN hv hd hcd) fun _ _ _ q => td_var q
theorem td_c {K : PySem.W.Frag} {W : WX} {d : D} {v : V} {σ : St} {H : Hp} {Q : VK} (hv : ∀ M H, Is K M H v d) (q : TD K W (aC d) σ H Q) : tC v σ H Q := by
  obtain ⟨XR, δ, r, P, o, h, k⟩ := q
  exact k d r v H h o Kp.refl (hv _ _)
theorem d_int {i j pos} : PD X W (.Constant (.int i) j pos) (aC (.int i)) := imE pe_int fun _ _ _ q => td_c (fun _ _ => .int i) q
theorem d_bl {i j pos} : PD X W (.Constant (.bool i) j pos) (aC (.bl i)) := imE pe_bl fun _ _ _ q => td_c (fun _ _ => .bl i) q
theorem d_non {j pos} : PD X W (.Constant .none j pos) (aC .non) := imE pe_non fun _ _ _ q => td_c (fun _ _ => .non) q
def sokB (x : Str) : Bool := PyData.strOk x && decide (x.length ≤ 1000000)
theorem sok_of {x : Str} (h : sokB x = true) : sok x := by
  unfold sokB at h
  rw [Bool.and_eq_true, decide_eq_true_eq] at h
  exact h
theorem d_str {x j pos} (h : sokB x = true := by decide +kernel) : PD X W (.Constant (.str x) j pos) (aC (.str x)) := imE pe_str fun _ _ _ q => td_c (fun _ _ => .str (sok_of h)) q
/-- a constant of the module: a text, a number -/
theorem d_glob {x : Str} {v : V} {d : D} {u : Value} {pos : Pos} (hg : Gl X x) (hm : X.mg x = some u) (r : RelV v u) (hd : ∀ M H, Is X.K M H v d) (hdb : (x == ("__debug__" : Str)) = false := by decide) : PD X W (.Name x pos) (aC d) :=
  imE (pe_glob hg hm r hdb) fun _ _ _ q => td_c hd q
def aNil : AL := fun x _ r P => P [] r
def aCons (t : AT) (l : AL) : AL := fun x δ r P => t x δ r fun d r1 => l x δ r1 fun ds r2 => P (d :: ds) r2
theorem dl_nil : PDL X W [] aNil := imA pa_nil fun σ H Q q => by
  obtain ⟨XR, δ, r, P, o, h, k⟩ := q
  exact k [] r [] H h o Kp.refl .nil
theorem td_bind {K : PySem.W.Frag} {W : WX} {XR : XT} {σ : St} {H : Hp} {δ : Dl} {r : Rs} {t : AT} {P : PK1} {Q : VK} (o : Ok K W XR r δ σ H) (h : t XR δ r P) (k : ∀ d r' v H', P d r' → Ok K W XR r' δ σ H' → Kp K r H r' H' → Is K (mem r') H' v d → Q v H') : TD K W t σ H Q := ⟨XR, δ, r, P, o, h, k⟩
theorem tdl_bind {K : PySem.W.Frag} {W : WX} {XR : XT} {σ : St} {H : Hp} {δ : Dl} {r : Rs} {t : AL} {P : List D → Rs → Prop} {Q : List V → Hp → Prop} (o : Ok K W XR r δ σ H) (h : t XR δ r P) (k : ∀ d r' v H', P d r' → Ok K W XR r' δ σ H' → Kp K r H r' H' → IsAll K (mem r') H' v d → Q v H') : TDL K W t σ H Q := ⟨XR, δ, r, P, o, h, k⟩
theorem dl_cons {e : Expr} {es : List Expr} {t : AT} {l : AL} (ha : PD X W e t) (hr : PDL X W es l) (hs : starEach (e :: es) X.env = (false, eval e X.env) :: starEach es X.env := by rfl) : PDL X W (e :: es) (aCons t l) := imA (pa_cons ha hr hs) fun σ H Q q => by
  obtain ⟨XR, δ, r, P, o, h, k⟩ := q
  refine td_bind o h fun d r1 v H1 h1 o1 k1 i1 => tdl_bind o1 h1 fun ds r2 vs H2 h2 o2 k2 i2 => ?_
  exact k (d :: ds) r2 _ H2 h2 o2 (k1.trans k2) (.cons (k2 _ _ i1) i2)
def small (n : Nat) : Prop := n ≤ 1000000
theorem small.sz {n : Nat} (h : small n) : n ≤ sizeLine := Nat.le_trans h (by decide)
theorem not_al {K : PySem.W.Frag} {r : Rs} {H : Hp} {p : Addr} (h : Rok K r H) (hp : H p = none) : ¬ mem r p := fun z => by
  obtain ⟨o, e⟩ := hold_al h p z
  rw [hp] at e
  cases e
def aTup (l : AL) : AT := fun x δ r P => l x δ r fun ds r1 => small ds.length ∧ P (.tup ds) r1
def aLst (l : AL) : AT := fun x δ r P => l x δ r fun ds r1 => small ds.length ∧ P (.lst ds) r1
theorem new_tup {K : PySem.W.Frag} {r : Rs} {H : Hp} {p : Addr} {vs : List V} {ds : List D} (hp : H p = none) (i : IsAll K (mem r) H vs ds) : Is K (mem r) (upd H p (.tup vs)) (.ref p) (.tup ds) :=
  .tup (SqT.of upd_same) (Kp.all (r := r) (r' := r) (Kp.ext (Ext.new hp)) i)
theorem new_lst {K : PySem.W.Frag} {r : Rs} {H : Hp} {p : Addr} {vs : List V} {ds : List D} (hr : Rok K r H) (hp : H p = none) (i : IsAll K (mem r) H vs ds) : Is K (mem r) (upd H p (.lst vs)) (.ref p) (.lst ds) :=
  .lst (not_al hr hp) upd_same (Kp.all (r := r) (r' := r) (Kp.ext (Ext.new hp)) i)
theorem Ok.new {K : PySem.W.Frag} {W : WX} {XR : XT} {r : Rs} {δ : Dl} {σ : St} {H : Hp} {p : Addr} {u : HO} (o : Ok K W XR r δ σ H) (hp : H p = none) : Ok K W XR r δ σ (upd H p u) := o.step (Kp.ext (Ext.new hp)) (o.r.ext (Ext.new hp))
theorem d_tup {es : List Expr} {x1} {pos : Pos} {l : AL} (ha : PDL X W es l) : PD X W (.Tuple es x1 pos) (aTup l) := imE (pe_tup ha) fun σ H Q q => by
  obtain ⟨XR, δ, r, P, o, h, k⟩ := q
  refine tdl_bind o h fun ds r1 vs H1 h1 o1 k1 i1 => ⟨by rw [i1.length]; exact h1.1.sz, fun p hp => ?_⟩
  exact k _ r1 _ _ h1.2 (o1.new hp) (k1.trans (Kp.ext (Ext.new hp))) (new_tup hp i1)
theorem d_lst {es : List Expr} {pos : Pos} {l : AL} (ha : PDL X W es l) : PD X W (.List es pos) (aLst l) := imE (pe_lst ha) fun σ H Q q => by
  obtain ⟨XR, δ, r, P, o, h, k⟩ := q
  refine tdl_bind o h fun ds r1 vs H1 h1 o1 k1 i1 => ⟨by rw [i1.length]; exact h1.1.sz, fun p hp => ?_⟩
  exact k _ r1 _ _ h1.2 (o1.new hp) (k1.trans (Kp.ext (Ext.new hp))) (new_lst o1.r hp i1)
end
end G
namespace G
open PySem PySem.Spec L2
abbrev O2 := D → D → (D → Prop) → Prop
def rD (K : PySem.W.Frag) (o : O2) : R2 := fun x y H Q => ∃ (r : Rs) (d1 d2 : D) (P : D → Prop), Rok K r H ∧ Is K (mem r) H x d1 ∧ Is K (mem r) H y d2 ∧ o d1 d2 P ∧ ∀ d v H', P d → Ext H H' → Is K (mem r) H' v d → Q v H'
def aOp (o : O2) (ta tb : AT) : AT := fun x δ r P => ta x δ r fun d1 r1 => tb x δ r1 fun d2 r2 => o d1 d2 fun d => P d r2
section
variable {X : Cx} {W : WX} {a b c : Expr} {ta tb tc : AT} {pos : Pos}
theorem Ok.ext {K : PySem.W.Frag} {W : WX} {XR : XT} {r : Rs} {δ : Dl} {σ : L2.St} {H H' : Hp} (o : Ok K W XR r δ σ H) (e : Ext H H') : Ok K W XR r δ σ H' := o.step (Kp.ext e) (o.r.ext e)
theorem td_op {K : PySem.W.Frag} {W : WX} {o : O2} {ta tb : AT} {σ : L2.St} {H : Hp} {Q : VK} (q : TD K W (aOp o ta tb) σ H Q) : tOp (rD K o) (TD K W ta) (TD K W tb) σ H Q := by
  obtain ⟨XR, δ, r, P, ok, h, k⟩ := q
  refine td_bind ok h fun d1 r1 v1 H1 h1 o1 k1 i1 => td_bind o1 h1 fun d2 r2 v2 H2 h2 o2 k2 i2 => ?_
  exact ⟨r2, d1, d2, fun d => P d r2, o2.r, k2 _ _ i1, i2, h2, fun d v H' p e i => k d r2 v H' p (o2.ext e) ((k1.trans k2).trans (Kp.ext e)) i⟩
theorem d_bin {op : Operator} {o : O2} (ho : OpR X (binaryOp op) (rD X.K o)) (ha : PD X W a ta) (hb : PD X W b tb) : PD X W (.BinOp a op b pos) (aOp o ta tb) := imE (pe_op ho ha hb) fun _ _ _ q => td_op q
theorem d_cmp {op : CmpOp} {o : O2} (ho : OpR X (compareOp op) (rD X.K o)) (ha : PD X W a ta) (hb : PD X W b tb) (hm : behindInMarks op b = false := by first | exact nomark _ | with_unfolding_all rfl) : PD X W (.Compare a [op] [b] pos) (aOp o ta tb) :=
  imE (pe_cmpR ho ha hb hm) fun _ _ _ q => td_op q
/-- a value as a test: True or False -/
def aTest (t : AT) : AB := fun x δ r P => t x δ r fun d r1 => match d with | .bl b => P b r1 | _ => False
theorem tdb_test {K : PySem.W.Frag} {W : WX} {t : AT} {t0 : TE} {σ : L2.St} {H : Hp} {Q : Bool → Hp → Prop} (im : ∀ Q, TD K W t σ H Q → t0 σ H Q) (q : TDB K W (aTest t) σ H Q) : t0 σ H fun x H' => ∃ k, x = .bl k ∧ Q k H' := by
  obtain ⟨XR, δ, r, P, ok, h, k⟩ := q
  refine im _ (td_bind ok h fun d r1 v H1 h1 o1 k1 i1 => ?_)
  cases i1 with
  | bl b => exact ⟨b, rfl, k b r1 H1 h1 o1 k1⟩
  | _ => exact h1.elim
theorem b_cmp {op : CmpOp} {o : O2} (ho : OpR X (compareOp op) (rD X.K o)) (ha : PD X W a ta) (hb : PD X W b tb) (hm : behindInMarks op b = false := by first | exact nomark _ | with_unfolding_all rfl) : PDB X W (.Compare a [op] [b] pos) (aTest (aOp o ta tb)) :=
  imT (pt_cmpR ho ha hb hm) fun _ _ _ q => tdb_test (fun _ q => td_op q) q
/-- a value as a test: its truth -/
def truD : D → Option Bool
  | .non => some false | .bl b => some b | .int i => some (i != 0) | .str x => some ((x.length : Int) != 0) | .lst xs => some (!xs.isEmpty) | .tup xs => some (!xs.isEmpty) | _ => none
def aTru (t : AT) : AB := fun x δ r P => t x δ r fun d r1 => match truD d with | some b => P b r1 | none => False
theorem isEmpty_all {K : PySem.W.Frag} {N : Addr → Prop} {H : Hp} {xs : List V} {ds : List D} (h : IsAll K N H xs ds) : xs.isEmpty = ds.isEmpty := by cases h <;> rfl
theorem b_tru (ha : PD X W a ta) (he : ∀ whole, isTrue a X.env whole = (do let v ← whole; standAt a.pos; holding [v] (truthy v)) := by intro _; rfl) : PDB X W a (aTru ta) :=
  imT (pt_truth ha he) fun σ H Q q => by
    obtain ⟨XR, δ, r, P, ok, h, k⟩ := q
    refine td_bind ok h fun d r1 v H1 h1 o1 k1 i1 => ?_
    cases i1 with
    | non => exact ⟨false, rfl, k _ r1 H1 h1 o1 k1⟩
    | bl b => exact ⟨b, rfl, k _ r1 H1 h1 o1 k1⟩
    | int i => exact ⟨i != 0, rfl, k _ r1 H1 h1 o1 k1⟩
    | str s => exact ⟨_, ⟨Nat.le_trans s.2 (by decide), rfl⟩, k _ r1 H1 h1 o1 k1⟩
    | adr a => exact h1.elim
    | ins _ _ _ _ _ => exact h1.elim
    | dct _ _ _ _ => exact h1.elim
    | lst n s i => exact ⟨_, Or.inl ⟨_, SqL.of s, rfl⟩, k _ r1 H1 (by rw [isEmpty_all i]; exact h1) o1 k1⟩
    | tup s i => exact ⟨_, Or.inr (Or.inl ⟨_, s, rfl⟩), k _ r1 H1 (by rw [isEmpty_all i]; exact h1) o1 k1⟩
def oAdd : O2 := fun x y k => match x, y with
  | .int i, .int j => k (.int (i + j))
  | .str i, .str j => small (i.length + j.length) ∧ k (.str (i ++ j))
  | .lst i, .lst j => small (i.length + j.length) ∧ k (.lst (i ++ j))
  | .tup i, .tup j => small (i.length + j.length) ∧ k (.tup (i ++ j))
  | _, _ => False
theorem sok_append {i j : Str} (hi : sok i) (hj : sok j) (h : small (i.length + j.length)) : sok (i ++ j) := by
  obtain ⟨a, b⟩ := hi
  obtain ⟨c, d⟩ := hj
  refine ⟨?_, ?_⟩
  · show (i.cps ++ j.cps).all _ = true
    rw [Array.all_append]
    exact Bool.and_eq_true_iff.mpr ⟨a, c⟩
  · show (i.cps ++ j.cps).size ≤ _
    rw [Array.size_append]
    exact h
theorem all_nil {K : PySem.W.Frag} {N : Addr → Prop} {H : Hp} {xs : List V} {ds : List D} (h : IsAll K N H xs ds) : xs = [] ↔ ds = [] := by cases h <;> simp
theorem p_add : OpR X (binaryOp .Add) (rD X.K oAdd) := by
  rintro pins s σ H x y v u Q I rx ry ⟨r, d1, d2, P, hr, i1, i2, ho, k⟩
  cases i1 <;> cases i2 <;> try exact ho.elim
  · exact op_add pins s σ H _ _ v u Q I rx ry ⟨_, _, rfl, rfl, k _ _ H ho (Ext.refl H) (.int _)⟩
  · rename_i s1 _ s2
    exact op_add_str pins s σ H _ _ v u Q I rx ry ⟨_, _, rfl, rfl, ho.1.sz, k _ _ H ho.2 (Ext.refl H) (.str (sok_append s1 s2 ho.1))⟩
  · rename_i n1 h1 a1 _ _ _ n2 h2 a2
    exact op_cat pins s σ H _ _ v u Q I rx ry ⟨_, _, _, _, rfl, rfl, h1, h2, by rw [a1.length, a2.length]; exact ho.1.sz, fun p hp => k _ _ _ ho.2 (Ext.new hp) (new_lst hr hp (a1.append a2))⟩
  · rename_i h1 a1 _ _ _ h2 a2
    refine op_catA pins s σ H _ _ v u Q I rx ry ⟨_, _, _, _, rfl, rfl, h1, h2, by rw [a1.length, a2.length]; exact ho.1.sz, fun z => ?_, fun _ z => ?_, fun _ z p hp => k _ _ _ ho.2 (Ext.new hp) (new_tup hp (a1.append a2))⟩
    · have e := (all_nil a1).mp z
      subst e
      exact k _ _ H ho.2 (Ext.refl H) (.tup h2 a2)
    · have e := (all_nil a2).mp z
      subst e
      have q := ho.2
      rw [List.append_nil] at q
      exact k _ _ H q (Ext.refl H) (.tup h1 a1)
def oSub : O2 := fun x y k => match x, y with | .int i, .int j => k (.int (i - j)) | _, _ => False
theorem p_sub : OpR X (binaryOp .Sub) (rD X.K oSub) := by
  rintro pins s σ H x y v u Q I rx ry ⟨r, d1, d2, P, hr, i1, i2, ho, k⟩
  cases i1 <;> cases i2 <;> try exact ho.elim
  exact op_sub pins s σ H _ _ v u Q I rx ry ⟨_, _, rfl, rfl, k _ _ H ho (Ext.refl H) (.int _)⟩
def oPow : O2 := fun x y k => match x, y with | .int i, .int j => CPow i j ∧ k (.int (i ^ j.toNat)) | _, _ => False
theorem p_pow : OpR X (binaryOp .Pow) (rD X.K oPow) := by
  rintro pins s σ H x y v u Q I rx ry ⟨r, d1, d2, P, hr, i1, i2, ho, k⟩
  cases i1 <;> cases i2 <;> try exact ho.elim
  exact op_pow pins s σ H _ _ v u Q I rx ry ⟨_, _, rfl, rfl, ho.1, k _ _ H ho.2 (Ext.refl H) (.int _)⟩
def oCmp (f : Int → Int → Bool) (g : Str → Str → Bool) : O2 := fun x y k => match x, y with | .int i, .int j => k (.bl (f i j)) | .str i, .str j => k (.bl (g i j)) | _, _ => False
abbrev oLt : O2 := oCmp (fun i j => decide (i < j)) (fun i j => decide (i.cps.toList < j.cps.toList))
abbrev oLe : O2 := oCmp (fun i j => decide (i ≤ j)) (fun i j => !decide (j.cps.toList < i.cps.toList))
abbrev oGt : O2 := oCmp (fun i j => decide (j < i)) (fun i j => decide (j.cps.toList < i.cps.toList))
theorem p_lt : OpR X (compareOp .Lt) (rD X.K oLt) := by
  rintro pins s σ H x y v u Q I rx ry ⟨r, d1, d2, P, hr, i1, i2, ho, k⟩
  cases i1 <;> cases i2 <;> try exact ho.elim
  · exact op_lt pins s σ H _ _ v u Q I rx ry ⟨_, _, rfl, rfl, k _ _ H ho (Ext.refl H) (.bl _)⟩
  · exact op_lt_str pins s σ H _ _ v u Q I rx ry ⟨_, _, rfl, rfl, k _ _ H ho (Ext.refl H) (.bl _)⟩
theorem p_le : OpR X (compareOp .LtE) (rD X.K oLe) := by
  rintro pins s σ H x y v u Q I rx ry ⟨r, d1, d2, P, hr, i1, i2, ho, k⟩
  cases i1 <;> cases i2 <;> try exact ho.elim
  · exact op_le pins s σ H _ _ v u Q I rx ry ⟨_, _, rfl, rfl, k _ _ H ho (Ext.refl H) (.bl _)⟩
  · exact op_le_str pins s σ H _ _ v u Q I rx ry ⟨_, _, rfl, rfl, k _ _ H ho (Ext.refl H) (.bl _)⟩
theorem p_gt : OpR X (compareOp .Gt) (rD X.K oGt) := by
  rintro pins s σ H x y v u Q I rx ry ⟨r, d1, d2, P, hr, i1, i2, ho, k⟩
  cases i1 <;> cases i2 <;> try exact ho.elim
  · exact op_gt pins s σ H _ _ v u Q I rx ry ⟨_, _, rfl, rfl, k _ _ H ho (Ext.refl H) (.bl _)⟩
  · exact op_gt_str pins s σ H _ _ v u Q I rx ry ⟨_, _, rfl, rfl, k _ _ H ho (Ext.refl H) (.bl _)⟩
def isNonD : D → Bool | .non => true | _ => false
def oIs : O2 := fun x y k => match y with | .non => k (.bl (isNonD x)) | _ => False
def oNs : O2 := fun x y k => match y with | .non => k (.bl (!isNonD x)) | _ => False
theorem dec_non {K : PySem.W.Frag} {N : Addr → Prop} {H : Hp} {v : V} {d : D} (h : Is K N H v d) : decide (v = V.non) = isNonD d := by cases h <;> rfl
theorem p_is : OpR X (compareOp .Is) (rD X.K oIs) := by
  rintro pins s σ H x y v u Q I rx ry ⟨r, d1, d2, P, hr, i1, i2, ho, k⟩
  cases i2 <;> try exact ho.elim
  exact op_isN pins s σ H _ _ v u Q I rx ry ⟨rfl, by rw [dec_non i1]; exact k _ _ H ho (Ext.refl H) (.bl _)⟩
theorem p_ns : OpR X (compareOp .IsNot) (rD X.K oNs) := by
  rintro pins s σ H x y v u Q I rx ry ⟨r, d1, d2, P, hr, i1, i2, ho, k⟩
  cases i2 <;> try exact ho.elim
  exact op_notN pins s σ H _ _ v u Q I rx ry ⟨rfl, by rw [dec_non i1]; exact k _ _ H ho (Ext.refl H) (.bl _)⟩
mutual
def py : D → PyData
  | .non => .none | .bl b => .bool b | .int i => .int i | .str x => .str x | .adr _ => .dict [] | .ins _ _ _ => .dict [] | .dct _ _ => .dict [] | .lst ds => .list (pys ds) | .tup ds => .tuple (pys ds)
def pys : List D → List PyData
  | [] => []
  | d :: ds => py d :: pys ds
end
mutual
def dep : D → Nat
  | .adr _ => 1000 | .ins _ _ _ => 1000 | .dct _ _ => 1000 | .lst ds => deps ds + 1 | .tup ds => deps ds + 1 | _ => 0
def deps : List D → Nat
  | [] => 0
  | d :: ds => max (dep d) (deps ds)
end
mutual
theorem dep_py {K : PySem.W.Frag} {N : Addr → Prop} {H : Hp} : ∀ (d : D) (v : V), Is K N H v d → dep d ≤ 64 → Dp K H v (py d) ∧ (py d).canLay0 = true ∧ (py d).depth ≤ dep d
  | .non, _, h, _ => by cases h; exact ⟨.non, rfl, by simp [py, PyData.depth]⟩
  | .bl b, _, h, _ => by cases h; exact ⟨.bl b, rfl, by simp [py, PyData.depth]⟩
  | .int i, _, h, _ => by cases h; exact ⟨.int i, rfl, by simp [py, PyData.depth]⟩
  | .str x, _, h, _ => by cases h with | str o => exact ⟨.str x, by simp only [py, PyData.canLay0]; exact o.1, by simp [py, PyData.depth]⟩
  | .adr a, _, h, l => by simp [dep] at l
  | .ins _ _ _, _, h, l => by simp [dep] at l
  | .dct _ _, _, h, l => by simp [dep] at l
  | .lst ds, _, h, l => by
    cases h with
    | lst n s i =>
      have l' : deps ds ≤ 64 := by simp only [dep] at l; omega
      obtain ⟨a, b, c⟩ := deps_py ds _ i l'
      exact ⟨by simp only [py]; exact .lst (SqL.of s) a, by simp only [py, PyData.canLay0]; exact b, by simp only [py, PyData.depth, dep]; omega⟩
  | .tup ds, _, h, l => by
    cases h with
    | tup s i =>
      have l' : deps ds ≤ 64 := by simp only [dep] at l; omega
      obtain ⟨a, b, c⟩ := deps_py ds _ i l'
      exact ⟨by simp only [py]; exact .tup s a, by simp only [py, PyData.canLay0]; exact b, by simp only [py, PyData.depth, dep]; omega⟩
theorem deps_py {K : PySem.W.Frag} {N : Addr → Prop} {H : Hp} : ∀ (ds : List D) (vs : List V), IsAll K N H vs ds → deps ds ≤ 64 → DpAll K H vs (pys ds) ∧ PyData.canLayAll0 (pys ds) = true ∧ PyData.depthAll (pys ds) ≤ deps ds
  | [], _, h, _ => by cases h; exact ⟨by simp only [pys]; exact .nil, rfl, by simp [pys, PyData.depthAll]⟩
  | d :: ds, _, h, l => by
    cases h with
    | cons h1 h2 =>
      have l1 : dep d ≤ 64 := by simp only [deps] at l; omega
      have l2 : deps ds ≤ 64 := by simp only [deps] at l; omega
      obtain ⟨a, b, c⟩ := dep_py d _ h1 l1
      obtain ⟨a', b', c'⟩ := deps_py ds _ h2 l2
      exact ⟨by simp only [pys]; exact .cons a a', by simp only [pys, PyData.canLayAll0]; rw [b, b']; rfl, by simp only [pys, PyData.depthAll, deps]; omega⟩
end
theorem shaped_py {K : PySem.W.Frag} {N : Addr → Prop} {H : Hp} {d : D} {v : V} (h : Is K N H v d) (l : dep d ≤ 64) : Dp K H v (py d) ∧ SeqAt.shaped (py d) = true := by
  obtain ⟨a, b, c⟩ := dep_py d v h l
  exact ⟨a, by unfold SeqAt.shaped; rw [b]; exact decide_eq_true (by omega)⟩
def eqD (a b : D) : Bool := PyData.eqv (py a) (py b)
def oEq : O2 := fun x y k => dep x ≤ 64 ∧ dep y ≤ 64 ∧ k (.bl (eqD x y))
def oNe : O2 := fun x y k => dep x ≤ 64 ∧ dep y ≤ 64 ∧ k (.bl (!eqD x y))
theorem p_eq (hu : X.A.units + 64 < cLine) : OpR X (compareOp .Eq) (rD X.K oEq) := by
  rintro pins s σ H x y v u Q I rx ry ⟨r, d1, d2, P, hr, i1, i2, ho, k⟩
  obtain ⟨a1, b1⟩ := shaped_py i1 ho.1
  obtain ⟨a2, b2⟩ := shaped_py i2 ho.2.1
  exact op_eqD hu pins s σ H _ _ v u Q I rx ry ⟨_, _, a1, a2, b1, b2, k _ _ H ho.2.2 (Ext.refl H) (.bl _)⟩
theorem p_ne (hu : X.A.units + 64 < cLine) : OpR X (compareOp .NotEq) (rD X.K oNe) := by
  rintro pins s σ H x y v u Q I rx ry ⟨r, d1, d2, P, hr, i1, i2, ho, k⟩
  obtain ⟨a1, b1⟩ := shaped_py i1 ho.1
  obtain ⟨a2, b2⟩ := shaped_py i2 ho.2.1
  exact op_neD hu pins s σ H _ _ v u Q I rx ry ⟨_, _, a1, a2, b1, b2, k _ _ H ho.2.2 (Ext.refl H) (.bl _)⟩
def flat : D → Bool | .non => true | .bl _ => true | .int _ => true | .str _ => true | _ => false
theorem flat_V {K : PySem.W.Frag} {N : Addr → Prop} {H : Hp} {v : V} {d : D} (h : Is K N H v d) (f : flat d = true) : flatV v = true := by cases h <;> first | rfl | cases f
theorem flat_all {K : PySem.W.Frag} {N : Addr → Prop} {H : Hp} : ∀ {vs : List V} {ds : List D}, IsAll K N H vs ds → ds.all flat = true → vs.all flatV = true
  | _, _, .nil, _ => rfl
  | _, _, .cons h t, f => by
    rw [List.all_cons, Bool.and_eq_true] at f ⊢
    exact ⟨flat_V h f.1, flat_all t f.2⟩
theorem eqV_D {K : PySem.W.Frag} {N : Addr → Prop} {H : Hp} {v w : V} {d e : D} (h : Is K N H v d) (g : Is K N H w e) (f : flat d = true) (f' : flat e = true) : eqV v w = eqD d e := by
  cases h <;> cases g <;> first | rfl | cases f | cases f' | (simp [eqV, eqD, py, PyData.eqv])
theorem any_D {K : PySem.W.Frag} {N : Addr → Prop} {H : Hp} {v : V} {d : D} (h : Is K N H v d) (f : flat d = true) : ∀ {vs : List V} {ds : List D}, IsAll K N H vs ds → ds.all flat = true → inV v vs = ds.any fun z => eqD z d
  | _, _, .nil, _ => rfl
  | _, _, .cons g t, q => by
    rw [List.all_cons, Bool.and_eq_true] at q
    have ih := any_D h f t q.2
    unfold inV at ih ⊢
    rw [List.any_cons, List.any_cons, ih, eqV_D g h q.1 f]
theorem any_pys (d : D) : ∀ ds : List D, ((pys ds).any fun z => PyData.eqv z (py d)) = ds.any fun z => eqD z d
  | [] => rfl
  | e :: ds => by simp only [pys, List.any_cons]; rw [any_pys d ds]; rfl
def memD (d : D) (ds : List D) : Bool := ds.any fun z => eqD z d
def sub1 : Str → Option Nat | ⟨⟨[c]⟩⟩ => some c | _ => none
/-- in: flat things in a tuple or list; anything in a list; one sign in a text -/
def oInP (neg : Bool) : O2 := fun x y k => match y with
  | .lst ds => dep x ≤ 64 ∧ deps ds ≤ 63 ∧ k (.bl (cond neg (!memD x ds) (memD x ds)))
  | .tup ds => flat x = true ∧ ds.all flat = true ∧ k (.bl (cond neg (!memD x ds) (memD x ds)))
  | .str z => match x with
    | .str w => match sub1 w with
      | some c => k (.bl (cond neg (!decide (c ∈ z.cps.toList)) (decide (c ∈ z.cps.toList))))
      | none => k (.bl (cond neg (!(!(Builtin.Str.occurrences z w 0 z.length 1).isEmpty)) (!(Builtin.Str.occurrences z w 0 z.length 1).isEmpty)))
    | _ => False
  | _ => False
structure oIn (neg : Bool) (x y : D) (k : D → Prop) : Prop where
  ex : oInP neg x y k
theorem sub1_some {w : Str} {c : Nat} (h : sub1 w = some c) : w = ⟨#[c]⟩ := by
  obtain ⟨⟨l⟩⟩ := w
  match l, h with
  | [x], h => simp only [sub1] at h; cases h; rfl
theorem p_in (hu : X.A.units + 65 < cLine) : OpR X (compareOp .In) (rD X.K (oIn false)) := by
  rintro pins s σ H x y v u Q I rx ry ⟨r, d1, d2, P, hr, i1, i2, ho, k⟩
  obtain ⟨ho⟩ := ho
  cases i2 <;> try exact ho.elim
  · rename_i z hz
    cases i1 <;> try exact ho.elim
    rename_i w hw
    simp only [oInP] at ho
    split at ho
    · rename_i c hc
      have e := sub1_some hc
      subst e
      exact op_in_sign pins s σ H _ _ v u Q I rx ry ⟨_, _, rfl, rfl, k _ _ H ho (Ext.refl H) (.bl _)⟩
    · exact op_in_str pins s σ H _ _ v u Q I rx ry ⟨_, _, rfl, rfl, k _ _ H ho (Ext.refl H) (.bl _)⟩
  · rename_i n h a
    obtain ⟨a1, b1⟩ := shaped_py i1 ho.1
    obtain ⟨a2, b2⟩ := shaped_py (N := mem r) (.lst n h a) (by simp only [dep]; have := ho.2.1; omega)
    simp only [py] at a2 b2
    refine op_inD hu pins s σ H _ _ v u Q I rx ry ⟨_, _, a1, a2, b1, b2, ?_⟩
    rw [any_pys]
    exact k _ _ H ho.2.2 (Ext.refl H) (.bl _)
  · rename_i h a
    refine op_in_seq pins s σ H _ _ v u Q I rx ry ⟨_, _, rfl, .inr h, flat_V i1 ho.1, flat_all a ho.2.1, ?_⟩
    rw [if_neg Bool.false_ne_true, any_D i1 ho.1 a ho.2.1]
    exact k _ _ H ho.2.2 (Ext.refl H) (.bl _)
theorem p_notIn (hu : X.A.units + 65 < cLine) : OpR X (compareOp .NotIn) (rD X.K (oIn true)) := by
  rintro pins s σ H x y v u Q I rx ry ⟨r, d1, d2, P, hr, i1, i2, ho, k⟩
  obtain ⟨ho⟩ := ho
  cases i2 <;> try exact ho.elim
  · rename_i z hz
    cases i1 <;> try exact ho.elim
    rename_i w hw
    simp only [oInP] at ho
    split at ho
    · rename_i c hc
      have e := sub1_some hc
      subst e
      exact op_notIn_sign pins s σ H _ _ v u Q I rx ry ⟨_, _, rfl, rfl, k _ _ H ho (Ext.refl H) (.bl _)⟩
    · exact op_notin_str pins s σ H _ _ v u Q I rx ry ⟨_, _, rfl, rfl, k _ _ H ho (Ext.refl H) (.bl _)⟩
  · rename_i n h a
    obtain ⟨a1, b1⟩ := shaped_py i1 ho.1
    obtain ⟨a2, b2⟩ := shaped_py (N := mem r) (.lst n h a) (by simp only [dep]; have := ho.2.1; omega)
    simp only [py] at a2 b2
    refine op_notInD hu pins s σ H _ _ v u Q I rx ry ⟨_, _, a1, a2, b1, b2, ?_⟩
    rw [any_pys]
    exact k _ _ H ho.2.2 (Ext.refl H) (.bl _)
  · rename_i h a
    refine op_notIn_seq pins s σ H _ _ v u Q I rx ry ⟨_, _, rfl, .inr h, flat_V i1 ho.1, flat_all a ho.2.1, ?_⟩
    rw [if_pos rfl, any_D i1 ho.1 a ho.2.1]
    exact k _ _ H ho.2.2 (Ext.refl H) (.bl _)
end
end G
namespace G
open PySem PySem.Spec L2
section
variable {X : Cx} {W : WX} {a b c : Expr} {ta tb tc : AT} {pos : Pos}
theorem tdb_bind {K : PySem.W.Frag} {W : WX} {XR : XT} {σ : L2.St} {H : Hp} {δ : Dl} {r : Rs} {t : AB} {P : Bool → Rs → Prop} {Q : Bool → Hp → Prop} (o : Ok K W XR r δ σ H) (h : t XR δ r P) (k : ∀ d r' H', P d r' → Ok K W XR r' δ σ H' → Kp K r H r' H' → Q d H') : TDB K W t σ H Q := ⟨XR, δ, r, P, o, h, k⟩
section
variable {K : PySem.W.Frag}
def bAnd (t u : AB) : AB := fun x δ r P => t x δ r fun b r1 => (b = true → u x δ r1 P) ∧ (b = false → P false r1)
def bOr (t u : AB) : AB := fun x δ r P => t x δ r fun b r1 => (b = true → P true r1) ∧ (b = false → u x δ r1 P)
def bNot (t : AB) : AB := fun x δ r P => t x δ r fun b r1 => P (!b) r1
def aAnd (t u : AT) : AT := fun x δ r P => t x δ r fun d r1 => match d with | .bl b => (b = true → u x δ r1 P) ∧ (b = false → P (.bl false) r1) | _ => False
def aNot (t : AT) : AT := fun x δ r P => t x δ r fun d r1 => match d with | .bl b => P (.bl (!b)) r1 | _ => False
def aIf (t : AB) (u w : AT) : AT := fun x δ r P => t x δ r fun b r1 => (b = true → u x δ r1 P) ∧ (b = false → w x δ r1 P)
end
variable {bA bB : AB} {rest : List Expr}
theorem w_and1 (ha : PDB X W a bA) : PDW X W (.BoolOp .And [a] pos) bA := pw_and1 ha
theorem w_or1 (ha : PDB X W a bA) : PDW X W (.BoolOp .Or [a] pos) bA := pw_or1 ha
theorem w_and (ha : PDB X W a bA) (hb : PDW X W (.BoolOp .And (b :: rest) pos) bB) : PDW X W (.BoolOp .And (a :: b :: rest) pos) (bAnd bA bB) := imW (pw_and ha hb) fun σ H Q q => by
  obtain ⟨XR, δ, r, P, ok, h, k⟩ := q
  refine tdb_bind ok h fun d r1 H1 h1 o1 k1 => ?_
  cases d with
  | true => exact tdb_bind o1 (h1.1 rfl) fun d r2 H2 h2 o2 k2 => k d r2 H2 h2 o2 (k1.trans k2)
  | false => exact k _ r1 H1 (h1.2 rfl) o1 k1
theorem w_or (ha : PDB X W a bA) (hb : PDW X W (.BoolOp .Or (b :: rest) pos) bB) : PDW X W (.BoolOp .Or (a :: b :: rest) pos) (bOr bA bB) := imW (pw_or ha hb) fun σ H Q q => by
  obtain ⟨XR, δ, r, P, ok, h, k⟩ := q
  refine tdb_bind ok h fun d r1 H1 h1 o1 k1 => ?_
  cases d with
  | false => exact tdb_bind o1 (h1.2 rfl) fun d r2 H2 h2 o2 k2 => k d r2 H2 h2 o2 (k1.trans k2)
  | true => exact k _ r1 H1 (h1.1 rfl) o1 k1
theorem b_w (h : PDW X W a bA) : PDB X W a bA := PW.pt h
theorem b_not (ha : PDB X W a bA) : PDB X W (.UnaryOp .Not a pos) (bNot bA) := imT (pt_not ha) fun σ H Q q => by
  obtain ⟨XR, δ, r, P, ok, h, k⟩ := q
  exact tdb_bind ok h fun d r1 H1 h1 o1 k1 => k _ r1 H1 h1 o1 k1
theorem d_one {op} (h : PD X W a ta) : PD X W (.BoolOp op [a] pos) ta := pe_one h
theorem d_and (ha : PD X W a ta) (hb : PD X W (.BoolOp .And (b :: rest) pos) tb) : PD X W (.BoolOp .And (a :: b :: rest) pos) (aAnd ta tb) := imE (pe_and ha hb) fun σ H Q q => by
  obtain ⟨XR, δ, r, P, ok, h, k⟩ := q
  refine td_bind ok h fun d r1 v H1 h1 o1 k1 i1 => ?_
  cases i1 <;> try exact h1.elim
  rename_i d
  refine ⟨d, rfl, ?_⟩
  cases d with
  | true => exact td_bind o1 (h1.1 rfl) fun d r2 v H2 h2 o2 k2 i2 => k d r2 v H2 h2 o2 (k1.trans k2) i2
  | false => exact k _ r1 _ H1 (h1.2 rfl) o1 k1 (.bl _)
theorem d_not (ha : PD X W a ta) : PD X W (.UnaryOp .Not a pos) (aNot ta) := imE (pe_not ha) fun σ H Q q => by
  obtain ⟨XR, δ, r, P, ok, h, k⟩ := q
  refine td_bind ok h fun d r1 v H1 h1 o1 k1 i1 => ?_
  cases i1 <;> try exact h1.elim
  exact ⟨_, rfl, k _ r1 _ H1 h1 o1 k1 (.bl _)⟩
theorem d_if (hc : PDB X W c bA) (ha : PD X W a ta) (hb : PD X W b tb) : PD X W (.IfExp c a b pos) (aIf bA ta tb) := imE (pe_ifExp hc ha hb) fun σ H Q q => by
  obtain ⟨XR, δ, r, P, ok, h, k⟩ := q
  refine tdb_bind ok h fun d r1 H1 h1 o1 k1 => ?_
  cases d with
  | true => exact td_bind o1 (h1.1 rfl) fun d r2 v H2 h2 o2 k2 i2 => k d r2 v H2 h2 o2 (k1.trans k2) i2
  | false => exact td_bind o1 (h1.2 rfl) fun d r2 v H2 h2 o2 k2 i2 => k d r2 v H2 h2 o2 (k1.trans k2) i2
def oNeg (x : D) (k : D → Prop) : Prop := match x with | .int i => k (.int (-i)) | _ => False
def aNeg (t : AT) : AT := fun x δ r P => t x δ r fun d r1 => oNeg d fun d => P d r1
theorem d_neg (ha : PD X W a ta) : PD X W (.UnaryOp .USub a pos) (aNeg ta) := imE (pe_un un_neg ha) fun σ H Q q => by
  obtain ⟨XR, δ, r, P, ok, h, k⟩ := q
  refine td_bind ok h fun d r1 v H1 h1 o1 k1 i1 => ?_
  cases i1 <;> try exact h1.elim
  exact ⟨_, rfl, k _ r1 _ H1 h1 o1 k1 (.int _)⟩
/-- a < b <= c -/
def aChain (o o' : O2) (ta tb tc : AT) : AT := fun x δ r P => ta x δ r fun d1 r1 => tb x δ r1 fun d2 r2 => o d1 d2 fun d => match d with
  | .bl b => (b = true → tc x δ r2 fun d3 r3 => o' d2 d3 fun d => P d r3) ∧ (b = false → P (.bl false) r2)
  | _ => False
theorem td_chain {K : PySem.W.Frag} {W : WX} {o o' : O2} {ta tb tc : AT} {σ : L2.St} {H : Hp} {Q : VK} (q : TD K W (aChain o o' ta tb tc) σ H Q) : tChain (rD K o) (rD K o') (TD K W ta) (TD K W tb) (TD K W tc) σ H Q := by
  obtain ⟨XR, δ, r, P, ok, h, k⟩ := q
  refine td_bind ok h fun d1 r1 v1 H1 h1 o1 k1 i1 => td_bind o1 h1 fun d2 r2 v2 H2 h2 o2 k2 i2 => ?_
  refine ⟨r2, d1, d2, _, o2.r, k2 _ _ i1, i2, h2, fun d v H' p e i => ?_⟩
  cases i <;> try exact p.elim
  rename_i d
  refine ⟨d, rfl, ?_⟩
  cases d with
  | true =>
    show TD K W tc σ H' _
    refine td_bind (o2.ext e) (p.1 rfl) fun d3 r3 v3 H3 h3 o3 k3 i3 => ?_
    exact ⟨r3, d2, d3, fun d => P d r3, o3.r, k3 _ _ (is_ext e _ _ i2), i3, h3, fun d v H' p e' i => k d r3 v H' p (o3.ext e') ((((k1.trans k2).trans (Kp.ext e)).trans k3).trans (Kp.ext e')) i⟩
  | false => exact k _ r2 _ H' (p.2 rfl) (o2.ext e) ((k1.trans k2).trans (Kp.ext e)) (.bl _)
theorem d_chain {op op' : CmpOp} {o o' : O2} (ho : OpR X (compareOp op) (rD X.K o)) (ho' : OpR X (compareOp op') (rD X.K o')) (ha : PD X W a ta) (hb : PD X W b tb) (hc : PD X W c tc)
    (hm : lastMarks [op, op'] [b, c] = false := by with_unfolding_all rfl) : PD X W (.Compare a [op, op'] [b, c] pos) (aChain o o' ta tb tc) := imE (pe_chain ho ho' ha hb hc hm) fun _ _ _ q => td_chain q
theorem b_chain {op op' : CmpOp} {o o' : O2} (ho : OpR X (compareOp op) (rD X.K o)) (ho' : OpR X (compareOp op') (rD X.K o')) (ha : PD X W a ta) (hb : PD X W b tb) (hc : PD X W c tc)
    (hm : lastMarks [op, op'] [b, c] = false := by with_unfolding_all rfl) : PDB X W (.Compare a [op, op'] [b, c] pos) (aTest (aChain o o' ta tb tc)) := imT (pt_chain ho ho' ha hb hc hm) fun _ _ _ q => tdb_test (fun _ q => td_chain q) q
def oIxP : O2 := fun x y k => match x, y with
  | .lst ds, .int i => match atI ds i with | some d => k d | none => False
  | .tup ds, .int i => match atI ds i with | some d => k d | none => False
  | .str z, .int i => match atI z.cps.toList i with | some c => k (.str ⟨#[c]⟩) | none => False
  | _, _ => False
structure oIx (x y : D) (k : D → Prop) : Prop where
  ex : oIxP x y k
theorem at_all {K : PySem.W.Frag} {N : Addr → Prop} {H : Hp} {vs : List V} {ds : List D} {i : Int} {d : D} (h : IsAll K N H vs ds) (e : atI ds i = some d) : ∃ v, atI vs i = some v ∧ Is K N H v d := by
  unfold atI at e ⊢
  rw [h.length]
  cases q : ixN ds.length i with
  | none => rw [q] at e; cases e
  | some j =>
    rw [q] at e
    exact h.getD e
theorem sok_sign {z : Str} {i : Int} {c : Nat} (h : sok z) (e : atI z.cps.toList i = some c) : sok ⟨#[c]⟩ := by
  refine ⟨?_, by show 1 ≤ 1000000; decide⟩
  unfold atI at e
  cases q : ixN z.cps.toList.length i with
  | none => rw [q] at e; cases e
  | some j =>
    rw [q] at e
    have hm := List.mem_of_getElem? e
    have h1 : z.cps.all (fun c => decide (c < 0x110000)) = true := h.1
    rw [← Array.all_toList, List.all_eq_true] at h1
    show (#[c] : Array Nat).all _ = true
    simpa using h1 c hm
theorem p_ix : IxR X (rD X.K oIx) := by
  rintro value slice pins s σ H x y v u Q I rx ry ⟨r, d1, d2, P, hr, i1, i2, ho, k⟩ hs
  obtain ⟨ho⟩ := ho
  cases i1 <;> cases i2 <;> try exact ho.elim
  · rename_i z hz i
    simp only [oIxP] at ho
    split at ho
    · rename_i c hc
      exact ix_str value slice pins s σ H _ _ v u Q I rx ry ⟨_, _, _, rfl, rfl, Nat.le_trans hz.2 (by decide), hc, k _ _ H ho (Ext.refl H) (.str (sok_sign hz hc))⟩ hs
    · exact ho.elim
  · rename_i n h a i
    simp only [oIxP] at ho
    split at ho
    · rename_i d hd
      obtain ⟨w, hw, iw⟩ := at_all a hd
      exact ix_list value slice pins s σ H _ _ v u Q I rx ry ⟨_, _, _, _, rfl, rfl, SqL.of h, hw, k _ _ H ho (Ext.refl H) iw⟩ hs
    · exact ho.elim
  · rename_i h a i
    simp only [oIxP] at ho
    split at ho
    · rename_i d hd
      obtain ⟨w, hw, iw⟩ := at_all a hd
      exact ix_tup value slice pins s σ H _ _ v u Q I rx ry ⟨_, _, _, _, rfl, rfl, h, hw, k _ _ H ho (Ext.refl H) iw⟩ hs
    · exact ho.elim
theorem d_ix (ha : PD X W a ta) (hb : PD X W b tb) (hs : PlainIx b := by exact fun _ _ => rfl) : PD X W (.Subscript a b pos) (aOp oIx ta tb) := imE (pe_ix p_ix ha hb hs) fun _ _ _ q => td_op q
abbrev AO := XT → Dl → Rs → (Option Int → Rs → Prop) → Prop
section
variable {K : PySem.W.Frag}
def aNo : AO := fun x _ r P => P none r
def aPart (t : AT) : AO := fun x δ r P => t x δ r fun d r1 => match d with | .int i => P (some i) r1 | _ => False
def TDO (K : PySem.W.Frag) (W : WX) (t : AO) : TO := fun σ H Q => ∃ XR δ r P, Ok K W XR r δ σ H ∧ t XR δ r P ∧ ∀ o r' H', P o r' → Ok K W XR r' δ σ H' → Kp K r H r' H' → Q o H'
end
def PDO (X : Cx) (W : WX) (e : Option Expr) (t : AO) : Prop := PO X e (TDO X.K W t)
theorem imO {X : Cx} {e : Option Expr} {t t' : TO} (h : PO X e t) (i : ∀ σ H Q, t' σ H Q → t σ H Q) : PO X e t' := ⟨fun pins s σ H Q I q => h.run pins s σ H Q I (i σ H Q q)⟩
theorem o_no : PDO X W none aNo := imO po_none fun σ H Q q => by
  obtain ⟨XR, δ, r, P, ok, h, k⟩ := q
  exact k _ r H h ok Kp.refl
theorem o_some (h : PD X W a ta) : PDO X W (some a) (aPart ta) := imO (po_some h) fun σ H Q q => by
  obtain ⟨XR, δ, r, P, ok, h, k⟩ := q
  refine td_bind ok h fun d r1 v H1 h1 o1 k1 i1 => ?_
  cases i1 <;> try exact h1.elim
  exact ⟨_, rfl, k _ r1 H1 h1 o1 k1⟩
def cutD (xs : List D) (lo hi : Option Int) : List D := (xs.drop (HT.sIx xs.length 0 lo)).take (HT.sIx xs.length xs.length hi - HT.sIx xs.length 0 lo)
/-- x[lo:hi] -/
def oSlP (x : D) (lo hi : Option Int) (k : D → Prop) : Prop := match x with
  | .lst ds => k (.lst (cutD ds lo hi))
  | .tup ds => k (.tup (cutD ds lo hi))
  | .str z => k (.str (cutS z lo hi))
  | _ => False
structure oSl (x : D) (lo hi : Option Int) (k : D → Prop) : Prop where
  ex : oSlP x lo hi k
def aSl (t : AT) (lo hi : AO) : AT := fun x δ r P => t x δ r fun d r1 => lo x δ r1 fun l r2 => hi x δ r2 fun u r3 => oSl d l u fun d => P d r3
def rSlD (K : PySem.W.Frag) : V → Option Int → Option Int → Hp → VK → Prop := fun x lo hi H Q => ∃ (r : Rs) (d : D) (P : D → Prop), Rok K r H ∧ Is K (mem r) H x d ∧ oSl d lo hi P ∧ ∀ d v H', P d → Ext H H' → Is K (mem r) H' v d → Q v H'
theorem cut_all {K : PySem.W.Frag} {N : Addr → Prop} {H : Hp} {vs : List V} {ds : List D} (lo hi : Option Int) (h : IsAll K N H vs ds) : IsAll K N H (cutV vs lo hi) (cutD ds lo hi) := by
  unfold cutV cutD
  rw [h.length]
  exact (h.drop _).take _
theorem sok_cut {z : Str} (h : sok z) (lo hi : Option Int) : sok (cutS z lo hi) := by
  refine ⟨?_, ?_⟩
  · have h1 : z.cps.all (fun c => decide (c < 0x110000)) = true := h.1
    rw [← Array.all_toList, List.all_eq_true] at h1
    show (cutS z lo hi).cps.all (fun c => decide (c < 0x110000)) = true
    rw [← Array.all_toList, List.all_eq_true]
    intro c hc
    unfold cutS at hc
    exact h1 c (List.mem_of_mem_drop (List.mem_of_mem_take (by simpa using hc)))
  · have := h.2
    unfold cutS Str.length at *
    simp only [List.size_toArray, List.length_take, List.length_drop, Array.length_toList]
    omega
theorem p_sl : SlR X (rSlD X.K) := by
  rintro pins s σ H x v vl vu lo hi sl Q I rx hs pl pu ⟨r, d, P, hr, i, ho, k⟩
  obtain ⟨ho⟩ := ho
  cases i <;> try exact ho.elim
  · rename_i hz
    exact sl_str pins s σ H _ v vl vu lo hi sl Q I rx hs pl pu ⟨_, rfl, Nat.le_trans hz.2 (by decide), k _ _ H ho (Ext.refl H) (.str (sok_cut hz lo hi))⟩
  · rename_i n h a
    exact sl_list pins s σ H _ v vl vu lo hi sl Q I rx hs pl pu ⟨_, _, rfl, SqL.of h, fun p hp => k _ _ _ ho (Ext.new hp) (new_lst hr hp (cut_all lo hi a))⟩
  · rename_i h a
    refine sl_tupA pins s σ H _ v vl vu lo hi sl Q I rx hs pl pu ⟨_, _, rfl, h, fun z => ?_, fun _ p hp => k _ _ _ ho (Ext.new hp) (new_tup hp (cut_all lo hi a))⟩
    have e : ∀ ds : List D, HT.sIx ds.length 0 lo = 0 ∧ HT.sIx ds.length ds.length hi = ds.length → cutD ds lo hi = ds := fun ds ⟨z1, z2⟩ => by
      unfold cutD
      rw [z1, z2]
      simp
    rw [a.length] at z
    have ho : P (.tup (cutD _ lo hi)) := ho
    rw [e _ z] at ho
    exact k _ _ H ho (Ext.refl H) (.tup h a)
theorem d_sl {lo hi : Option Expr} {tl th : AO} {p2 : Pos} (ha : PD X W a ta) (hl : PDO X W lo tl) (hh : PDO X W hi th) : PD X W (.Subscript a (.Slice lo hi none p2) pos) (aSl ta tl th) := imE (pe_slice p_sl ha hl hh) fun σ H Q q => by
  obtain ⟨XR, δ, r, P, ok, h, k⟩ := q
  refine td_bind ok h fun d r1 v H1 h1 o1 k1 i1 => ⟨_, δ, r1, _, o1, h1, fun l r2 H2 h2 o2 k2 => ⟨_, δ, r2, _, o2, h2, fun u r3 H3 h3 o3 k3 => ?_⟩⟩
  exact ⟨r3, d, fun d => P d r3, o3.r, k3 _ _ (k2 _ _ i1), h3, fun d v H' p e i => k d r3 v H' p (o3.ext e) (((k1.trans k2).trans k3).trans (Kp.ext e)) i⟩
abbrev OC := List D → (D → Prop) → Prop
def rC (K : PySem.W.Frag) (o : OC) : List V → Hp → VK → Prop := fun vs H Q => ∃ (r : Rs) (ds : List D) (P : D → Prop), Rok K r H ∧ IsAll K (mem r) H vs ds ∧ o ds P ∧ ∀ d v H', P d → Ext H H' → Is K (mem r) H' v d → Q v H'
def aBlt (o : OC) (l : AL) : AT := fun x δ r P => l x δ r fun ds r1 => o ds fun d => P d r1
variable {e : Expr} {es : List Expr} {x : Str} {p : Pos} {l : AL} {o : OC} {bid T : String}
theorem tcb {K : PySem.W.Frag} {W : WX} {o : OC} {l : AL} {σ : L2.St} {H : Hp} {Q : VK} (q : TD K W (aBlt o l) σ H Q) : tCB (rC K o) (TDL K W l) σ H Q := by
  obtain ⟨XR, δ, r, P, ok, h, k⟩ := q
  refine tdl_bind ok h fun ds r1 vs H1 h1 o1 k1 i1 => ⟨r1, ds, fun d => P d r1, o1.r, i1, h1, fun d v H' p e i => k d r1 v H' p (o1.ext e) (k1.trans (Kp.ext e)) i⟩
theorem d_blt (hc : CallR X (.builtin bid) (rC X.K o)) (hg : Gl X x) (hm : X.mg x = none) (ha : PDL X W (e :: es) l) (hv : bootBuiltins x = some (.builtin bid) := by decide +kernel) (hn : x ≠ "__name__" := by decide) (hdb : (x == ("__debug__" : Str)) = false := by decide)
    (he : starEach (e :: es) X.env = (false, eval e X.env) :: starEach es X.env := by rfl) (hpl : (backTo pos (starEach es X.env)).any (·.1) = false := by rfl) : PD X W (.Call (.Name x p) (e :: es) [] pos) (aBlt o l) :=
  imE (pe_callB hc hg hm hv ha hn hdb he hpl) fun _ _ _ q => tcb q
theorem d_ty (hc : CallR X (.type T) (rC X.K o)) (hg : Gl X x) (hm : X.mg x = none) (ha : PDL X W (e :: es) l) (hv : bootBuiltins x = some (.type T) := by decide +kernel) (hn : x ≠ "__name__" := by decide) (hdb : (x == ("__debug__" : Str)) = false := by decide)
    (he : starEach (e :: es) X.env = (false, eval e X.env) :: starEach es X.env := by rfl) (hpl : (backTo pos (starEach es X.env)).any (·.1) = false := by rfl) : PD X W (.Call (.Name x p) (e :: es) [] pos) (aBlt o l) :=
  imE (pe_callTy hc hg hm hv ha hn hdb he hpl) fun _ _ _ q => tcb q
def oLen : OC := fun ds k => match ds with
  | [.lst xs] => xs.length ≤ sizeLine → k (.int xs.length) | [.tup xs] => xs.length ≤ sizeLine → k (.int xs.length) | [.str z] => k (.int z.length) | _ => False
theorem c_len : CallR X (.builtin "len") (rC X.K oLen) := by
  rintro pins s σ H vs us Q I rv ⟨r, ds, P, hr, i, ho, k⟩
  cases i with
  | nil => exact ho.elim
  | cons i t =>
    cases t with
    | cons _ _ => cases i <;> exact ho.elim
    | nil =>
      cases i <;> try exact ho.elim
      · rename_i hz
        exact call_len pins s σ H _ us Q I rv ⟨_, _, rfl, ⟨Nat.le_trans hz.2 (by decide), rfl⟩, k _ _ H ho (Ext.refl H) (.int _)⟩
      · rename_i n h a
        obtain ⟨_, _, _, hz⟩ := I.list (SqL.of h)
        exact call_len pins s σ H _ us Q I rv ⟨_, _, rfl, .inl ⟨_, SqL.of h, rfl⟩, by rw [a.length] at hz ⊢; exact k _ _ H (ho hz) (Ext.refl H) (.int _)⟩
      · rename_i h a
        obtain ⟨_, _, _, hz⟩ := I.tuple h
        exact call_len pins s σ H _ us Q I rv ⟨_, _, rfl, .inr ⟨_, h, rfl⟩, by rw [a.length] at hz ⊢; exact k _ _ H (ho hz) (Ext.refl H) (.int _)⟩
def oList : OC := fun ds k => match ds with | [.lst xs] => k (.lst xs) | [.tup xs] => k (.lst xs) | _ => False
theorem c_list : CallR X (.type "list") (rC X.K oList) := by
  rintro pins s σ H vs us Q I rv ⟨r, ds, P, hr, i, ho, k⟩
  cases i with
  | nil => exact ho.elim
  | cons i t =>
    cases t with
    | cons _ _ => cases i <;> exact ho.elim
    | nil =>
      cases i <;> try exact ho.elim
      · rename_i n h a
        exact call_list_of pins s σ H _ us Q I rv ⟨_, _, rfl, .inl (SqL.of h), fun p hp => k _ _ _ ho (Ext.new hp) (new_lst hr hp a)⟩
      · rename_i h a
        exact call_list_of pins s σ H _ us Q I rv ⟨_, _, rfl, .inr h, fun p hp => k _ _ _ ho (Ext.new hp) (new_lst hr hp a)⟩
def oTuple : OC := fun ds k => match ds with | [.lst xs] => k (.tup xs) | [.tup xs] => k (.tup xs) | _ => False
theorem c_tuple : CallR X (.type "tuple") (rC X.K oTuple) := by
  rintro pins s σ H vs us Q I rv ⟨r, ds, P, hr, i, ho, k⟩
  cases i with
  | nil => exact ho.elim
  | cons i t =>
    cases t with
    | cons _ _ => cases i <;> exact ho.elim
    | nil =>
      cases i <;> try exact ho.elim
      · rename_i n h a
        exact call_tuple_of pins s σ H _ us Q I rv ⟨_, _, rfl, .inl ⟨SqL.of h, fun p hp => k _ _ _ ho (Ext.new hp) (new_tup hp a)⟩⟩
      · rename_i h a
        exact call_tuple_of pins s σ H _ us Q I rv ⟨_, _, rfl, .inr ⟨h, k _ _ H ho (Ext.refl H) (.tup h a)⟩⟩
def bls : List D → Option (List Bool)
  | [] => some []
  | .bl b :: r => (bls r).map (b :: ·)
  | _ :: _ => none
theorem bls_map : ∀ (bs : List Bool), bls (bs.map .bl) = some bs
  | [] => rfl
  | b :: bs => by simp [bls, bls_map bs]
theorem bls_all {K : PySem.W.Frag} {N : Addr → Prop} {H : Hp} : ∀ {vs : List V} {ds : List D} {bs : List Bool}, IsAll K N H vs ds → bls ds = some bs → vs = bs.map V.bl
  | _, _, _, .nil, e => by cases e; rfl
  | _, d :: ds, bs, .cons i t, e => by
    cases i <;> try (simp [bls] at e; done)
    simp only [bls] at e
    cases q : bls ds with
    | none => rw [q] at e; cases e
    | some cs =>
      rw [q] at e
      cases e
      rw [bls_all t q]
      rfl
def oAllP (f : List Bool → Bool) : OC := fun ds k => match ds with | [.lst xs] => (match bls xs with | some bs => k (.bl (f bs)) | none => False) | _ => False
structure oAll (f : List Bool → Bool) (ds : List D) (k : D → Prop) : Prop where
  ex : oAllP f ds k
theorem c_all (hc : X.calm = true := by rfl) : CallR X (.builtin "all") (rC X.K (oAll fun bs => bs.all id)) := by
  rintro pins s σ H vs us Q I rv ⟨r, ds, P, hr, i, ho, k⟩
  obtain ⟨ho⟩ := ho
  cases i with
  | nil => exact ho.elim
  | cons i t =>
    cases t with
    | cons _ _ => cases i <;> exact ho.elim
    | nil =>
      cases i <;> try exact ho.elim
      rename_i n h a
      simp only [oAllP] at ho
      split at ho
      · rename_i bs hb
        have e := bls_all a hb
        subst e
        exact cr_all hc pins s σ H _ us Q I rv ⟨_, _, rfl, SqL.of h, k _ _ H ho (Ext.refl H) (.bl _)⟩
      · exact ho.elim
def tyD : D → String
  | .non => "NoneType" | .bl _ => "bool" | .int _ => "int" | .str _ => "str" | .lst _ => "list" | .tup _ => "tuple" | .dct _ _ => "dict" | _ => ""
def nad : D → Bool | .adr _ => false | .ins _ _ _ => false | _ => true
theorem tyX {K : PySem.W.Frag} {N : Addr → Prop} {H : Hp} {v : V} {d : D} (h : Is K N H v d) (n : nad d = true) : TyX K H v (.type (tyD d)) := by
  cases h with
  | non => exact .base .non
  | bl b => exact .base (.bl b)
  | int i => exact .base (.int i)
  | str _ => exact .base (.str _)
  | adr a => cases n
  | ins _ _ _ _ _ => cases n
  | dct n0 s e a => exact .base (.dK s)
  | lst _ h _ => exact .base (.lst h)
  | tup h _ =>
    rcases h with (h | ⟨o, h⟩) | ⟨o, its, k, h1, h2, _⟩
    · exact .base (.tup h)
    · exact .fTuple h
    · exact .kTuple h1 h2
inductive Ty5 : String → Prop | str : Ty5 "str" | int : Ty5 "int" | bool : Ty5 "bool" | list : Ty5 "list" | tuple : Ty5 "tuple"
def tyB (T n : String) : Bool := T == n || (T == "int" && n == "bool")
def isTy (T : String) (d : D) : Bool := tyB T (tyD d)
theorem kk6 : (ks6.all fun n => ks5.all fun T => decide (kitB n T = some (tyB T n))) = true := by decide +kernel
theorem kk {n T : String} (h : n ∈ ks6) (g : T ∈ ks5) : kitB n T = some (tyB T n) := by
  have q := List.all_eq_true.mp (List.all_eq_true.mp kk6 n h) T g
  exact of_decide_eq_true q
theorem kit5 {K : PySem.W.Frag} {T : String} (t : Ty5 T) (d : D) (n : nad d = true) : PySem.W.kitOne K (.type (tyD d)) (.type T) = some (isTy T d) := by
  refine kit_ty (kk ?_ ?_)
  · cases d <;> first | (cases n; done) | simp [tyD, ks6]
  · cases t <;> simp [ks5]
def noAdr : D → Bool | .adr _ => false | _ => true
theorem kit_own {K : PySem.W.Frag} {C : Addr} {T : String} (t : Ty5 T) (h : ∀ T ∈ ks5, PySem.W.subIn K (.ref C) (.type T) = some false) : PySem.W.kitOne K (.ref C) (.type T) = some false := by
  have hm : T ∈ ks5 := by cases t <;> simp [ks5]
  have km : PySem.W.kitMeta T = true := by cases t <;> decide +kernel
  unfold PySem.W.kitOne
  rw [if_neg (show ¬ ((Value.ref C == Value.type T) = true) by intro e; cases (beq_iff_eq.mp e))]
  show (if PySem.W.kitMeta T = true then PySem.W.subIn K (.ref C) (.type T) else none) = some false
  rw [if_pos km]
  exact h T hm
theorem tyX2 {K : PySem.W.Frag} {N : Addr → Prop} {H : Hp} {v : V} {d : D} (h : Is K N H v d) (n : noAdr d = true) : ∃ t, TyX K H v t ∧ ∀ T, Ty5 T → PySem.W.kitOne K t (.type T) = some (isTy T d) := by
  cases d with
  | adr a => cases n
  | ins C fs ds =>
    cases h with
    | ins n s e g a =>
      refine ⟨_, .base (.ins s g.cls g.p.kls g.p.get g.p.tak g.p.mro), fun T t => ?_⟩
      rw [kit_own t g.p.sub]
      cases t <;> rfl
  | non => exact ⟨_, tyX h rfl, fun T t => kit5 t _ rfl⟩
  | bl b => exact ⟨_, tyX h rfl, fun T t => kit5 t _ rfl⟩
  | int i => exact ⟨_, tyX h rfl, fun T t => kit5 t _ rfl⟩
  | str x => exact ⟨_, tyX h rfl, fun T t => kit5 t _ rfl⟩
  | lst ds => exact ⟨_, tyX h rfl, fun T t => kit5 t _ rfl⟩
  | tup ds => exact ⟨_, tyX h rfl, fun T t => kit5 t _ rfl⟩
  | dct ks ds => exact ⟨_, tyX h rfl, fun T t => kit5 t _ rfl⟩
/-- isinstance(x, T) -/
def aIsi (T : String) (t : AT) : AT := fun x δ r P => t x δ r fun d r1 => match d with | .adr _ => False | d => P (.bl (isTy T d)) r1
theorem d_isi {q : Pos} {y : Str} (ht : Ty5 T) (hg : Gl X "isinstance") (hm : X.mg "isinstance" = none) (ha : PD X W a ta) (gy : Gl X y) (my : X.mg y = none) (by_ : bootBuiltins y = some (.type T) := by decide +kernel) (hny : y ≠ "__name__" := by decide) (hdy : (y == ("__debug__" : Str)) = false := by decide)
    (he : starEach [a, .Name y q] X.env = (false, eval a X.env) :: starEach [.Name y q] X.env := by rfl) (hpl : (backTo pos (starEach [.Name y q] X.env)).any (·.1) = false := by rfl) (he2 : starEach [.Name y q] X.env = (false, eval (.Name y q) X.env) :: starEach [] X.env := by rfl) :
    PD X W (.Call (.Name "isinstance" p) [a, .Name y q] [] pos) (aIsi T ta) := imE (pe_callB call_isi hg hm (by decide +kernel) (pa_cons ha (pa_cons (pe_bltn (v := .ty T) gy my by_ rfl hny hdy) pa_nil he2) he) (by decide) (by decide) he hpl) fun σ H Q q => by
  obtain ⟨XR, δ, r, P, ok, h, k⟩ := q
  refine td_bind ok h fun d r1 v H1 h1 o1 k1 i1 => ?_
  have n : noAdr d = true := by cases d <;> first | exact h1.elim | rfl
  obtain ⟨t0, ty0, kt0⟩ := tyX2 i1 n
  have h2 : P (.bl (isTy T d)) r1 := by cases d <;> first | exact h1.elim | exact h1
  exact ⟨v, .ty T, _, _, _, rfl, .ty T, ty0, kt0 T ht, k _ r1 _ H1 h2 o1 k1 (.bl _)⟩
/-- isinstance(x, (T, U)) -/
def aIsi2 (T U : String) (t : AT) : AT := fun x δ r P => t x δ r fun d r1 => match d with | .adr _ => False | d => P (.bl (isTy T d || isTy U d)) r1
theorem d_isi2 {U : String} {q q2 q3 : Pos} {kk} {y z : Str} (ht : Ty5 T) (hu : Ty5 U) (hg : Gl X "isinstance") (hm : X.mg "isinstance" = none) (ha : PD X W a ta) (gy : Gl X y) (my : X.mg y = none) (gz : Gl X z) (mz : X.mg z = none) (by_ : bootBuiltins y = some (.type T) := by decide +kernel) (bz : bootBuiltins z = some (.type U) := by decide +kernel)
    (hny : y ≠ "__name__" := by decide) (hdy : (y == ("__debug__" : Str)) = false := by decide) (hnz : z ≠ "__name__" := by decide) (hdz : (z == ("__debug__" : Str)) = false := by decide)
    (he : starEach [a, .Tuple [.Name y q, .Name z q2] kk q3] X.env = (false, eval a X.env) :: starEach [.Tuple [.Name y q, .Name z q2] kk q3] X.env := by rfl) (hpl : (backTo pos (starEach [.Tuple [.Name y q, .Name z q2] kk q3] X.env)).any (·.1) = false := by rfl)
    (he2 : starEach [.Tuple [.Name y q, .Name z q2] kk q3] X.env = (false, eval (.Tuple [.Name y q, .Name z q2] kk q3) X.env) :: starEach [] X.env := by rfl)
    (he3 : starEach [.Name y q, .Name z q2] X.env = (false, eval (.Name y q) X.env) :: starEach [.Name z q2] X.env := by rfl) (he4 : starEach [.Name z q2] X.env = (false, eval (.Name z q2) X.env) :: starEach [] X.env := by rfl) :
    PD X W (.Call (.Name "isinstance" p) [a, .Tuple [.Name y q, .Name z q2] kk q3] [] pos) (aIsi2 T U ta) :=
  imE (pe_callB call_isiT hg hm (by decide +kernel) (pa_cons ha (pa_cons (pe_tup (pa_cons (pe_bltn (v := .ty T) gy my by_ rfl hny hdy) (pa_cons (pe_bltn (v := .ty U) gz mz bz rfl hnz hdz) pa_nil he4) he3)) pa_nil he2) he) (by decide) (by decide) he hpl) fun σ H Q q => by
  obtain ⟨XR, δ, r, P, ok, h, k⟩ := q
  refine td_bind ok h fun d r1 v H1 h1 o1 k1 i1 => ⟨(by decide : 2 ≤ sizeLine), fun tp htp => ?_⟩
  have n : noAdr d = true := by cases d <;> first | exact h1.elim | rfl
  obtain ⟨t0, ty0, kt0⟩ := tyX2 (is_ext (Ext.new htp (o := .tup [.ty T, .ty U])) _ _ i1) n
  have h2 : P (.bl (isTy T d || isTy U d)) r1 := by cases d <;> first | exact h1.elim | exact h1
  refine ⟨v, tp, _, _, [.type T, .type U], isTy T d || isTy U d, rfl, upd_same, .cons (.ty T) (.cons (.ty U) .nil), ty0, ?_, k _ r1 _ _ h2 (o1.new htp) (k1.trans (Kp.ext (Ext.new htp))) (.bl _)⟩
  exact kitAny_cons (kt0 T ht) (fun e => by rw [e, Bool.false_or]; exact kitAny_cons (kt0 U hu) (fun e => by rw [e]; exact kitAny_nil) (fun e => e)) (fun e => by rw [e]; rfl)
end
end G
namespace G
open PySem PySem.Spec L2
/-- what follows a statement -/
structure An where
  nx : Dl → Rs → Prop
  rt : D → Rs → Prop := fun _ _ => False
  bk : Dl → Rs → Prop := fun _ _ => False
  ct : Dl → Rs → Prop := fun _ _ => False
  xr : XT := fun _ _ _ _ _ => False
abbrev AS := An → Dl → Rs → Prop
structure Fin (K : PySem.W.Frag) (W : WX) (A : An) (r : Rs) (H : Hp) (D : Ends) : Prop where
  nx : ∀ δ' r' σ' H', A.nx δ' r' → Ok K W A.xr r' δ' σ' H' → Kp K r H r' H' → D.nx σ' H'
  rt : ∀ d r' v H', A.rt d r' → Rok K r' H' → Kp K r H r' H' → Is K (mem r') H' v d → D.rt v H'
  bk : ∀ δ' r' σ' H', A.bk δ' r' → Ok K W A.xr r' δ' σ' H' → Kp K r H r' H' → D.bk σ' H'
  ct : ∀ δ' r' σ' H', A.ct δ' r' → Ok K W A.xr r' δ' σ' H' → Kp K r H r' H' → D.ct σ' H'
theorem Fin.step {K : PySem.W.Frag} {W : WX} {A : An} {r r1 : Rs} {H H1 : Hp} {D : Ends} (f : Fin K W A r H D) (k : Kp K r H r1 H1) : Fin K W A r1 H1 D :=
  ⟨fun δ r' σ H' a o q => f.nx δ r' σ H' a o (k.trans q), fun d r' v H' a o q i => f.rt d r' v H' a o (k.trans q) i, fun δ r' σ H' a o q => f.bk δ r' σ H' a o (k.trans q), fun δ r' σ H' a o q => f.ct δ r' σ H' a o (k.trans q)⟩
def TSD (K : PySem.W.Frag) (W : WX) (t : AS) : TS := fun D σ H => ∃ δ r A, Ok K W A.xr r δ σ H ∧ t A δ r ∧ Fin K W A r H D
def PSD (X : Cx) (W : WX) (st : Stmt) (t : AS) : Prop := PS X st (TSD X.K W t)
def PBD (X : Cx) (W : WX) (st : List Stmt) (t : AS) : Prop := PSs X st (TSD X.K W t)
section
variable {K : PySem.W.Frag}
def sNext : AS := fun A δ r => A.nx δ r
def sSeq (t u : AS) : AS := fun A δ r => t { A with nx := fun δ' r' => u A δ' r' } δ r
def sExpr (t : AT) : AS := fun A δ r => t A.xr δ r fun _ r1 => A.nx δ r1
def sRet (t : AT) : AS := fun A δ r => t A.xr δ r A.rt
def sIf (c : AB) (t u : AS) : AS := fun A δ r => c A.xr δ r fun b r1 => (b = true → t A δ r1) ∧ (b = false → u A δ r1)
def sAsg (i : Nat) (t : AT) : AS := fun A δ r => t A.xr δ r fun d r1 => A.nx (δ.set i (some d)) r1
def setAll : Dl → List Nat → List D → Dl
  | δ, i :: is, d :: ds => setAll (δ.set i (some d)) is ds
  | δ, _, _ => δ
end
section
variable {X : Cx} {W : WX} {st : Stmt} {rest : List Stmt} {t u : AS} {e c : Expr} {te : AT} {tc : AB} {pos : Pos}
theorem ss_nil : PBD X W [] sNext := imSs pss_nil fun D σ H ⟨δ, r, A, o, h, f⟩ => f.nx _ _ _ _ h o Kp.refl
theorem ss_one (h : PSD X W st t) : PBD X W [st] t := pss_one h
theorem ss_cons (h1 : PSD X W st t) (h2 : PBD X W rest u) : PBD X W (st :: rest) (sSeq t u) := imSs (pss_cons h1 h2) fun D σ H ⟨δ, r, A, o, h, f⟩ =>
  ⟨δ, r, { A with nx := fun δ' r' => u A δ' r' }, o, h, ⟨fun δ' r' σ' H' a o' k => ⟨δ', r', A, o', a, f.step k⟩, f.rt, f.bk, f.ct⟩⟩
theorem s_expr (he : PD X W e te) (hs : swapsWith e none pos.line X.env = pure false := by rfl) : PSD X W (.Expr e pos) (sExpr te) := imS (ps_expr he hs) fun D σ H ⟨δ, r, A, o, h, f⟩ =>
  td_bind o h fun d r1 v H1 h1 o1 k1 i1 => f.nx _ _ _ _ h1 o1 k1
theorem s_ret (he : PD X W e te) : PSD X W (.Return (some e) pos) (sRet te) := imS (ps_ret he) fun D σ H ⟨δ, r, A, o, h, f⟩ =>
  td_bind o h fun d r1 v H1 h1 o1 k1 i1 => f.rt _ _ _ _ h1 o1.r k1 i1
theorem s_if {a b : List Stmt} (hc : PDB X W c tc) (ha : PBD X W a t) (hb : PBD X W b u) : PSD X W (.If c a b pos) (sIf tc t u) := imS (ps_if hc ha hb) fun D σ H ⟨δ, r, A, o, h, f⟩ =>
  tdb_bind o h fun d r1 H1 h1 o1 k1 => by
    cases d with
    | true => exact ⟨δ, r1, A, o1, h1.1 rfl, f.step k1⟩
    | false => exact ⟨δ, r1, A, o1, h1.2 rfl, f.step k1⟩
theorem s_set {i : Nat} {x : Str} {pos' : Pos} (hN : X.N.Nodup) (he : PD X W e te) (hi : X.N[i]? = some x := by rfl) (hx : Loc X.env.scope x := by first | exact Or.inl rfl | exact Or.inr rfl) (hs : swapsWith e (some (.Name x pos')) pos.line X.env = pure false := by rfl)
    (hf : X.fn x = true ∨ X.env.scope.names.lookup x = some .local := by first | exact .inl rfl | exact .inr rfl | assumption) : PSD X W (.Assign [.Name x pos'] e pos) (sAsg i te) := imS (ps_set hN hi hx he hs hf) fun D σ H ⟨δ, r, A, o, h, f⟩ =>
  td_bind o h fun d r1 v H1 h1 o1 k1 i1 => f.nx _ _ _ _ h1 (o1.set i1) k1
end
/-- the turns of J yield the data ds, whatever else happens -/
def Walks (K : PySem.W.Frag) (J : It) (ds : List D) (r : Rs) (H : Hp) : Prop := ∀ i r1 H1, Kp K r H r1 H1 → Rok K r1 H1 →
  (i < ds.length → J.go i H1 ∧ ∀ x H2, J.yld i H1 x H2 → Ext H1 H2 ∧ ∃ d, ds[i]? = some d ∧ Is K (mem r1) H2 x d) ∧ (i = ds.length → J.stop i H1)
abbrev AI := XT → Dl → Rs → (List D → Rs → Prop) → Prop
def TDI (K : PySem.W.Frag) (W : WX) (t : AI) : TI := fun σ H R => ∃ XR δ r P, Ok K W XR r δ σ H ∧ t XR δ r P ∧ ∀ ds r' J H', P ds r' → Ok K W XR r' δ σ H' → Kp K r H r' H' → Walks K J ds r' H' → R J H'
def PDI (X : Cx) (W : WX) (tg iter : Expr) (t : AI) : Prop := PI X tg iter (TDI X.K W t)
theorem imI {X : Cx} {tg e : Expr} {t t' : TI} (h : PI X tg e t) (i : ∀ σ H Q, t' σ H Q → t σ H Q) : PI X tg e t' := ⟨fun pins s σ H Q I q => h.run pins s σ H Q I (i σ H Q q)⟩
section
variable {X : Cx} {W : WX} {tg e : Expr} {te : AT} {pos : Pos}
def iSeqL (t : AT) : AI := fun x δ r P => t x δ r fun d r1 => match d with | .lst ds => P ds r1 | _ => False
theorem walks_l {K : PySem.W.Frag} {r : Rs} {H : Hp} {a : Addr} {ds : List D} (h : Is K (mem r) H (.ref a) (.lst ds)) : Walks K (Itl K a) ds r H := by
  intro i r1 H1 k _
  cases k _ _ h with
  | lst n s al =>
    rename_i xs
    refine ⟨fun hi => ⟨⟨xs, xs[i]'(by rw [al.length]; exact hi), SqL.of s, by simp⟩, ?_⟩, fun hi => ⟨xs, SqL.of s, by rw [al.length, hi] <;> exact Nat.le_refl _⟩⟩
    rintro x H2 ⟨rfl, hx⟩
    obtain ⟨d, h1, h2⟩ := al.get (hx xs (SqL.of s))
    exact ⟨Ext.refl _, d, h1, h2⟩
theorem i_list (h : PD X W e te) : PDI X W tg e (iSeqL te) := imI (pi_list h) fun σ H Q ⟨XR, δ, r, P, o, q, k⟩ => td_bind o q fun d r1 v H1 h1 o1 k1 i1 => by
  cases i1 with
  | lst n s al => exact ⟨_, rfl, ⟨_, SqL.of s⟩, k _ _ _ _ h1 o1 k1 (walks_l (.lst n s al))⟩
  | _ => exact h1.elim
def iStrD (t : AT) : AI := fun x δ r P => t x δ r fun d r1 => match d with | .str z => P (z.cps.toList.map fun c => .str ⟨#[c]⟩) r1 | _ => False
theorem sok_mem {z : Str} {c : Nat} (h : sok z) (e : c ∈ z.cps.toList) : sok ⟨#[c]⟩ := by
  refine ⟨?_, by show 1 ≤ 1000000; decide⟩
  have h1 : z.cps.all (fun c => decide (c < 0x110000)) = true := h.1
  rw [← Array.all_toList, List.all_eq_true] at h1
  show (#[c] : Array Nat).all _ = true
  simpa using h1 c e
theorem i_str (h : PD X W e te) : PDI X W tg e (iStrD te) := imI (pi_str h) fun σ H Q ⟨XR, δ, r, P, o, q, k⟩ => td_bind o q fun d r1 v H1 h1 o1 k1 i1 => by
  cases i1 with
  | str s =>
    rename_i z
    refine ⟨_, rfl, k _ _ _ _ h1 o1 k1 ?_⟩
    intro i r2 H2 _ _
    refine ⟨fun hi => ⟨(show i < z.cps.size by simpa using hi), ?_⟩, fun hi => ?_⟩
    · rintro x H3 ⟨rfl, c, hc, rfl⟩
      have hm : c ∈ z.cps.toList := by
        have := Array.mem_of_getElem? hc
        simpa using this
      refine ⟨Ext.refl _, .str ⟨#[c]⟩, ?_, .str (sok_mem s hm)⟩
      rw [List.getElem?_map, Array.getElem?_toList, hc]
      rfl
    · show z.cps.size ≤ i
      rw [hi]
      simp
  | _ => exact h1.elim
def iR1 (l : AL) : AI := fun x δ r P => l x δ r fun ds r1 => match ds with | [.int n] => (-(2 ^ 62) ≤ n ∧ n < 2 ^ 62) ∧ P ((List.range n.toNat).map fun i => .int (i : Nat)) r1 | _ => False
theorem walks_r {K : PySem.W.Frag} {r : Rs} {H : Hp} {lo : Int} {n : Nat} : Walks K (Itr lo n) ((List.range n).map fun i => .int (lo + (i : Nat))) r H := by
  intro i r1 H1 _ _
  refine ⟨fun hi => ⟨(show i < n by simpa using hi), ?_⟩, fun hi => ?_⟩
  · rintro x H2 ⟨rfl, rfl⟩
    have hi' : i < n := by simpa using hi
    refine ⟨Ext.refl _, .int (lo + i), ?_, .int _⟩
    rw [List.getElem?_map, List.getElem?_range hi']
    rfl
  · show n ≤ i
    rw [hi]
    simp
theorem i_r1 {p : Pos} {l : AL} (hg : Gl X "range") (hm : X.mg "range" = none) (ha : PDL X W [e] l) (hs : starEach [e] X.env = [(false, eval e X.env)] := by rfl) : PDI X W tg (.Call (.Name "range" p) [e] [] pos) (iR1 l) :=
  imI (pi_range1 hg hm ha hs) fun σ H Q ⟨XR, δ, r, P, o, q, k⟩ => tdl_bind o q fun ds r1 vs H1 h1 o1 k1 i1 => by
    match ds, h1, i1 with
    | [.int n], h1, .cons (.int _) .nil =>
      refine ⟨_, rfl, h1.1.1, h1.1.2, k _ _ _ _ h1.2 o1 k1 ?_⟩
      have w := walks_r (K := X.K) (r := r1) (H := H1) (lo := 0) (n := n.toNat)
      simp only [Int.zero_add] at w
      exact w
abbrev AG := D → Dl → (Dl → Prop) → Prop
def gN (i : Nat) : AG := fun d δ Q => Q (δ.set i (some d))
def Agree (js : List Nat) (σ σ' : L2.St) : Prop := σ'.length = σ.length ∧ ∀ k : Nat, k ∉ js → σ'[k]? = σ[k]?
theorem Agree.trans {js : List Nat} {σ σ1 σ2 : L2.St} (a : Agree js σ σ1) (b : Agree js σ1 σ2) : Agree js σ σ2 := ⟨b.1.trans a.1, fun k h => (b.2 k h).trans (a.2 k h)⟩
theorem Agree.set {js : List Nat} {σ : L2.St} {i : Nat} {x : Option V} (h : i ∈ js) : Agree js σ (σ.set i x) := ⟨List.length_set, fun k hk => List.getElem?_set_ne (fun (e : i = k) => hk (e ▸ h))⟩
def TDG (K : PySem.W.Frag) (js : List Nat) (g : AG) : TG := fun v σ H Q => ∃ (W : WX) (XR : XT) (δ : Dl) (r : Rs) (d : D) (P : Dl → Prop), Ok K W XR r δ σ H ∧ Is K (mem r) H v d ∧ g d δ P ∧ ∀ δ' σ', P δ' → Ok K W XR r δ' σ' H → Agree js σ σ' → Q σ' H
def PDG (X : Cx) (target : Expr) (js : List Nat) (g : AG) : Prop := PG X target (TDG X.K js g)
theorem imG {X : Cx} {e : Expr} {t t' : TG} (h : PG X e t) (i : ∀ v σ H Q, t' v σ H Q → t v σ H Q) : PG X e t' := ⟨fun pins s σ H v u Q I rv q => h.run pins s σ H v u Q I rv (i v σ H Q q)⟩
theorem g_name {i : Nat} {x : Str} (hN : X.N.Nodup) (hi : X.N[i]? = some x := by rfl) (hx : Loc X.env.scope x := by first | exact Or.inl rfl | exact Or.inr rfl) (hf : X.fn x = true ∨ X.env.scope.names.lookup x = some .local := by first | exact .inl rfl | exact .inr rfl | assumption) : PDG X (.Name x pos) [i] (gN i) :=
  imG (pg_name hN hi hx hf) fun v σ H Q ⟨_, _, δ, r, d, P, o, i, g, k⟩ => k _ _ g (o.set i) (Agree.set List.mem_cons_self)
def sForK (g : AG) (tb : AS) (A : An) (ds : List D) (δ : Dl) (r1 : Rs) : Prop := ∃ I : Nat → Dl → Rs → Prop, I 0 δ r1 ∧
  (∀ i d δ' r', ds[i]? = some d → I i δ' r' → g d δ' fun δ2 => tb { A with nx := I (i + 1), ct := I (i + 1), bk := A.nx } δ2 r') ∧ ∀ δ' r', I ds.length δ' r' → A.nx δ' r'
def sFor (ti : AI) (g : AG) (tb : AS) : AS := fun A δ r => ti A.xr δ r fun ds r1 => sForK g tb A ds δ r1
theorem s_for {body : List Stmt} {js : List Nat} {wi : AI} {g : AG} {tb : AS} (hi : PDI X W tg e wi) (hg : PDG X tg js g) (hb : PBD X W body tb) (hp : PassesOwn (model X.prog X.w) X.A X.env X.xe) (hc : X.calm = true := by rfl)
    (hs : ∀ x, foldedSetIterable e X.env x = pure x := by intro _; rfl) : PSD X W (.For tg e body [] pos) (sFor wi g tb) := imS (ps_for hp hc hi hg hb hs) fun D σ H ⟨δ, r, A, o, h, f⟩ =>
  ⟨A.xr, δ, r, _, o, h, fun ds r1 J H1 ⟨I, h0, hst, hd⟩ o1 k1 w => by
    refine ⟨fun i m σ' H' => m = ds.length - i ∧ i ≤ ds.length ∧ ∃ δ' r', I i δ' r' ∧ Ok X.K W A.xr r' δ' σ' H' ∧ Kp X.K r1 H1 r' H', ⟨ds.length, by simp, Nat.zero_le _, δ, r1, h0, o1, Kp.refl⟩, ?_⟩
    rintro i m σ' H' ⟨rfl, hi, δ', r', hI, o', k'⟩
    by_cases hlt : i < ds.length
    · obtain ⟨hgo, hy⟩ := (w i r' H' k' o'.r).1 hlt
      refine .inr ⟨hgo, fun σ2 H2 => ∃ δ2 r2, I (i + 1) δ2 r2 ∧ Ok X.K W A.xr r2 δ2 σ2 H2 ∧ Kp X.K r1 H1 r2 H2, fun σ2 H2 ⟨δ2, r2, q1, q2, q3⟩ => ⟨ds.length - (i + 1), by omega, rfl, hlt, δ2, r2, q1, q2, q3⟩, fun x H2 y => ?_⟩
      obtain ⟨ex, d, hd', ix⟩ := hy x H2 y
      refine ⟨W, A.xr, δ', r', d, _, o'.ext ex, ix, hst i d δ' r' hd' hI, fun δ2 σ2 q o2 _ => ⟨δ2, r', { A with nx := I (i + 1), ct := I (i + 1), bk := A.nx }, o2, q, ?_⟩⟩
      have kk := k'.trans (Kp.ext ex)
      have fk := f.step (k1.trans kk)
      exact ⟨fun δ3 r3 σ3 H3 a o3 k3 => ⟨δ3, r3, a, o3, kk.trans k3⟩, fk.rt, fun δ3 r3 σ3 H3 a o3 k3 => fk.nx δ3 r3 σ3 H3 a o3 k3, fun δ3 r3 σ3 H3 a o3 k3 => ⟨δ3, r3, a, o3, kk.trans k3⟩⟩
    · have e : i = ds.length := by omega
      exact .inl ⟨(w i r' H' k' o'.r).2 e, f.nx _ _ _ _ (hd δ' r' (e ▸ hI)) o' (k1.trans k')⟩⟩
end
end G
namespace G
open PySem PySem.Spec L2
def wipeD (δ : Dl) : List Nat → Dl
  | [] => δ
  | v :: vs => (wipeD δ vs).set v none
theorem Ok.wipe {K : PySem.W.Frag} {W : WX} {XR : XT} {r : Rs} {δ : Dl} {σ : L2.St} {H : Hp} (o : Ok K W XR r δ σ H) : ∀ vs : List Nat, Ok K W XR r (wipeD δ vs) (wipe σ vs) H
  | [] => o
  | v :: vs => (Ok.wipe o vs).drop
theorem wipe_get (σ : L2.St) : ∀ (vs : List Nat) (k : Nat), (wipe σ vs)[k]? = if k ∈ vs ∧ k < σ.length then some none else σ[k]?
  | [], k => by simp [wipe]
  | v :: vs, k => by
    unfold wipe
    rw [List.getElem?_set]
    by_cases e : v = k
    · subst e
      rw [if_pos rfl, wipe_length]
      by_cases h : v < σ.length
      · rw [if_pos h, if_pos ⟨List.mem_cons_self, h⟩]
      · rw [if_neg h, if_neg (fun z => h z.2), List.getElem?_eq_none (by omega)]
    · rw [if_neg e, wipe_get σ vs k]
      have : (k ∈ v :: vs) ↔ k ∈ vs := ⟨fun z => (List.mem_cons.mp z).elim (fun q => absurd q.symm e) id, List.mem_cons_of_mem _⟩
      simp only [this]
theorem wipe_agree {σ σ' : L2.St} {js vs : List Nat} (a : Agree js (wipe σ vs) σ') (h : ∀ j ∈ js, j ∈ vs) : wipe σ' vs = wipe σ vs := by
  apply List.ext_getElem?
  intro k
  rw [wipe_get, wipe_get]
  have hl : σ'.length = σ.length := by rw [a.1, wipe_length]
  rw [hl]
  by_cases c : k ∈ vs ∧ k < σ.length
  · rw [if_pos c, if_pos c]
  · rw [if_neg c, if_neg c]
    by_cases hk : k ∈ vs
    · have h1 : σ.length ≤ k := Nat.le_of_not_lt fun z => c ⟨hk, z⟩
      rw [List.getElem?_eq_none (by omega), List.getElem?_eq_none h1]
    · rw [a.2 k (fun z => hk (h k z)), wipe_get, if_neg c]
section
variable {K : PySem.W.Frag}
theorem rok_plus {r : Rs} {H : Hp} {p : Addr} (h : Rok K r H) (hp : H p = none) : Rok K (r ++ [lstA p []]) (upd H p (.lst [])) ∧ Kp K r H (r ++ [lstA p []]) (upd H p (.lst [])) := by
  have e : ∀ a, mem (r ++ [lstA p []]) a → mem r a ∨ a = p := fun a z => (mem_append.mp z).elim .inl fun z => z.elim .inr False.elim
  refine ⟨hold_append.mpr ⟨hold_anti e (hold_ext (Ext.new hp) (hold_grow hp h)), ⟨⟨[], upd_same, .nil⟩, fun _ _ z => z, True.intro⟩, fun a m z => ?_⟩, fun v d i => is_anti e (is_ext (Ext.new hp) _ _ (is_grow hp i))⟩
  have : a = p := z.elim (fun z => z) False.elim
  subst this
  exact not_al h hp m
theorem is_otherO {N : Addr → Prop} {H : Hp} {q : Addr} {u u' : HO} (hN : N q) (hD : H q = some u) (nt : ∀ xs, u ≠ .tup xs ∧ ∀ o : Obj, u ≠ .frz o (.tup xs)) {v : V} {d : D} (h : Is K N H v d) : Is K N (upd H q u') v d := by
  refine Is.go (fun a o _ n s => ⟨n, by rw [upd_ne (fun (e : a = q) => n (e ▸ hN))]; exact s⟩) (fun a xs s => ?_) d v h
  rcases s with (s | ⟨o, s⟩) | s
  · exact .inl (.inl (by rw [upd_ne (fun e => by subst e; rw [hD] at s; exact (nt xs).1 (Option.some.inj s))]; exact s))
  · exact .inl (.inr ⟨o, by rw [upd_ne (fun e => by subst e; rw [hD] at s; exact (nt xs).2 o (Option.some.inj s))]; exact s⟩)
  · exact .inr s
theorem is_other {N : Addr → Prop} {H : Hp} {q : Addr} {ys : List V} (hN : N q) {xs : List V} (hD : H q = some (.lst xs)) {v : V} {d : D} (h : Is K N H v d) : Is K N (upd H q (.lst ys)) v d := is_otherO hN hD (fun _ => ⟨(fun e => by cases e), (fun _ e => by cases e)⟩) h
theorem rok_more {r : Rs} {H : Hp} {p : Addr} {acc : List D} {v : V} {d : D} (h : Rok K (r ++ [lstA p acc]) H) (i : Is K (mem (r ++ [lstA p acc])) H v d) : ∃ vs, H p = some (.lst vs) ∧ vs.length = acc.length ∧
    Rok K (r ++ [lstA p (acc ++ [d])]) (upd H p (.lst (vs ++ [v]))) ∧ ∀ w e, Is K (mem (r ++ [lstA p acc])) H w e → Is K (mem (r ++ [lstA p (acc ++ [d])])) (upd H p (.lst (vs ++ [v]))) w e := by
  obtain ⟨h1, ⟨⟨vs, h2, h3⟩, _, _⟩, h5⟩ := hold_append.mp h
  have me : mem (r ++ [lstA p acc]) = mem (r ++ [lstA p (acc ++ [d])]) := by
    funext a
    exact propext ((mem_append).trans (mem_append (r := r) (r' := [lstA p (acc ++ [d])])).symm)
  have hN : mem (r ++ [lstA p acc]) p := mem_append.mpr (.inr (.inl rfl))
  have go : ∀ w e, Is K (mem (r ++ [lstA p acc])) H w e → Is K (mem (r ++ [lstA p acc])) (upd H p (.lst (vs ++ [v]))) w e := fun w e q => is_other hN h2 q
  refine ⟨vs, h2, h3.length, ?_, fun w e q => me ▸ go w e q⟩
  refine hold_append.mpr ⟨?_, ⟨⟨vs ++ [v], upd_same, ?_⟩, fun _ _ z => z, True.intro⟩, h5⟩
  · rw [← me]
    refine hold_loc (fun b o m q => ?_) go h1
    rw [upd_ne (fun e => h5 b m (.inl e))]
    exact q
  · rw [← me]
    exact (all_of go h3).append (.cons (go _ _ i) .nil)
theorem le_rok {r r' : Rs} (l : le r r') {H : Hp} (h : Rok K r H) : Rok K r' H := l.r _ H h
/-- our own list is a list like others -/
theorem rok_done {r : Rs} {H : Hp} {p : Addr} {acc : List D} (h : Rok K (r ++ [lstA p acc]) H) : Rok K r H ∧ Is K (mem r) H (.ref p) (.lst acc) ∧ Kp K (r ++ [lstA p acc]) H r H := by
  obtain ⟨h1, ⟨⟨vs, h2, h3⟩, _, _⟩, h5⟩ := hold_append.mp h
  have an : ∀ a, mem r a → mem (r ++ [lstA p acc]) a := fun a z => mem_append.mpr (.inl z)
  exact ⟨hold_anti an h1, .lst (fun z => h5 p z (.inl rfl)) h2 (all_of (fun _ _ => is_anti an) h3), fun _ _ => is_anti an⟩
def bYes : AB := fun x _ r P => P true r
structure aLcK (x : XT) (g : AG) (tt : AB) (te : AT) (δw : Dl) (ds : List D) (r1 : Rs) (P : PK1) : Prop where
  ex : ∃ I : Nat → List D → Rs → Prop, I 0 [] r1 ∧
  (∀ (p : Addr) i d acc r', ds[i]? = some d → I i acc r' → g d δw fun δ2 => tt x δ2 (r' ++ [lstA p acc]) fun b r2 =>
    (b = true → te x δ2 r2 fun y r3 => small (acc.length + 1) ∧ ∃ r4, le r3 (r4 ++ [lstA p acc]) ∧ I (i + 1) (acc ++ [y]) r4) ∧ (b = false → ∃ r4, le r2 (r4 ++ [lstA p acc]) ∧ I (i + 1) acc r4)) ∧
  ∀ acc r', I ds.length acc r' → P (.lst acc) r'
def aLc (ti : AI) (g : AG) (tt : AB) (te : AT) (vs : List Nat) : AT := fun x δ r P => ti x δ r fun ds r1 => aLcK x g tt te (wipeD δ vs) ds r1 P
theorem td_lc {W : WX} {ti : AI} {g : AG} {tt : AB} {te : AT} {vs js : List Nat} (hj : ∀ j ∈ js, j ∈ vs) {σ : L2.St} {H : Hp} {Q : VK} (q : TD K W (aLc ti g tt te vs) σ H Q) : tLc (TDI K W ti) (TDG K js g) (TDB K W tt) (TD K W te) vs σ H Q := by
  obtain ⟨XR, δ, r, P, o, h, k⟩ := q
  refine ⟨XR, δ, r, _, o, h, fun ds r1 J H1 ⟨⟨I, h0, hst, hd⟩⟩ o1 k1 w p hp => ?_⟩
  obtain ⟨s1, s2⟩ := rok_plus o1.r hp
  refine ⟨fun i m H' => m = ds.length - i ∧ i ≤ ds.length ∧ ∃ acc r', I i acc r' ∧ Rok K (r' ++ [lstA p acc]) H' ∧ Kp K r1 H1 (r' ++ [lstA p acc]) H', ⟨ds.length, by simp, Nat.zero_le _, [], r1, h0, s1, s2⟩, ?_⟩
  rintro i m H' ⟨rfl, hi, acc, r', hI, ro, kp⟩
  by_cases hlt : i < ds.length
  · obtain ⟨hgo, hy⟩ := (w i _ H' kp ro).1 hlt
    refine .inr ⟨hgo, fun H2 => ∃ acc r2, I (i + 1) acc r2 ∧ Rok K (r2 ++ [lstA p acc]) H2 ∧ Kp K r1 H1 (r2 ++ [lstA p acc]) H2, fun H2 ⟨acc, r2, q1, q2, q3⟩ => ⟨ds.length - (i + 1), by omega, rfl, hlt, acc, r2, q1, q2, q3⟩, fun x H2 y => ?_⟩
    obtain ⟨ex, d, hd', ix⟩ := hy x H2 y
    have k2 := kp.trans (Kp.ext ex)
    have o2 : Ok K W XR (r' ++ [lstA p acc]) (wipeD δ vs) (wipe σ vs) H2 := (o1.step k2 (ro.ext ex)).wipe vs
    refine ⟨W, XR, wipeD δ vs, _, d, _, o2, ix, hst p i d acc r' hd' hI, fun δ2 σ2 q o3 ag => ⟨wipe_agree ag hj, XR, δ2, _, _, o3, q, fun b r3 H3 q3 o4 k4 => ?_⟩⟩
    cases b with
    | true =>
      show TD K W te σ2 H3 _
      refine td_bind o4 (q3.1 rfl) fun y r5 v H5 ⟨sz, r6, l6, h5⟩ o5 k5 i5 => ?_
      obtain ⟨ws, e1, e2, e3, e4⟩ := rok_more (le_rok l6 o5.r) (is_anti l6.m i5)
      refine ⟨ws, e1, by rw [e2]; exact Nat.lt_of_lt_of_le (Nat.lt_succ_self _) sz.sz, acc ++ [y], r6, h5, e3, fun v' d' z => e4 _ _ (is_anti l6.m (k5 _ _ (k4 _ _ (k2 _ _ z))))⟩
    | false =>
      show ∃ acc r2, _
      obtain ⟨r6, l6, h5⟩ := q3.2 rfl
      exact ⟨acc, r6, h5, le_rok l6 o4.r, fun v' d' z => is_anti l6.m (k4 _ _ (k2 _ _ z))⟩
  · have e : i = ds.length := by omega
    obtain ⟨d1, d2, d3⟩ := rok_done ro
    exact .inl ⟨(w i _ H' kp ro).2 e, k _ r' _ H' (hd acc r' (e ▸ hI)) (o1.step (kp.trans d3) d1) ((k1.trans kp).trans d3) d2⟩
end
section
variable {X : Cx} {W : WX}
theorem pts_no : PTs X [] (TDB X.K W bYes) := ⟨fun pins s σ H Q I ⟨XR, δ, r, P, o, h, k⟩ => pts_nil.run pins s σ H Q I (k true r H h o Kp.refl)⟩
theorem pts_1 {c : Expr} {t : AB} (h : PDB X W c t) : PTs X [c] (TDB X.K W t) := pts_one h
theorem d_lc {elt tg iter : Expr} {ifs : List Expr} {scope : Scope} {own : List (Str × Nat)} {pos : Pos} {js : List Nat} {wi : AI} {g : AG} {tt : AB} {te : AT} (hN : X.N.Nodup) (hi : PDI X W tg iter wi) (ok : BlkOk X.N X.env.scope scope own)
    (hg : ∀ (s : Shared) (H : Hp) (C : Addr) (cl : List (Str × Addr)) (fp : List Addr), PDG (X.blk s H scope (compEnvC scope cl C X.env) fp) tg js g) (ht : ∀ (s : Shared) (H : Hp) (C : Addr) (cl : List (Str × Addr)) (fp : List Addr), PTs (X.blk s H scope (compEnvC scope cl C X.env) fp) ifs (TDB X.K W tt))
    (he : ∀ (s : Shared) (H : Hp) (C : Addr) (cl : List (Str × Addr)) (fp : List Addr), PD (X.blk s H scope (compEnvC scope cl C X.env) fp) W elt te) (hj : ∀ j ∈ js, j ∈ own.map (·.2) := by decide) (hc : X.calm = true := by rfl) (hs : ∀ x, foldedSetIterable iter X.env x = pure x := by intro _; rfl) :
    PD X W (.ListComp elt [⟨tg, iter, ifs, 0⟩] scope pos) (aLc wi g tt te (own.map (·.2))) :=
  imE (pe_lc (g := TDG X.K js g) (tt := TDB X.K W tt) (te := TD X.K W te) hc hN hi ok hg ht he hs) fun _ _ _ q => td_lc hj q
theorem s_setLc {i : Nat} {y : Str} {py : Pos} {elt tg iter : Expr} {ifs : List Expr} {scope : Scope} {own : List (Str × Nat)} {pos spos : Pos} {js : List Nat} {wi : AI} {g : AG} {tt : AB} {te : AT} (hN : X.N.Nodup) (hi : PDI X W tg iter wi) (ok : BlkOk X.N X.env.scope scope own)
    (hg : ∀ (s : Shared) (H : Hp) (C : Addr) (cl : List (Str × Addr)) (fp : List Addr), PDG (X.blk s H scope (compEnvC scope cl C X.env) fp) tg js g) (ht : ∀ (s : Shared) (H : Hp) (C : Addr) (cl : List (Str × Addr)) (fp : List Addr), PTs (X.blk s H scope (compEnvC scope cl C X.env) fp) ifs (TDB X.K W tt))
    (he : ∀ (s : Shared) (H : Hp) (C : Addr) (cl : List (Str × Addr)) (fp : List Addr), PD (X.blk s H scope (compEnvC scope cl C X.env) fp) W elt te) (hsw : swapsWith (.ListComp elt [⟨tg, iter, ifs, 0⟩] scope pos) (some (.Name y py)) spos.line X.env = pure true) (hj : ∀ j ∈ js, j ∈ own.map (·.2) := by decide)
    (hc : X.calm = true := by rfl) (hy : X.N[i]? = some y := by rfl) (hyl : X.env.scope.names.lookup y = some .local := by rfl) (hs : ∀ x, foldedSetIterable iter X.env x = pure x := by intro _; rfl) :
    PSD X W (.Assign [.Name y py] (.ListComp elt [⟨tg, iter, ifs, 0⟩] scope pos) spos) (sAsg i (aLc wi g tt te (own.map (·.2)))) :=
  imS (ps_setLc (g := TDG X.K js g) (tt := TDB X.K W tt) (te := TD X.K W te) hc hN hy hyl hsw hi ok hg ht he hs) fun D σ H ⟨δ, r, A, o, h, f⟩ => td_lc hj (td_bind o h fun d r1 v H1 h1 o1 k1 i1 => f.nx _ _ _ _ h1 (o1.set i1) k1)
end
section
variable {K : PySem.W.Frag} {x : XT} {g : AG} {te : AT} {tt : AB} {δw : Dl} {ds : List D} {r1 : Rs} {P : PK1}
theorem lc_map (f : D → D) (hz : small ds.length) (he : ∀ d ∈ ds, ∀ (r' : Rs) (P' : PK1), P' (f d) r' → g d δw fun δ2 => te x δ2 r' P') (hP : P (.lst (ds.map f)) r1) : aLcK x g bYes te δw ds r1 P := by
  refine ⟨fun i acc r' => acc = (ds.take i).map f ∧ r' = r1, ⟨rfl, rfl⟩, ?_, ?_⟩
  · rintro p i d acc r' hd ⟨rfl, rfl⟩
    have hi := (List.getElem?_eq_some_iff.mp hd).1
    refine Eq.mp ?_ (he d (List.mem_of_getElem? hd) (r' ++ [lstA p ((ds.take i).map f)]) (fun y r3 => small (((ds.take i).map f).length + 1) ∧ ∃ r4, le r3 (r4 ++ [lstA p ((ds.take i).map f)]) ∧ ((ds.take i).map f ++ [y] = (ds.take (i + 1)).map f ∧ r4 = r')) ?_)
    · congr 1
      funext δ2
      unfold bYes
      simp
    · refine ⟨?_, r', le.refl, ?_, rfl⟩
      · rw [List.length_map, List.length_take]
        have : small ds.length := hz
        unfold small at *
        omega
      · rw [List.take_add_one, hd, List.map_append]
        rfl
  · rintro acc r' ⟨rfl, rfl⟩
    rw [List.take_length]
    exact hP
end
end G
namespace G
open PySem PySem.Spec L2
open PyProof.Rows (envOfC)
abbrev XD := Addr → List Str → List D → Rs → Prop
abbrev SpX := List D → Rs → PK1 → XD → Prop
/-- a promise over data as a promise of the hand layer -/
def lift (K : PySem.W.Frag) (sd : SpX) : Sp := fun vs H Q E => ∃ (r : Rs) (ds : List D) (P : PK1) (XR : XD), Rok K r H ∧ IsAll K (mem r) H vs ds ∧ sd ds r P XR ∧
  (∀ d r' v H', P d r' → Rok K r' H' → Kp K r H r' H' → Is K (mem r') H' v d → Q v H') ∧
  (∀ C fs es r' a H', XR C fs es r' → Rok K r' H' → Kp K r H r' H' → ExAt K r' H' a fs es → E (.ref C) a H')
def noX : XD := fun _ _ _ _ => False
/-- the def at f keeps the promise sd -/
abbrev FO (P : Program) (w : World) (K : PySem.W.Frag) (mg : Str → Option Value) (base : Heap) (k : Nat) (f : Addr) (fd : FuncData) (ps : List Str) (sd : SpX) : Prop := FnOk P w K mg base (L2.CX P w) k f fd ps (lift K sd)
abbrev FR (P : Program) (w : World) (K : PySem.W.Frag) (mg : Str → Option Value) (base : Heap) (k : Nat) (f : Addr) (sd : SpX) : Prop := FnR P w K mg base (L2.CX P w) k f (lift K sd)
theorem lift_imp {K : PySem.W.Frag} {sd sd' : SpX} (h : ∀ ds r P XR, sd' ds r P XR → sd ds r P XR) : ∀ vs H Q E, lift K sd' vs H Q E → lift K sd vs H Q E := fun vs H Q E ⟨r, ds, P, XR, h1, h2, h3, h4⟩ => ⟨r, ds, P, XR, h1, h2, h _ _ _ _ h3, h4⟩
theorem fr_of {P : Program} {w : World} {K : PySem.W.Frag} {mg : Str → Option Value} {base : Heap} {k : Nat} {f : Addr} {fd : FuncData} {ps : List Str} {sd : SpX} (F : FO P w K mg base k f fd ps sd) (hb : Binds K fd ps []) : FR P w K mg base k f sd := by
  have q := F.raw hb .nil
  exact q.imp fun vs H Q E h => by rw [List.append_nil]; exact h
/-- the last arguments by their defaults -/
theorem fr_dfl {P : Program} {w : World} {K : PySem.W.Frag} {mg : Str → Option Value} {base : Heap} {k : Nat} {f : Addr} {fd : FuncData} {ps : List Str} {sd : SpX} {dus : List Value} {dvs : List V} {dd : List D} (F : FO P w K mg base k f fd ps sd) (hb : Binds K fd ps dus) (hd : Vals dvs dus) (hdd : ∀ M H, IsAll K M H dvs dd) :
    FR P w K mg base k f (fun ds r P XR => sd (ds ++ dd) r P XR) :=
  (F.raw hb hd).imp fun vs H Q E ⟨r, ds, P', XR, h1, h2, h3, h4⟩ => ⟨r, ds ++ dd, P', XR, h1, h2.append (hdd _ _), h3, h4⟩
section
variable {X : Cx} {W : WX} {k : Nat} {f : Addr} {sd : SpX} {pins : List (Addr × Obj)} {σ : L2.St} {H : Hp} {s : Shared} {us : List Value} {vs : List V}
theorem run_at {sp : Sp} {E : XK} {Q : VK} (F : FnR X.prog X.w X.K X.mg X.base (L2.CX X.prog X.w) k f sp) (hr : Room k X.A) (hx : PassesAt (L2.CX X.prog X.w) X σ E) (I : L2.Inv X pins σ H s) (r : Vals vs us) (h : sp vs H Q E) :
    codeAny (model X.prog X.w) X.A (.call (.ref f) ⟨us, []⟩) (fun r s' => match r with | .ok (.ret v) => EP X pins σ Q v s' | .ok _ => False | .error e => X.xe e s') s := by
  refine codeAny_mono (F X.A X.stack s H us vs Q E hr I.env0 r h) fun r s' hq => ?_
  cases r with
  | error e => exact hx pins H s e s' I hq
  | ok fl =>
    cases fl with
    | ret u => exact I.after hq
    | next => exact False.elim hq
    | brk => exact False.elim hq
    | cont => exact False.elim hq
/-- nothing is let out -/
theorem passN {E : XK} (h : ∀ c d H, ¬ E c d H) : PassesAt (L2.CX X.prog X.w) X σ E := fun _ _ _ _ _ _ hh => by
  obtain ⟨_, _, _, _, _, _, _, _, _, _, _, _, z⟩ := hh
  exact (h _ _ _ z).elim
theorem lift_at {XR : XT} {r : Rs} {δ : Dl} {P : PK1} {ds : List D} {Q : VK} (o : Ok X.K W XR r δ σ H) (i : IsAll X.K (mem r) H vs ds) (h : sd ds r P fun C fs es r' => XR C fs es δ r')
    (k : ∀ d r' v H', P d r' → Ok X.K W XR r' δ σ H' → Kp X.K r H r' H' → Is X.K (mem r') H' v d → Q v H') : lift X.K sd vs H Q (WE W σ) :=
  ⟨r, ds, P, _, o.r, i, h, fun d r' v H' a b c i => k d r' v H' a (o.step c b) c i, fun C fs es r' a H' x ro kk e => o.x C fs es δ r' σ a H' x (o.b.step kk ro) kk e⟩
theorem lift_n {XR : XT} {r : Rs} {δ : Dl} {P : PK1} {ds : List D} {Q : VK} (o : Ok X.K W XR r δ σ H) (i : IsAll X.K (mem r) H vs ds) (h : sd ds r P noX)
    (k : ∀ d r' v H', P d r' → Ok X.K W XR r' δ σ H' → Kp X.K r H r' H' → Is X.K (mem r') H' v d → Q v H') : lift X.K sd vs H Q E0 :=
  ⟨r, ds, P, _, o.r, i, h, fun d r' v H' a b c i => k d r' v H' a (o.step c b) c i, fun _ _ _ _ _ _ x => x.elim⟩
theorem passE : PassesAt (L2.CX X.prog X.w) X σ E0 := passN fun _ _ _ z => z
end
/-- a call's reading: what is raised goes on; nothing is raised -/
def aCall (sd : SpX) (l : AL) : AT := fun x δ r P => l x δ r fun ds r1 => sd ds r1 P fun C fs es r' => x C fs es δ r'
def aCallN (sd : SpX) (l : AL) : AT := fun x δ r P => l x δ r fun ds r1 => sd ds r1 P noX
section
variable {X : Cx} {W : WX} {k : Nat} {f : Addr} {sd : SpX} {x : Str} {p pos : Pos} {e : Expr} {es : List Expr} {l : AL}
theorem call_P {sp : Sp} {E : XK} {Q : VK} {pins : List (Addr × Obj)} {σ : L2.St} {H : Hp} {s : Shared} {us : List Value} {vs : List V} (F : FnR X.prog X.w X.K X.mg X.base (L2.CX X.prog X.w) k f sp) (hr : Room k X.A) (hx : PassesAt (L2.CX X.prog X.w) X σ E) (I : L2.Inv X pins σ H s) (r : Vals vs us) (h : sp vs H Q E) :
    wpAny (model X.prog X.w) X.A (call (.ref f) us) (EP X pins σ Q) X.xe s := wpAny_call (run_at F hr hx I r h)
/-- x(e, ..) -/
theorem call_any (F : FR X.prog X.w X.K X.mg X.base k f sd) (hr : Room k X.A) (hk : PySem.W.keepIn X.K (.ref f) = true) (hm : X.mg x = some (.ref f)) (tr : AT) (ha : PDL X W (e :: es) l)
    (im : ∀ {pins : List (Addr × Obj)} {σ : L2.St} {H : Hp} {s : Shared} {Q : VK}, TD X.K W tr σ H Q → L2.Inv X pins σ H s → TDL X.K W l σ H fun vs H1 => ∃ E : XK, PassesAt (L2.CX X.prog X.w) X σ E ∧ lift X.K sd vs H1 Q E)
    (hg : Gl X x) (hdb : (x == ("__debug__" : Str)) = false) (he : starEach (e :: es) X.env = (false, eval e X.env) :: starEach es X.env) (hpl : (backTo pos (starEach es X.env)).any (·.1) = false) : PD X W (.Call (.Name x p) (e :: es) [] pos) tr := by
  refine ⟨fun pins s σ H Q I h => ?_⟩
  refine wpAny_Call_Name_kw (ld_glob I hg hm ?_ hdb)
  refine PySem.W.callWith_K (h₀ := X.base) I.ok.mod.kin hk (thn (ha.run pos pins s σ H _ I (im h I)) fun us s1 ⟨vs, H1, I1, r, E, hx, q⟩ => ⟨I1.kIn, ?_⟩) he hpl
  exact call_P F hr hx I1 r q
theorem d_call (F : FR X.prog X.w X.K X.mg X.base k f sd) (tk : Takes X W) (hr : Room k X.A) (hm : X.mg x = some (.ref f)) (hk : PySem.W.keepIn X.K (.ref f) = true)
    (ha : PDL X W (e :: es) l) (hg : Gl X x := by rfl) (hdb : (x == ("__debug__" : Str)) = false := by decide) (he : starEach (e :: es) X.env = (false, eval e X.env) :: starEach es X.env := by rfl) (hpl : (backTo pos (starEach es X.env)).any (·.1) = false := by rfl) :
    PD X W (.Call (.Name x p) (e :: es) [] pos) (aCall sd l) := call_any F hr hk hm _ ha (fun q I => by
  obtain ⟨XR, δ, r, P, ok, h, kk⟩ := q
  exact tdl_bind ok h fun ds r1 vs H1 h1 o1 k1 i1 => ⟨_, passAt tk _, lift_at o1 i1 h1 fun d r' v H' a b c i => kk d r' v H' a b (k1.trans c) i⟩) hg hdb he hpl
theorem d_callN (F : FR X.prog X.w X.K X.mg X.base k f sd) (hr : Room k X.A) (hm : X.mg x = some (.ref f)) (hk : PySem.W.keepIn X.K (.ref f) = true)
    (ha : PDL X W (e :: es) l) (hg : Gl X x := by rfl) (hdb : (x == ("__debug__" : Str)) = false := by decide) (he : starEach (e :: es) X.env = (false, eval e X.env) :: starEach es X.env := by rfl) (hpl : (backTo pos (starEach es X.env)).any (·.1) = false := by rfl) :
    PD X W (.Call (.Name x p) (e :: es) [] pos) (aCallN sd l) := call_any F hr hk hm _ ha (fun q I => by
  obtain ⟨XR, δ, r, P, ok, h, kk⟩ := q
  exact tdl_bind ok h fun ds r1 vs H1 h1 o1 k1 i1 => ⟨_, passE, lift_n o1 i1 h1 fun d r' v H' a b c i => kk d r' v H' a b (k1.trans c) i⟩) hg hdb he hpl
end
def startD (N : List Str) (ds : List D) : Dl := ds.map some ++ List.replicate (N.length - ds.length) none
/-- a promise that any heap is told by, kept -/
def fit (P : PK1) : PK1 := fun d r' => ∃ r0, le r' r0 ∧ P d r0
theorem fit.of {P : PK1} {d : D} {r : Rs} (h : P d r) : fit P d r := ⟨r, le.refl, h⟩
def fitX (XR : XD) : XT := fun C fs es _ r' => ∃ r0, le r' r0 ∧ XR C fs es r0
theorem fitX.of {XR : XD} {C : Addr} {fs : List Str} {es : List D} {δ : Dl} {r : Rs} (h : XR C fs es r) : fitX XR C fs es δ r := ⟨r, le.refl, h⟩
theorem ExAt.anti {K : PySem.W.Frag} {r r' : Rs} {H : Hp} {a : Option Addr} {fs : List Str} {ds : List D} (h : ∀ a, mem r' a → mem r a) (e : ExAt K r H a fs ds) : ExAt K r' H a fs ds := by
  cases a with
  | none => exact e
  | some a =>
    obtain ⟨h0, kvs, h1, h2, h3⟩ := e
    exact ⟨fun z => h0 (h _ z), kvs, h1, h2, all_of (fun _ _ => is_anti h) h3⟩
abbrev WK (E : XK) : WX := fun cls d _ H => E cls d H
abbrev W0 : WX := fun _ _ _ _ => False
section
variable {P : Program} {w : World} {K : PySem.W.Frag} {mg : Str → Option Value} {base : Heap}
theorem start_ok {W : WX} {XR : XT} {N : List Str} {vs : List V} {ds : List D} {r : Rs} {H : Hp} (ro : Rok K r H) (hi : IsAll K (mem r) H vs ds) (x : Xc K W XR r H) : Ok K W XR r (startD N ds) (L2.start N vs) H := by
  refine ⟨⟨fun i d e => ?_, ro, ?_⟩, x⟩
  · unfold startD at e
    unfold L2.start
    rcases Nat.lt_or_ge i ds.length with hlt | hge
    · rw [List.getElem?_append_left (by simpa using hlt), List.getElem?_map] at e
      cases q : ds[i]? with
      | none => rw [q] at e; cases e
      | some d0 =>
        rw [q] at e
        cases e
        obtain ⟨v, h1, h2⟩ := hi.getD q
        exact ⟨v, by rw [List.getElem?_append_left (by rw [List.length_map, hi.length]; exact hlt), List.getElem?_map, h1] <;> rfl, h2⟩
    · rw [List.getElem?_append_right (by simpa using hge), List.getElem?_replicate] at e
      split at e <;> cases e
  · unfold startD L2.start
    rw [List.length_append, List.length_append, List.length_map, List.length_map, List.length_replicate, List.length_replicate, hi.length]
/-- THE RULE for a def -/
theorem fn_d {x qual : Str} {st : Stmt} {f : Addr} {fd : FuncData} {N ps : List Str} {k : Nat} {sd : SpX} (F : Fun K x qual st f fd) (S : FnScope N ps (defScope st)) (len : ∀ ds r P' XR, sd ds r P' XR → ds.length = ps.length)
    (hbody : ∀ (cdv : Value) (A : Around) (outer : List Env) (s : Shared) (H : Hp) (E : XK), Room k (A.deeper (envOfC qual (defScope st) s.heap.objs.size f cdv)) → Takes (cxOf (L2.CX P w) P w K mg base N qual (defScope st) f cdv A outer s H E) (WK E) →
      PassesOwn (model P w) (cxOf (L2.CX P w) P w K mg base N qual (defScope st) f cdv A outer s H E).A (cxOf (L2.CX P w) P w K mg base N qual (defScope st) f cdv A outer s H E).env (cxOf (L2.CX P w) P w K mg base N qual (defScope st) f cdv A outer s H E).xe →
      ∃ t : AS, PBD (cxOf (L2.CX P w) P w K mg base N qual (defScope st) f cdv A outer s H E) (WK E) (defBody st) t ∧
      ∀ ds r P' XR, sd ds r P' XR → t { nx := fun _ r' => fit P' .non r', rt := fit P', xr := fitX XR } (startD N ds) r) : FO P w K mg base (k + 1) f fd ps sd := by
  refine F.okX S (fun vs H Q E h => ?_) (fun cdv A outer s H vs Q E hr h => ?_)
  · obtain ⟨r, ds, P', XR, hr, hi, hs, _, _⟩ := h
    rw [hi.length]
    exact len _ _ _ _ hs
  · obtain ⟨r, ds, P', XR, ro, hi, hs, hq, hx⟩ := h
    obtain ⟨t, ht, hread⟩ := hbody cdv A outer s H E hr (takes_of rfl rfl rfl rfl) (passes_of rfl)
    refine ⟨_, ht, startD N ds, r, { nx := fun _ r' => fit P' .non r', rt := fit P', xr := fitX XR }, start_ok ro hi ?_, hread ds r P' XR hs, ⟨fun δ' r' σ' H' a o k => ?_, fun d r' v H' a o k i => ?_, fun _ _ _ _ z => z.elim, fun _ _ _ _ z => z.elim⟩⟩
    · rintro C fs es δ' r' σ' a H' ⟨r0, l, q⟩ o k e
      exact hx C fs es r0 a H' q (l.r _ _ o.r) (k.trans l.kp) (e.anti l.m)
    · obtain ⟨r0, l, a⟩ := a
      exact hq _ r0 _ H' a (l.r _ _ o.r) (k.trans l.kp) .non
    · obtain ⟨r0, l, a⟩ := a
      exact hq _ r0 _ H' a (l.r _ _ o) (k.trans l.kp) (is_anti l.m i)
end
section
variable {X : Cx} {W : WX}
variable {dk : Addr} {tbl : List (Str × D)}
theorem d_adr {x : Str} {a : Addr} {pos : Pos} (hm : X.mg x = some (.ref a)) (hg : Gl X x := by rfl) (hdb : (x == ("__debug__" : Str)) = false := by decide) : PD X W (.Name x pos) (aC (.adr a)) := d_glob (v := .ref a) hg hm rfl (fun _ _ => .adr a) hdb
end
end G
namespace G
open PySem PySem.Spec L2
open PyProof.Rows (envOfC)
/-- the def st stands under the module's name x -/
def Dfn (K : PySem.W.Frag) (mg : Str → Option Value) (x : Str) (st : Stmt) (ps : List Str) : Prop := ∃ f fd, Fun K x x st f fd ∧ mg x = some (.ref f) ∧ Binds K fd ps []
/-- the module's name x may be called by the promise sd -/
def Cl (P : Program) (w : World) (K : PySem.W.Frag) (mg : Str → Option Value) (base : Heap) (k : Nat) (x : Str) (ps : List Str) (sd : SpX) : Prop :=
  ∃ f fd, FO P w K mg base k f fd ps sd ∧ mg x = some (.ref f) ∧ PySem.W.keepIn K (.ref f) = true ∧ Binds K fd ps []
theorem cl_of {P : Program} {w : World} {K : PySem.W.Frag} {mg : Str → Option Value} {base : Heap} {x : Str} {st : Stmt} {N ps : List Str} {k : Nat} {sd : SpX} (Dx : Dfn K mg x st ps) (S : FnScope N ps (defScope st)) (len : ∀ ds r P' XR, sd ds r P' XR → ds.length = ps.length)
    (hbody : ∀ (f : Addr) (cdv : Value) (A : Around) (outer : List Env) (s : Shared) (H : Hp) (E : XK), Room k (A.deeper (envOfC x (defScope st) s.heap.objs.size f cdv)) → Takes (cxOf (L2.CX P w) P w K mg base N x (defScope st) f cdv A outer s H E) (WK E) →
      PassesOwn (model P w) (cxOf (L2.CX P w) P w K mg base N x (defScope st) f cdv A outer s H E).A (cxOf (L2.CX P w) P w K mg base N x (defScope st) f cdv A outer s H E).env (cxOf (L2.CX P w) P w K mg base N x (defScope st) f cdv A outer s H E).xe →
      ∃ t : AS, PBD (cxOf (L2.CX P w) P w K mg base N x (defScope st) f cdv A outer s H E) (WK E) (defBody st) t ∧
      ∀ ds r P' XR, sd ds r P' XR → t { nx := fun _ r' => fit P' .non r', rt := fit P', xr := fitX XR } (startD N ds) r) : Cl P w K mg base (k + 1) x ps sd := by
  obtain ⟨f, fd, F, g, b⟩ := Dx
  exact ⟨f, fd, fn_d F S len (hbody f), g, F.kp, b⟩
/-- a promise that is never asked -/
theorem cl_never {P : Program} {w : World} {K : PySem.W.Frag} {mg : Str → Option Value} {base : Heap} {x : Str} {st : Stmt} {ps : List Str} {k : Nat} {sd : SpX} (Dx : Dfn K mg x st ps) (h : ∀ ds r P' XR, ¬ sd ds r P' XR) : Cl P w K mg base k x ps sd := by
  obtain ⟨f, fd, F, g, b⟩ := Dx
  exact ⟨f, fd, ⟨fun vs H Q E ⟨r, ds, P', XR, _, _, z, _⟩ => (h _ _ _ _ z).elim, fun A outer s H args us vs Q E _ _ _ _ ⟨r, ds, P', XR, _, _, z, _⟩ => (h _ _ _ _ z).elim⟩, g, F.kp, b⟩
theorem Cl.imp {P : Program} {w : World} {K : PySem.W.Frag} {mg : Str → Option Value} {base : Heap} {x : Str} {ps : List Str} {k : Nat} {sd sd' : SpX} (c : Cl P w K mg base k x ps sd) (h : ∀ ds r P XR, sd' ds r P XR → sd ds r P XR) : Cl P w K mg base k x ps sd' := by
  obtain ⟨f, fd, F, g, kp, b⟩ := c
  exact ⟨f, fd, FnOk.imp F (lift_imp h), g, kp, b⟩
theorem Cl.mono {P : Program} {w : World} {K : PySem.W.Frag} {mg : Str → Option Value} {base : Heap} {x : Str} {ps : List Str} {j k : Nat} {sd : SpX} (c : Cl P w K mg base j x ps sd) (h : j ≤ k) : Cl P w K mg base k x ps sd := by
  obtain ⟨f, fd, F, g, kp, b⟩ := c
  exact ⟨f, fd, FnOk.mono F h, g, kp, b⟩
/-- a def that was walked as one that lets nothing out -/
theorem cl_cx0 {P : Program} {w : World} {K : PySem.W.Frag} {mg : Str → Option Value} {base : Heap} {x : Str} {ps : List Str} {k : Nat} {sd : SpX} {f : Addr} {fd : FuncData} (F : FnOk P w K mg base CX0 k f fd ps (lift K sd)) (g : mg x = some (.ref f)) (kp : PySem.W.keepIn K (.ref f) = true) (b : Binds K fd ps []) : Cl P w K mg base k x ps sd := by
  refine ⟨f, fd, ⟨F.len, fun A outer s H args us vs Q E hr he hb hv hs => codeAny_mono (F.run A outer s H args us vs Q E hr he hb hv hs) fun r s' h => ?_⟩, g, kp, b⟩
  cases r with
  | ok fl => cases fl <;> exact h
  | error e => exact h.elim
section
variable {X : Cx} {W : WX} {k j : Nat} {ps : List Str} {sd : SpX} {x : Str} {p pos : Pos} {e : Expr} {es : List Expr} {l : AL}
theorem d_fn (C : Cl X.prog X.w X.K X.mg X.base k x ps sd) (tk : Takes X W) (hr : Room j X.A) (ha : PDL X W (e :: es) l) (hj : k ≤ j := by first | decide | exact Nat.le_refl _ | omega) (hg : Gl X x := by rfl) (hdb : (x == ("__debug__" : Str)) = false := by decide)
    (he : starEach (e :: es) X.env = (false, eval e X.env) :: starEach es X.env := by rfl) (hpl : (backTo pos (starEach es X.env)).any (·.1) = false := by rfl) : PD X W (.Call (.Name x p) (e :: es) [] pos) (aCall sd l) := by
  obtain ⟨f, fd, F, g, kp, b⟩ := C
  exact d_call (fr_of F b) tk (hr.mono hj) g kp ha hg hdb he hpl
theorem d_fnN (C : Cl X.prog X.w X.K X.mg X.base k x ps sd) (hr : Room j X.A) (ha : PDL X W (e :: es) l) (hj : k ≤ j := by first | decide | exact Nat.le_refl _ | omega) (hg : Gl X x := by rfl) (hdb : (x == ("__debug__" : Str)) = false := by decide)
    (he : starEach (e :: es) X.env = (false, eval e X.env) :: starEach es X.env := by rfl) (hpl : (backTo pos (starEach es X.env)).any (·.1) = false := by rfl) : PD X W (.Call (.Name x p) (e :: es) [] pos) (aCallN sd l) := by
  obtain ⟨f, fd, F, g, kp, b⟩ := C
  exact d_callN (fr_of F b) (hr.mono hj) g kp ha hg hdb he hpl
end
/-- names that the module does not bind -/
structure Bl (mg : Str → Option Value) : Prop where
  len : mg "len" = none
  int : mg "int" = none
  list : mg "list" = none
  tuple : mg "tuple" = none
  isi : mg "isinstance" = none
  range : mg "range" = none
  all : mg "all" = none
  any : mg "any" = none
  str : mg "str" = none
  bool : mg "bool" = none
  enum : mg "enumerate" = none
  zip : mg "zip" = none
  sum : mg "sum" = none
  max : mg "max" = none
  min : mg "min" = none
  sorted : mg "sorted" = none
  set : mg "set" = none
  dict : mg "dict" = none
theorem own_step {K : PySem.W.Frag} {t t' : At} {X : Rs} {H H' : Hp} (h : Rok K (t :: X) H) (hm : t'.M = t.M) (hk : ∀ b o, ¬ t.M b → H b = some o → H' b = some o) (hT : ∀ b, t.M b → ∀ u, Rd H b u → ∀ xs, u ≠ .tup xs) (ht : t'.R K (mem (t' :: X)) H') : Rok K (t' :: X) H' ∧ Kp K (t :: X) H (t' :: X) H' := by
  have me : mem (t' :: X) = mem (t :: X) := by
    show (fun a => t'.M a ∨ mem X a) = (fun a => t.M a ∨ mem X a)
    rw [hm]
  have go : Kp K (t :: X) H (t' :: X) H' := fun v d q => by
    rw [me]
    refine Is.go (fun a o _ n s => ⟨n, hk a _ (fun z => n (.inl z)) s⟩) (fun a xs s => ?_) _ _ q
    rcases s with s | s
    · have na : ¬ t.M a := fun z => hT a z _ s xs rfl
      rcases s with s | ⟨o, s⟩
      · exact .inl (.inl (hk a _ na s))
      · exact .inl (.inr ⟨o, hk a _ na s⟩)
    · exact .inr s
  obtain ⟨h1, h2, h3⟩ := h
  have go' : ∀ v d, Is K (mem (t :: X)) H v d → Is K (mem (t :: X)) H' v d := by
    have g := go
    unfold Kp at g
    rw [me] at g
    exact g
  refine ⟨⟨ht, by rw [hm]; exact h2, ?_⟩, go⟩
  rw [me]
  exact hold_loc (fun b o m q => hk b o (fun z => h2 b z m) q) go' h3
/-- the pool of draws at p, its script's rest at a; fewer than N draws so far -/
def poolA (p a : Addr) (N : Nat) : At where
  M := fun b => b = p ∨ b = a
  R := fun _ _ H => p ≠ a ∧ ∃ (ns : List Int) (c1 c2 c3 : Int), H p = some (.lst [.ref a, .int c1, .int c2, .int c3]) ∧ H a = some (.lst (ns.map V.int)) ∧ 0 ≤ c1 ∧ 0 ≤ c2 ∧ c2 ≤ N ∧ 0 ≤ c3 ∧ c3 < 2147483629 ∧ ns.length ≤ 63
  loc := fun f _ ⟨ne, ns, c1, c2, c3, h1, h2, h⟩ => ⟨ne, ns, c1, c2, c3, f _ _ (.inl rfl) h1, f _ _ (.inr rfl) h2, h⟩
  anti := fun _ h => h
  grow := fun _ h => h
  al := fun ⟨ne, ns, c1, c2, c3, h1, h2, h⟩ b z => z.elim (fun e => ⟨_, e.symm ▸ h1⟩) fun e => ⟨_, e.symm ▸ h2⟩
theorem pool_mono {p a : Addr} {N N' : Nat} (h : N ≤ N') {X : Rs} : le (poolA p a N :: X) (poolA p a N' :: X) :=
  ⟨fun b z => z, fun K H ⟨⟨ne, ns, c1, c2, c3, h1, h2, h3, h4, h5, h6⟩, q, q2⟩ => ⟨⟨ne, ns, c1, c2, c3, h1, h2, h3, h4, by omega, h6⟩, q, q2⟩⟩
/-- a draw below m -/
def spDraw : SpX := fun ds r P _ => ∃ p a m N X, ds = [.adr p, .int m] ∧ r = poolA p a N :: X ∧ (0 < m ∧ m ≤ 10000000000000000000000000000000000000000) ∧ N < 1000000000000 ∧ ∀ k, 0 ≤ k → k < m → P (.int k) (poolA p a (N + 1) :: X)
theorem pool_step {K : PySem.W.Frag} {p a : Addr} {N N' : Nat} {X : Rs} {H H' : Hp} (h : Rok K (poolA p a N :: X) H) (hk : ∀ b o, b ≠ p → b ≠ a → H b = some o → H' b = some o) (ht : (poolA p a N').R K (mem (poolA p a N' :: X)) H') : Rok K (poolA p a N' :: X) H' ∧ Kp K (poolA p a N :: X) H (poolA p a N' :: X) H' := by
  obtain ⟨⟨ne, ns, c1, c2, c3, h1, h2, _⟩, _, _⟩ := id h
  refine own_step h rfl (fun b o n q => hk b o (fun e => n (.inl e)) (fun e => n (.inr e)) q) (fun b z u q xs e => ?_) ht
  subst e
  rcases z with rfl | rfl
  · rcases q with q | ⟨o, q⟩
    · rw [h1] at q; cases q
    · rw [h1] at q; cases q
  · rcases q with q | ⟨o, q⟩
    · rw [h2] at q; cases q
    · rw [h2] at q; cases q
theorem pget_list {X : Cx} : PGet X (fun o i H Q => ∃ (p : Addr) (xs : List V) (j : Nat) (v : V), o = .ref p ∧ i = .int (j : Nat) ∧ j < 1000000 ∧ SqL X.K H p xs ∧ xs[j]? = some v ∧ Q v H) := by
  rintro pins s σ H o i ov iv Q I ro ri ⟨p, xs, j, v, rfl, rfl, hj, hq, hv, q⟩
  cases ro
  obtain ⟨t, rfl⟩ := ri
  obtain ⟨its, r, pl, hz⟩ := I.list hq
  obtain ⟨u, hu, ru⟩ := r.get hv
  exact wpAny_getItem_list pl.isList (by omega) (by omega) (by simpa using hu) ⟨v, H, I, ru, q⟩
theorem brT {A B : Prop} (h : A) : (true = true → A) ∧ (true = false → B) := ⟨fun _ => h, fun e => (by cases e)⟩
theorem brF {A B : Prop} (h : B) : (false = true → A) ∧ (false = false → B) := ⟨fun e => (by cases e), fun _ => h⟩
theorem brt {b : Bool} {A B : Prop} (e : b = true) (h : A) : (b = true → A) ∧ (b = false → B) := ⟨fun _ => h, fun q => by rw [e] at q; cases q⟩
theorem brf {b : Bool} {A B : Prop} (e : b = false) (h : B) : (b = true → A) ∧ (b = false → B) := ⟨fun q => (by rw [e] at q; cases q), fun _ => h⟩
end G
namespace G
open PySem PySem.Spec L2
open PyProof.Rows (envOfC)
abbrev tl (x : Str) : List Nat := x.cps.toList
def strL : List D → Option (List Str)
  | [] => some []
  | .str z :: r => (strL r).map (z :: ·)
  | _ :: _ => none
theorem strL_map : ∀ (l : List Str), strL (l.map .str) = some l
  | [] => rfl
  | b :: bs => by simp [strL, strL_map bs]
theorem strL_all {K : PySem.W.Frag} {N : Addr → Prop} {H : Hp} : ∀ {vs : List V} {ds : List D} {ys : List Str}, IsAll K N H vs ds → strL ds = some ys → vs = ys.map V.str ∧ ∀ y ∈ ys, sok y
  | _, _, _, .nil, e => by cases e; exact ⟨rfl, fun _ h => by cases h⟩
  | _, d :: ds, bs, .cons i t, e => by
    cases i <;> try (simp [strL] at e; done)
    rename_i z hz
    simp only [strL] at e
    cases q : strL ds with
    | none => rw [q] at e; cases e
    | some cs =>
      rw [q] at e
      cases e
      obtain ⟨h1, h2⟩ := strL_all t q
      rw [h1]
      exact ⟨rfl, fun y hy => (List.mem_cons.mp hy).elim (fun e => e ▸ hz) (h2 y)⟩
theorem sok_iff {z : Str} : sok z ↔ (∀ c ∈ tl z, c < 1114112) ∧ (tl z).length ≤ 1000000 := by
  unfold sok PyData.strOk Str.length
  rw [← Array.all_toList, List.all_eq_true, Array.length_toList]
  simp only [decide_eq_true_eq]
theorem joinL_mem {S : List Nat} {c : Nat} : ∀ {ps : List (List Nat)}, c ∈ TL.joinL S ps → c ∈ S ∨ ∃ p ∈ ps, c ∈ p
  | [], h => by cases h
  | [p], h => .inr ⟨p, List.mem_cons_self, h⟩
  | p :: q :: r, h => by
    rcases List.mem_append.mp h with h | h
    · exact .inr ⟨p, List.mem_cons_self, h⟩
    · rcases List.mem_append.mp h with h | h
      · exact .inl h
      · rcases joinL_mem (ps := q :: r) h with h | ⟨x, h1, h2⟩
        · exact .inl h
        · exact .inr ⟨x, List.mem_cons_of_mem _ h1, h2⟩
theorem joinL_len {S : List Nat} : ∀ {ps : List (List Nat)}, (TL.joinL S ps).length ≤ (ps.map List.length).sum + ps.length * S.length
  | [] => by simp [TL.joinL]
  | [p] => by simp [TL.joinL]
  | p :: q :: r => by
    have ih := joinL_len (S := S) (ps := q :: r)
    simp only [TL.joinL, List.length_append, List.map_cons, List.sum_cons, List.length_cons, Nat.add_mul, Nat.one_mul] at ih ⊢
    omega
def tJoin (a : Str) (ys : List Str) : Str := Txt.join a ys
theorem tl_tJoin (a : Str) (ys : List Str) : tl (tJoin a ys) = TL.joinL (tl a) (ys.map tl) := by
  unfold tJoin
  rw [TL.join_eq]
  exact TL.tl_join a ys
theorem tl_len (ys : List Str) : (ys.map tl).map List.length = ys.map (·.length) := by
  rw [List.map_map]
  rfl
def oJoinP (x y : D) (k : D → Prop) : Prop := match x with
  | .str a => match y with
    | .lst ds => (match strL ds with | some ys => (ys.map (·.length)).sum + ys.length * a.length ≤ 1000000 ∧ k (.str (tJoin a ys)) | none => False)
    | .tup ds => (match strL ds with | some ys => (ys.map (·.length)).sum + ys.length * a.length ≤ 1000000 ∧ k (.str (tJoin a ys)) | none => False)
    | _ => False
  | _ => False
structure oJoin (x y : D) (k : D → Prop) : Prop where
  ex : oJoinP x y k
def aM1 (o : O2) (ta tb : AT) : AT := fun x δ r P => ta x δ r fun d1 r1 => match d1 with | .str z => tb x δ r1 fun d2 r2 => o (.str z) d2 fun d => P d r2 | _ => False
theorem sok_join {a : Str} {ys : List Str} (ha : sok a) (hy : ∀ y ∈ ys, sok y) (hz : (ys.map (·.length)).sum + ys.length * a.length ≤ 1000000) : sok (tJoin a ys) := by
  rw [sok_iff, tl_tJoin]
  refine ⟨fun c hc => ?_, ?_⟩
  · rcases joinL_mem hc with h | ⟨p, hp, h⟩
    · exact (sok_iff.mp ha).1 c h
    · obtain ⟨y, h1, rfl⟩ := List.mem_map.mp hp
      exact (sok_iff.mp (hy y h1)).1 c h
  · have := joinL_len (S := tl a) (ps := ys.map tl)
    rw [tl_len, List.length_map] at this
    exact Nat.le_trans this hz
section
variable {X : Cx} {W : WX} {o e : Expr} {ta tb : AT} {apos pos : Pos}
theorem d_join (ho : PD X W o ta) (he : PD X W e tb) (hs : starEach [e] X.env = [(false, eval e X.env)] := by rfl) (hbase : attributeBase o "join" X.env (eval o X.env) = eval o X.env := by rfl) (hline : (apos.endLine == pos.line) = true := by rfl) :
    PD X W (.Call (.Attribute o "join" apos) [e] [] pos) (aM1 oJoin ta tb) := imE (pe_join ho he hs hbase hline) fun σ H Q q => by
  obtain ⟨XR, δ, r, P, ok, h, k⟩ := q
  refine td_bind ok h fun d1 r1 v1 H1 h1 o1 k1 i1 => ?_
  cases i1 <;> try exact h1.elim
  rename_i z hz
  refine ⟨⟨z, rfl⟩, td_bind o1 h1 fun d2 r2 v2 H2 h2 o2 k2 i2 => ?_⟩
  obtain ⟨h2⟩ := h2
  cases i2 <;> try exact h2.elim
  · rename_i n hl al
    simp only [oJoinP] at h2
    split at h2
    · rename_i ys hys
      obtain ⟨e1, e2⟩ := strL_all al hys
      subst e1
      exact ⟨z, _, ys, rfl, rfl, .inl (SqL.of hl), Nat.le_trans h2.1 (by decide), k _ r2 _ H2 h2.2 o2 (k1.trans k2) (.str (sok_join hz e2 h2.1))⟩
    · exact h2.elim
  · rename_i hl al
    simp only [oJoinP] at h2
    split at h2
    · rename_i ys hys
      obtain ⟨e1, e2⟩ := strL_all al hys
      subst e1
      exact ⟨z, _, ys, rfl, rfl, .inr hl, Nat.le_trans h2.1 (by decide), k _ r2 _ H2 h2.2 o2 (k1.trans k2) (.str (sok_join hz e2 h2.1))⟩
    · exact h2.elim
end
def isLet (c : Nat) : Bool := decide (97 ≤ c) && decide (c ≤ 122)
/-- 1 to 8 letters a to z -/
def isNm (z : Str) : Bool := decide (1 ≤ z.length) && decide (z.length ≤ 8) && (tl z).all isLet
end G
namespace G
open PySem PySem.Spec L2
theorem ix_s {z : Str} {i : Int} {c : Nat} {k : D → Prop} (h : atI (tl z) i = some c) (q : k (.str ⟨#[c]⟩)) : oIx (.str z) (.int i) k := by
  refine ⟨?_⟩
  show (match atI (tl z) i with | some c => k (.str ⟨#[c]⟩) | none => False)
  rw [h]
  exact q
theorem ix_l {z : List D} {i : Int} {c : D} {k : D → Prop} (h : atI z i = some c) (q : k c) : oIx (.lst z) (.int i) k := by
  refine ⟨?_⟩
  show (match atI z i with | some c => k c | none => False)
  rw [h]
  exact q
theorem ix_t {z : List D} {i : Int} {c : D} {k : D → Prop} (h : atI z i = some c) (q : k c) : oIx (.tup z) (.int i) k := by
  refine ⟨?_⟩
  show (match atI z i with | some c => k c | none => False)
  rw [h]
  exact q
theorem join_l {a : Str} {ds : List D} {ys : List Str} {k : D → Prop} (h : strL ds = some ys) (hz : (ys.map (·.length)).sum + ys.length * a.length ≤ 1000000) (q : k (.str (tJoin a ys))) : oJoin (.str a) (.lst ds) k := by
  refine ⟨?_⟩
  show (match strL ds with | some ys => (ys.map (·.length)).sum + ys.length * a.length ≤ 1000000 ∧ k (.str (tJoin a ys)) | none => False)
  rw [h]
  exact ⟨hz, q⟩
def sg (c : Nat) : Str := ⟨#[c]⟩
theorem joinL_sg : ∀ cs : List Nat, TL.joinL [] (cs.map fun c => [c]) = cs
  | [] => rfl
  | [c] => rfl
  | c :: d :: r => by
    have ih := joinL_sg (d :: r)
    show [c] ++ ([] ++ TL.joinL [] ((d :: r).map fun c => [c])) = _
    rw [ih]
    rfl
theorem tl_signs (cs : List Nat) : tl (tJoin ⟨#[]⟩ (cs.map sg)) = cs := by
  rw [tl_tJoin, List.map_map]
  exact joinL_sg cs
theorem len_tl (z : Str) : z.length = (tl z).length := by unfold Str.length tl; simp
theorem sum_ones : ∀ cs : List Nat, ((cs.map sg).map (·.length)).sum = cs.length
  | [] => rfl
  | c :: cs => by
    rw [List.map_cons, List.map_cons, List.sum_cons, sum_ones cs, List.length_cons]
    show 1 + cs.length = _
    omega
theorem strL_sg (cs : List Nat) : strL (cs.map fun c => D.str (sg c)) = some (cs.map sg) := by
  have h := strL_map (cs.map sg)
  rw [List.map_map] at h
  exact h
def abc : Str := "abcdefghijklmnopqrstuvwxyz"
theorem abc_all : ((List.range 26).all fun n => match atI (tl abc) ((n : Nat) : Int) with | some c => isLet c | none => false) = true := by decide +kernel
theorem abc_at {k : Int} (h0 : 0 ≤ k) (h1 : k < 26) : ∃ c, atI (tl abc) k = some c ∧ isLet c = true := by
  have h := List.all_eq_true.mp abc_all k.toNat (List.mem_range.mpr (by omega))
  rw [Int.toNat_of_nonneg h0] at h
  cases e : atI (tl abc) k with
  | none => rw [e] at h; cases h
  | some c => rw [e] at h; exact ⟨c, rfl, h⟩
mutual
/-- no address in it, nothing long -/
def plain : D → Bool
  | .adr _ => false | .ins _ _ _ => false | .dct _ _ => false | .lst ds => decide (ds.length ≤ 1000000) && plains ds | .tup ds => decide (ds.length ≤ 1000000) && plains ds | _ => true
def plains : List D → Bool
  | [] => true
  | d :: ds => plain d && plains ds
end
mutual
/-- the same, True no 1 -/
def same : D → D → Bool
  | .non, .non => true
  | .bl a, .bl b => a == b
  | .int a, .int b => a == b
  | .str a, .str b => a == b
  | .lst a, .lst b => sames a b
  | .tup a, .tup b => sames a b
  | _, _ => false
def sames : List D → List D → Bool
  | [], [] => true
  | a :: as, b :: bs => same a b && sames as bs
  | _, _ => false
end
mutual
theorem same_refl : ∀ d : D, plain d = true → same d d = true
  | .non, _ => rfl
  | .bl b, _ => by simp [same]
  | .int b, _ => by simp [same]
  | .str b, _ => by simp [same]
  | .adr _, h => by cases h
  | .ins _ _ _, h => by cases h
  | .dct _ _, h => by cases h
  | .lst ds, h => by simp only [same]; exact sames_refl ds (by simp only [plain, Bool.and_eq_true] at h; exact h.2)
  | .tup ds, h => by simp only [same]; exact sames_refl ds (by simp only [plain, Bool.and_eq_true] at h; exact h.2)
theorem sames_refl : ∀ ds : List D, plains ds = true → sames ds ds = true
  | [], _ => rfl
  | d :: ds, h => by
    simp only [plains, Bool.and_eq_true] at h
    simp only [sames, same_refl d h.1, sames_refl ds h.2]
    rfl
end
theorem plain_tup {ds : List D} (h : plain (.tup ds) = true) : ds.length ≤ 1000000 ∧ plains ds = true := by
  simp only [plain, Bool.and_eq_true, decide_eq_true_eq] at h
  exact h
theorem plain_lst {ds : List D} (h : plain (.lst ds) = true) : ds.length ≤ 1000000 ∧ plains ds = true := by
  simp only [plain, Bool.and_eq_true, decide_eq_true_eq] at h
  exact h
theorem plain_of_tup {ds : List D} (h : ds.length ≤ 1000000) (g : plains ds = true) : plain (.tup ds) = true := by
  simp only [plain, Bool.and_eq_true, decide_eq_true_eq]
  exact ⟨h, g⟩
theorem plain_of_lst {ds : List D} (h : ds.length ≤ 1000000) (g : plains ds = true) : plain (.lst ds) = true := by
  simp only [plain, Bool.and_eq_true, decide_eq_true_eq]
  exact ⟨h, g⟩
theorem plains_of : ∀ {ds : List D}, (∀ d ∈ ds, plain d = true) → plains ds = true
  | [], _ => rfl
  | a :: as, h => by
    simp only [plains, Bool.and_eq_true]
    exact ⟨h a List.mem_cons_self, plains_of fun d m => h d (List.mem_cons_of_mem _ m)⟩
theorem sames_len : ∀ {a b : List D}, sames a b = true → a.length = b.length
  | [], [], _ => rfl
  | _ :: _, _ :: _, h => by
    simp only [sames, Bool.and_eq_true] at h
    rw [List.length_cons, List.length_cons, sames_len h.2]
  | [], _ :: _, h => by simp [sames] at h
  | _ :: _, [], h => by simp [sames] at h
theorem eqD_int (a b : Int) : eqD (.int a) (.int b) = (a == b) := rfl
theorem eqD_str (a b : Str) : eqD (.str a) (.str b) = (a == b) := rfl
theorem ne_len {m n : Nat} (h : m ≠ n) : (!eqD (.int m) (.int n)) = true := by
  rw [eqD_int]
  simp
  omega
theorem eq_len {m n : Nat} (h : m = n) : (!eqD (.int m) (.int n)) = false := by
  rw [eqD_int, h]
  simp
theorem sames_at : ∀ {xs ys : List D} {j : Nat} {x y : D}, sames xs ys = true → xs[j]? = some x → ys[j]? = some y → same x y = true
  | [], _, j, x, y, _, e, _ => by simp at e
  | _ :: _, [], j, x, y, h, _, _ => by simp [sames] at h
  | a :: as, b :: bs, 0, x, y, h, e, f => by
    simp only [sames, Bool.and_eq_true] at h
    simp at e f
    rw [← e, ← f]
    exact h.1
  | a :: as, b :: bs, j + 1, x, y, h, e, f => by
    simp only [sames, Bool.and_eq_true] at h
    exact sames_at (j := j) h.2 (by simpa using e) (by simpa using f)
theorem sames_of : ∀ {xs ys : List D}, xs.length = ys.length → (∀ (j : Nat) (x y : D), xs[j]? = some x → ys[j]? = some y → same x y = true) → sames xs ys = true
  | [], [], _, _ => rfl
  | [], _ :: _, h, _ => by cases h
  | _ :: _, [], h, _ => by cases h
  | a :: as, b :: bs, h, f => by
    simp only [sames, Bool.and_eq_true]
    exact ⟨f 0 a b rfl rfl, sames_of (by simpa using h) fun j x y e g => f (j + 1) x y (by simpa using e) (by simpa using g)⟩
theorem plains_at : ∀ {xs : List D} {j : Nat} {x : D}, plains xs = true → xs[j]? = some x → plain x = true
  | [], j, x, _, e => by simp at e
  | a :: as, 0, x, h, e => by
    simp only [plains, Bool.and_eq_true] at h
    simp at e
    rw [← e]
    exact h.1
  | a :: as, j + 1, x, h, e => by
    simp only [plains, Bool.and_eq_true] at h
    exact plains_at (j := j) h.2 (by simpa using e)
theorem deps_at : ∀ {xs : List D} {j : Nat} {x : D}, xs[j]? = some x → dep x ≤ deps xs
  | [], j, x, e => by simp at e
  | a :: as, 0, x, e => by
    simp at e
    rw [← e]
    simp only [deps]
    omega
  | a :: as, j + 1, x, e => by
    have := deps_at (xs := as) (j := j) (x := x) (by simpa using e)
    simp only [deps]
    omega
/-- _law_same: two data, depth below n -/
def spSame (n : Nat) : SpX := fun ds r P _ => ∃ a b, ds = [a, b] ∧ plain a = true ∧ plain b = true ∧ dep a ≤ 64 ∧ dep b < n ∧ P (.bl (same a b)) r
end G
namespace G
open PySem PySem.Spec L2
open PyProof.Rows (envOfC)
/-- the pairs of a written dict with text keys -/
def KdL (K : PySem.W.Frag) (P : Params) : List DictEntry → List (Str × D) → Prop
  | [], [] => True
  | e :: r, (x, d) :: t => (∃ tk, e.key = .str x tk ∧ e.hash = PyData.keyHash P x ∧ ∃ v, RelV v e.val ∧ ∀ M H, Is K M H v d) ∧ KdL K P r t
  | _, _ => False
theorem isStr_str (x z : Str) (t : Tok) : (Value.str x t).isStr z = (x == z) := by
  rw [PySem.W.isStr_of]
  rfl
theorem KdL.find {K : PySem.W.Frag} {P : Params} (z : Str) : ∀ {es : List DictEntry} {tbl : List (Str × D)}, KdL K P es tbl → match tbl.lookup z with
    | some d => ∃ e v, es.find? (·.key.isStr z) = some e ∧ RelV v e.val ∧ ∀ M H, Is K M H v d
    | none => es.find? (·.key.isStr z) = none ∧ es.any (·.refKey) = false
  | [], [], _ => ⟨rfl, rfl⟩
  | [], _ :: _, h => h.elim
  | _ :: _, [], h => h.elim
  | e :: r, (x, d) :: t, ⟨⟨tk, h1, h2, v, h3, h4⟩, h⟩ => by
    have ih := KdL.find z h
    rw [List.lookup_cons, List.find?_cons, h1, isStr_str]
    by_cases hz : x = z
    · subst hz
      have e1 : (x == x) = true := by simp
      rw [e1]
      exact ⟨e, v, rfl, h3, h4⟩
    · have e1 : (x == z) = false := by simpa using hz
      have e2 : (z == x) = false := by simpa using fun q => hz q.symm
      rw [e1, e2]
      dsimp only
      have e3 : e.refKey = false := by unfold DictEntry.refKey; rw [h1]
      cases q : t.lookup z with
      | some d0 => rw [q] at ih; exact ih
      | none =>
        rw [q] at ih
        refine ⟨ih.1, ?_⟩
        rw [List.any_cons, e3, ih.2]
        rfl
theorem dfn_mk {K : PySem.W.Frag} {h : Heap} {mg : Str → Option Value} (X : K.In h) (G : h.Ns mainGlobals mg) {x : Str} {st : Stmt} {ps : List Str} {f : Addr} {oc : Value} {od an : Option Addr} {osl : Array (Option Value)} {kV doc pm cdv ct : Value}
    (a : PySem.W.nsIn K mainGlobals x = some (some (.ref f))) (l : K.lookup f = some ⟨oc, od, .func (PySem.W.fnOf x x (defArgs st) (defBody st) (defScope st) .none kV doc pm an cdv ct), osl⟩) (c : PySem.W.codeIn K cdv x = true) (k : PySem.W.keepIn K (.ref f) = true)
    (b : ∀ (kV doc pm : Value) (an : Option Addr) (cdv ct : Value) (us : List Value), us.length = ps.length → bindArgs (PySem.W.fnOf x x (defArgs st) (defBody st) (defScope st) .none kV doc pm an cdv ct) ⟨us, []⟩ = pure (ps.zip us)) : Dfn K mg x st ps :=
  have F := fun_mk (st := st) l c k
  ⟨f, _, F, PySem.W.mg_of X G a, F.binds b⟩
theorem at0 {α : Type} {z : α} {l : List α} : atI (z :: l) 0 = some z := L2.atI_nat (j := 0) rfl
theorem at1 {α : Type} {z y : α} {l : List α} : atI (z :: y :: l) 1 = some y := L2.atI_nat (j := 1) rfl
theorem at2 {α : Type} {z y x : α} {l : List α} : atI (z :: y :: x :: l) 2 = some x := L2.atI_nat (j := 2) rfl
theorem sl_s {z : Str} {lo hi : Option Int} {k : D → Prop} (h : k (.str (cutS z lo hi))) : oSl (.str z) lo hi k := ⟨h⟩
theorem eqv_str (a : Str) : PyData.eqv (.str a) (.str a) = true := by
  show (a == a) = true
  simp
end G
namespace G
open PySem PySem.Spec L2
open PyProof.Rows (envOfC)
end G
namespace G
open PySem PySem.Spec L2
def GS (mg : Str → Option Value) (x z : Str) : Prop := ∃ t, mg x = some (.str z t)
def GI (mg : Str → Option Value) (x : Str) (n : Int) : Prop := ∃ t, mg x = some (.int n t)
section
variable {X : Cx} {W : WX} {x : Str} {pos : Pos}
theorem d_gS {z : Str} (h : GS X.mg x z) (hz : sokB z = true := by decide +kernel) (hg : Gl X x := by rfl) (hdb : (x == ("__debug__" : Str)) = false := by decide) : PD X W (.Name x pos) (aC (.str z)) := by
  obtain ⟨t, h⟩ := h
  exact d_glob (v := .str z) hg h ⟨t, rfl⟩ (fun _ _ => .str (sok_of hz)) hdb
theorem d_gI {n : Int} (h : GI X.mg x n) (hg : Gl X x := by rfl) (hdb : (x == ("__debug__" : Str)) = false := by decide) : PD X W (.Name x pos) (aC (.int n)) := by
  obtain ⟨t, h⟩ := h
  exact d_glob (v := .int n) hg h ⟨t, rfl⟩ (fun _ _ => .int n) hdb
end
/-- the texts of a written tuple -/
def strVs : List Value → Option (List Str)
  | [] => some []
  | .str x _ :: r => (strVs r).map (x :: ·)
  | _ :: _ => none
theorem strVs_vals : ∀ {l : List Value} {xs : List Str}, strVs l = some xs → Vals (xs.map V.str) l
  | [], _, e => by cases e; exact .nil
  | .str x t :: r, xs, e => by
    simp only [strVs] at e
    cases q : strVs r with
    | none => rw [q] at e; cases e
    | some ys =>
      rw [q] at e
      cases e
      exact .cons ⟨t, rfl⟩ (strVs_vals q)
theorem all_strs {K : PySem.W.Frag} {M : Addr → Prop} {H : Hp} : ∀ {xs : List Str}, xs.all sokB = true → IsAll K M H (xs.map V.str) (xs.map D.str)
  | [], _ => .nil
  | x :: xs, h => by
    rw [List.all_cons, Bool.and_eq_true] at h
    exact .cons (.str (sok_of h.1)) (all_strs h.2)
theorem isK_tup {K : PySem.W.Frag} {a : Addr} {od : Option Addr} {its : Array Value} {n : Nat} {sl : Array (Option Value)} {xs : List Str} (hl : K.lookup a = some ⟨.type "tuple", od, .seq its n, sl⟩) (h : strVs its.toList = some xs) (hs : xs.all sokB = true) (hn : xs.length ≤ 1000000) (M : Addr → Prop) (H : Hp) : Is K M H (.ref a) (.tup (xs.map .str)) := by
  have v := strVs_vals h
  refine .tup (xs := xs.map V.str) (.inr ⟨_, its, n, hl, rfl, rfl, ?_, v⟩) (all_strs hs)
  have e := v.length
  rw [List.length_map] at e
  have e2 : its.size = xs.length := by rw [← Array.length_toList]; exact e.symm
  rw [e2, sizeLine_eq]
  omega
theorem u65 {k : Nat} {A : Around} (r : Room k A) : A.units + 65 < cLine := by have := r.un; omega
theorem oAll_of {f : List Bool → Bool} {xs : List D} {bs : List Bool} {k : D → Prop} (h : bls xs = some bs) (q : k (.bl (f bs))) : oAll f [.lst xs] k := by
  refine ⟨?_⟩
  show (match bls xs with | some bs => k (.bl (f bs)) | none => False)
  rw [h]
  exact q
theorem bls_of {α : Type} (f : α → Bool) (xs : List α) : bls (xs.map fun x => D.bl (f x)) = some (xs.map f) := by
  have := bls_map (xs.map f)
  rw [List.map_map] at this
  exact this
theorem abc_in : ((List.range 123).all fun c => isLet c == decide (c ∈ tl abc)) = true := by decide +kernel
theorem abc_max : ((tl abc).all fun c => decide (c < 123)) = true := by decide +kernel
theorem isLet_abc (c : Nat) : decide (c ∈ tl abc) = isLet c := by
  by_cases h : c < 123
  · exact (eq_of_beq (List.all_eq_true.mp abc_in c (List.mem_range.mpr h))).symm
  · have h1 : c ∉ tl abc := fun m => h (of_decide_eq_true (List.all_eq_true.mp abc_max c m))
    rw [decide_eq_false h1]
    unfold isLet
    have : ¬ c ≤ 122 := by omega
    simp [this]
def isNameD : D → Bool | .str z => isNm z | _ => false
def spIsName : SpX := fun ds r P _ => ∃ d, ds = [d] ∧ plain d = true ∧ P (.bl (isNameD d)) r
end G
namespace G
open PySem PySem.Spec L2
open PyProof.Rows (envOfC)
def Own (r : Rs) (l : Addr) (ds : List D) : Prop := ∃ pre post, r = pre ++ lstA l ds :: post
theorem Own.hd {r : Rs} {l : Addr} {ds : List D} : Own (lstA l ds :: r) l ds := ⟨[], r, rfl⟩
theorem Own.last {r : Rs} {l : Addr} {ds : List D} : Own (r ++ [lstA l ds]) l ds := ⟨r, [], rfl⟩
section
variable {K : PySem.W.Frag} {r pre post : Rs} {H : Hp} {l p : Addr} {ds es : List D} {vs ws : List V}
theorem mem_mid {x y : At} (h : x.M = y.M) : mem (pre ++ x :: post) = mem (pre ++ y :: post) := by
  funext a
  refine propext ((mem_append (r := pre) (r' := x :: post)).trans (Iff.trans ?_ (mem_append (r := pre) (r' := y :: post)).symm))
  show (mem pre a ∨ (x.M a ∨ mem post a)) ↔ (mem pre a ∨ (y.M a ∨ mem post a))
  rw [h]
theorem own_mid (h : Rok K (pre ++ lstA l ds :: post) H) : ∃ vs, H l = some (.lst vs) ∧ IsAll K (mem (pre ++ lstA l ds :: post)) H vs ds := by
  obtain ⟨_, ⟨h2, _⟩, _⟩ := hold_append.mp h
  exact h2
theorem own_get (h : Rok K r H) (o : Own r l ds) : ∃ vs, H l = some (.lst vs) ∧ IsAll K (mem r) H vs ds := by
  obtain ⟨pre, post, rfl⟩ := o
  exact own_mid h
theorem own_mem : mem (pre ++ lstA l ds :: post) l := mem_append.mpr (.inr (.inl rfl))
theorem own_put (h : Rok K (pre ++ lstA l ds :: post) H) (i : IsAll K (mem (pre ++ lstA l ds :: post)) H ws es) : Rok K (pre ++ lstA l es :: post) (upd H l (.lst ws)) ∧ Kp K (pre ++ lstA l ds :: post) H (pre ++ lstA l es :: post) (upd H l (.lst ws)) := by
  obtain ⟨vs, e1, _⟩ := own_mid h
  obtain ⟨h1, ⟨h2, h3, h4⟩, h5⟩ := hold_append.mp h
  have me : mem (pre ++ lstA l ds :: post) = mem (pre ++ lstA l es :: post) := mem_mid rfl
  have go : ∀ w e, Is K (mem (pre ++ lstA l ds :: post)) H w e → Is K (mem (pre ++ lstA l ds :: post)) (upd H l (.lst ws)) w e := fun w e q => is_other own_mem e1 q
  refine ⟨hold_append.mpr ⟨?_, ⟨⟨ws, upd_same, ?_⟩, h3, ?_⟩, h5⟩, fun w e q => me ▸ go w e q⟩
  · rw [← me]
    exact hold_loc (fun b o m q => by rw [upd_ne (fun e => h5 b m (.inl e))]; exact q) go h1
  · rw [← me]
    exact all_of go i
  · rw [← me]
    exact hold_loc (fun b o m q => by rw [upd_ne (fun e => h3 b e m)]; exact q) go h4
theorem own_drop (h : Rok K (pre ++ lstA l ds :: post) H) : Rok K (pre ++ post) H ∧ Is K (mem (pre ++ post)) H (.ref l) (.lst ds) ∧ Kp K (pre ++ lstA l ds :: post) H (pre ++ post) H := by
  obtain ⟨h1, ⟨h2, h3, h4⟩, h5⟩ := hold_append.mp h
  have an : ∀ a, mem (pre ++ post) a → mem (pre ++ lstA l ds :: post) a := fun a z => (mem_append.mp z).elim (fun z => mem_append.mpr (.inl z)) fun z => mem_append.mpr (.inr (.inr z))
  obtain ⟨vs, e1, e2⟩ := h2
  refine ⟨hold_append.mpr ⟨hold_anti an h1, hold_anti an h4, fun a m z => h5 a m (.inr z)⟩, .lst (fun z => ?_) e1 (all_of (fun _ _ => is_anti an) e2), fun _ _ => is_anti an⟩
  rcases mem_append.mp z with z | z
  · exact h5 l z (.inl rfl)
  · exact h3 l rfl z
theorem rok_new (h : Rok K r H) (hp : H p = none) (i : IsAll K (mem r) H vs ds) : Rok K (r ++ [lstA p ds]) (upd H p (.lst vs)) ∧ Kp K r H (r ++ [lstA p ds]) (upd H p (.lst vs)) := by
  have e : ∀ a, mem (r ++ [lstA p ds]) a → mem r a ∨ a = p := fun a z => (mem_append.mp z).elim .inl fun z => z.elim .inr False.elim
  have go : Kp K r H (r ++ [lstA p ds]) (upd H p (.lst vs)) := fun v d q => is_anti e (is_ext (Ext.new hp) _ _ (is_grow hp q))
  refine ⟨hold_append.mpr ⟨hold_anti e (hold_ext (Ext.new hp) (hold_grow hp h)), ⟨⟨vs, upd_same, all_of go i⟩, fun _ _ z => z, True.intro⟩, fun a m z => ?_⟩, go⟩
  have : a = p := z.elim (fun z => z) False.elim
  subst this
  exact not_al h hp m
end
def aLstO (l : AL) : AT := fun x δ r P => l x δ r fun ds r1 => small ds.length ∧ ∀ p, P (.adr p) (r1 ++ [lstA p ds])
section
variable {X : Cx} {W : WX} {e : Expr} {es : List Expr} {pos : Pos} {l : AL} {te : AT}
theorem d_lstO (ha : PDL X W es l) : PD X W (.List es pos) (aLstO l) := imE (pe_lst ha) fun σ H Q q => by
  obtain ⟨XR, δ, r, P, o, h, k⟩ := q
  refine tdl_bind o h fun ds r1 vs H1 h1 o1 k1 i1 => ⟨by rw [i1.length]; exact h1.1.sz, fun p hp => ?_⟩
  obtain ⟨q1, q2⟩ := rok_new o1.r hp i1
  exact k _ _ _ _ (h1.2 p) (o1.step q2 q1) (k1.trans q2) (.adr p)
def rC2 (K : PySem.W.Frag) (o : Rs → OC) : List V → Hp → VK → Prop := fun vs H Q => ∃ (r : Rs) (ds : List D) (P : D → Prop), Rok K r H ∧ IsAll K (mem r) H vs ds ∧ o r ds P ∧ ∀ d v H', P d → Ext H H' → Is K (mem r) H' v d → Q v H'
def aBlt2 (o : Rs → OC) (l : AL) : AT := fun x δ r P => l x δ r fun ds r1 => o r1 ds fun d => P d r1
theorem tcb2 {K : PySem.W.Frag} {W : WX} {o : Rs → OC} {l : AL} {σ : L2.St} {H : Hp} {Q : VK} (q : TD K W (aBlt2 o l) σ H Q) : tCB (rC2 K o) (TDL K W l) σ H Q := by
  obtain ⟨XR, δ, r, P, ok, h, k⟩ := q
  refine tdl_bind ok h fun ds r1 vs H1 h1 o1 k1 i1 => ⟨r1, ds, fun d => P d r1, o1.r, i1, h1, fun d v H' p e i => k d r1 v H' p (o1.ext e) (k1.trans (Kp.ext e)) i⟩
theorem d_blt2 {bid : String} {o : Rs → OC} {x : Str} {p : Pos} (hc : CallR X (.builtin bid) (rC2 X.K o)) (hg : Gl X x) (hm : X.mg x = none) (ha : PDL X W (e :: es) l) (hv : bootBuiltins x = some (.builtin bid) := by decide +kernel) (hn : x ≠ "__name__" := by decide) (hdb : (x == ("__debug__" : Str)) = false := by decide)
    (he : starEach (e :: es) X.env = (false, eval e X.env) :: starEach es X.env := by rfl) (hpl : (backTo pos (starEach es X.env)).any (·.1) = false := by rfl) : PD X W (.Call (.Name x p) (e :: es) [] pos) (aBlt2 o l) :=
  imE (pe_callB hc hg hm hv ha hn hdb he hpl) fun _ _ _ q => tcb2 q
structure oLenO (r : Rs) (ds : List D) (k : D → Prop) : Prop where
  ex : ∃ l xs, ds = [.adr l] ∧ Own r l xs ∧ (xs.length ≤ sizeLine → k (.int xs.length))
theorem c_lenO : CallR X (.builtin "len") (rC2 X.K oLenO) := by
  rintro pins s σ H vs us Q I rv ⟨r, ds, P, hr, i, ⟨l, xs, rfl, ow, ho⟩, k⟩
  obtain ⟨ws, h1, h2⟩ := own_get hr ow
  cases i with
  | cons i t =>
    cases t
    cases i
    obtain ⟨_, _, _, hz⟩ := I.list (SqL.of h1)
    exact call_len pins s σ H _ us Q I rv ⟨_, _, rfl, .inl ⟨_, SqL.of h1, rfl⟩, by rw [h2.length] at hz ⊢; exact k _ _ H (ho hz) (Ext.refl H) (.int _)⟩
abbrev OM := Rs → Addr → List D → (D → Rs → Prop) → Prop
def aMth (om : OM) (to : AT) (l : AL) : AT := fun x δ r P => to x δ r fun d r1 => ∃ a xs, d = .adr a ∧ Own r1 a xs ∧ l x δ r1 fun ds r2 => om r2 a ds P
def OMok (K : PySem.W.Frag) (om : OM) (rr : V → List V → Hp → VK → Prop) : Prop := ∀ r a ds P H vs Q, Rok K r H → IsAll K (mem r) H vs ds → om r a ds P → (∀ d r' v H', P d r' → Rok K r' H' → Kp K r H r' H' → Is K (mem r') H' v d → Q v H') → rr (.ref a) vs H Q
theorem d_mth {om : OM} {rr : V → List V → Hp → VK → Prop} {o : Expr} {to : AT} {name : Str} {id : String} {apos cpos : Pos} (slot : Slot "list" name id) (hty : typeOf (.builtin id) = pure (.type "method_descriptor")) (hm : MtR X id rr) (hom : OMok X.K om rr) (ho : PD X W o to) (ha : PDL X W (e :: es) l)
    (hbase : attributeBase o name X.env (eval o X.env) = eval o X.env := by rfl)
    (hfew : ((backTo cpos (starEach (e :: es) X.env)).all (fun x => !x.1) && (backToKw cpos (keywordEach [] X.env)).all (fun x => x.1.isSome)
      && decide ((e :: es).length + ([] : List Keyword).length + (if ([] : List Keyword).isEmpty then 0 else 1) < 30)) = true := by rfl)
    (hline : (apos.endLine == cpos.line) = true := by rfl) (hs : starEach (e :: es) X.env = (false, eval e X.env) :: starEach es X.env := by rfl) (hplain : (backTo cpos (starEach es X.env)).any (·.1) = false := by rfl) :
    PD X W (.Call (.Attribute o name apos) (e :: es) [] cpos) (aMth om to l) := imE (pe_bm PySem.F.plainAttrs_list slot hty hm ho ha hbase hfew hline hs hplain) fun σ H Q q => by
  obtain ⟨XR, δ, r, P, ok, h, k⟩ := q
  refine td_bind ok h fun d r1 v H1 h1 o1 k1 i1 => ?_
  obtain ⟨a, xs, rfl, ow, h1⟩ := h1
  cases i1
  obtain ⟨ws, g1, g2⟩ := own_get o1.r ow
  refine ⟨.inl ⟨rfl, ws, SqL.of g1⟩, tdl_bind o1 h1 fun ds r2 vs H2 h2 o2 k2 i2 => ?_⟩
  exact hom r2 a ds P H2 vs Q o2.r i2 h2 fun d r' v H' p ro kk i => k d r' v H' p (o2.step kk ro) ((k1.trans k2).trans kk) i
structure oApp (r : Rs) (a : Addr) (ds : List D) (P : D → Rs → Prop) : Prop where
  ex : ∃ pre xs post y, ds = [y] ∧ r = pre ++ lstA a xs :: post ∧ small (xs.length + 1) ∧ P .non (pre ++ lstA a (xs ++ [y]) :: post)
theorem om_app {K : PySem.W.Frag} : OMok K oApp rAppend := by
  rintro r a ds P H vs Q ro i ⟨pre, xs, post, y, rfl, rfl, hz, hp⟩ k
  cases i with
  | cons i t =>
    cases t
    obtain ⟨ws, e1, e2⟩ := own_mid ro
    obtain ⟨q1, q2⟩ := own_put ro (e2.append (.cons i .nil))
    exact ⟨a, ws, _, rfl, rfl, e1, by rw [e2.length]; exact Nat.lt_of_lt_of_le (Nat.lt_succ_self _) hz.sz, k _ _ _ _ hp q1 q2 .non⟩
theorem d_app {o : Expr} {to : AT} {apos cpos : Pos} (ho : PD X W o to) (ha : PDL X W [e] l) (hbase : attributeBase o "append" X.env (eval o X.env) = eval o X.env := by rfl)
    (hfew : ((backTo cpos (starEach [e] X.env)).all (fun x => !x.1) && (backToKw cpos (keywordEach [] X.env)).all (fun x => x.1.isSome)
      && decide (([e] : List Expr).length + ([] : List Keyword).length + (if ([] : List Keyword).isEmpty then 0 else 1) < 30)) = true := by rfl)
    (hline : (apos.endLine == cpos.line) = true := by rfl) (hs : starEach [e] X.env = (false, eval e X.env) :: starEach [] X.env := by rfl) (hplain : (backTo cpos (starEach [] X.env)).any (·.1) = false := by rfl) : PD X W (.Call (.Attribute o "append" apos) [e] [] cpos) (aMth oApp to l) :=
  d_mth PySem.F.slot_list_append PySem.F.type_list_append mt_append om_app ho ha hbase hfew hline hs hplain
structure oPopAt (r : Rs) (a : Addr) (ds : List D) (P : D → Rs → Prop) : Prop where
  ex : ∃ pre xs post y, ∃ n : Nat, ds = [.int n] ∧ r = pre ++ lstA a xs :: post ∧ xs[n]? = some y ∧ n ≤ 1000000 ∧ P y (pre ++ lstA a (xs.eraseIdx n) :: post)
theorem erase_all {K : PySem.W.Frag} {N : Addr → Prop} {H : Hp} : ∀ {vs : List V} {ds : List D} (n : Nat), IsAll K N H vs ds → IsAll K N H (vs.eraseIdx n) (ds.eraseIdx n)
  | _, _, _, .nil => .nil
  | _, _, 0, .cons _ t => t
  | _, _, n + 1, .cons h t => .cons h (erase_all n t)
theorem set_all {K : PySem.W.Frag} {N : Addr → Prop} {H : Hp} {v : V} {d : D} (i : Is K N H v d) : ∀ {vs : List V} {ds : List D} (n : Nat), IsAll K N H vs ds → IsAll K N H (vs.set n v) (ds.set n d)
  | _, _, _, .nil => .nil
  | _, _, 0, .cons _ t => .cons i t
  | _, _, n + 1, .cons h t => .cons h (set_all i n t)
theorem om_popAt {K : PySem.W.Frag} : OMok K oPopAt rPopAt := by
  rintro r a ds P H vs Q ro i ⟨pre, xs, post, y, n, rfl, rfl, hy, hn, hp⟩ k
  cases i with
  | cons i t =>
    cases i
    cases t
    obtain ⟨ws, e1, e2⟩ := own_mid ro
    obtain ⟨v, hv, iv⟩ := e2.getD hy
    obtain ⟨q1, q2⟩ := own_put ro (erase_all n e2)
    have hl := (List.getElem?_eq_some_iff.mp hv).1
    exact ⟨a, ws, n, n, v, rfl, rfl, e1, by omega, by omega, PySem.StrLaws.seqIndex_nonneg (by omega) (by omega), hv, k _ _ _ _ hp q1 q2 (q2 _ _ iv)⟩
section
variable {X : Cx} {W : WX} {e : Expr} {es : List Expr} {l : AL} {o : Expr} {to : AT} {apos cpos : Pos}
theorem d_popAt (ho : PD X W o to) (ha : PDL X W [e] l) (hbase : attributeBase o "pop" X.env (eval o X.env) = eval o X.env := by rfl)
    (hfew : ((backTo cpos (starEach [e] X.env)).all (fun x => !x.1) && (backToKw cpos (keywordEach [] X.env)).all (fun x => x.1.isSome)
      && decide (([e] : List Expr).length + ([] : List Keyword).length + (if ([] : List Keyword).isEmpty then 0 else 1) < 30)) = true := by rfl)
    (hline : (apos.endLine == cpos.line) = true := by rfl) (hs : starEach [e] X.env = (false, eval e X.env) :: starEach [] X.env := by rfl) (hplain : (backTo cpos (starEach [] X.env)).any (·.1) = false := by rfl) : PD X W (.Call (.Attribute o "pop" apos) [e] [] cpos) (aMth oPopAt to l) :=
  d_mth PySem.F.slot_list_pop PySem.F.type_list_pop mt_popAt om_popAt ho ha hbase hfew hline hs hplain
/-- x[i] = value, x an own list -/
def sSetO (te to ti : AT) : AS := fun A δ r => te A.xr δ r fun y r1 => to A.xr δ r1 fun d r2 => ti A.xr δ r2 fun di r3 => ∃ a pre xs post, ∃ n : Nat, d = .adr a ∧ di = .int n ∧ r3 = pre ++ lstA a xs :: post ∧ n < xs.length ∧ A.nx δ (pre ++ lstA a (xs.set n y) :: post)
theorem s_setO {i value : Expr} {te ti : AT} {p2 pos : Pos} (he : PD X W value te) (ho : PD X W o to) (hi : PD X W i ti)
    (ha : ∀ v, assign (.Subscript o i p2) X.env v = (do
      let ov ← holding [v] (eval o X.env)
      let iv ← holding [v, ov] (eval i X.env)
      standAt p2
      holding [v, ov, iv] (setItem ov iv v)
      release [v, ov, iv] []) := by intro _; rfl)
    (hs : swapsWithSole [.Subscript o i p2] value pos.line X.env = pure false := by rfl) (hw : swappedStores [.Subscript o i p2] value X.env = pure none := by rfl)
    (h1 : (assignEach [.Subscript o i p2] X.env).map (·.2) = [assign (.Subscript o i p2) X.env] := by rfl) : PSD X W (.Assign [.Subscript o i p2] value pos) (sSetO te to ti) :=
  imS (ps_asg he (pg_sub ho hi set_list ha) hs hw h1) fun Dd σ H ⟨δ, r, A, ok, h, f⟩ => td_bind ok h fun y r1 v H1 h1 o1 k1 i1 => td_bind o1 h1 fun d r2 v2 H2 h2 o2 k2 i2 => td_bind o2 h2 fun di r3 v3 H3 h3 o3 k3 i3 => by
    obtain ⟨a, pre, xs, post, n, rfl, rfl, rfl, hn, h3⟩ := h3
    cases i2
    cases i3
    obtain ⟨ws, e1, e2⟩ := own_mid o3.r
    obtain ⟨q1, q2⟩ := own_put o3.r (set_all (k3 _ _ (k2 _ _ i1)) n e2)
    refine ⟨a, ws, n, n, rfl, rfl, e1, ?_, f.nx _ _ _ _ h3 (o3.step q2 q1) (((k1.trans k2).trans k3).trans q2)⟩
    unfold ixN
    rw [e2.length, if_pos (by omega), if_pos (by omega)]
    rfl
end
end
end G
namespace G
open PySem PySem.Spec L2
def gd (n : Nat) : Nat → D → Bool
  | _, .adr _ => false
  | _, .ins _ _ _ => false
  | _, .dct _ _ => false
  | 0, .lst _ => false
  | 0, .tup _ => false
  | m + 1, .lst ds => decide (ds.length ≤ n) && ds.all (gd n m)
  | m + 1, .tup ds => decide (ds.length ≤ n) && ds.all (gd n m)
  | _, _ => true
theorem deps_le {k : Nat} : ∀ {ds : List D}, (∀ d ∈ ds, dep d ≤ k) → deps ds ≤ k
  | [], _ => Nat.zero_le _
  | d :: ds, h => by
    simp only [deps]
    have h1 := h d List.mem_cons_self
    have h2 := deps_le (ds := ds) fun d m => h d (List.mem_cons_of_mem _ m)
    omega
theorem isNm_len {z : Str} (h : isNm z = true) : z.length ≤ 8 := by
  unfold isNm at h
  simp only [Bool.and_eq_true, decide_eq_true_eq] at h
  exact h.1.2
theorem len_app (a b : Str) : (a ++ b).length = a.length + b.length := by
  show (a.cps ++ b.cps).size = _
  rw [Array.size_append]
  rfl
/-- at a place of a written list of data -/
theorem pick_in {l : List D} {k : Int} (h0 : 0 ≤ k) (h1 : k < (l.length : Nat)) : ∃ d, d ∈ l ∧ atI l k = some d := by
  obtain ⟨n, rfl⟩ : ∃ n : Nat, k = n := ⟨k.toNat, by omega⟩
  have hn : n < l.length := by omega
  exact ⟨l[n], List.getElem_mem _, L2.atI_nat (by simp)⟩
end G
namespace G
open PySem PySem.Spec L2
/-- [e(x) for x in ds if f(x)] -/
theorem lc_fm {x : XT} {g : AG} {te : AT} {tt : AB} {δw : Dl} {ds : List D} {r1 : Rs} {P : PK1} (f : D → Bool) (e : D → D) (hz : small ds.length)
    (he : ∀ d ∈ ds, ∀ (r' : Rs) (Q1 : PK1) (Q2 : Rs → Prop), (f d = true → Q1 (e d) r') → (f d = false → Q2 r') → g d δw fun δ2 => tt x δ2 r' fun b r2 => (b = true → te x δ2 r2 Q1) ∧ (b = false → Q2 r2)) (hP : P (.lst ((ds.filter f).map e)) r1) : aLcK x g tt te δw ds r1 P := by
  refine ⟨fun i acc r' => acc = ((ds.take i).filter f).map e ∧ r' = r1, ⟨rfl, rfl⟩, ?_, ?_⟩
  · rintro p i d acc r' hd ⟨rfl, rfl⟩
    have hi := (List.getElem?_eq_some_iff.mp hd).1
    refine he d (List.mem_of_getElem? hd) _ _ _ (fun q => ⟨?_, r', le.refl, ?_, rfl⟩) (fun q => ⟨r', le.refl, ?_, rfl⟩)
    · rw [List.length_map]
      have h1 := List.length_filter_le f (ds.take i)
      rw [List.length_take] at h1
      have : small ds.length := hz
      unfold small at *
      omega
    · rw [List.take_add_one, hd, List.filter_append, List.map_append]
      show _ = _ ++ List.map e (List.filter f [d])
      rw [List.filter_cons, q]
      rfl
    · rw [List.take_add_one, hd, List.filter_append, List.map_append]
      show _ = _ ++ List.map e (List.filter f [d])
      rw [List.filter_cons, q]
      simp
  · rintro acc r' ⟨rfl, rfl⟩
    rw [List.take_length]
    exact hP
theorem eq_nil (xs : List D) : eqD (.lst xs) (.lst []) = xs.isEmpty := by
  cases xs <;> rfl
theorem filter_none {xs : List D} {f : D → Bool} : (xs.filter fun d => !f d).isEmpty = xs.all f := by
  induction xs with
  | nil => rfl
  | cons x xs ih =>
    rw [List.filter_cons, List.all_cons]
    cases f x with
    | true => exact ih
    | false => rfl
end G
namespace G
open PySem PySem.Spec L2
end G
namespace G
open PySem PySem.Spec L2
end G
namespace G
open PySem PySem.Spec L2
theorem spl_mem {S : List Nat} : ∀ {l : List Nat} {k : Nat} {acc p : List Nat}, p ∈ TL.spl S k acc l → (∀ c ∈ p, c ∈ acc ∨ c ∈ l) ∧ p.length ≤ acc.length + l.length
  | [], k, acc, p, h => by
    rw [TL.spl_nil] at h
    obtain rfl := List.mem_singleton.mp h
    exact ⟨fun c m => .inl m, Nat.le_add_right _ _⟩
  | c :: r, 0, acc, p, h => by
    cases q : TL.pre S (c :: r) with
    | true =>
      rw [TL.spl_hit q] at h
      rcases List.mem_cons.mp h with rfl | h
      · exact ⟨fun c m => .inl m, Nat.le_add_right _ _⟩
      · obtain ⟨h1, h2⟩ := spl_mem h
        refine ⟨fun x m => (h1 x m).elim (fun z => by cases z) fun z => .inr (List.mem_cons_of_mem _ z), ?_⟩
        rw [List.length_nil] at h2
        rw [List.length_cons]
        omega
    | false =>
      rw [TL.spl_miss q] at h
      obtain ⟨h1, h2⟩ := spl_mem h
      refine ⟨fun x m => (h1 x m).elim (fun z => (List.mem_append.mp z).elim .inl fun z => .inr ((List.mem_singleton.mp z) ▸ List.mem_cons_self)) fun z => .inr (List.mem_cons_of_mem _ z), ?_⟩
      rw [List.length_append, List.length_singleton] at h2
      rw [List.length_cons]
      omega
  | c :: r, k + 1, acc, p, h => by
    have h : p ∈ TL.spl S k acc r := h
    obtain ⟨h1, h2⟩ := spl_mem h
    refine ⟨fun x m => (h1 x m).elim .inl fun z => .inr (List.mem_cons_of_mem _ z), ?_⟩
    rw [List.length_cons]
    omega
def sepOk (b : Str) : Bool := !(tl b).isEmpty && b.cps.all (· < 256)
theorem sep_len {b : Str} (h : sepOk b = true) : (b.length == 0) = false := by
  unfold sepOk at h
  rw [Bool.and_eq_true] at h
  have : b.length ≠ 0 := fun e => by
    rw [len_tl] at e
    rw [List.eq_nil_of_length_eq_zero e] at h
    cases h.1
  simpa using this
theorem split_tl {a b : Str} (h : sepOk b = true) : (Txt.split a b).map tl = TL.spl (tl b) 0 [] (tl a) := by
  unfold sepOk at h
  rw [Bool.and_eq_true] at h
  refine TL.split_spl a b (fun e => ?_) (TL.kind_ok h.2)
  have e' : tl b = [] := e
  rw [e'] at h
  cases h.1
theorem split_sok {a b : Str} (h : sepOk b = true) (ha : sok a) : ∀ p ∈ Txt.split a b, sok p ∧ p.length ≤ a.length := fun p m => by
  have m2 : tl p ∈ TL.spl (tl b) 0 [] (tl a) := by rw [← split_tl h]; exact List.mem_map_of_mem m
  obtain ⟨h1, h2⟩ := spl_mem m2
  rw [List.length_nil, Nat.zero_add] at h2
  obtain ⟨g1, g2⟩ := sok_iff.mp ha
  exact ⟨sok_iff.mpr ⟨fun c hc => (h1 c hc).elim (fun z => by cases z) (g1 c), by omega⟩, by rw [len_tl, len_tl]; exact h2⟩
theorem all_soks {K : PySem.W.Frag} {M : Addr → Prop} {H : Hp} : ∀ {xs : List Str}, (∀ x ∈ xs, sok x) → IsAll K M H (xs.map V.str) (xs.map D.str)
  | [], _ => .nil
  | x :: xs, h => .cons (.str (h x List.mem_cons_self)) (all_soks fun y m => h y (List.mem_cons_of_mem _ m))
section
variable {X : Cx} {W : WX} {o e : Expr} {ta tb : AT} {apos pos : Pos}
theorem d_ty2 {T : String} {oo : Rs → OC} {es : List Expr} {l : AL} {x : Str} {p : Pos} (hc : CallR X (.type T) (rC2 X.K oo)) (hg : Gl X x) (hm : X.mg x = none) (ha : PDL X W (e :: es) l) (hv : bootBuiltins x = some (.type T) := by decide +kernel) (hn : x ≠ "__name__" := by decide) (hdb : (x == ("__debug__" : Str)) = false := by decide)
    (he : starEach (e :: es) X.env = (false, eval e X.env) :: starEach es X.env := by rfl) (hpl : (backTo pos (starEach es X.env)).any (·.1) = false := by rfl) : PD X W (.Call (.Name x p) (e :: es) [] pos) (aBlt2 oo l) :=
  imE (pe_callTy hc hg hm hv ha hn hdb he hpl) fun _ _ _ q => tcb2 q
end
end G
namespace G
open PySem PySem.Spec L2
end G
namespace G
open PySem PySem.Spec L2 PySem.W PyProof.Rows
/-- what the written part says of such a class at C: its __init__ at f stores under fld -/
structure ErrK (P : Program) (K : Frag) (mg : Str → Option Value) (C : Addr) : Prop where
  cls : OexC K C
  mro : mroIn K C (.ref C) = some true
  sub : subIn K (.ref C) (.type "ValueError") = some true
  sup : ks_superIn K C C "__init__" = some (some (.builtin "ValueError.__init__"))
  opq : nsIn K cStatics "thirdparty.any" = some none
  mgs : mg "super" = none
  top : (P.main.scope.names.lookup ("super" : Str)).isSome = false
def spEI (C : Addr) (fld : Str) : Sp := fun vs H Q _ => ∃ (a : Addr) (v : V), vs = [.ref a, v] ∧ H a = some (exo a C none) ∧ ∀ dx, H dx = none → dx ≠ a → Q .non (upd (upd H dx (exd dx [(fld, v)])) a (exo a C (some dx)))
def cxE (P : Program) (w : World) (K : Frag) (mg : Str → Option Value) (base : Heap) (N : List Str) (qual : Str) (scope : Scope) (f : Addr) (cda cc : Addr) (A : Around) (outer : List Env) (s : Shared) (H : Hp) (xe : Value → Shared → Prop) : Cx where
  prog := P
  w := w
  K := K
  mg := mg
  base := base
  A := A.deeper (ksEnv qual scope s.heap.objs.size f (.ref cda) cc)
  N := N
  s_0 := s
  H_0 := H
  env := ksEnv qual scope s.heap.objs.size f (.ref cda) cc
  outer := outer
  stack := ksEnv qual scope s.heap.objs.size f (.ref cda) cc :: outer
  ex := []
  calm := true
  fn := fun _ => false
  pn := []
  xe := xe
section
variable {P : Program} {w : World} {K : Frag} {mg : Str → Option Value} {base : Heap}
theorem exinit {C fI cc cda : Addr} {cd0 : ClassData} {prm fld : Str} {qual name : Str} {params : Arguments} {scope : Scope} {dV kV doc pm cdv ct oc ccl cl : Value} {an od cdd cld : Option Addr} {osl ccs csl : Array (Option Value)} {vs0 : Array Value} {file : Str} {tf : Tok}
    {p0 p1 p2 p3 p4 p5 p6 p7 p8 p9 : Pos} {txt : Str} {j : Nat} {jj : _}
    (T : ErrK P K mg C)
    (lk : K.lookup fI = some ⟨oc, od, .func (ksFn name qual params [.Expr (.Call (.Attribute (.Call (.Name "super" p0) [] [] p1) "__init__" p2) [.Constant (.str txt) jj p3] [] p4) p5, .Assign [.Attribute (.Name "self" p6) fld p7] (.Name prm p8) p9] scope dV kV doc pm an (.ref cda) ct cc), osl⟩)
    (hcd : codeIn K (.ref cda) qual = true) (hD : clsIn K C = some cd0) (hno : findIn K (.ref C) fld = some none)
    (hcode : K.lookup cda = some ⟨ccl, cdd, .fields vs0, ccs⟩) (hvs : vs0[2]? = some (.str file tf)) (hfile : ((P.main.file : Str) == file) = true)
    (hcell : K.lookup cc = some ⟨cl, cld, .cell (some (.ref C)), csl⟩)
    (hp : ∃ ar : Arg, (params.posonlyargs ++ params.args).head? = some ar ∧ ar.arg = "self")
    (hnm : scope.names.lookup ("self" : Str) = some .local ∧ scope.names.lookup prm = some .local ∧ scope.names.lookup ("super" : Str) = some .globalImplicit ∧ scope.names.lookup ("__class__" : Str) = some .free)
    (hfree : ∀ x, scope.names.lookup x = some .cell ∨ scope.names.lookup x = some .free → x = "__class__") (hcl : ∀ x ∈ scope.names, x.2 ≠ .cell)
    (hsc : scope.isCoroutine = false ∧ scope.isGenerator = false ∧ scope.kind = .function) (hps : ("self" : Str) ≠ prm) (hcdbg : (prm == ("__debug__" : Str)) = false ∧ (prm == ("__classdict__" : Str)) = false)
    (hin : ∀ L, interactive (ksEnv qual scope L fI (.ref cda) cc) = false)
    (hpl1 : ∀ L, swapsWith (.Call (.Attribute (.Call (.Name "super" p0) [] [] p1) "__init__" p2) [.Constant (.str txt) jj p3] [] p4) none p5.line (ksEnv qual scope L fI (.ref cda) cc) = pure false)
    (hev : ∀ L, ∃ pl : Sem Bool, eval (.Call (.Attribute (.Call (.Name "super" p0) [] [] p1) "__init__" p2) [.Constant (.str txt) jj p3] [] p4) (ksEnv qual scope L fI (.ref cda) cc) = (do
      let ov ← attributeBase (.Call (.Name "super" p0) [] [] p1) "__init__" (ksEnv qual scope L fI (.ref cda) cc) (eval (.Call (.Name "super" p0) [] [] p1) (ksEnv qual scope L fI (.ref cda) cc))
      standAt p2.atName
      let (f, first) ← holding [ov] (getMethod ov "__init__" pl)
      callWith p4 f first (backTo p4 (starEach [.Constant (.str txt) jj p3] (ksEnv qual scope L fI (.ref cda) cc))) []))
    (hpl2 : ∀ L, swapsWith (.Name prm p8) (some (.Attribute (.Name "self" p6) fld p7)) p9.line (ksEnv qual scope L fI (.ref cda) cc) = pure false) :
    FnOk P w K mg base CX0 1 fI (ksFn name qual params [.Expr (.Call (.Attribute (.Call (.Name "super" p0) [] [] p1) "__init__" p2) [.Constant (.str txt) jj p3] [] p4) p5, .Assign [.Attribute (.Name "self" p6) fld p7] (.Name prm p8) p9] scope dV kV doc pm an (.ref cda) ct cc) ["self", prm] (spEI C fld) := by
  refine ⟨fun vs H Q E ⟨a, v, e, _⟩ => by rw [e]; rfl, fun A outer s H args us vs Q E hr e0 hb r hsp => ?_⟩
  obtain ⟨a, v, rfl, hea, hq⟩ := hsp
  obtain ⟨u, rfl, rv⟩ : ∃ u, us = [.ref a, u] ∧ RelV v u := by
    match us, r with
    | [_, u], .cons ra (.cons rv .nil) => exact ⟨u, by rw [show _ = Value.ref a from ra], rv⟩
  have KX : K.In s.heap := e0.mod.kin.keeps fun b o e => (e0.bs b o e).1
  have lim : s.heap.NoLimit := e0.mod.nolimit.keeps fun b o e => (e0.bs b o e).1
  refine ks_codeAny_call_defAt hr.depth (KX _ _ lk) rfl lim (codeRec_of KX hcd) rfl hb hcl (fun x hx => ?_) (fun h₀ hns hk => ?_) hsc.1 hsc.2.1 hsc.2.2
  · simp only [List.zip_cons_cons, List.zip_nil_right, List.mem_cons, List.not_mem_nil, or_false] at hx
    rcases hx with rfl | rfl
    · exact hnm.1
    · exact hnm.2.1
  have kX : K.In h₀ := KX.keeps hk
  have hcc : H cc = none := (e0.bs _ _ (e0.mod.kin _ _ hcell)).2
  have lkc : ∀ {x : Str} {c : Addr}, List.lookup x [(("__class__" : Str), cc)] = some c → x = "__class__" ∧ c = cc := fun {x c} h => by
    by_cases e : x = "__class__"
    · subst e
      simp at h
      exact ⟨rfl, h.symm⟩
    · have e2 : (x == ("__class__" : Str)) = false := by simpa using e
      simp [List.lookup, e2] at h
  have hm1 : ((("self" : Str), Value.ref a) :: (prm, u) :: []).reverse.lookup ("self" : Str) = some (.ref a) := by
    have : (("self" : Str) == prm) = false := by simpa using hps
    simp [List.lookup, this]
  have hm2 : ((("self" : Str), Value.ref a) :: (prm, u) :: []).reverse.lookup prm = some u := by
    simp [List.lookup]
  have hns' : h₀.Ns s.heap.objs.size fun x => ((("self" : Str), Value.ref a) :: (prm, u) :: []).reverse.lookup x := hns
  have I : L2.Inv (cxE P w K mg base ["self", prm] qual scope fI cda cc A outer s H fun _ _ => False) [] [some (.ref a), some v] H { s with heap := h₀, toks := s.toks + 2 } := by
    refine ⟨⟨e0.mod, hsc.2.2, rfl, rfl, Nat.le_refl _, fun x y c h1 h2 => ?_, fun x hx => ?_, fun x c z _ => (by cases z), fun _ => hr.hd, Around.frames_deeper e0.frames, .inr ⟨rfl, rfl⟩, fun b z => (by cases z), e0.bs, e0.bsz, fun b o _ z => (by cases z), fun b z => (by cases z), e0.funs, e0.frf⟩,
      rfl, e0.bare, Un.kept hk, ⟨_, hns', fun i x v' h1 h2 h3 => ?_⟩, fun x c h => ?_, e0.hok.fresh (Nat.le_refl _), fun x c h => ?_, fun p z => (by cases z), e0.hok.kept hk, rfl⟩
    · rw [(lkc h1).1, (lkc h2).1]
    · have := hfree x hx
      subst this
      exact ⟨cc, by simp [cxE, ksEnv, envX]⟩
    · match i, h1, h2 with
      | 0, h1, h2 =>
        cases h1
        cases h2
        exact ⟨_, rfl, .inl ⟨hnm.1, hm1⟩⟩
      | 1, h1, h2 =>
        cases h1
        cases h2
        exact ⟨u, rv, .inl ⟨hnm.2.1, hm2⟩⟩
    · rw [(lkc h).2]
      exact ⟨_, _, kX _ _ hcell, rfl⟩
    · rw [(lkc h).2]
      exact hcc
  obtain ⟨ar, hp1, hp2⟩ := hp
  obtain ⟨pl, hev⟩ := hev s.heap.objs.size
  -- super().__init__(text)
  refine ks_wpAt_execs_cons (ks_wpAt_Expr_any (ks_wpAt_MethodCall (c := _) (ks_wpAt_super_base (env := ksEnv qual scope s.heap.objs.size fI (.ref cda) cc) hnm.2.2.1 hnm.2.2.2 rfl rfl (kX _ _ lk) rfl hp1 rfl (kX _ _ hcode) rfl hvs hfile T.top ?_) hev) (hin _) (hpl1 _))
  obtain ⟨mb, hmb, hmb2⟩ := e0.mod.blt
  have kb : ∀ b o, base.get? b = some o → h₀.get? b = some o := fun b o e => hk _ _ (e0.bs b o e).1
  refine ks_loadName_global hsc.2.2 hnm.2.2.1 (PySem.Calls.loadGlobal_builtin (env := ksEnv qual scope s.heap.objs.size fI (.ref cda) cc) (e0.mod.glob.keeps kb) T.mgs (hmb.keeps kb) ((hmb2 _ (by decide +kernel)).trans PyProof.Rows.Boot.super) ⟨rfl, ?_⟩)
  refine wpAny_loadName_free hsc.2.2 hnm.2.2.2 rfl ⟨_, kX _ _ hcell, rfl⟩ ?_
  rw [hp2]
  refine wpAny_loadName_local hsc.2.2 hnm.1 hns' hm1 ?_
  obtain ⟨t1, ho⟩ := exo_at I.hok hea
  obtain ⟨oD, hD1, hD2⟩ : ∃ oD, h₀.get? C = some oD ∧ oD.data = .cls cd0 := by
    unfold clsIn at hD
    split at hD
    · rename_i c d cd' sl ho
      cases hD
      exact ⟨_, kX _ _ ho, rfl⟩
    · cases hD
  refine ks_wpAny_isType_cls hD1 hD2 ⟨rfl, ?_⟩
  replace ho : h₀.get? a = _ := ho
  refine ks_wpAny_call_super hD1 hD2 ho rfl (fun c e => by cases e) (looks_mroIn kX T.mro) (fun h2 hso k2 => ?_)
  have kX2 : K.In h2 := kX.keeps k2
  have hne : a ≠ C := fun e => by
    subst e
    rw [hD1] at ho
    cases ho
    cases hD2
  have hmro : ∃ l, alongIn K "__init__" l = some (some (.builtin "ValueError.__init__")) ∧ (cd0.mro.dropWhile (· != .ref C)).drop 1 = l := by
    have q := T.sup
    unfold ks_superIn at q
    rw [hD] at q
    exact ⟨_, q, rfl⟩
  obtain ⟨ml, hml, hdl⟩ := hmro
  have ho2 := k2 _ _ ho
  have hI2 : Looks (model P w) h2 (isInstance (.ref a) (.type "ValueError")) true := (InstAt.type (show InstAt h2 a _ C none from ⟨ho2, rfl, rfl, trivial⟩)).andThen (looks_subIn kX2 T.sub)
  refine kxs_getMethod kxs_ValueError hso (looks_opaque kX2 T.opq) (l₀ := cd0.mro) (fun A Q E s k q => wpAny_bind ((looks_clsIn kX2 hD) A _ E s k (wpAny_pure q))) hdl kX2 hml hI2 hne rfl ?_
  have hlt : h₀.objs.size < h2.objs.size := Heap.lt_size hso
  have hsz : h₀.objs.size ≤ h2.objs.size := Nat.le_of_lt hlt
  have k3 : ∀ b o, h₀.get? b = some o → (h2.push (kxs_mw "ValueError.__init__" a)).get? b = some o := fun b o e => Heap.get?_push_of_some _ (k2 b o e)
  have hu3 : (h2.push (kxs_mw "ValueError.__init__" a)).get? h2.objs.size = some (kxs_mw "ValueError.__init__" a) := Heap.get?_push_size h2 rfl
  have J3 := ClX.pin_new (t' := s.toks + 2 + 1) I k3 hsz hu3 (fun v e => by cases e)
  dsimp only
  refine kxs_callWith (i := "ValueError.__init__") (x := a) rfl ?_
  refine PySem.Calls.evalArgs_plain ?_
  refine wpAny_mono (((pa_cons (X := cxE P w K mg base ["self", prm] qual scope fI cda cc A outer s H fun _ _ => False) (e := .Constant (.str txt) jj p3) (es := []) pe_str pa_nil).run p4 _ _ _ H (fun vs H' => vs = [.str txt] ∧ H' = H) J3 ⟨rfl, rfl⟩)) (fun vs s4 ⟨ws, H4, I4, r4, e4, e5⟩ => ?_) (fun _ _ z => False.elim z)
  subst e4
  have e5' := e5.symm
  subst e5'
  have hu4 : s4.heap.get? h2.objs.size = some (kxs_mw "ValueError.__init__" a) := ClX.pin_at I4
  have J4 := ClX.unpin I4
  refine ⟨hu4, ?_⟩
  obtain ⟨t4, ho4⟩ := exo_at J4.hok hea
  obtain ⟨hp4, g4, d4, tk4, os4⟩ := s4
  have hl4 : vs.length ≤ sizeLine := by
    rw [← r4.length]
    show 1 ≤ sizeLine
    rw [sizeLine_eq]
    omega
  obtain ⟨nm, q, N, bs, bm, sn, sub, ab, col, dd, k0, k1, k2', k3', k5, hC, hbm⟩ := T.cls.cls
  refine wpAny_call (codeAny_of_tree ?_)
  show wpAny _ _ (callAny (.ref h2.objs.size) ⟨vs, []⟩) _ _ _
  simp only [callAny]
  refine wpAny_bind (wpAny_load hu4 ?_)
  simp only [kxs_mw, show (Value.type "method-wrapper" == Value.type "method" || Value.type "method-wrapper" == Value.type "builtin_function_or_method" || Value.type "method-wrapper" == Value.type "method-wrapper") = true by decide, if_true]
  refine KFB.if_so (by decide) ?_
  refine wpAny_bind (check_bound_init F.excBase_ValueError.toExcCallFacts (J4.kIn _ _ hC) ho4 rfl ?_)
  refine wpAny_bind (wpAny_pure (wpAny_pure ?_))
  refine ⟨plainId_quiet F.excBase_ValueError.init.plain _, codeAny_builtin F.excBase_ValueError.initEntry ?_⟩
  refine exc_init_tree (cls := .ref C) (t0 := t4) (dv := none) (c2 := .none) (c3 := .none) (b4 := .bool false) ho4 hl4 fun h5 kk5 ho5 _ => ?_
  have J5 := J4.write (t' := tk4) (x := a) (e := a) (o := exo a C none) (by rw [hea]; exact True.intro) (.inl rfl) kk5 ⟨_, ho5⟩ (exo_ok ho5)
  have eu : upd H a (exo a C none) = H := by
    funext b
    by_cases hb : b = a
    · rw [hb, upd_same, hea]
    · rw [upd_ne hb]
  rw [eu] at J5
  dsimp only
  refine wpAt_of_wpAny (wpAny_mono ((pss_one (ps_ost (X := cxE P w K mg base ["self", prm] qual scope fI cda cc A outer s H fun _ _ => False) (pe_var (i := 0) rfl (.inl hnm.1)) (pe_var (i := 1) rfl (.inl hnm.2.1) hcdbg.1 hcdbg.2) (hpl2 _))).run [] _ _ H { nx := fun _ H' => Q .non H', rt := Q } J5 ⟨v, rfl, .ref a, rfl, a, C, rfl, T.cls, hno, .inl ⟨hea, fun dx n1 n2 => hq dx n1 n2⟩⟩) (fun fl s' hs => ?_) fun _ _ z => False.elim z)
  cases fl with
  | next =>
    obtain ⟨σ', H', J, q⟩ := hs
    exact ⟨.non, H', J.os, J.bare, J.base, J.hok, rfl, q⟩
  | ret u =>
    obtain ⟨v, σ', H', J, rv, q⟩ := hs
    exact ⟨v, H', J.os, J.bare, J.base, J.hok, rv, q⟩
  | brk =>
    obtain ⟨_, _, _, q⟩ := hs
    exact False.elim q
  | cont =>
    obtain ⟨_, _, _, q⟩ := hs
    exact False.elim q
end
end G
namespace L2
open PySem PySem.Spec PyProof.Rows
/-- what the clauses wish of an exception of the body, one after the other; some i: the slot of the clause's name -/
def wManyA (K : PySem.W.Frag) (Wout : WX) (D : Ends) : List (Value × Option Nat × (Addr → Value → Option Addr → TS)) → WX
  | [] => Wout
  | (c, none, ts) :: r => fun cls d σ H => ∃ b, PySem.W.exmOne K cls c = some b ∧ (b = true → ∀ a, H a = none → ts a cls d D σ H) ∧ (b = false → wManyA K Wout D r cls d σ H)
  | (c, some i, ts) :: r => fun cls d σ H => ∃ b, PySem.W.exmOne K cls c = some b ∧
      (b = true → ∀ a, H a = none → ts a cls d { nx := fun σ' H' => D.nx (σ'.set i none) H', rt := D.rt, bk := fun σ' H' => D.bk (σ'.set i none) H', ct := fun σ' H' => D.ct (σ'.set i none) H' } (σ.set i (some (.ref a))) H) ∧ (b = false → wManyA K Wout D r cls d σ H)
inductive HdsA (X : Cx) : List ExceptHandler → List (Value × Option Nat × (Addr → Value → Option Addr → TS)) → Prop
  | nil : HdsA X [] []
  | cons {x : Str} {c : Value} {ts : Addr → Value → Option Addr → TS} {b₀ : Stmt} {suite : List Stmt} {np pos' : Pos} {hds : List ExceptHandler} {l : List (Value × Option Nat × (Addr → Value → Option Addr → TS))} (hc : Names X x c)
      (hsu : ∀ (a : Addr) (oe : Obj) (cls : Value) (d : Option Addr) (pn : List (Addr × Obj)), Zc cls d oe → (∃ vs, oe.data = .fields vs) → PSs (X.suite a ((a, oe) :: pn)) (b₀ :: suite) (ts a cls d)) (r : HdsA X hds l) :
      HdsA X (.ExceptHandler (some (.Name x np)) none (b₀ :: suite) pos' :: hds) ((c, none, ts) :: l)
  | as {x n : Str} {i : Nat} {c : Value} {ts : Addr → Value → Option Addr → TS} {b₀ : Stmt} {suite : List Stmt} {np pos' : Pos} {hds : List ExceptHandler} {l : List (Value × Option Nat × (Addr → Value → Option Addr → TS))} (hN : X.N.Nodup) (hi : X.N[i]? = some n) (hln : X.env.kindOf n = some .local) (hc : Names X x c)
      (hsu : ∀ (a : Addr) (oe : Obj) (cls : Value) (d : Option Addr) (pn : List (Addr × Obj)), Zc cls d oe → (∃ vs, oe.data = .fields vs) → PSs (X.suite a ((a, oe) :: pn)) (b₀ :: suite) (ts a cls d)) (r : HdsA X hds l) :
      HdsA X (.ExceptHandler (some (.Name x np)) (some n) (b₀ :: suite) pos' :: hds) ((c, some i, ts) :: l)
section
variable {X : Cx} {body : List Stmt} {h₀ : ExceptHandler} {hds : List ExceptHandler} {l : List (Value × Option Nat × (Addr → Value → Option Addr → TS))} {pos : Pos} {tb : WX → TS} {Wout : WX}
theorem ps_try_manyA (hs : X.stack = X.env :: X.outer) (hf : X.env.frame = some X.env.locals) (tk : Takes X Wout)
    (hb : ∀ (W : WX) (pn : List (Addr × Obj)) (xe : Value → Shared → Prop), Takes (X.tr pn xe) W → PassesOwn (model X.prog X.w) X.A X.env xe → PSs (X.tr pn xe) body (tb W))
    (hh : HdsA X (h₀ :: hds) l) : PS X (.Try body (h₀ :: hds) [] [] pos) (fun D σ H => tb (wManyA X.K Wout D l) D σ H) := by
  refine ⟨fun pins s σ H D I h => ?_⟩
  have ok := I.ok
  have hfr : X.A.frames = some (X.env :: X.outer) := by rw [ok.frames, hs]
  refine wpAny_Try_except ?_
  refine wpAny_mono ((hb (wManyA X.K Wout D l) (X.pn ++ pins) (fun e s₁ => wpAny (model X.prog X.w) X.A (noteFrame e X.env) (fun _ s₂ => wpAny (model X.prog X.w) X.A (setFlight e none) (fun _ s₃ =>
    wpAny (model X.prog X.w) X.A (handleBy e X.env (h₀ :: hds)) (SP X pins D) X.xe s₃) X.xe s₂) X.xe s₁) (fun u s' xx => ?_) PassesOwn.looking).run [] s σ H D (I.toTry _) h) (fun f s1 hsp => ?_) (fun e s1 he => he)
  · obtain ⟨a, B, sI, pins', σ', H', cls, d, rfl, J', nb, up, sky, na, os, ag, w⟩ := xx
    have J : Inv X pins σ' H' sI := J'.ofTry ok
    have sky' : Sky B (X.env :: X.outer) a (Zc cls d) X.env.locals s'.heap := by rw [← hs]; exact sky
    show wpAny (model X.prog X.w) X.A (noteFrame (.ref a) X.env) _ _ _
    refine Sky.land Zc.steady hfr hf sky' fun h3 fl3 up3 => ?_
    have J3 : Inv X pins σ' H' { s' with heap := h3 } := J.landed nb fl3.1 (up.trans up3) os ag
    obtain ⟨oe3, vs3, he3, hz3, hd3⟩ := fl3.there
    have notFr : ∀ {h : Heap} {o : Obj} {vs : Array Value}, h.FunFrames B (X.env :: X.outer) → h.get? a = some o → o.data = .fields vs → a ∉ frs (X.env :: X.outer) := fun {h o vs} ff e dd hm => by
      obtain ⟨_, o', e', hnf⟩ := ff.mem hm
      rw [e] at e'; cases e'
      exact hnf _ dd
    have nfr := notFr fl3.2.2.1 he3 hd3
    have nL : a ≠ X.env.locals := fun z => nfr (List.mem_filterMap.mpr ⟨X.env, List.mem_cons_self, by rw [hf, z]⟩)
    have nF : a ∉ X.fs := fun hm => by
      obtain ⟨e, he, q⟩ := List.mem_filterMap.mp hm
      exact nfr (List.mem_filterMap.mpr ⟨e, List.mem_cons_of_mem _ he, q⟩)
    have S3 := J3.suite he3 hd3 na nL nF
    have go : ∀ {hds' : List ExceptHandler} {l' : List (Value × Option Nat × (Addr → Value → Option Addr → TS))}, HdsA X hds' l' → wManyA X.K Wout D l' cls d σ' H' →
        wpAny (model X.prog X.w) X.A (handleBy (.ref a) X.env hds') (SP X pins D) X.xe { s' with heap := h3 } := by
      intro hds' l' hk
      induction hk with
      | nil =>
        intro w
        refine wpAny_handleBy_nil ?_
        obtain ⟨k1, k2, k3, oe, vs, T, oT, ts', he, hz, hd, h1, hr⟩ := id fl3
        unfold PySem.passOn
        refine wpAny_bind (wpAny_field he hd h1 ?_)
        rw [if_neg (show ¬ ((Value.ref T == Value.none) = true) from by simp)]
        have fin : wpAny (model X.prog X.w) X.A (setFlight (.ref a) X.env.frame) (fun _ s4 => wpAny (model X.prog X.w) X.A (throw (.ref a) : Sem Flow) (SP X pins D) X.xe s4) X.xe { s' with heap := h3 } := by
          rw [hf]
          refine HandSPX.setFlight_upZ fl3 fun h4 hh4 up4 => wpAny_throw (tk _ _ ?_)
          exact ⟨a, B, sI, pins, σ', H', cls, d, rfl, J, nb, (up.trans up3).trans up4, .inr (.inr (by rw [hs]; exact hh4)), na, os, ag, w⟩
        first
          | exact wpAny_bind (wpAny_pure (wpAny_bind fin))
          | exact wpAny_bind fin
      | @cons x c ts b₀ suite np pos' hds2 l2 hc hsu r ih =>
        intro w
        obtain ⟨b, hb1, hyes, hno⟩ := w
        refine wpAny_handleBy_cons (codeAny_handlers_test ?_) (by intro q; cases q)
        have LT : PySem.W.Looks (model X.prog X.w) h3 (typeOf (.ref a)) cls := fun A Q E s k q => wpAny_typeOf_ref (k _ _ he3) (by rw [hz3.1]; exact q)
        have LM := PySem.W.exm_one (M := model X.prog X.w) (J3.kIn) LT hb1
        have test : ∀ {Q : Value → Shared → Prop} {E : Value → Shared → Prop}, Q c { s' with heap := h3 } → wpAny (model X.prog X.w) (X.A.mark (some (.ref a))) (eval (.Name x np) X.env) Q E { s' with heap := h3 } := fun {Q E} q => by
          obtain ⟨hg, hdbg, hm | ⟨hm, hv, hnn⟩⟩ := hc
          · exact ld_glob (X := X.suite a ((a, oe3) :: (X.pn ++ pins))) S3 hg hm q hdbg
          · exact ld_blt (X := X.suite a ((a, oe3) :: (X.pn ++ pins))) S3 hg hm hv q hnn hdbg
        refine test (LM.here ?_)
        cases b with
        | true =>
          refine codeAny_handlers_suite ?_
          refine HandSPX.lands_againZ fl3 fun h4 fl4 up4 => ?_
          have J4 : Inv X pins σ' H' { s' with heap := h4 } := J.landed nb fl4.1 ((up.trans up3).trans up4) os ag
          obtain ⟨oe4, vs4, he4, hz4, hd4⟩ := fl4.there
          have S4 := J4.suite he4 hd4 na nL nF
          refine wpAny_mono ((hsu a oe4 cls d (X.pn ++ pins) hz4 ⟨_, hd4⟩).run [] _ _ H' _ S4 (hyes rfl a na)) (fun f s6 hsp => ?_) (fun _ _ z => False.elim z)
          cases f with
          | next =>
            obtain ⟨σ6, H6, S6, q6⟩ := hsp
            exact ⟨_, _, S6.unsuite ok, q6⟩
          | brk =>
            obtain ⟨σ6, H6, S6, q6⟩ := hsp
            exact ⟨_, _, S6.unsuite ok, q6⟩
          | cont =>
            obtain ⟨σ6, H6, S6, q6⟩ := hsp
            exact ⟨_, _, S6.unsuite ok, q6⟩
          | ret u =>
            obtain ⟨v6, σ6, H6, S6, r6, q6⟩ := hsp
            exact ⟨_, _, _, S6.unsuite ok, r6, q6⟩
        | false =>
          show wpAny _ X.A (handleBy (.ref a) X.env hds2) _ _ _
          exact ih (hno rfl)
      | @as x n i c ts b₀ suite np pos' hds2 l2 hN hi hln hc hsu r ih =>
        intro w
        obtain ⟨b, hb1, hyes, hno⟩ := w
        have hloc : Loc X.env.scope n := .inl hln
        refine wpAny_handleBy_cons (codeAny_handlers_test ?_) (by intro q; cases q)
        have LT : PySem.W.Looks (model X.prog X.w) h3 (typeOf (.ref a)) cls := fun A Q E s k q => wpAny_typeOf_ref (k _ _ he3) (by rw [hz3.1]; exact q)
        have LM := PySem.W.exm_one (M := model X.prog X.w) (J3.kIn) LT hb1
        have test : ∀ {Q : Value → Shared → Prop} {E : Value → Shared → Prop}, Q c { s' with heap := h3 } → wpAny (model X.prog X.w) (X.A.mark (some (.ref a))) (eval (.Name x np) X.env) Q E { s' with heap := h3 } := fun {Q E} q => by
          obtain ⟨hg, hdbg, hm | ⟨hm, hv, hnn⟩⟩ := hc
          · exact ld_glob (X := X.suite a ((a, oe3) :: (X.pn ++ pins))) S3 hg hm q hdbg
          · exact ld_blt (X := X.suite a ((a, oe3) :: (X.pn ++ pins))) S3 hg hm hv q hnn hdbg
        refine test (LM.here ?_)
        cases b with
        | true =>
          refine codeAny_handlers_suite_as ?_
          refine HandSPX.lands_againZ fl3 fun h4 fl4 up4 => ?_
          have J4 : Inv X pins σ' H' { s' with heap := h4 } := J.landed nb fl4.1 ((up.trans up3).trans up4) os ag
          obtain ⟨oe4, vs4, he4, hz4, hd4⟩ := fl4.there
          have S4 := J4.suite he4 hd4 na nL nF
          refine store_ok (X := X.suite a ((a, oe4) :: (X.pn ++ pins))) (v := .ref a) S4 hN hi hloc rfl (fun s5 S5 => ?_) (.inr hln)
          refine wpAny_mono ((hsu a oe4 cls d (X.pn ++ pins) hz4 ⟨_, hd4⟩).run [] s5 _ H' _ S5 (hyes rfl a na)) (fun f s6 hsp => ?_) (fun _ _ z => False.elim z)
          have end_ : ∀ {σ6 : St} {H6 : Hp} {Q : Shared → Prop}, Inv (X.suite a ((a, oe4) :: (X.pn ++ pins))) [] σ6 H6 s6 → (∀ s7, Inv X pins (σ6.set i none) H6 s7 → Q s7) →
              wpAny (model X.prog X.w) X.A (do bindName X.env n .none; unbindBehindTheSuite X.env n pos') (fun _ s7 => Q s7) X.xe s6 := fun {σ6 H6 Q} S6 hq => gone_ok (S6.unsuite ok) hN hi hln hq
          cases f with
          | next =>
            obtain ⟨σ6, H6, S6, q6⟩ := hsp
            exact end_ S6 fun s7 J7 => ⟨_, _, J7, q6⟩
          | brk =>
            obtain ⟨σ6, H6, S6, q6⟩ := hsp
            exact end_ S6 fun s7 J7 => ⟨_, _, J7, q6⟩
          | cont =>
            obtain ⟨σ6, H6, S6, q6⟩ := hsp
            exact end_ S6 fun s7 J7 => ⟨_, _, J7, q6⟩
          | ret u =>
            obtain ⟨v6, σ6, H6, S6, r6, q6⟩ := hsp
            exact end_ S6 fun s7 J7 => ⟨_, _, _, J7, r6, q6⟩
        | false =>
          show wpAny _ X.A (handleBy (.ref a) X.env hds2) _ _ _
          exact ih (hno rfl)
    exact go hh w
  · cases f with
    | next =>
      obtain ⟨σ', H', J', q⟩ := hsp
      exact wpAny_execs_nil ⟨σ', H', J'.ofTry ok, q⟩
    | brk =>
      obtain ⟨σ', H', J', q⟩ := hsp
      exact ⟨σ', H', J'.ofTry ok, q⟩
    | cont =>
      obtain ⟨σ', H', J', q⟩ := hsp
      exact ⟨σ', H', J'.ofTry ok, q⟩
    | ret u =>
      obtain ⟨v, σ', H', J', r, q⟩ := hsp
      exact ⟨v, σ', H', J'.ofTry ok, r, q⟩
end
end L2
namespace G
open PySem PySem.Spec L2
/-- the module's name x is an own error at C; its one argument is its field fld -/
structure ErrC (P : Program) (w : World) (K : PySem.W.Frag) (mg : Str → Option Value) (base : Heap) (x : Str) (C : Addr) (fld : Str) : Prop where
  g : mg x = some (.ref C)
  cls : OexC K C
  init : ∃ fI fd prm, PySem.W.findIn K (.ref C) "__init__" = some (some (.ref fI)) ∧ PySem.W.typeIn K (.ref fI) = some (.type "function") ∧ FnOk P w K mg base CX0 1 fI fd ["self", prm] (spEI C fld) ∧ Binds K fd ["self", prm] []
def sRaise (C : Addr) (fld : Str) (l : AL) : AS := fun A δ r => l A.xr δ r fun ds r1 => ∃ d, ds = [d] ∧ A.xr C [fld] [d] δ r1
section
variable {X : Cx} {W : WX} {x fld : Str} {C : Addr} {e : Expr} {l : AL} {p pos pos2 : Pos} {k : Nat}
theorem s_raise (T : ErrC X.prog X.w X.K X.mg X.base x C fld) (tk : Takes X W) (hr : Room k X.A) (ha : PDL X W [e] l) (hk : 2 ≤ k := by first | decide | omega) (hc : X.calm = true := by rfl) (hg : Gl X x := by rfl) (hdb : (x == ("__debug__" : Str)) = false := by decide)
    (he : starEach [e] X.env = (false, eval e X.env) :: starEach [] X.env := by rfl) (hpl : (backTo pos (starEach [] X.env)).any (·.1) = false := by rfl) : PSD X W (.Raise (some (.Call (.Name x p) [e] [] pos)) none pos2) (sRaise C fld l) := by
  obtain ⟨fI, fd, prm, i1, i2, F, hb⟩ := T.init
  refine imS (ps_raise hc tk (pmk_oex (CX := CX0) T.cls i1 i2 F (hr.mono hk) hb .nil (fun _ _ _ _ _ _ _ z => z.elim) hg T.g ha hdb he hpl)) fun D σ H ⟨δ, r, A, o, h, f⟩ => ?_
  refine tdl_bind o h fun ds r1 vs H1 h1 o1 k1 i1 => ?_
  obtain ⟨d, rfl, h1⟩ := h1
  cases i1 with
  | cons iv it =>
    cases it
    rename_i v
    refine ⟨by show 1 ≤ 1000; decide, fun a na => ⟨a, v, rfl, upd_same, fun dx n1 n2 => ⟨rfl, dx, [(fld, v)], upd_same, ?_, ?_, ?_⟩⟩⟩
    · rw [upd_ne n2, upd_same]
    · rw [upd_ne n2] at n1
      exact n1
    · have nd : H1 dx = none := by rw [upd_ne n2] at n1; exact n1
      have ext : Ext H1 (upd (del (upd (upd (upd H1 a (exo a C none)) dx (exd dx [(fld, v)])) a (exo a C (some dx))) a) dx (.xd [(fld, v)])) := fun b u e => by
        have h1 : b ≠ a := ne_of_none e na
        have h2 : b ≠ dx := ne_of_none e nd
        rw [upd_ne h2, del_ne h1, upd_ne h1, upd_ne h2, upd_ne h1]
        exact e
      exact o1.x C [fld] [d] δ r1 σ (some dx) _ h1 (o1.b.step (Kp.ext ext) (o1.r.ext ext)) (Kp.ext ext) ⟨not_al o1.r nd, [(fld, v)], upd_same, rfl, .cons (is_ext ext _ _ iv) .nil⟩
end
/-- an exception's own dict, while it is held -/
def xdA (dx : Addr) (fs : List Str) (ds : List D) : At where
  M := fun a => a = dx
  R := fun K N H => ∃ kvs : List (Str × V), H dx = some (.xd kvs) ∧ kvs.map Prod.fst = fs ∧ IsAll K N H (kvs.map Prod.snd) ds
  loc := fun f g ⟨vs, h, e, i⟩ => ⟨vs, f _ _ rfl h, e, all_of g i⟩
  anti := fun q ⟨vs, h, e, i⟩ => ⟨vs, h, e, all_of (fun _ _ => is_anti q) i⟩
  grow := fun hp ⟨vs, h, e, i⟩ => ⟨vs, h, e, all_of (fun _ _ => is_growD hp) i⟩
  al := fun ⟨vs, h, _⟩ a z => ⟨.xd vs, by rw [show a = dx from z]; exact h⟩
theorem rok_xd {K : PySem.W.Frag} {r : Rs} {H : Hp} {dx : Addr} {fs : List Str} {ds : List D} (h : Rok K r H) (e : ExAt K r H (some dx) fs ds) : Rok K (r ++ [xdA dx fs ds]) H ∧ Kp K r H (r ++ [xdA dx fs ds]) H := by
  obtain ⟨nm, kvs, h1, h2, h3⟩ := e
  have e : ∀ a, mem (r ++ [xdA dx fs ds]) a → mem r a ∨ a = dx := fun a z => (mem_append.mp z).elim .inl fun z => z.elim .inr False.elim
  have nd : NoDat H dx := fun o q => by rw [h1] at q; cases q; exact fun z => z
  have go : Kp K r H (r ++ [xdA dx fs ds]) H := fun v d q => is_anti e (is_growD nd q)
  refine ⟨hold_append.mpr ⟨hold_anti e (hold_growD nd h), ⟨⟨kvs, h1, h2, all_of go h3⟩, fun _ _ z => z, True.intro⟩, fun a m z => ?_⟩, go⟩
  have : a = dx := z.elim (fun z => z) False.elim
  subst this
  exact nm m
/-- an except clause's reading: what its class answers of the classes that may come (Cs), the slot of its name, its suite's reading -/
structure Cl1 where
  Cs : List (Addr × Bool)
  i : Option Nat
  u : Addr → Value → Option Addr → AS
def held : Option Addr → List Str → List D → Rs
  | some dx, fs, ds => [xdA dx fs ds]
  | none, _, _ => []
def dropR (Q : Dl → Rs → Prop) : Dl → Rs → Prop := fun δ r => ∃ r', le r r' ∧ Q δ r'
def sHds (A : An) : List Cl1 → XT
  | [] => A.xr
  | c :: cs => fun C fs ds δ r => ∃ b, (C, b) ∈ c.Cs ∧ (b = true → ∀ (a : Addr) (d : Option Addr), (d = none → fs = [] ∧ ds = []) → match c.i with
      | none => c.u a (.ref C) d { nx := dropR A.nx, rt := fun v r' => ∃ r2, le r' r2 ∧ A.rt v r2, bk := dropR A.bk, ct := dropR A.ct } δ (r ++ held d fs ds)
      | some i => c.u a (.ref C) d { nx := dropR fun δ' => A.nx (δ'.set i none), rt := fun v r' => ∃ r2, le r' r2 ∧ A.rt v r2, bk := dropR fun δ' => A.bk (δ'.set i none), ct := dropR fun δ' => A.ct (δ'.set i none) } (δ.set i (some (.adr a))) (r ++ held d fs ds)) ∧
    (b = false → sHds A cs C fs ds δ r)
def sTry (tb : AS) (cs : List Cl1) : AS := fun A δ r => tb { A with xr := sHds A cs } δ r
inductive HdsD (X : Cx) : List ExceptHandler → List Cl1 → Prop
  | nil : HdsD X [] []
  | cons {x : Str} {c : Value} {Cs : List (Addr × Bool)} {u : Addr → Value → Option Addr → AS} {b₀ : Stmt} {suite : List Stmt} {np pos' : Pos} {hds : List ExceptHandler} {l : List Cl1} (hc : Names X x c) (hC : ∀ p ∈ Cs, PySem.W.exmOne X.K (.ref p.1) c = some p.2)
      (hsu : ∀ (a : Addr) (oe : Obj) (cls : Value) (d : Option Addr) (pn : List (Addr × Obj)), Zc cls d oe → (∃ vs, oe.data = .fields vs) → PBD (X.suite a ((a, oe) :: pn)) W0 (b₀ :: suite) (u a cls d)) (r : HdsD X hds l) :
      HdsD X (.ExceptHandler (some (.Name x np)) none (b₀ :: suite) pos' :: hds) (⟨Cs, none, u⟩ :: l)
  | as {x n : Str} {i : Nat} {c : Value} {Cs : List (Addr × Bool)} {u : Addr → Value → Option Addr → AS} {b₀ : Stmt} {suite : List Stmt} {np pos' : Pos} {hds : List ExceptHandler} {l : List Cl1} (hN : X.N.Nodup) (hi : X.N[i]? = some n) (hln : X.env.kindOf n = some .local) (hc : Names X x c) (hC : ∀ p ∈ Cs, PySem.W.exmOne X.K (.ref p.1) c = some p.2)
      (hsu : ∀ (a : Addr) (oe : Obj) (cls : Value) (d : Option Addr) (pn : List (Addr × Obj)), Zc cls d oe → (∃ vs, oe.data = .fields vs) → PBD (X.suite a ((a, oe) :: pn)) W0 (b₀ :: suite) (u a cls d)) (r : HdsD X hds l) :
      HdsD X (.ExceptHandler (some (.Name x np)) (some n) (b₀ :: suite) pos' :: hds) (⟨Cs, some i, u⟩ :: l)
theorem held_ok {K : PySem.W.Frag} {r : Rs} {H : Hp} {d : Option Addr} {fs : List Str} {ds : List D} (h : Rok K r H) (e : ExAt K r H d fs ds) : Rok K (r ++ held d fs ds) H ∧ Kp K r H (r ++ held d fs ds) H := by
  cases d with
  | none =>
    show Rok K (r ++ []) H ∧ Kp K r H (r ++ []) H
    rw [List.append_nil]
    exact ⟨h, Kp.refl⟩
  | some dx => exact rok_xd h e
theorem hdsA_of {X : Cx} {W : WX} : ∀ {hds : List ExceptHandler} {cs : List Cl1}, HdsD X hds cs → ∃ l, HdsA X hds l ∧ ∀ (D : Ends) (A : An) (r : Rs) (H : Hp), Xc X.K W A.xr r H → Fin X.K W A r H D → Xc X.K (wManyA X.K W D l) (sHds A cs) r H := by
  intro hds cs h
  induction h with
  | nil => exact ⟨[], .nil, fun D A r H x f => x⟩
  | @cons x c Cs u b₀ suite np pos' hds l hc hC hsu r ih =>
    obtain ⟨l', hl, hx⟩ := ih
    refine ⟨(c, none, fun a cls d => TSD X.K W0 (u a cls d)) :: l', .cons hc hsu hl, fun D A r H x f => ?_⟩
    rintro C fs ds δ' r' σ' a H' ⟨b, hb, ht, hf⟩ o k e
    refine ⟨b, hC _ hb, fun q a0 na => ?_, fun q => hx D A r H x f C fs ds δ' r' σ' a H' (hf q) o k e⟩
    obtain ⟨q1, q2⟩ := held_ok o.r e
    have hh := ht q a0 a (fun z => by subst z; exact e)
    refine ⟨δ', r' ++ held a fs ds, _, ⟨o.step q2 q1, ?_⟩, hh, ?_⟩
    · exact fun _ _ _ _ _ _ _ _ z => z.elim
    refine ⟨?_, ?_, ?_, ?_⟩
    · rintro δ2 r2 σ2 H2 ⟨r3, l3, q3⟩ o2 k2
      exact f.nx _ _ _ _ q3 ⟨o2.b.step l3.kp (l3.r _ _ o2.r), x.step (((k.trans q2).trans k2).trans l3.kp)⟩ (((k.trans q2).trans k2).trans l3.kp)
    · rintro d r2 v H2 ⟨r3, l3, q3⟩ o2 k2 i
      exact f.rt _ _ _ _ q3 (l3.r _ _ o2) (((k.trans q2).trans k2).trans l3.kp) (l3.kp _ _ i)
    · rintro δ2 r2 σ2 H2 ⟨r3, l3, q3⟩ o2 k2
      exact f.bk _ _ _ _ q3 ⟨o2.b.step l3.kp (l3.r _ _ o2.r), x.step (((k.trans q2).trans k2).trans l3.kp)⟩ (((k.trans q2).trans k2).trans l3.kp)
    · rintro δ2 r2 σ2 H2 ⟨r3, l3, q3⟩ o2 k2
      exact f.ct _ _ _ _ q3 ⟨o2.b.step l3.kp (l3.r _ _ o2.r), x.step (((k.trans q2).trans k2).trans l3.kp)⟩ (((k.trans q2).trans k2).trans l3.kp)
  | @as x n i c Cs u b₀ suite np pos' hds l hN hi hln hc hC hsu r ih =>
    obtain ⟨l', hl, hx⟩ := ih
    refine ⟨(c, some i, fun a cls d => TSD X.K W0 (u a cls d)) :: l', .as hN hi hln hc hsu hl, fun D A r H x f => ?_⟩
    rintro C fs ds δ' r' σ' a H' ⟨b, hb, ht, hf⟩ o k e
    refine ⟨b, hC _ hb, fun q a0 na => ?_, fun q => hx D A r H x f C fs ds δ' r' σ' a H' (hf q) o k e⟩
    obtain ⟨q1, q2⟩ := held_ok o.r e
    have hh := ht q a0 a (fun z => by subst z; exact e)
    refine ⟨δ'.set i (some (.adr a0)), r' ++ held a fs ds, _, ⟨(o.step q2 q1).set (.adr a0), ?_⟩, hh, ?_⟩
    · exact fun _ _ _ _ _ _ _ _ z => z.elim
    refine ⟨?_, ?_, ?_, ?_⟩
    · rintro δ2 r2 σ2 H2 ⟨r3, l3, q3⟩ o2 k2
      exact f.nx _ _ _ _ q3 ⟨(o2.b.step l3.kp (l3.r _ _ o2.r)).drop, x.step (((k.trans q2).trans k2).trans l3.kp)⟩ (((k.trans q2).trans k2).trans l3.kp)
    · rintro d r2 v H2 ⟨r3, l3, q3⟩ o2 k2 i
      exact f.rt _ _ _ _ q3 (l3.r _ _ o2) (((k.trans q2).trans k2).trans l3.kp) (l3.kp _ _ i)
    · rintro δ2 r2 σ2 H2 ⟨r3, l3, q3⟩ o2 k2
      exact f.bk _ _ _ _ q3 ⟨(o2.b.step l3.kp (l3.r _ _ o2.r)).drop, x.step (((k.trans q2).trans k2).trans l3.kp)⟩ (((k.trans q2).trans k2).trans l3.kp)
    · rintro δ2 r2 σ2 H2 ⟨r3, l3, q3⟩ o2 k2
      exact f.ct _ _ _ _ q3 ⟨(o2.b.step l3.kp (l3.r _ _ o2.r)).drop, x.step (((k.trans q2).trans k2).trans l3.kp)⟩ (((k.trans q2).trans k2).trans l3.kp)
section
variable {X : Cx} {W : WX} {body : List Stmt} {h₀ : ExceptHandler} {hds : List ExceptHandler} {cs : List Cl1} {pos : Pos} {tb : AS}
theorem s_try (tk : Takes X W) (hb : ∀ (W' : WX) (pn : List (Addr × Obj)) (xe : Value → Shared → Prop), Takes (X.tr pn xe) W' → PassesOwn (model X.prog X.w) X.A X.env xe → PBD (X.tr pn xe) W' body tb)
    (hh : HdsD X (h₀ :: hds) cs) (hs : X.stack = X.env :: X.outer := by rfl) (hf : X.env.frame = some X.env.locals := by rfl) : PSD X W (.Try body (h₀ :: hds) [] [] pos) (sTry tb cs) := by
  obtain ⟨l, hl, hx⟩ := hdsA_of (W := W) hh
  refine imS (ps_try_manyA (tb := fun W' => TSD X.K W' tb) hs hf tk (fun W' pn xe tk' po => hb W' pn xe tk' po) hl) fun D σ H ⟨δ, r, A, o, h, f⟩ => ?_
  refine ⟨δ, r, { A with xr := sHds A cs }, ⟨o.b, hx D A r H o.x f⟩, h, ?_⟩
  have ok : ∀ {r' : Rs} {δ' : Dl} {σ' : L2.St} {H' : Hp} {W' : WX} {XR : XT}, Ok X.K W' XR r' δ' σ' H' → Kp X.K r H r' H' → Ok X.K W A.xr r' δ' σ' H' := fun o' k => ⟨o'.b, o.x.step k⟩
  exact ⟨fun δ' r' σ' H' a o' k => f.nx _ _ _ _ a (ok o' k) k, f.rt, fun δ' r' σ' H' a o' k => f.bk _ _ _ _ a (ok o' k) k, fun δ' r' σ' H' a o' k => f.ct _ _ _ _ a (ok o' k) k⟩
end
end G
namespace G
open PySem PySem.Spec L2
open PyProof.Rows (envOfC)
def ixF : List Str → Str → Option Nat
  | [], _ => none
  | f :: fs, g => if f = g then some 0 else (ixF fs g).map (· + 1)
theorem ixF_mem : ∀ {fs : List Str} {g : Str} {i : Nat}, ixF fs g = some i → g ∈ fs
  | f :: fs, g, i, h => by
    unfold ixF at h
    split at h
    · rename_i e
      subst e
      exact List.mem_cons_self
    · obtain ⟨j, hj, _⟩ := Option.map_eq_some_iff.mp h
      exact List.mem_cons_of_mem _ (ixF_mem hj)
theorem ixF_get : ∀ {kvs : List (Str × V)} {fs : List Str} {g : Str} {i : Nat} {v : V}, kvs.map Prod.fst = fs → ixF fs g = some i → (kvs.map Prod.snd)[i]? = some v → kvs.lookup g = some v
  | [], _, g, i, v, e, h, hv => by simp at hv
  | (f, x) :: kvs, _, g, i, v, e, h, hv => by
    subst e
    unfold List.map ixF at h
    by_cases q : f = g
    · rw [if_pos q] at h
      cases h
      subst q
      have : x = v := by simpa using hv
      rw [← this]
      simp [List.lookup]
    · rw [if_neg q] at h
      obtain ⟨j, hj, rfl⟩ := Option.map_eq_some_iff.mp h
      have hb : (g == f) = false := beq_eq_false_iff_ne.mpr fun e => q e.symm
      rw [List.lookup, hb]
      exact ixF_get rfl hj (by simpa using hv)
theorem ixF_put : ∀ {kvs : List (Str × V)} {g : Str} {i : Nat} {v : V}, ixF (kvs.map Prod.fst) g = some i → (putF g v kvs).map Prod.fst = kvs.map Prod.fst ∧ (putF g v kvs).map Prod.snd = (kvs.map Prod.snd).set i v
  | [], g, i, v, h => by cases h
  | (f, x) :: kvs, g, i, v, h => by
    unfold List.map ixF at h
    unfold putF
    by_cases q : f = g
    · rw [if_pos q] at h ⊢
      cases h
      exact ⟨rfl, rfl⟩
    · rw [if_neg q] at h ⊢
      obtain ⟨j, hj, rfl⟩ := Option.map_eq_some_iff.mp h
      obtain ⟨h1, h2⟩ := ixF_put (v := v) hj
      exact ⟨by rw [List.map_cons, List.map_cons, h1], by rw [List.map_cons, List.map_cons, h2] <;> rfl⟩
theorem ixF_new : ∀ {kvs : List (Str × V)} {g : Str} {v : V}, ixF (kvs.map Prod.fst) g = none → (putF g v kvs).map Prod.fst = kvs.map Prod.fst ++ [g] ∧ (putF g v kvs).map Prod.snd = kvs.map Prod.snd ++ [v]
  | [], g, v, h => ⟨rfl, rfl⟩
  | (f, x) :: kvs, g, v, h => by
    unfold List.map ixF at h
    unfold putF
    by_cases q : f = g
    · rw [if_pos q] at h
      cases h
    · rw [if_neg q] at h ⊢
      have hj := Option.map_eq_none_iff.mp h
      obtain ⟨h1, h2⟩ := ixF_new (v := v) hj
      exact ⟨by rw [List.map_cons, List.map_cons, h1] <;> rfl, by rw [List.map_cons, List.map_cons, h2] <;> rfl⟩
section
variable {K : PySem.W.Frag} {r pre post : Rs} {H : Hp} {l : Addr} {t t' : At} {u u' : HO}
theorem mid_R (h : Rok K (pre ++ t :: post) H) : t.R K (mem (pre ++ t :: post)) H := (hold_append.mp h).2.1.1
theorem mid_mem {a : Addr} (h : t.M a) : mem (pre ++ t :: post) a := mem_append.mpr (.inr (.inl h))
theorem mid_put (hm : t.M = fun b => b = l) (hm' : t'.M = fun b => b = l) (hu : H l = some u) (nt : ∀ xs, u ≠ .tup xs ∧ ∀ o : Obj, u ≠ .frz o (.tup xs)) (h : Rok K (pre ++ t :: post) H)
    (ht : (∀ w e, Is K (mem (pre ++ t :: post)) H w e → Is K (mem (pre ++ t' :: post)) (upd H l u') w e) → t'.R K (mem (pre ++ t' :: post)) (upd H l u')) :
    Rok K (pre ++ t' :: post) (upd H l u') ∧ Kp K (pre ++ t :: post) H (pre ++ t' :: post) (upd H l u') := by
  obtain ⟨h1, ⟨h2, h3, h4⟩, h5⟩ := hold_append.mp h
  have me : mem (pre ++ t :: post) = mem (pre ++ t' :: post) := mem_mid (by rw [hm, hm'])
  have tl : t.M l := by rw [hm]
  have go : ∀ w e, Is K (mem (pre ++ t :: post)) H w e → Is K (mem (pre ++ t :: post)) (upd H l u') w e := fun w e q => is_otherO (mid_mem tl) hu nt q
  refine ⟨hold_append.mpr ⟨?_, ⟨ht fun w e q => me ▸ go w e q, ?_, ?_⟩, ?_⟩, fun w e q => me ▸ go w e q⟩
  · rw [← me]
    exact hold_loc (fun b o m q => by rw [upd_ne (fun e => h5 b m (.inl (by rw [hm]; exact e)))]; exact q) go h1
  · intro a z
    exact h3 a (by rw [hm]; rw [hm'] at z; exact z)
  · rw [← me]
    exact hold_loc (fun b o m q => by rw [upd_ne (fun e => h3 b (by rw [hm]; exact e) m)]; exact q) go h4
  · intro a m z
    refine h5 a m (z.elim (fun z => .inl ?_) .inr)
    rw [hm]; rw [hm'] at z; exact z
theorem mid_anti {a : Addr} (z : mem (pre ++ post) a) : mem (pre ++ t :: post) a := (mem_append.mp z).elim (fun z => mem_append.mpr (.inl z)) fun z => mem_append.mpr (.inr (.inr z))
theorem mid_drop (h : Rok K (pre ++ t :: post) H) : Rok K (pre ++ post) H ∧ Kp K (pre ++ t :: post) H (pre ++ post) H ∧ ∀ a, t.M a → ¬ mem (pre ++ post) a := by
  obtain ⟨h1, ⟨h2, h3, h4⟩, h5⟩ := hold_append.mp h
  refine ⟨hold_append.mpr ⟨hold_anti (fun _ => mid_anti) h1, hold_anti (fun _ => mid_anti) h4, fun a m z => h5 a m (.inr z)⟩, fun _ _ => is_anti fun _ => mid_anti, fun a m z => ?_⟩
  rcases mem_append.mp z with z | z
  · exact h5 a z (.inl m)
  · exact h3 a m z
theorem mid_new {p : Addr} {H' : Hp} (hm : t.M = fun b => b = p) (h : Rok K r H) (hp : H p = none) (e : Ext H H') (ht : (∀ w d, Is K (mem r) H w d → Is K (mem (r ++ [t])) H' w d) → t.R K (mem (r ++ [t])) H') : Rok K (r ++ [t]) H' ∧ Kp K r H (r ++ [t]) H' := by
  have an : ∀ a, mem (r ++ [t]) a → mem r a ∨ a = p := fun a z => (mem_append.mp z).elim .inl fun z => z.elim (fun z => .inr (by rw [hm] at z; exact z)) False.elim
  have go : Kp K r H (r ++ [t]) H' := fun v d q => is_anti an (is_ext e _ _ (is_grow hp q))
  refine ⟨hold_append.mpr ⟨hold_anti an (hold_ext e (hold_grow hp h)), ⟨ht go, fun _ _ z => z, True.intro⟩, fun a m z => ?_⟩, go⟩
  have : a = p := z.elim (fun z => by rw [hm] at z; exact z) False.elim
  subst this
  exact not_al h hp m
end
/-- an instance of our own at a -/
def insA (a C : Addr) (fs : List Str) (ds : List D) : At where
  M := fun b => b = a
  R := fun K N H => Good K C fs ∧ ∃ (dx : Addr) (kvs : List (Str × V)), H a = some (.ins C dx kvs) ∧ kvs.map Prod.fst = fs ∧ IsAll K N H (kvs.map Prod.snd) ds
  loc := fun f g ⟨q, dx, vs, h, e, i⟩ => ⟨q, dx, vs, f _ _ rfl h, e, all_of g i⟩
  anti := fun q ⟨z, dx, vs, h, e, i⟩ => ⟨z, dx, vs, h, e, all_of (fun _ _ => is_anti q) i⟩
  grow := fun hp ⟨z, dx, vs, h, e, i⟩ => ⟨z, dx, vs, h, e, all_of (fun _ _ => is_growD hp) i⟩
  al := fun ⟨z, dx, vs, h, _⟩ b e => ⟨.ins C dx vs, by rw [show b = a from e]; exact h⟩
section
variable {K : PySem.W.Frag} {r pre post : Rs} {H : Hp} {a C : Addr} {fs : List Str} {ds : List D}
theorem ins_drop (h : Rok K (pre ++ insA a C fs ds :: post) H) : Rok K (pre ++ post) H ∧ Is K (mem (pre ++ post)) H (.ref a) (.ins C fs ds) ∧ Kp K (pre ++ insA a C fs ds :: post) H (pre ++ post) H := by
  obtain ⟨h1, h2, h3⟩ := mid_drop h
  obtain ⟨g, dx, kvs, e1, e2, e3⟩ := mid_R h
  exact ⟨h1, .ins (h3 a rfl) e1 e2 g (all_of h2 e3), h2⟩
theorem ins_new {dx : Addr} (h : Rok K r H) (g : Plain K C) (ha : H a = none) (hd : H dx = none) (ne : dx ≠ a) : Ext H (upd (upd H dx (.own a)) a (.ins C dx [])) ∧ Rok K (r ++ [insA a C [] []]) (upd (upd H dx (.own a)) a (.ins C dx [])) ∧ Kp K r H (r ++ [insA a C [] []]) (upd (upd H dx (.own a)) a (.ins C dx [])) := by
  have e : Ext H (upd (upd H dx (.own a)) a (.ins C dx [])) := fun b o q => by
    rw [upd_ne (ne_of_none q ha), upd_ne (ne_of_none q hd)]
    exact q
  exact ⟨e, mid_new rfl h ha e fun _ => ⟨⟨g, fun f z => by cases z⟩, dx, [], upd_same, rfl, .nil⟩⟩
end
inductive oFld (f : Str) : D → Rs → PK1 → Prop
  | fro {C : Addr} {fs : List Str} {ds : List D} {r : Rs} {P : PK1} (i : Nat) (y : D) (h : ixF fs f = some i) (hy : ds[i]? = some y) (p : P y r) : oFld f (.ins C fs ds) r P
  | own {a C : Addr} {fs : List Str} {ds : List D} {r : Rs} {P : PK1} (pre post : Rs) (i : Nat) (y : D) (e : r = pre ++ insA a C fs ds :: post) (h : ixF fs f = some i) (hy : ds[i]? = some y) (p : P y r) : oFld f (.adr a) r P
def aFld (f : Str) (te : AT) : AT := fun x δ r P => te x δ r fun d r1 => oFld f d r1 P
section
variable {X : Cx} {W : WX} {e o value : Expr} {f : Str} {pos pos' : Pos} {te to tv : AT}
theorem d_fld (he : PD X W e te) (hb : attributeBase e f X.env (eval e X.env) = eval e X.env := by rfl) : PD X W (.Attribute e f pos) (aFld f te) := imE (pe_fld he hb) fun σ H Q q => by
  obtain ⟨XR, δ, r, P, ok, h, k⟩ := q
  refine td_bind ok h fun d r1 v H1 h1 o1 k1 i1 => ?_
  cases h1 with
  | @fro C fs ds _ _ i y h hy p =>
    cases i1 with
    | ins n s e2 g a =>
      obtain ⟨v, hv, iv⟩ := a.getD hy
      exact ⟨_, _, _, _, v, rfl, s, g.cls, g.no _ (ixF_mem h), ixF_get e2 h hv, k _ _ _ _ p o1 k1 iv⟩
  | @own a C fs ds _ _ pre post i y e2 h hy p =>
    cases i1
    subst e2
    obtain ⟨g, dx, kvs, s, e3, a⟩ := mid_R o1.r
    obtain ⟨v, hv, iv⟩ := a.getD hy
    exact ⟨_, _, _, _, v, rfl, s, g.cls, g.no _ (ixF_mem h), ixF_get e3 h hv, k _ _ _ _ p o1 k1 iv⟩
/-- o.f = value -/
inductive oPut (C : Addr) (f : Str) (y : D) : D → Rs → (Rs → Prop) → Prop
  | new {a : Addr} {fs : List Str} {ds : List D} {r : Rs} {k : Rs → Prop} (pre post : Rs) (e : r = pre ++ insA a C fs ds :: post) (h : ixF fs f = none) (z : fs.length < 1000) (p : k (pre ++ insA a C (fs ++ [f]) (ds ++ [y]) :: post)) : oPut C f y (.adr a) r k
  | old {a : Addr} {fs : List Str} {ds : List D} {r : Rs} {k : Rs → Prop} (pre post : Rs) (i : Nat) (e : r = pre ++ insA a C fs ds :: post) (h : ixF fs f = some i) (z : fs.length < 1000) (p : k (pre ++ insA a C fs (ds.set i y) :: post)) : oPut C f y (.adr a) r k
def sPut (C : Addr) (f : Str) (to tv : AT) : AS := fun A δ r => tv A.xr δ r fun y r1 => to A.xr δ r1 fun d r2 => oPut C f y d r2 fun r3 => A.nx δ r3
theorem s_put {C : Addr} (n : NoAttr X.K C f) (ho : PD X W o to) (hv : PD X W value tv) (hs : swapsWith value (some (.Attribute o f pos')) pos.line X.env = pure false := by rfl) : PSD X W (.Assign [.Attribute o f pos'] value pos) (sPut C f to tv) :=
  imS (ps_fld ho hv hs) fun Dd σ H ⟨δ, r, A, ok, h, ff⟩ => td_bind ok h fun y r1 v H1 h1 o1 k1 i1 => td_bind o1 h1 fun d r2 v2 H2 h2 o2 k2 i2 => by
    cases h2 with
    | @new a fs ds _ _ pre post e h z p =>
      cases i2
      subst e
      obtain ⟨g, dx, kvs, s, e3, i⟩ := mid_R o2.r
      subst e3
      obtain ⟨q1, q2⟩ := ixF_new (v := v) h
      obtain ⟨z1, z2⟩ := mid_put (t := insA a C _ ds) (t' := insA a C (kvs.map Prod.fst ++ [f]) (ds ++ [y])) (u' := .ins C dx (putF f v kvs)) rfl rfl s (fun xs => ⟨(fun e => by cases e), fun o e => by cases e⟩) o2.r
        (fun go => ⟨⟨g.p, fun x hx => (List.mem_append.mp hx).elim (g.no x) fun hx => by rw [List.mem_singleton.mp hx]; exact n⟩, dx, putF f v kvs, upd_same, q1, by rw [q2]; exact (all_of go i).append (.cons (go _ _ (k2 _ _ i1)) .nil)⟩)
      exact ⟨a, C, dx, kvs, rfl, s, g.cls, n, by rw [List.length_map] at z; exact z, ff.nx _ _ _ _ p (o2.step z2 z1) ((k1.trans k2).trans z2)⟩
    | @old a fs ds _ _ pre post i e h z p =>
      cases i2
      subst e
      obtain ⟨g, dx, kvs, s, e3, i2⟩ := mid_R o2.r
      subst e3
      obtain ⟨q1, q2⟩ := ixF_put (v := v) h
      obtain ⟨z1, z2⟩ := mid_put (t := insA a C _ ds) (t' := insA a C (kvs.map Prod.fst) (ds.set i y)) (u' := .ins C dx (putF f v kvs)) rfl rfl s (fun xs => ⟨(fun e => by cases e), fun o e => by cases e⟩) o2.r
        (fun go => ⟨g, dx, putF f v kvs, upd_same, q1, by rw [q2]; exact set_all (go _ _ (k2 _ _ i1)) i (all_of go i2)⟩)
      exact ⟨a, C, dx, kvs, rfl, s, g.cls, n, by rw [List.length_map] at z; exact z, ff.nx _ _ _ _ p (o2.step z2 z1) ((k1.trans k2).trans z2)⟩
/-- an own instance handed on as data -/
def aFrz (te : AT) : AT := fun x δ r P => te x δ r fun d r1 => ∃ a C fs ds pre post, d = .adr a ∧ r1 = pre ++ insA a C fs ds :: post ∧ P (.ins C fs ds) (pre ++ post)
theorem d_frz (h : PD X W e te) : PD X W e (aFrz te) := imE h fun σ H Q q => by
  obtain ⟨XR, δ, r, P, o, h, k⟩ := q
  refine td_bind o h fun d r1 v H1 h1 o1 k1 i1 => ?_
  obtain ⟨a, C, fs, ds, pre, post, rfl, rfl, h1⟩ := h1
  cases i1
  obtain ⟨q1, q2, q3⟩ := ins_drop o1.r
  exact k _ _ _ _ h1 (o1.step q3 q1) (k1.trans q3) q2
end
def aNew (C : Addr) (sd : SpX) (l : AL) : AT := fun x δ r P => l x δ r fun ds r1 => ∀ a, sd (.adr a :: ds) (r1 ++ [insA a C [] []]) (fun d r2 => d = .non ∧ P (.adr a) r2) fun E fs es r' => x E fs es δ r'
section
variable {X : Cx} {W : WX} {k : Nat} {f C : Addr} {sd : SpX} {x : Str} {p pos : Pos} {e : Expr} {es : List Expr} {l : AL}
theorem run_mk {sp : Sp} {E : XK} {pins : List (Addr × Obj)} {σ : L2.St} {H : Hp} {s : Shared} {Q : VK} {us : List Value} {vs : List V} (M : Mk X.K C f) (F : FnR X.prog X.w X.K X.mg X.base (L2.CX X.prog X.w) k f sp) (hr : Room (k + 1) X.A) (hx : PassesAt (L2.CX X.prog X.w) X σ E) (I : L2.Inv X pins σ H s) (r : Vals vs us)
    (h : ∀ x dx, H x = Option.none → H dx = Option.none → dx ≠ x → sp (V.ref x :: vs) (upd (upd H dx (.own x)) x (.ins C dx [])) (fun v H2 => v = .non ∧ Q (.ref x) H2) E) :
    wpAny (model X.prog X.w) X.A (call (.ref C) us) (EP X pins σ Q) X.xe s := by
  have hq := h (s.heap.objs.size + 1) s.heap.objs.size (I.hok.fresh (Nat.le_succ _)) (I.hok.fresh (Nat.le_refl _)) (Nat.ne_of_lt (Nat.lt_succ_self _))
  have I2 := Inv.made (C := C) I
  have r2 : Vals (V.ref (s.heap.objs.size + 1) :: vs) (Value.ref (s.heap.objs.size + 1) :: us) := .cons rfl r
  refine wpAny_call (make_map (f := f) I.kIn M.makes M.init (beq_iff_eq.mp M.fn) (codeAny_mono (F _ X.stack _ _ (Value.ref (s.heap.objs.size + 1) :: us) _ _ E (hr.make C us []) (I2.env0.make C us []) r2 hq) fun r s' hq' => ?_))
  cases r with
  | error e => exact hx pins _ _ e s' I2 hq'
  | ok fl =>
    cases fl with
    | ret u =>
      obtain ⟨v, H', I3, rv, ev, q3⟩ := I2.after hq'
      subst ev
      exact ⟨rv, ⟨V.ref (s.heap.objs.size + 1), H', I3, rfl, q3⟩⟩
    | next => exact False.elim hq'
    | brk => exact False.elim hq'
    | cont => exact False.elim hq'
theorem d_new (M : Mk X.K C f) (g : Plain X.K C) (F : FR X.prog X.w X.K X.mg X.base k f sd) (tk : Takes X W) (hr : Room (k + 1) X.A) (hm : X.mg x = some (.ref C)) (ha : PDL X W (e :: es) l)
    (hg : Gl X x := by rfl) (hdb : (x == ("__debug__" : Str)) = false := by decide) (he : starEach (e :: es) X.env = (false, eval e X.env) :: starEach es X.env := by rfl) (hpl : (backTo pos (starEach es X.env)).any (·.1) = false := by rfl) :
    PD X W (.Call (.Name x p) (e :: es) [] pos) (aNew C sd l) := by
  refine ⟨fun pins s σ H Q I h => ?_⟩
  refine wpAny_Call_Name_kw (ld_glob I hg hm ?_ hdb)
  obtain ⟨XR, δ, r, P, ok, h, kk⟩ := h
  refine PySem.W.callWith_K (h₀ := X.base) I.ok.mod.kin M.kp (thn (ha.run pos pins s σ H _ I (tdl_bind (Q := fun vs H1 => ∀ x dx, H1 x = Option.none → H1 dx = Option.none → dx ≠ x → lift X.K sd (V.ref x :: vs) (upd (upd H1 dx (.own x)) x (.ins C dx [])) (fun v H2 => v = .non ∧ Q (.ref x) H2) (WE W σ)) ok h fun ds r1 vs H1 h1 o1 k1 i1 x dx hx hd ne => ?_)) fun us s1 ⟨vs, H1, I1, r, q⟩ => ⟨I1.kIn, ?_⟩) he hpl
  · obtain ⟨e1, q1, q2⟩ := ins_new o1.r g hx hd ne
    refine ⟨r1 ++ [insA x C [] []], .adr x :: ds, _, _, q1, .cons (.adr x) (q2.all i1), h1 x, fun d r' v H' ⟨a, b⟩ rr c i => ?_, fun C' fs es r' a H' z ro kk e => ?_⟩
    · subst a
      cases i
      exact ⟨rfl, kk _ r' _ H' b (o1.step (q2.trans c) rr) (k1.trans (q2.trans c)) (.adr x)⟩
    · exact o1.x C' fs es δ r' σ a H' z (o1.b.step (q2.trans kk) ro) (q2.trans kk) e
  · exact run_mk M F hr (passAt tk _) I1 r q
end
inductive isC (C : Addr) : D → Rs → Prop
  | fro {fs : List Str} {ds : List D} {r : Rs} : isC C (.ins C fs ds) r
  | own {a : Addr} {fs : List Str} {ds : List D} {r : Rs} (pre post : Rs) (e : r = pre ++ insA a C fs ds :: post) : isC C (.adr a) r
theorem isC_at {K : PySem.W.Frag} {C : Addr} {d : D} {r : Rs} {v : V} {H : Hp} (h : isC C d r) (ro : Rok K r H) (i : Is K (mem r) H v d) : ∃ a dx kvs, v = .ref a ∧ H a = some (.ins C dx kvs) ∧ Good K C (kvs.map Prod.fst) := by
  cases h with
  | fro =>
    cases i with
    | ins n s e g a => exact ⟨_, _, _, rfl, s, by rw [show List.map Prod.fst _ = _ from e]; exact g⟩
  | own pre post e =>
    cases i
    subst e
    obtain ⟨g, dx, kvs, s, e3, a⟩ := mid_R ro
    exact ⟨_, _, _, rfl, s, by rw [e3]; exact g⟩
theorem lookup_none : ∀ {kvs : List (Str × V)} {m : Str}, m ∉ kvs.map Prod.fst → kvs.lookup m = none
  | [], _, _ => rfl
  | (f, x) :: kvs, m, h => by
    have hb : (m == f) = false := beq_eq_false_iff_ne.mpr fun e => h (by rw [e]; exact List.mem_cons_self)
    rw [List.lookup, hb]
    exact lookup_none fun z => h (List.mem_cons_of_mem _ z)
theorem Meth.free {K : PySem.W.Frag} {C g : Addr} {m : Str} {kvs : List (Str × V)} (k : Meth K C m g) (q : Good K C (kvs.map Prod.fst)) : kvs.lookup m = none := lookup_none fun z => by
  have := (q.no m z).symm.trans k.at_
  cases this
end G
namespace PySem.W
open Sem (wp)
end PySem.W
namespace G
open PySem PySem.Spec L2
open PyProof.Rows (envOfC)
theorem tyC {K : PySem.W.Frag} {C : Addr} {d : D} {r : Rs} {v : V} {H : Hp} (h : isC C d r) (ro : Rok K r H) (i : Is K (mem r) H v d) : TyX K H v (.ref C) := by
  obtain ⟨a, dx, kvs, rfl, s, g⟩ := isC_at h ro i
  exact .base (.ins s g.cls g.p.kls g.p.get g.p.tak g.p.mro)
/-- what isinstance(.., C) finds at plain data -/
structure IsK (K : PySem.W.Frag) (C : Addr) : Prop where
  ic : PySem.W.isClsIn K C = true
  ty : PySem.W.typeIn K (.ref C) = some (.type "type")
  sub : ∀ n ∈ ks6, PySem.W.subIn K (.type n) (.ref C) = some false
theorem IsK.of {K : PySem.W.Frag} {C : Addr} (k : IsK K C) {t : Value} {b : Bool} (h : PySem.W.subIn K t (.ref C) = some b) (ne : t ≠ .ref C) : PySem.W.kitOne K t (.ref C) = some b := by
  unfold PySem.W.kitOne
  rw [if_neg (fun e => ne (beq_iff_eq.mp e))]
  have e : ((PySem.W.clsIn K C).isSome && PySem.W.typeIn K (.ref C) == some (.type "type")) = true := by
    have := k.ic
    unfold PySem.W.isClsIn at this
    rw [this, k.ty] <;> rfl
  show (if ((PySem.W.clsIn K C).isSome && PySem.W.typeIn K (.ref C) == some (.type "type")) = true then PySem.W.subIn K t (.ref C) else none) = some b
  rw [if_pos e]
  exact h
theorem IsK.no {K : PySem.W.Frag} {C : Addr} (k : IsK K C) : ∀ n ∈ ks6, PySem.W.kitOne K (.type n) (.ref C) = some false := fun n hn => k.of (k.sub n hn) (fun e => by cases e)
theorem kit_self {K : PySem.W.Frag} {C : Addr} : PySem.W.kitOne K (.ref C) (.ref C) = some true := by
  unfold PySem.W.kitOne
  rw [if_pos (beq_self_eq_true _)]
theorem tyD_mem {d : D} (n : nad d = true) : tyD d ∈ ks6 := by
  cases d <;> first | (cases n; done) | simp [tyD, ks6]
inductive oIsC (C : Addr) : D → Rs → PK1 → Prop
  | yes {d : D} {r : Rs} {P : PK1} (h : isC C d r) (p : P (.bl true) r) : oIsC C d r P
  | no {d : D} {r : Rs} {P : PK1} (h : nad d = true) (p : P (.bl false) r) : oIsC C d r P
def aIsC (C : Addr) (t : AT) : AT := fun x δ r P => t x δ r fun d r1 => oIsC C d r1 P
section
variable {X : Cx} {W : WX} {C : Addr} {a b : Expr} {ta tb : AT} {p pos : Pos}
/-- isinstance(x, C) -/
theorem d_isC {q : Pos} {y : Str} (k : IsK X.K C) (hg : Gl X "isinstance") (hm : X.mg "isinstance" = none) (ha : PD X W a ta) (my : X.mg y = some (.ref C)) (gy : Gl X y := by rfl) (hdy : (y == ("__debug__" : Str)) = false := by decide)
    (he : starEach [a, .Name y q] X.env = (false, eval a X.env) :: starEach [.Name y q] X.env := by rfl) (hpl : (backTo pos (starEach [.Name y q] X.env)).any (·.1) = false := by rfl) (he2 : starEach [.Name y q] X.env = (false, eval (.Name y q) X.env) :: starEach [] X.env := by rfl) :
    PD X W (.Call (.Name "isinstance" p) [a, .Name y q] [] pos) (aIsC C ta) := imE (pe_callB call_isi hg hm (by decide +kernel) (pa_cons ha (pa_cons (pe_glob (v := .ref C) gy my rfl hdy) pa_nil he2) he) (by decide) (by decide) he hpl) fun σ H Q q => by
  obtain ⟨XR, δ, r, P, ok, h, k'⟩ := q
  refine td_bind ok h fun d r1 v H1 h1 o1 k1 i1 => ?_
  cases h1 with
  | yes hc p => exact ⟨v, .ref C, _, _, _, rfl, .own C, tyC hc o1.r i1, kit_self, k' _ r1 _ H1 p o1 k1 (.bl _)⟩
  | no n p => exact ⟨v, .ref C, _, _, _, rfl, .own C, tyX i1 n, k.no _ (tyD_mem n), k' _ r1 _ H1 p o1 k1 (.bl _)⟩
end
structure SMet (K : PySem.W.Frag) (C : Addr) (mc : Value) (m : Str) (p g : Addr) : Prop where
  rd : ClX.CRead K C mc
  at_ : PySem.W.findCls K (.ref C) mc m = some (.get (.builtin "staticmethod.__get__") (.ref p) .none (.ref C))
  rc : ∃ rest, PySem.W.recIn K p "staticmethod" = some (.ref g :: rest)
  kp : PySem.W.keepIn K (.ref g) = true
section
variable {X : Cx} {W : WX} {k : Nat} {C p g : Addr} {mc : Value} {m y : Str} {sd : SpX} {q apos pos : Pos} {e : Expr} {es : List Expr} {l : AL} {pl : Sem Bool}
theorem d_stat (k1 : SMet X.K C mc m p g) (F : FR X.prog X.w X.K X.mg X.base k g sd) (tk : Takes X W) (hr : Room k X.A) (my : X.mg y = some (.ref C)) (ha : PDL X W (e :: es) l) (gy : Gl X y := by rfl) (hdy : (y == ("__debug__" : Str)) = false := by decide)
    (hst : starEach (e :: es) X.env = (false, eval e X.env) :: starEach es X.env := by rfl) (hpl : (backTo pos (starEach es X.env)).any (·.1) = false := by rfl)
    (ht : eval (.Call (.Attribute (.Name y q) m apos) (e :: es) [] pos) X.env = (do
      let ov ← eval (.Name y q) X.env
      standAt apos.atName
      let (f, first) ← holding [ov] (getMethod ov m pl)
      callWith pos f first (backTo pos (starEach (e :: es) X.env)) (backToKw pos (keywordEach [] X.env))) := by rfl) :
    PD X W (.Call (.Attribute (.Name y q) m apos) (e :: es) [] pos) (aCall sd l) := by
  refine ⟨fun pins s σ H Q I h => ?_⟩
  obtain ⟨XR, δ, r, P, ok, h, kk⟩ := h
  refine PySem.W.methodCall_KW (pl := pl) (ld_glob I gy my ?_ hdy) ht
  obtain ⟨rest, hp⟩ := k1.rc
  refine PySem.W.method_cls I.kIn k1.rd.ga (PySem.W.cls_bind I.kIn k1.rd.rd k1.at_ (wpAny_call (PySem.W.sm_get (s := { s with toks := s.toks + 1 }) I.kIn hp (PySem.W.handed_on rfl ?_))))
  refine PySem.W.callWith_K (first := []) (h₀ := X.base) I.ok.mod.kin k1.kp (thn (ha.run pos pins _ σ H _ (I.tok _) (tdl_bind ok h fun ds r1 vs H1 h1 o1 kk1 i1 => lift_at o1 i1 h1 fun d' r' v' H' p o3 k3 i3 => kk d' r' v' H' p o3 (kk1.trans k3) i3)) fun us s1 ⟨vs, H1, I1, r, q1⟩ => ⟨I1.kIn, ?_⟩) hst hpl
  exact call_P (us := us) (vs := vs) F hr (passAt tk _) I1 r q1
end
def aXf (a : Addr) (cls : Value) (d : Option Addr) (Cs : List Addr) (f : Str) (te : AT) : AT := fun x δ r P => te x δ r fun v r1 => v = .adr a ∧ ∃ C dx fs ds i y pre post, C ∈ Cs ∧ cls = .ref C ∧ d = some dx ∧ r1 = pre ++ xdA dx fs ds :: post ∧ ixF fs f = some i ∧ ds[i]? = some y ∧ P y r1
section
theorem d_xf {X : Cx} {W : WX} {a : Addr} {oe : Obj} {cls : Value} {d : Option Addr} {pn : List (Addr × Obj)} {Cs : List Addr} {e : Expr} {te : AT} {pos : Pos} {f : Str} (T : ∀ C ∈ Cs, XfC X.K C ∧ PySem.W.findIn X.K (.ref C) f = some none)
    (hz : Zc cls d oe) (hf : ∃ vs, oe.data = .fields vs) (he : PD (X.suite a ((a, oe) :: pn)) W e te) (hb : attributeBase e f X.env (eval e X.env) = eval e X.env := by rfl) : PD (X.suite a ((a, oe) :: pn)) W (.Attribute e f pos) (aXf a cls d Cs f te) := by
  refine ⟨fun pins s σ H Q I h => ?_⟩
  obtain ⟨XR, δ, r, P, ok, h, kk⟩ := h
  refine attr_of hb (thn (he.run pins s σ H (fun x H1 => x = V.ref a ∧ ∃ C ∈ Cs, cls = .ref C ∧ ∃ (dd : Addr) (fs : List (Str × V)) (v : V), d = some dd ∧ H1 dd = some (.xd fs) ∧ fs.lookup f = some v ∧ Q v H1) I (td_bind ok h fun dv r1 v H1 h1 o1 k1 i1 => ?_)) fun u s1 hh => ?_)
  · obtain ⟨rfl, C, dx, fs, ds, i, y, pre, post, hC, ec, ed, er, hi, hy, p⟩ := h1
    cases i1
    subst er
    obtain ⟨kvs, e1, e2, e3⟩ := mid_R o1.r
    obtain ⟨v, hv, iv⟩ := e3.getD hy
    exact ⟨rfl, C, hC, ec, dx, kvs, v, ed, e1, ixF_get e2 hi hv, kk _ _ _ _ p o1 k1 iv⟩
  · obtain ⟨x, H1, I1, rx, ex, C, hC, ec, dd, fs, v, ed, ea, l, q⟩ := hh
    subst ex
    obtain rfl : u = Value.ref a := rx
    subst ec
    subst ed
    obtain ⟨T1, hno⟩ := T C hC
    obtain ⟨ha, _⟩ := I1.pin (a, oe) (List.mem_append_left _ List.mem_cons_self)
    obtain ⟨vs, hd⟩ := hf
    have hx : ObjOk X.prog X.w H1 s1.heap dd (.xd fs) := I1.hok dd _ ea
    obtain ⟨mA, hns, hr⟩ := hx
    obtain ⟨od, ho, hl⟩ := lookIn_ns hns
    obtain ⟨u, hu, ru⟩ := RelO.some_of (v := v) (o := mA f) (by rw [← l]; exact hr f)
    have J : PySem.W.InstAt s1.heap a oe C (some od) := ⟨ha, hz.1, by unfold PySem.W.notCls; rw [hd] <;> rfl, by rw [hz.2]; exact ho⟩
    exact HandSPX.exc_get I1.kIn J T1.ga T1.gg T1.exC (PySem.W.findObj_own T1.hdC hno rfl (by rw [hl, hu])) (handed_of ru) ⟨v, H1, I1.tok _, ru, q⟩
end
end G
namespace G
open PySem PySem.Spec L2
open PyProof.Rows (envOfC)
/-- a def as it stands behind the top, whatever its defaults are -/
structure FunA (K : PySem.W.Frag) (x qual : Str) (st : Stmt) (f : Addr) (fd : FuncData) : Prop where
  ex : ∃ (oc : Value) (od : Option Addr) (dV kV doc pm : Value) (an : Option Addr) (cdv ct : Value) (osl : Array (Option Value)),
    fd = PySem.W.fnOf x qual (defArgs st) (defBody st) (defScope st) dV kV doc pm an cdv ct ∧ K.lookup f = some ⟨oc, od, .func fd, osl⟩ ∧ PySem.W.codeIn K cdv qual = true
section
variable {P : Program} {w : World} {K : PySem.W.Frag} {mg : Str → Option Value} {base : Heap}
/-- THE RULE for such a def -/
theorem fnA_d {x qual : Str} {st : Stmt} {f : Addr} {fd : FuncData} {N ps : List Str} {k : Nat} {sd : SpX} (F : FunA K x qual st f fd) (S : FnScope N ps (defScope st)) (len : ∀ ds r P' XR, sd ds r P' XR → ds.length = ps.length)
    (hbody : ∀ (cdv : Value) (A : Around) (outer : List Env) (s : Shared) (H : Hp) (E : XK), Room k (A.deeper (envOfC qual (defScope st) s.heap.objs.size f cdv)) → Takes (cxOf (L2.CX P w) P w K mg base N qual (defScope st) f cdv A outer s H E) (WK E) →
      PassesOwn (model P w) (cxOf (L2.CX P w) P w K mg base N qual (defScope st) f cdv A outer s H E).A (cxOf (L2.CX P w) P w K mg base N qual (defScope st) f cdv A outer s H E).env (cxOf (L2.CX P w) P w K mg base N qual (defScope st) f cdv A outer s H E).xe →
      ∃ t : AS, PBD (cxOf (L2.CX P w) P w K mg base N qual (defScope st) f cdv A outer s H E) (WK E) (defBody st) t ∧
      ∀ ds r P' XR, sd ds r P' XR → t { nx := fun _ r' => fit P' .non r', rt := fit P', xr := fitX XR } (startD N ds) r) : FO P w K mg base (k + 1) f fd ps sd := by
  obtain ⟨oc, od, dV, kV, doc, pm, an, cdv, ct, osl, rfl, lk, hcd⟩ := F.ex
  refine fn_of lk hcd S (fun vs H Q E h => ?_) fun A outer s H vs Q E hr h => ?_
  · obtain ⟨r, ds, P', XR, hr, hi, hs, _, _⟩ := h
    rw [hi.length]
    exact len _ _ _ _ hs
  · obtain ⟨r, ds, P', XR, ro, hi, hs, hq, hx⟩ := h
    obtain ⟨t, ht, hread⟩ := hbody cdv A outer s H E hr (takes_of rfl rfl rfl rfl) (passes_of rfl)
    refine ⟨_, ht, startD N ds, r, { nx := fun _ r' => fit P' .non r', rt := fit P', xr := fitX XR }, start_ok ro hi ?_, hread ds r P' XR hs, ⟨fun δ' r' σ' H' a o k => ?_, fun d r' v H' a o k i => ?_, fun _ _ _ _ z => z.elim, fun _ _ _ _ z => z.elim⟩⟩
    · rintro C fs es δ' r' σ' a H' ⟨r0, l, q⟩ o k e
      exact hx C fs es r0 a H' q (l.r _ _ o.r) (k.trans l.kp) (e.anti l.m)
    · obtain ⟨r0, l, a⟩ := a
      exact hq _ r0 _ H' a (l.r _ _ o.r) (k.trans l.kp) .non
    · obtain ⟨r0, l, a⟩ := a
      exact hq _ r0 _ H' a (l.r _ _ o) (k.trans l.kp) (is_anti l.m i)
end
/-- what a body must give -/
def Bod (P : Program) (w : World) (K : PySem.W.Frag) (mg : Str → Option Value) (base : Heap) (qual : Str) (st : Stmt) (N : List Str) (k : Nat) (sd : SpX) : Prop :=
  ∀ (f : Addr) (cdv : Value) (A : Around) (outer : List Env) (s : Shared) (H : Hp) (E : XK), Room k (A.deeper (envOfC qual (defScope st) s.heap.objs.size f cdv)) → Takes (cxOf (L2.CX P w) P w K mg base N qual (defScope st) f cdv A outer s H E) (WK E) →
      PassesOwn (model P w) (cxOf (L2.CX P w) P w K mg base N qual (defScope st) f cdv A outer s H E).A (cxOf (L2.CX P w) P w K mg base N qual (defScope st) f cdv A outer s H E).env (cxOf (L2.CX P w) P w K mg base N qual (defScope st) f cdv A outer s H E).xe →
      ∃ t : AS, PBD (cxOf (L2.CX P w) P w K mg base N qual (defScope st) f cdv A outer s H E) (WK E) (defBody st) t ∧
      ∀ ds r P' XR, sd ds r P' XR → t { nx := fun _ r' => fit P' .non r', rt := fit P', xr := fitX XR } (startD N ds) r
/-- an own class: where it stands, how it answers -/
structure KCls (K : PySem.W.Frag) (mg : Str → Option Value) (x : Str) (C : Addr) (fs : List Str) : Prop where
  g : mg x = some (.ref C)
  p : Plain K C
  no : ∀ f ∈ fs, NoAttr K C f
  isk : IsK K C
theorem fm_nil {α : Type} {p : α → Prop} : ∀ x ∈ ([] : List α), p x := fun _ h => by cases h
theorem fm_cons {α : Type} {p : α → Prop} {a : α} {l : List α} (h : p a) (t : ∀ x ∈ l, p x) : ∀ x ∈ a :: l, p x := fun x hx => by
  rcases List.mem_cons.mp hx with e | hx
  · rw [e]; exact h
  · exact t x hx
/-- dd: the defaults -/
def DfN (K : PySem.W.Frag) (C : Addr) (qual : Str) (st : Stmt) (ps : List Str) (dd : List D) : Prop := ∃ f fd, FunA K "__init__" qual st f fd ∧ Mk K C f ∧ ∀ j, j ≤ dd.length → ∃ dus dvs, Binds K fd ps dus ∧ Vals dvs dus ∧ ∀ M H, IsAll K M H dvs (dd.drop j)
/-- .. and what they promise -/
def ClM (P : Program) (w : World) (K : PySem.W.Frag) (mg : Str → Option Value) (base : Heap) (k : Nat) (C : Addr) (m : Str) (sd : SpX) : Prop := ∃ f, Meth K C m f ∧ FR P w K mg base k f sd
def ClS (P : Program) (w : World) (K : PySem.W.Frag) (mg : Str → Option Value) (base : Heap) (k : Nat) (C : Addr) (m : Str) (sd : SpX) : Prop := ∃ mc p f, SMet K C mc m p f ∧ FR P w K mg base k f sd
def ClN (P : Program) (w : World) (K : PySem.W.Frag) (mg : Str → Option Value) (base : Heap) (k : Nat) (C : Addr) (dd : List D) (sd : SpX) : Prop := ∃ f, Mk K C f ∧ ∀ j, j ≤ dd.length → FR P w K mg base k f (fun ds r P XR => sd (ds ++ dd.drop j) r P XR)
section
variable {P : Program} {w : World} {K : PySem.W.Frag} {mg : Str → Option Value} {base : Heap} {C : Addr} {m qual : Str} {st : Stmt} {N ps : List Str} {dd : List D} {k j : Nat} {sd sd' : SpX}
theorem cln_of (d : DfN K C qual st ps dd) (S : FnScope N ps (defScope st)) (len : ∀ ds r P' XR, sd ds r P' XR → ds.length = ps.length) (h : Bod P w K mg base qual st N k sd) : ClN P w K mg base (k + 1) C dd sd := by
  obtain ⟨f, fd, F, M, b⟩ := d
  refine ⟨f, M, fun j hj => ?_⟩
  obtain ⟨dus, dvs, b1, b2, b3⟩ := b j hj
  exact fr_dfl (fnA_d F S len (h f)) b1 b2 b3
end
section
variable {X : Cx} {W : WX} {k j : Nat} {C : Addr} {sd : SpX} {dd : List D} {x y m : Str} {fs : List Str} {p q apos pos : Pos} {e o a b : Expr} {es : List Expr} {l : AL} {to ta tb : AT} {pl : Sem Bool}
theorem d_st (M : ClS X.prog X.w X.K X.mg X.base k C m sd) (kc : KCls X.K X.mg y C fs) (tk : Takes X W) (hr : Room j X.A) (ha : PDL X W (e :: es) l) (hj : k ≤ j := by first | decide | exact Nat.le_refl _ | omega) (gy : Gl X y := by rfl) (hdy : (y == ("__debug__" : Str)) = false := by decide)
    (hst : starEach (e :: es) X.env = (false, eval e X.env) :: starEach es X.env := by rfl) (hpl : (backTo pos (starEach es X.env)).any (·.1) = false := by rfl)
    (ht : eval (.Call (.Attribute (.Name y q) m apos) (e :: es) [] pos) X.env = (do
      let ov ← eval (.Name y q) X.env
      standAt apos.atName
      let (f, first) ← holding [ov] (getMethod ov m pl)
      callWith pos f first (backTo pos (starEach (e :: es) X.env)) (backToKw pos (keywordEach [] X.env))) := by rfl) :
    PD X W (.Call (.Attribute (.Name y q) m apos) (e :: es) [] pos) (aCall sd l) := by
  obtain ⟨mc, p, f, M, F⟩ := M
  exact d_stat M F tk (hr.mono hj) kc.g ha gy hdy hst hpl ht
/-- C(..), the defaults behind the first i used -/
theorem d_mk (i : Nat) (M : ClN X.prog X.w X.K X.mg X.base k C dd sd) (kc : KCls X.K X.mg x C fs) (tk : Takes X W) (hr : Room j X.A) (ha : PDL X W (e :: es) l) (hi : i ≤ dd.length := by first | decide | exact Nat.le_refl _) (hj : k + 1 ≤ j := by first | decide | exact Nat.le_refl _ | omega)
    (hg : Gl X x := by rfl) (hdb : (x == ("__debug__" : Str)) = false := by decide) (he : starEach (e :: es) X.env = (false, eval e X.env) :: starEach es X.env := by rfl) (hpl : (backTo pos (starEach es X.env)).any (·.1) = false := by rfl) :
    PD X W (.Call (.Name x p) (e :: es) [] pos) (aNew C (fun ds r P XR => sd (ds ++ dd.drop i) r P XR) l) := by
  obtain ⟨f, M, F⟩ := M
  exact d_new M kc.p (F i hi) tk (hr.mono hj) kc.g ha hg hdb he hpl
end
end G
namespace G
open PySem PySem.Spec PySem.W L2 PyProof.Rows
theorem lookup_mem : ∀ {α : Type} {l : List (Str × α)} {x : Str} {k : α}, l.lookup x = some k → (x, k) ∈ l
  | _, [], x, k, h => by cases h
  | _, (y, j) :: l, x, k, h => by
    rw [List.lookup] at h
    split at h
    · rename_i e
      cases h
      rw [beq_iff_eq.mp e]
      exact List.mem_cons_self
    · exact List.mem_cons_of_mem _ (lookup_mem h)
def freeOk (q : Str × NameKind) : Bool := match q.2 with
  | .cell => false
  | .free => q.1 == "__class__"
  | _ => true
theorem free_of {l : List (Str × NameKind)} (h : l.all freeOk = true) : (∀ x, l.lookup x = some .cell ∨ l.lookup x = some .free → x = "__class__") ∧ ∀ x ∈ l, x.2 ≠ .cell := by
  refine ⟨fun x e => ?_, fun x hx e => ?_⟩
  · rcases e with e | e
    · have := List.all_eq_true.mp h _ (lookup_mem e)
      cases this
    · have := List.all_eq_true.mp h _ (lookup_mem e)
      exact beq_iff_eq.mp this
  · have := List.all_eq_true.mp h x hx
    unfold freeOk at this
    rw [e] at this
    cases this
/-- what an except clause and a read of the field ask, too -/
structure ErrX (P : Program) (w : World) (K : PySem.W.Frag) (mg : Str → Option Value) (base : Heap) (x : Str) (C : Addr) (fld : Str) : Prop where
  c : ErrC P w K mg base x C fld
  xf : XfC K C
  no : findIn K (.ref C) fld = some none
  hd : hasDictIn K C = true
  se : subIn K (.ref C) (.ref C) = some true
theorem ErrX.exm {P : Program} {w : World} {K : PySem.W.Frag} {mg : Str → Option Value} {base : Heap} {x fld : Str} {C C' : Addr} {b : Bool} (e : ErrX P w K mg base x C fld) (h : subIn K (.ref C') (.ref C) = some b) : exmOne K (.ref C') (.ref C) = some b :=
  exm_ref e.c.cls.exC e.hd e.c.cls.tyC h
theorem errX_mk {P : Program} {w : World} {K : PySem.W.Frag} {h : Heap} {mg : Str → Option Value} {base : Heap} (X : K.In h) (G : h.Ns mainGlobals mg) {x fld prm qual : Str} {C fI cc cda N : Addr} {st : Stmt} {dV kV doc pm ct oc ccl cl : Value} {an od cdd cld : Option Addr} {osl ccs csl : Array (Option Value)} {vs0 : Array Value} {file : Str} {tf : Tok}
    {p0 p1 p2 p3 p4 p5 p6 p7 p8 p9 : Pos} {txt : Str} {jj : _} {nm q : Str} {bs bm : List Value} {sn : List Str} {sub : List Value} {ab : Bool} {col : Option Bool} {dd : Option Addr} {k0 k1 k2 k3 k5 : Option Value}
    (cg : nsIn K mainGlobals x = some (some (.ref C))) (xL : K.lookup C = some (excClassObj nm q C N bs bm true sn sub ab col dd k0 k1 k2 k3 k5 "ValueError.__new__"))
    (sa : findIn K (.ref C) "__setattr__" = some (some (.builtin "object.__setattr__"))) (exC : subIn K (.ref C) (.type "BaseException") = some true) (tyC : typeIn K (.ref C) = some (.type "type")) (kC : keepIn K (.ref C) = true)
    (i1 : findIn K (.ref C) "__init__" = some (some (.ref fI))) (i2 : typeIn K (.ref fI) = some (.type "function"))
    (mro : mroIn K C (.ref C) = some true) (sve : subIn K (.ref C) (.type "ValueError") = some true) (sup : ks_superIn K C C "__init__" = some (some (.builtin "ValueError.__init__"))) (opq : nsIn K cStatics "thirdparty.any" = some none) (zs : nsIn K mainGlobals "super" = some none)
    (lk : K.lookup fI = some ⟨oc, od, .func (ksFn "__init__" qual (defArgs st) (defBody st) (defScope st) dV kV doc pm an (.ref cda) ct cc), osl⟩)
    (hcd : codeIn K (.ref cda) qual = true) (hno : findIn K (.ref C) fld = some none)
    (hcode : K.lookup cda = some ⟨ccl, cdd, .fields vs0, ccs⟩) (hcell : K.lookup cc = some ⟨cl, cld, .cell (some (.ref C)), csl⟩)
    (ga : findIn K (.ref C) "__getattribute__" = some (some (.builtin "BaseException.__getattribute__"))) (gg : findIn K (.ref C) "__getattr__" = some none) (hd : hasDictIn K C = true) (se : subIn K (.ref C) (.ref C) = some true)
    (hbm : PySem.HandSPX.refsVE bm = true) (hvs : vs0[2]? = some (.str file tf)) (hfile : ((P.main.file : Str) == file) = true) (top : (P.main.scope.names.lookup ("super" : Str)).isSome = false)
    (hbody : defBody st = [.Expr (.Call (.Attribute (.Call (.Name "super" p0) [] [] p1) "__init__" p2) [.Constant (.str txt) jj p3] [] p4) p5, .Assign [.Attribute (.Name "self" p6) fld p7] (.Name prm p8) p9])
    (hp : ∃ ar : Arg, ((defArgs st).posonlyargs ++ (defArgs st).args).head? = some ar ∧ ar.arg = "self")
    (hnm : (defScope st).names.lookup ("self" : Str) = some .local ∧ (defScope st).names.lookup prm = some .local ∧ (defScope st).names.lookup ("super" : Str) = some .globalImplicit ∧ (defScope st).names.lookup ("__class__" : Str) = some .free)
    (hfree : (defScope st).names.all freeOk = true) (hsc : (defScope st).isCoroutine = false ∧ (defScope st).isGenerator = false ∧ (defScope st).kind = .function) (hps : ("self" : Str) ≠ prm) (hcdbg : (prm == ("__debug__" : Str)) = false ∧ (prm == ("__classdict__" : Str)) = false)
    (hin : ∀ L, interactive (ksEnv qual (defScope st) L fI (.ref cda) cc) = false)
    (hpl1 : ∀ L, swapsWith (.Call (.Attribute (.Call (.Name "super" p0) [] [] p1) "__init__" p2) [.Constant (.str txt) jj p3] [] p4) none p5.line (ksEnv qual (defScope st) L fI (.ref cda) cc) = pure false)
    (hev : ∀ L, ∃ pl : Sem Bool, eval (.Call (.Attribute (.Call (.Name "super" p0) [] [] p1) "__init__" p2) [.Constant (.str txt) jj p3] [] p4) (ksEnv qual (defScope st) L fI (.ref cda) cc) = (do
      let ov ← attributeBase (.Call (.Name "super" p0) [] [] p1) "__init__" (ksEnv qual (defScope st) L fI (.ref cda) cc) (eval (.Call (.Name "super" p0) [] [] p1) (ksEnv qual (defScope st) L fI (.ref cda) cc))
      standAt p2.atName
      let (f, first) ← holding [ov] (getMethod ov "__init__" pl)
      callWith p4 f first (backTo p4 (starEach [.Constant (.str txt) jj p3] (ksEnv qual (defScope st) L fI (.ref cda) cc))) []))
    (hpl2 : ∀ L, swapsWith (.Name prm p8) (some (.Attribute (.Name "self" p6) fld p7)) p9.line (ksEnv qual (defScope st) L fI (.ref cda) cc) = pure false)
    (bnd : ∀ us : List Value, us.length = 2 → bindArgs (ksFn "__init__" qual (defArgs st) (defBody st) (defScope st) dV kV doc pm an (.ref cda) ct cc) ⟨us, []⟩ = pure ((["self", prm] : List Str).zip us)) : ErrX P w K mg base x C fld := by
  have oc : OexC K C := ⟨⟨_, _, _, _, _, _, _, _, _, _, _, _, _, _, _, xL, hbm⟩, sa, exC, tyC, kC⟩
  have T : ErrK P K mg C := ⟨oc, mro, sve, sup, opq, mg_none_of X G zs, top⟩
  obtain ⟨f1, f2⟩ := free_of hfree
  obtain ⟨cd0, hD, _⟩ := any_some hd
  refine ⟨⟨mg_of X G cg, oc, fI, _, prm, i1, i2, ?_, .all bnd⟩, ⟨ga, gg, exC, hd⟩, hno, hd, se⟩
  rw [hbody] at lk ⊢
  exact exinit (j := 0) (cdv := .none) T lk hcd hD hno hcode hvs hfile hcell hp hnm f1 f2 hsc hps hcdbg hin hpl1 hev hpl2
theorem dflt_one {K : Frag} {x qual : Str} {params : Arguments} {body : List Stmt} {scope : Scope} {ps : List Str} {T : Addr} {to_ : Option Addr} {ti : Array Value} {tn : Nat} {tsl : Array (Option Value)} {kV doc pm cdv ct : Value} {an : Option Addr} {us0 : List Value} {dvs : List V} {dd : List D}
    (lT : K.lookup T = some ⟨.type "tuple", to_, .seq ti tn, tsl⟩) (e : ti.toList = us0) (rv : Vals dvs us0) (hi : ∀ M H, IsAll K M H dvs dd) (j : Nat)
    (h : ∀ us its : List Value, us.length = ps.length - (us0.length - j) → its.length = us0.length → ∃ k, bindArgs (fnOf x qual params body scope (.ref T) kV doc pm an cdv ct) ⟨us, []⟩ = seqItems? (.ref T) >>= k ∧ k (some its.toArray) = pure (ps.zip (us ++ its.drop j)))
    : ∃ dus dvs', Binds K (fnOf x qual params body scope (.ref T) kV doc pm an cdv ct) ps dus ∧ Vals dvs' dus ∧ ∀ M H, IsAll K M H dvs' (dd.drop j) := by
  refine ⟨us0.drop j, dvs.drop j, fun s us X hlen => ?_, rv.drop j, fun M H => (hi M H).drop j⟩
  have l2 : us.length = ps.length - (us0.length - j) := by
    rw [List.length_append, List.length_drop] at hlen
    omega
  obtain ⟨k, e1, e2⟩ := h us us0 l2 rfl
  refine BindsTo.of_looks fun M => ?_
  rw [e1]
  refine looks_items X lT rfl (.of_pure ?_)
  rw [← e2, ← e, Array.toArray_toList]
end G
namespace G
open PySem PySem.Spec L2
def melt (i : Nat) (t : AS) : AS := fun A δ r => ∃ q ds pre post, lk δ i = some (.adr q) ∧ r = pre ++ lstA q ds :: post ∧ t A (δ.set i (some (.lst ds))) (pre ++ post)
theorem Okb.name {K : PySem.W.Frag} {r : Rs} {δ : Dl} {σ : L2.St} {H : Hp} (o : Okb K r δ σ H) {i : Nat} {d d' : D} (hi : δ[i]? = some (some d)) (h : ∀ v, Is K (mem r) H v d → Is K (mem r) H v d') : Okb K r (δ.set i (some d')) σ H := by
  refine ⟨fun j e he => ?_, o.r, by rw [List.length_set]; exact o.len⟩
  by_cases hj : j = i
  · subst hj
    have hl : j < δ.length := by
      have := (List.getElem?_eq_some_iff.mp he).1
      rwa [List.length_set] at this
    rw [List.getElem?_set_self hl] at he
    cases he
    obtain ⟨v, h1, h2⟩ := o.env j d hi
    exact ⟨v, h1, h v h2⟩
  · rw [List.getElem?_set_ne (Ne.symm hj)] at he
    exact o.env j e he
theorem tsd_melt {K : PySem.W.Frag} {W : WX} {t : AS} {i : Nat} {D : Ends} {σ : L2.St} {H : Hp} (h : TSD K W (melt i t) D σ H) : TSD K W t D σ H := by
  obtain ⟨δ, r, A, o, ⟨q, ds, pre, post, hl, rfl, h⟩, f⟩ := h
  obtain ⟨h1, h2, h3⟩ := own_drop o.r
  refine ⟨_, _, A, ⟨(o.b.step h3 h1).name (lk_get hl) (fun v z => by cases z; exact h2), o.x.step h3⟩, h, ⟨fun δ' r' σ' H' a o' k => f.nx _ _ _ _ a o' (h3.trans k), fun d r' v H' a o' k i => f.rt _ _ _ _ a o' (h3.trans k) i, fun δ' r' σ' H' a o' k => f.bk _ _ _ _ a o' (h3.trans k), fun δ' r' σ' H' a o' k => f.ct _ _ _ _ a o' (h3.trans k)⟩⟩
section
variable {X : Cx} {W : WX} {st : Stmt} {t : AS}
theorem s_melt (i : Nat) (h : PSD X W st t) : PSD X W st (melt i t) := imS h fun D σ H q => tsd_melt q
end
theorem hc0 {K : PySem.W.Frag} {c : Value} : ∀ p ∈ ([] : List (Addr × Bool)), PySem.W.exmOne K (.ref p.1) c = some p.2 := fm_nil
theorem hcc {K : PySem.W.Frag} {c : Value} {C : Addr} {b : Bool} {l : List (Addr × Bool)} (h : PySem.W.exmOne K (.ref C) c = some b) (t : ∀ p ∈ l, PySem.W.exmOne K (.ref p.1) c = some p.2) : ∀ p ∈ (C, b) :: l, PySem.W.exmOne K (.ref p.1) c = some p.2 := fm_cons h t
end G
namespace G
open PySem PySem.Spec L2
open PyProof.Rows (envOfC)
/-- the promise of a def with *args, told of its arguments one by one -/
def starP (n : Nat) (sd : SpX) : SpX := fun ds r P XR => ∃ a rest, ds = a ++ rest ∧ a.length = n ∧ rest.length ≤ 1000000 ∧ sd (a ++ [.tup rest]) r P XR
end G
namespace G
open PySem PySem.Spec L2
open PyProof.Rows (envOfC)
end G
namespace G
open PySem PySem.Spec L2
open PyProof.Rows (envOfC)
inductive IsKV (K : PySem.W.Frag) (M : Addr → Prop) (H : Hp) : List (Key × V) → List (Key × D) → Prop
  | nil : IsKV K M H [] []
  | cons {k : Key} {v : V} {d : D} {xs : List (Key × V)} {es : List (Key × D)} : Is K M H v d → IsKV K M H xs es → IsKV K M H ((k, v) :: xs) ((k, d) :: es)
def dGet (kvs : List (Key × D)) (k : Key) : Option D := (kvs.find? fun kv => decide (kv.1 = k)).map (·.2)
def dPut (kvs : List (Key × D)) (k : Key) (d : D) : List (Key × D) :=
  if (kvs.any fun kv => decide (kv.1 = k)) = true then kvs.map (fun kv => if kv.1 = k then (kv.1, d) else kv) else kvs ++ [(k, d)]
def dDrop (kvs : List (Key × D)) (k : Key) : List (Key × D) := kvs.filter fun kv => decide (kv.1 ≠ k)
def keyD : D → Option Key | .int i => some (.inl i) | .str z => some (.inr z) | _ => none
theorem dGet_pos {k : Key} {d : D} {r : List (Key × D)} : dGet ((k, d) :: r) k = some d := by simp [dGet]
theorem dGet_neg {k j : Key} {d : D} {r : List (Key × D)} (h : j ≠ k) : dGet ((j, d) :: r) k = dGet r k := by simp [dGet, List.find?_cons, h]
section
variable {K : PySem.W.Frag} {N N' : Addr → Prop} {H H' : Hp}
theorem IsKV.go (f : ∀ v d, Is K N H v d → Is K N' H' v d) : ∀ {xs : List (Key × V)} {es : List (Key × D)}, IsKV K N H xs es → IsKV K N' H' xs es
  | _, _, .nil => .nil
  | _, _, .cons h t => .cons (f _ _ h) (IsKV.go f t)
theorem IsKV.length : ∀ {xs : List (Key × V)} {es : List (Key × D)}, IsKV K N H xs es → xs.length = es.length
  | _, _, .nil => rfl
  | _, _, .cons _ t => by rw [List.length_cons, List.length_cons, IsKV.length t]
theorem IsKV.any (k : Key) : ∀ {xs : List (Key × V)} {es : List (Key × D)}, IsKV K N H xs es → (xs.any fun kv => decide (kv.1 = k)) = es.any fun kv => decide (kv.1 = k)
  | _, _, .nil => rfl
  | _, _, .cons _ t => by rw [List.any_cons, List.any_cons, IsKV.any k t]
theorem IsKV.get (k : Key) : ∀ {xs : List (Key × V)} {es : List (Key × D)}, IsKV K N H xs es → match dGet es k with | some d => ∃ v, valV xs k = some v ∧ Is K N H v d | none => valV xs k = none
  | _, _, .nil => rfl
  | _, _, .cons (k := j) (v := v) (d := d) h t => by
    by_cases e : j = k
    · subst e
      rw [dGet_pos]
      exact ⟨v, valV_pos rfl, h⟩
    · rw [dGet_neg e, valV_neg e]
      exact IsKV.get k t
theorem IsKV.snoc {k : Key} {v : V} {d : D} (i : Is K N H v d) : ∀ {xs : List (Key × V)} {es : List (Key × D)}, IsKV K N H xs es → IsKV K N H (xs ++ [(k, v)]) (es ++ [(k, d)])
  | _, _, .nil => .cons i .nil
  | _, _, .cons h t => .cons h (IsKV.snoc i t)
theorem IsKV.repl {k : Key} {v : V} {d : D} (i : Is K N H v d) : ∀ {xs : List (Key × V)} {es : List (Key × D)}, IsKV K N H xs es → IsKV K N H (xs.map fun kv => if kv.1 = k then (kv.1, v) else kv) (es.map fun kv => if kv.1 = k then (kv.1, d) else kv)
  | _, _, .nil => .nil
  | _, _, .cons (k := j) h t => by
    rw [List.map_cons, List.map_cons]
    by_cases e : j = k
    · rw [if_pos e, if_pos e]
      exact .cons i (IsKV.repl i t)
    · rw [if_neg e, if_neg e]
      exact .cons h (IsKV.repl i t)
theorem IsKV.put {k : Key} {v : V} {d : D} {xs : List (Key × V)} {es : List (Key × D)} (h : IsKV K N H xs es) (i : Is K N H v d) : IsKV K N H (putK xs k v) (dPut es k d) := by
  unfold putK dPut
  rw [h.any k]
  split
  · exact h.repl i
  · exact h.snoc i
theorem IsKV.drop (k : Key) : ∀ {xs : List (Key × V)} {es : List (Key × D)}, IsKV K N H xs es → IsKV K N H (dropK xs k) (dDrop es k)
  | _, _, .nil => .nil
  | _, _, .cons (k := j) h t => by
    unfold dropK dDrop
    rw [List.filter_cons, List.filter_cons]
    have ih := IsKV.drop k t
    unfold dropK dDrop at ih
    by_cases e : j = k
    · rw [if_neg (by simp [e]), if_neg (by simp [e])]
      exact ih
    · rw [if_pos (by simp [e]), if_pos (by simp [e])]
      exact .cons h ih
theorem IsKV.of_zip : ∀ {xs : List (Key × V)} {ds : List D}, IsAll K N H (xs.map (·.2)) ds → IsKV K N H xs ((xs.map (·.1)).zip ds)
  | [], ds, h => by cases h; exact .nil
  | (k, v) :: xs, _, .cons h t => .cons h (IsKV.of_zip t)
theorem IsKV.unzip : ∀ {xs : List (Key × V)} {es : List (Key × D)}, IsKV K N H xs es → xs.map (·.1) = es.map (·.1) ∧ IsAll K N H (xs.map (·.2)) (es.map (·.2))
  | _, _, .nil => ⟨rfl, .nil⟩
  | _, _, .cons h t => ⟨by rw [List.map_cons, List.map_cons, (IsKV.unzip t).1], .cons h (IsKV.unzip t).2⟩
theorem key_val {v : V} {y : D} {key : Key} (hk : keyD y = some key) (i : Is K N H v y) : v = kV key := by
  cases i <;> simp [keyD] at hk <;> subst hk <;> rfl
end
def dctA (a : Addr) (kvs : List (Key × D)) : At where
  M := fun b => b = a
  R := fun K N H => ∃ xs : List (Key × V), H a = some (.dK xs) ∧ IsKV K N H xs kvs
  loc := fun f g ⟨xs, h, i⟩ => ⟨xs, f _ _ rfl h, i.go g⟩
  anti := fun e ⟨xs, h, i⟩ => ⟨xs, h, i.go fun _ _ => is_anti e⟩
  grow := fun hp ⟨xs, h, i⟩ => ⟨xs, h, i.go fun _ _ => is_growD hp⟩
  al := fun ⟨xs, h, _⟩ b z => ⟨.dK xs, by rw [show b = a from z]; exact h⟩
/-- a dict of our own that is locked while something walks over it -/
def lckA (a : Addr) (od : Obj) (xs : List (Key × V)) (kvs : List (Key × D)) : At where
  M := fun b => b = a
  R := fun K N H => H a = some (.frz od (.dK xs)) ∧ IsKV K N H xs kvs
  loc := fun f g ⟨h, i⟩ => ⟨f _ _ rfl h, i.go g⟩
  anti := fun e ⟨h, i⟩ => ⟨h, i.go fun _ _ => is_anti e⟩
  grow := fun hp ⟨h, i⟩ => ⟨h, i.go fun _ _ => is_growD hp⟩
  al := fun ⟨h, _⟩ b z => ⟨.frz od (.dK xs), by rw [show b = a from z]; exact h⟩
def OwnLk (r : Rs) (a : Addr) (kvs : List (Key × D)) : Prop := ∃ pre post od xs, r = pre ++ lckA a od xs kvs :: post
def OwnD (r : Rs) (a : Addr) (kvs : List (Key × D)) : Prop := ∃ pre post, r = pre ++ dctA a kvs :: post
section
variable {K : PySem.W.Frag} {r pre post : Rs} {H : Hp} {a p : Addr} {kvs es : List (Key × D)} {xs ys : List (Key × V)}
theorem dct_at (h : Rok K r H) (o : OwnD r a kvs) : ∃ xs, H a = some (.dK xs) ∧ IsKV K (mem r) H xs kvs := by
  obtain ⟨pre, post, rfl⟩ := o
  exact mid_R h
theorem lck_at (h : Rok K r H) (o : OwnLk r a kvs) : ∃ xs, Rd H a (.dK xs) ∧ IsKV K (mem r) H xs kvs := by
  obtain ⟨pre, post, od, xs, rfl⟩ := o
  obtain ⟨e, i⟩ := mid_R h
  exact ⟨xs, .inr ⟨od, e⟩, i⟩
theorem dct_put (h : Rok K (pre ++ dctA a kvs :: post) H) (i : IsKV K (mem (pre ++ dctA a kvs :: post)) H ys es) : Rok K (pre ++ dctA a es :: post) (upd H a (.dK ys)) ∧ Kp K (pre ++ dctA a kvs :: post) H (pre ++ dctA a es :: post) (upd H a (.dK ys)) := by
  obtain ⟨xs, e1, _⟩ := dct_at h ⟨pre, post, rfl⟩
  exact mid_put rfl rfl e1 (fun xs => ⟨(fun e => by cases e), fun o e => by cases e⟩) h fun go => ⟨ys, upd_same, i.go go⟩
theorem dct_drop (h : Rok K (pre ++ dctA a kvs :: post) H) : Rok K (pre ++ post) H ∧ Is K (mem (pre ++ post)) H (.ref a) (.dct (kvs.map (·.1)) (kvs.map (·.2))) ∧ Kp K (pre ++ dctA a kvs :: post) H (pre ++ post) H := by
  obtain ⟨h1, h2, h3⟩ := mid_drop h
  obtain ⟨xs, e1, e2⟩ := mid_R h
  obtain ⟨q1, q2⟩ := (e2.go h2).unzip
  exact ⟨h1, .dct (h3 a rfl) e1 q1 q2, h2⟩
end
inductive oDGet (r : Rs) : D → D → (Option D → Prop) → Prop
  | own {a : Addr} {kvs : List (Key × D)} {y : D} {key : Key} {k : Option D → Prop} (ow : OwnD r a kvs) (hk : keyD y = some key) (p : k (dGet kvs key)) : oDGet r (.adr a) y k
  | lck {a : Addr} {kvs : List (Key × D)} {y : D} {key : Key} {k : Option D → Prop} (ow : OwnLk r a kvs) (hk : keyD y = some key) (p : k (dGet kvs key)) : oDGet r (.adr a) y k
  | fro {ks : List Key} {ds : List D} {y : D} {key : Key} {k : Option D → Prop} (hk : keyD y = some key) (p : k (dGet (ks.zip ds) key)) : oDGet r (.dct ks ds) y k
theorem oDGet.imp {r : Rs} {d y : D} {k k' : Option D → Prop} (h : oDGet r d y k) (f : ∀ o, k o → k' o) : oDGet r d y k' := by
  cases h with
  | own ow hk p => exact .own ow hk (f _ p)
  | lck ow hk p => exact .lck ow hk (f _ p)
  | fro hk p => exact .fro hk (f _ p)
theorem dgets {K : PySem.W.Frag} {r : Rs} {H : Hp} {d y : D} {vd vy : V} {k : Option D → Prop} (h : oDGet r d y k) (ro : Rok K r H) (i1 : Is K (mem r) H vd d) (i2 : Is K (mem r) H vy y) :
    ∃ a xs o, vd = .ref a ∧ Rd H a (.dK xs) ∧ k o ∧ (match o with | some d => ∃ v, DGet H a vy (some v) ∧ Is K (mem r) H v d | none => DGet H a vy none) := by
  cases h with
  | @own a kvs _ key _ ow hk p =>
    cases i1
    obtain ⟨xs, e1, e2⟩ := dct_at ro ow
    have g := e2.get key
    refine ⟨a, xs, _, rfl, .inl e1, p, ?_⟩
    have hv := key_val hk i2
    subst hv
    cases q : dGet kvs key with
    | none =>
      rw [q] at g
      exact .inl ⟨xs, key, .inl e1, rfl, g.symm⟩
    | some d =>
      rw [q] at g
      obtain ⟨v, g1, g2⟩ := g
      exact ⟨v, .inl ⟨xs, key, .inl e1, rfl, g1.symm⟩, g2⟩
  | @lck a kvs _ key _ ow hk p =>
    cases i1
    obtain ⟨xs, e1, e2⟩ := lck_at ro ow
    have g := e2.get key
    refine ⟨a, xs, _, rfl, e1, p, ?_⟩
    have hv := key_val hk i2
    subst hv
    cases q : dGet kvs key with
    | none =>
      rw [q] at g
      exact .inl ⟨xs, key, e1, rfl, g.symm⟩
    | some d =>
      rw [q] at g
      obtain ⟨v, g1, g2⟩ := g
      exact ⟨v, .inl ⟨xs, key, e1, rfl, g1.symm⟩, g2⟩
  | @fro ks ds _ key _ hk p =>
    cases i1 with
    | @dct a xs _ _ n s e al =>
      have kv := IsKV.of_zip al
      rw [e] at kv
      have g := kv.get key
      refine ⟨a, xs, _, rfl, .inl s, p, ?_⟩
      have hv := key_val hk i2
      subst hv
      cases q : dGet (ks.zip ds) key with
      | none =>
        rw [q] at g
        exact .inl ⟨xs, key, .inl s, rfl, g.symm⟩
      | some d =>
        rw [q] at g
        obtain ⟨v, g1, g2⟩ := g
        exact ⟨v, .inl ⟨xs, key, .inl s, rfl, g1.symm⟩, g2⟩
section
variable {X : Cx} {W : WX} {o i e f value : Expr} {pos pos' apos cpos : Pos} {td ty tv tx : AT}
/-- is a dict -/
def isDc (d : D) (r : Rs) : Prop := (∃ a kvs, d = .adr a ∧ (OwnD r a kvs ∨ OwnLk r a kvs)) ∨ ∃ ks ds, d = .dct ks ds
theorem isDc_at {K : PySem.W.Frag} {r : Rs} {H : Hp} {d : D} {v : V} (h : isDc d r) (ro : Rok K r H) (i : Is K (mem r) H v d) : ∃ a xs, v = .ref a ∧ Rd H a (.dK xs) := by
  rcases h with ⟨a, kvs, rfl, ow | ow⟩ | ⟨ks, ds, rfl⟩
  · cases i
    obtain ⟨xs, e, _⟩ := dct_at ro ow
    exact ⟨a, xs, rfl, .inl e⟩
  · cases i
    obtain ⟨xs, e, _⟩ := lck_at ro ow
    exact ⟨a, xs, rfl, e⟩
  · cases i with
    | dct n s e al => exact ⟨_, _, rfl, .inl s⟩
def aDGt1 (td ty : AT) : AT := fun x δ r P => td x δ r fun d r1 => isDc d r1 ∧ ty x δ r1 fun y r2 => oDGet r2 d y fun o => P (o.getD .non) r2
theorem d_dgt1 (hu : X.A.units + 65 < cLine) (ho : PD X W o td) (he : PD X W e ty) (m : M1 X o "get" apos e cpos) : PD X W (.Call (.Attribute o "get" apos) [e] [] cpos) (aDGt1 td ty) := imE (pe_dget1 (by omega) ho he m) fun σ H Q q => by
  obtain ⟨XR, δ, r, P, ok, h, k⟩ := q
  refine td_bind ok h fun d r1 v1 H1 ⟨hd, h1⟩ o1 k1 i1 => ?_
  obtain ⟨a, xs, rfl, e1⟩ := isDc_at hd o1.r i1
  refine ⟨a, rfl, .inl ⟨xs, e1⟩, td_bind o1 h1 fun y r2 v2 H2 h2 o2 k2 i2 => ?_⟩
  obtain ⟨a', xs', oo, ea, e2, p, g⟩ := dgets h2 o2.r (k2 _ _ i1) i2
  cases ea
  cases oo with
  | none => exact ⟨none, g, k _ _ _ _ p o2 (k1.trans k2) .non⟩
  | some d =>
    obtain ⟨w, g1, g2⟩ := g
    exact ⟨some w, g1, k _ _ _ _ p o2 (k1.trans k2) g2⟩
end
end G
namespace G
open PySem PySem.Spec L2
open PyProof.Rows (envOfC Call_ Subscript_)
structure GiK (K : PySem.W.Frag) (C f : Addr) (m : Str) : Prop where
  at_ : PySem.W.findIn K (.ref C) m = some (some (.ref f))
  fnI : PySem.W.fnIn K f = true
  fn : PySem.W.isFn K (.ref f) = true
section
variable {X : Cx} {W : WX} {k : Nat} {C f : Addr} {sd : SpX} {ta tb : AT} {a b : Expr} {pos : Pos}
theorem call_in1 {sp : Sp} {E : XK} {Q : VK} {pins : List (Addr × Obj)} {σ : L2.St} {H : Hp} {s : Shared} {us : List Value} {vs : List V} (F : FnR X.prog X.w X.K X.mg X.base (L2.CX X.prog X.w) k f sp) (hr : Room (k + 1) X.A) (hx : PassesAt (L2.CX X.prog X.w) X σ E) (I : L2.Inv X pins σ H s) (r : Vals vs us) (h : sp vs H Q E) :
    wpAny (model X.prog X.w) X.A.in1 (call (.ref f) us) (EP X pins σ Q) X.xe s := by
  refine wpAny_call (codeAny_mono (F X.A.in1 X.stack s H us vs Q E hr.in1 I.env0.in1 r h) fun r s' hq => ?_)
  cases r with
  | error e => exact hx pins H s e s' I hq
  | ok fl =>
    cases fl with
    | ret u => exact I.after hq
    | next => exact False.elim hq
    | brk => exact False.elim hq
    | cont => exact False.elim hq
end
end G
namespace G
open PySem PySem.Spec L2
open PyProof.Rows (envOfC)
def DfG (K : PySem.W.Frag) (C : Addr) (m qual : Str) (st : Stmt) (ps : List Str) : Prop := ∃ f fd, FunA K m qual st f fd ∧ GiK K C f m ∧ Binds K fd ps []
def ClG (P : Program) (w : World) (K : PySem.W.Frag) (mg : Str → Option Value) (base : Heap) (k : Nat) (C : Addr) (m : Str) (sd : SpX) : Prop := ∃ f, GiK K C f m ∧ FR P w K mg base k f sd
section
variable {P : Program} {w : World} {K : PySem.W.Frag} {mg : Str → Option Value} {base : Heap} {C : Addr} {m qual pv : Str} {st : Stmt} {N ps : List Str} {k j : Nat} {sd sd' : SpX}
theorem clg_of (d : DfG K C m qual st ps) (S : FnScope N ps (defScope st)) (len : ∀ ds r P' XR, sd ds r P' XR → ds.length = ps.length) (h : Bod P w K mg base qual st N k sd) : ClG P w K mg base (k + 1) C m sd := by
  obtain ⟨f, fd, F, M, b⟩ := d
  exact ⟨f, M, fr_of (fnA_d F S len (h f)) b⟩
end
end G
namespace G
open PySem PySem.Spec L2
open PyProof.Rows (envOfC)
end G
namespace G
open PySem PySem.Spec L2
open PyProof.Rows (envOfC)
def iAnyR (K : PySem.W.Frag) (tl : TE) : TI := fun σ H R => tl σ H fun x H1 => ∃ a, x = .ref a ∧ (((∃ xs, SqL K H1 a xs) ∧ R (Itl K a) H1) ∨ ((∃ xs, SqT K H1 a xs) ∧ R (Itt K a) H1))
theorem pi_any {X : Cx} {tg l : Expr} {tl : TE} (hl : PE X l tl) : PI X tg l (iAnyR X.K tl) := by
  refine ⟨fun pins s σ H R I h => ?_⟩
  refine thn (hl.run pins s σ H _ I h) fun v s1 ⟨x, H1, I1, r1, q1⟩ => ?_
  obtain ⟨a, e, q1⟩ := q1
  subst e
  cases r1
  rcases q1 with ⟨⟨xs, hq⟩, q⟩ | ⟨⟨xs, hq⟩, q⟩
  · obtain ⟨its, rv, p, hz⟩ := I1.list hq
    refine wpAny_pyIter_list p.isList ?_
    refine ⟨s1.heap.objs.size, [s1.heap.objs.size], _, _, H1, rfl, I1.kept (t' := s1.toks) fun b o e => Heap.get?_push_of_some _ e, turn_list a _, ⟨_, Heap.get?_push_size _ rfl, rfl, rfl⟩, fun b hb => ?_, q⟩
    have e : b = s1.heap.objs.size := by simpa using hb
    subst e
    exact I1.fpOk (Nat.le_refl _) (I1.hok.fresh (Nat.le_refl _))
  · obtain ⟨its, rv, p, hz⟩ := I1.tuple hq
    refine wpAny_pyIter_tuple (show s1.heap.IsTuple a its.toArray from p) ?_
    refine ⟨s1.heap.objs.size, [s1.heap.objs.size], _, _, H1, rfl, I1.kept (t' := s1.toks) fun b o e => Heap.get?_push_of_some _ e, turn_tuple a _, ⟨_, Heap.get?_push_size _ rfl, rfl, rfl⟩, fun b hb => ?_, q⟩
    have e : b = s1.heap.objs.size := by simpa using hb
    subst e
    exact I1.fpOk (Nat.le_refl _) (I1.hok.fresh (Nat.le_refl _))
def seqD : D → Option (List D) | .lst ds => some ds | .tup ds => some ds | _ => none
end G
namespace G
open PySem PySem.Spec L2
open PyProof.Rows (envOfC)
/-- [e(x) for x in ds], what e looks at being told -/
theorem lc_mapR {x : XT} {g : AG} {te : AT} {δw : Dl} {ds : List D} {r1 : Rs} {P : PK1} (f : D → D) (hz : small ds.length) (he : ∀ d ∈ ds, ∀ (p : Addr) (acc : List D) (P' : PK1), P' (f d) (r1 ++ [lstA p acc]) → g d δw fun δ2 => te x δ2 (r1 ++ [lstA p acc]) P') (hP : P (.lst (ds.map f)) r1) : aLcK x g bYes te δw ds r1 P := by
  refine ⟨fun i acc r' => acc = (ds.take i).map f ∧ r' = r1, ⟨rfl, rfl⟩, ?_, ?_⟩
  · rintro p i d acc r' hd ⟨rfl, rfl⟩
    refine Eq.mp ?_ (he d (List.mem_of_getElem? hd) p ((ds.take i).map f) (fun y r3 => small (((ds.take i).map f).length + 1) ∧ ∃ r4, le r3 (r4 ++ [lstA p ((ds.take i).map f)]) ∧ ((ds.take i).map f ++ [y] = (ds.take (i + 1)).map f ∧ r4 = r')) ?_)
    · congr 1
      funext δ2
      unfold bYes
      simp
    · refine ⟨?_, r', le.refl, ?_, rfl⟩
      · rw [List.length_map, List.length_take]
        have hi := (List.getElem?_eq_some_iff.mp hd).1
        have : small ds.length := hz
        unfold small at *
        omega
      · rw [List.take_add_one, hd, List.map_append]
        rfl
  · rintro acc r' ⟨rfl, rfl⟩
    rw [List.take_length]
    exact hP
end G
namespace G
open PySem PySem.Spec L2
end G
namespace G
open PySem PySem.Spec L2
def aPrs : List (AT × AT) → XT → Dl → Rs → (List (D × D) → Rs → Prop) → Prop
  | [], _, _, r, P => P [] r
  | (tk, tv) :: l, x, δ, r, P => tk x δ r fun dk r1 => tv x δ r1 fun dv r2 => aPrs l x δ r2 fun ps r3 => P ((dk, dv) :: ps) r3
def IsPP (K : PySem.W.Frag) (N : Addr → Prop) (H : Hp) (vs : List (V × V)) (ds : List (D × D)) : Prop := IsAll K N H (vs.map (·.1)) (ds.map (·.1)) ∧ IsAll K N H (vs.map (·.2)) (ds.map (·.2))
theorem prs_go {K : PySem.W.Frag} {W : WX} {XR : XT} {σ : St} {δ : Dl} : ∀ {trs : List (AT × AT)} {H : Hp} {r : Rs} {P : List (D × D) → Rs → Prop} {Q : List (V × V) → Hp → Prop}, Ok K W XR r δ σ H → aPrs trs XR δ r P → (∀ ds r' vs H', P ds r' → Ok K W XR r' δ σ H' → Kp K r H r' H' → IsPP K (mem r') H' vs ds → Q vs H') → tPairs (trs.map fun t => (TD K W t.1, TD K W t.2)) σ H Q
  | [], H, r, P, Q, o, h, k => k [] r [] H h o (fun _ _ i => i) ⟨.nil, .nil⟩
  | (tk, tv) :: l, H, r, P, Q, o, h, k => by
    show TD K W tk σ H fun x H1 => TD K W tv σ H1 fun y H2 => tPairs (l.map fun t => (TD K W t.1, TD K W t.2)) σ H2 fun ps H3 => Q ((x, y) :: ps) H3
    refine td_bind o h fun dk r1 v H1 h1 o1 k1 i1 => td_bind o1 h1 fun dv r2 v2 H2 h2 o2 k2 i2 => prs_go o2 h2 fun ds r3 vs H3 h3 o3 k3 i3 => ?_
    exact k _ r3 _ H3 h3 o3 ((k1.trans k2).trans k3) ⟨.cons (k3 _ _ (k2 _ _ i1)) i3.1, .cons (k3 _ _ i2) i3.2⟩
def PDP (X : Cx) (W : WX) (pos : Pos) (keys : List (Option Expr)) (values : List Expr) (trs : List (AT × AT)) : Prop := PPs X pos keys values (trs.map fun t => (TD X.K W t.1, TD X.K W t.2))
section
variable {X : Cx} {W : WX} {pos : Pos}
theorem dp_nil : PDP X W pos [] [] [] := pps_nil
theorem dp_cons {k v : Expr} {ks : List (Option Expr)} {vs : List Expr} {tk tv : AT} {trs : List (AT × AT)} (hk : PD X W k tk) (hv : PD X W v tv) (hr : PDP X W pos ks vs trs) : PDP X W pos (some k :: ks) (v :: vs) ((tk, tv) :: trs) := pps_cons hk hv hr
end
def keysD : List (D × D) → Option (List (Key × D))
  | [] => some []
  | (k, v) :: l => match keyD k, keysD l with | some k, some l => some ((k, v) :: l) | _, _ => none
def mrg (es : List (Key × D)) (acc : List (Key × D)) : List (Key × D) := es.foldl (fun acc e => dPut acc e.1 e.2) acc
theorem keys_go {K : PySem.W.Frag} {N : Addr → Prop} {H : Hp} : ∀ {ds : List (D × D)} {vs : List (V × V)} {es : List (Key × D)}, IsPP K N H vs ds → keysD ds = some es → ∃ kvs : List (Key × V), vs = kvs.map (fun kv => (kV kv.1, kv.2)) ∧ kvs.length = es.length ∧ IsKV K N H kvs es
  | [], vs, es, ⟨h1, h2⟩, hk => by
    cases hk
    match vs, h1 with
    | [], _ => exact ⟨[], rfl, rfl, .nil⟩
  | (dk, dv) :: ds, vs, es, ⟨h1, h2⟩, hk => by
    match vs, h1, h2 with
    | (a, b) :: vs, .cons i1 t1, .cons i2 t2 =>
      unfold keysD at hk
      cases q : keyD dk with
      | none => rw [q] at hk; cases hk
      | some key =>
        cases q2 : keysD ds with
        | none => rw [q, q2] at hk; cases hk
        | some es2 =>
          rw [q, q2] at hk
          cases hk
          obtain ⟨kvs, e1, e2, e3⟩ := keys_go (vs := vs) ⟨t1, t2⟩ q2
          have := key_val q i1
          subst this
          exact ⟨(key, b) :: kvs, by rw [e1]; rfl, by simp [e2], .cons i2 e3⟩
theorem mrg_go {K : PySem.W.Frag} {N : Addr → Prop} {H : Hp} : ∀ {kvs : List (Key × V)} {es : List (Key × D)} {xs : List (Key × V)} {acc : List (Key × D)}, IsKV K N H kvs es → IsKV K N H xs acc → IsKV K N H (mergeK xs kvs) (mrg es acc)
  | [], _, _, _, hk, h => by cases hk; exact h
  | (k, v) :: kvs, _, xs, acc, hk, h => by
    cases hk with
    | @cons _ _ d _ es i t => exact (mrg_go (kvs := kvs) (es := es) (xs := putK xs k v) (acc := dPut acc k d) t (h.put i) : IsKV K N H (mergeK (putK xs k v) kvs) (mrg es (dPut acc k d)))
def aDispF (trs : List (AT × AT)) : AT := fun x δ r P => ∀ p, aPrs trs x δ (r ++ [dctA p []]) fun ps r2 => ∃ pre es, r2 = pre ++ [dctA p []] ∧ keysD ps = some es ∧ es.length ≤ 15 ∧ P (.dct ((mrg es []).map (·.1)) ((mrg es []).map (·.2))) pre
section
variable {X : Cx} {W : WX} {pos : Pos} {keys : List (Option Expr)} {values : List Expr} {trs : List (AT × AT)}
theorem d_dispF (h : PDP X W pos keys values trs) (hall : keys.all (·.isSome) = true := by rfl) (hl : keys.length = values.length := by rfl) (h0 : keys ≠ [] := by exact fun e => by cases e) (h15 : keys.length ≤ 15 := by decide) : PD X W (.Dict keys values pos) (aDispF trs) := imE (pe_disp h hall hl h0 h15) fun σ H Q q => by
  obtain ⟨XR, δ, r, P, o, h, k⟩ := q
  intro p hp
  obtain ⟨q1, q2⟩ := mid_new (t := dctA p []) rfl o.r hp (Ext.new hp) fun _ => ⟨[], upd_same, .nil⟩
  refine prs_go (o.step q2 q1) (h p) ?_
  rintro ds _ vs H2 ⟨pre, es, rfl, hk, he, hP⟩ o2 k2 i2
  obtain ⟨xs, e1, e2⟩ := dct_at o2.r ⟨pre, [], rfl⟩
  cases e2
  obtain ⟨kvs, g1, g2, g3⟩ := keys_go i2 hk
  obtain ⟨z1, z2⟩ := dct_put o2.r (mrg_go g3 .nil)
  obtain ⟨d1, d2, d3⟩ := dct_drop (post := []) z1
  rw [List.append_nil] at d1 d2 d3
  exact ⟨e1, kvs, g1, by rw [g2]; exact he, k _ _ _ _ hP (o2.step (z2.trans d3) d1) ((q2.trans k2).trans (z2.trans d3)) d2⟩
end
end G
namespace G
open PySem PySem.Spec L2
end G
namespace G
open PySem PySem.Spec L2
theorem own_more {r t : Rs} {a : Addr} {xs : List D} (h : Own r a xs) : Own (r ++ t) a xs := by
  obtain ⟨pre, post, rfl⟩ := h
  exact ⟨pre, post ++ t, by rw [List.append_assoc]; rfl⟩
variable {K : PySem.W.Frag}
end G
namespace G
open PySem
end G
namespace G
open PySem PySem.Spec L2
open PyProof.Rows (envOfC)
inductive Pt where | n (i : Nat) | t (is : List Nat)
def gP2 : List Pt → List D → Dl → (Dl → Prop) → Prop
  | [], ds, δ, Q => ds = [] ∧ Q δ
  | .n i :: ps, ds, δ, Q => (match ds with | d :: ds => gP2 ps ds (δ.set i (some d)) Q | [] => False)
  | .t is :: ps, ds, δ, Q => (match ds with | .tup es :: ds => es.length = is.length ∧ gP2 ps ds (setAll δ is es) Q | _ => False)
def gM (ps : List Pt) : AG := fun d δ Q => match d with | .tup ds => ds.length = ps.length ∧ gP2 ps ds δ Q | _ => False
end G
namespace G
open PySem PySem.Spec L2
open PyProof.Rows (envOfC)
end G
namespace G
open PySem PySem.Spec L2
open PyProof.Rows (envOfC)
end G
namespace G
open PySem PySem.Spec L2
open PyProof.Rows (envOfC)
end G
namespace G
open PySem PySem.Spec L2
open PyProof.Rows (envOfC)
structure oRep (x y : D) (k : D → Prop) : Prop where
  ex : ∃ ds, ∃ n : Nat, x = .lst ds ∧ y = .int n ∧ n ≤ 1000000 ∧ small (ds.length * n) ∧ k (.lst (List.replicate n ds).flatten)
theorem IsAll.rep {K : PySem.W.Frag} {N : Addr → Prop} {H : Hp} {vs : List V} {ds : List D} (h : IsAll K N H vs ds) : ∀ n : Nat, IsAll K N H (List.replicate n vs).flatten (List.replicate n ds).flatten
  | 0 => .nil
  | n + 1 => by
    rw [List.replicate_succ, List.replicate_succ, List.flatten_cons, List.flatten_cons]
    exact h.append (IsAll.rep h n)
theorem p_rep {X : Cx} : OpR X (binaryOp .Mult) (rD X.K oRep) := by
  rintro pins s σ H x y v u Q I rx ry ⟨r, d1, d2, P, hr, i1, i2, ⟨ds, n, rfl, rfl, hn, hz, ho⟩, k⟩
  cases i1 with
  | lst nm hl al =>
    cases i2
    refine op_rep pins s σ H _ _ v u Q I rx ry ⟨_, _, _, rfl, rfl, hl, by omega, by omega, by rw [al.length, Int.toNat_natCast]; exact hz.sz, fun p hp => ?_⟩
    rw [Int.toNat_natCast]
    exact k _ _ _ ho (Ext.new hp) (new_lst hr hp (al.rep n))
end G
namespace G
open PySem PySem.Spec L2
open PyProof.Rows (envOfC)
end G
namespace G
open PySem PySem.Spec L2
open PyProof.Rows (envOfC)
end G
namespace G
open PySem PySem.Spec L2
open PyProof.Rows (envOfC)
theorem kit_list {K : PySem.W.Frag} {T : String} (ht : Ty5 T) : PySem.W.kitOne K (.type "list") (.type T) = some (T == "list") := by
  have := kit5 (K := K) ht (.lst []) rfl
  have e : isTy T (.lst []) = (T == "list") := by cases ht <;> decide
  rw [e] at this
  exact this
end G
namespace G
open PySem PySem.Spec L2
open PyProof.Rows (envOfC)
end G
namespace G
open PySem PySem.Spec L2
open PyProof.Rows (envOfC)
end G
namespace G
open PySem PySem.Spec L2
open PyProof.Rows (envOfC)
end G
namespace G
open PySem PySem.Spec L2
open PyProof.Rows (envOfC)
end G
namespace G
open PySem PySem.Spec L2
open PyProof.Rows (envOfC)
end G
namespace G
open PySem PySem.Spec L2 PyProof.Rows
end G
namespace G
open PySem PySem.Spec L2 PyProof.Rows
end G
namespace G
open PySem PySem.Spec L2
open PyProof.Rows (envOfC)
end G
namespace G
open PySem PySem.Spec L2 PyProof.Rows
def rLenI (C : Addr) (sp : Sp) : List V → Hp → VK → Prop := fun vs H Q => ∃ a dx kvs, vs = [.ref a] ∧ H a = some (.ins C dx kvs) ∧ sp [.ref a] H (fun v H' => ∃ n : Nat, v = .int (n : Nat) ∧ n ≤ 1000000 ∧ Q v H') E0
def aLenI (C : Addr) (sd : SpX) (l : AL) : AT := fun x δ r P => l x δ r fun ds r1 => ∃ d, ds = [d] ∧ isC C d r1 ∧ sd [d] r1 (fun d r2 => ∃ n : Nat, d = .int (n : Nat) ∧ n ≤ 1000000 ∧ P d r2) noX
section
variable {X : Cx} {W : WX} {k j : Nat} {C g : Addr} {sp : Sp} {sd : SpX} {l : AL} {e : Expr} {es : List Expr} {pos p : Pos}
theorem cr_lenI (M : GiK X.K C g "__len__") (F : FnR X.prog X.w X.K X.mg X.base (L2.CX X.prog X.w) k g sp) (hr : Room (k + 1) X.A) : CallR X (.builtin "len") (rLenI C sp) := by
  intro pins s σ H vs us Q I rv h
  obtain ⟨a, dx, kvs, rfl, ha, q⟩ := h
  obtain ⟨u, rfl, rx⟩ := vals1 rv
  obtain rfl : u = Value.ref a := rx
  obtain ⟨mA, O, _⟩ := ins_get I.hok ha
  obtain ⟨od, J, _⟩ := O.look
  obtain ⟨m, hF⟩ := I.fr
  refine PySem.W.len_K hF I.ok.mod.kin J M.at_ M.fn ?_
  refine thn (call_in1 (us := [.ref a]) (vs := [.ref a]) F hr passE I (.cons rfl .nil) q) fun w s' z => ?_
  obtain ⟨z', H', I', rz, n, en, hn, qz⟩ := z
  subst en
  obtain ⟨t, rfl⟩ := rz
  refine ⟨⟨Int.natCast_nonneg _, ?_⟩, ?_⟩
  · have : (n : Int) ≤ 1000000 := by omega
    exact Int.lt_of_le_of_lt this (by decide)
  · exact ⟨.int _, H', I'.tok _, ⟨_, rfl⟩, qz⟩
theorem d_lenI (M : ClG X.prog X.w X.K X.mg X.base k C "__len__" sd) (hr : Room j X.A) (hg : Gl X "len") (hm : X.mg "len" = none) (ha : PDL X W (e :: es) l) (hj : k + 1 ≤ j := by first | decide | exact Nat.le_refl _ | omega)
    (he : starEach (e :: es) X.env = (false, eval e X.env) :: starEach es X.env := by rfl) (hpl : (backTo pos (starEach es X.env)).any (·.1) = false := by rfl) : PD X W (.Call (.Name "len" p) (e :: es) [] pos) (aLenI C sd l) := by
  obtain ⟨g, M, F⟩ := M
  refine imE (pe_callB (cr_lenI M F (hr.mono hj)) hg hm (by decide +kernel) ha (by decide) (by decide) he hpl) fun σ H Q q => ?_
  obtain ⟨XR, δ, r, P, ok, h, kk⟩ := q
  refine tdl_bind ok h fun ds r1 vs H1 ⟨d, ed, hc, h1⟩ o1 k1 i1 => ?_
  subst ed
  cases i1 with
  | cons i1 t =>
    cases t
    obtain ⟨a, dx, kvs, rfl, s, gd⟩ := isC_at hc o1.r i1
    refine ⟨a, dx, kvs, rfl, s, lift_n o1 (.cons i1 .nil) h1 fun d' r' v H' p o3 k3 i3 => ?_⟩
    obtain ⟨n, rfl, hn, p⟩ := p
    cases i3
    exact ⟨n, rfl, hn, kk _ r' _ H' p o3 (k1.trans k3) (.int _)⟩
end
end G
namespace G
open PySem PySem.Spec L2
def DctV (r : Rs) (d : D) (kvs : List (Key × D)) : Prop := (∃ a, d = .adr a ∧ (OwnD r a kvs ∨ OwnLk r a kvs)) ∨ d = .dct (kvs.map (·.1)) (kvs.map (·.2))
theorem zip_unz : ∀ (kvs : List (Key × D)), (kvs.map (·.1)).zip (kvs.map (·.2)) = kvs
  | [] => rfl
  | (a, b) :: l => by rw [List.map_cons, List.map_cons, List.zip_cons_cons, zip_unz l]
theorem oDGet.of {r : Rs} {d y : D} {kvs : List (Key × D)} {key : Key} {k : Option D → Prop} (h : DctV r d kvs) (hk : keyD y = some key) (p : k (dGet kvs key)) : oDGet r d y k := by
  rcases h with ⟨a, rfl, ow | ow⟩ | rfl
  · exact .own ow hk p
  · exact .lck ow hk p
  · exact .fro hk (by rw [zip_unz]; exact p)
theorem DctV.at_ {K : PySem.W.Frag} {r : Rs} {H : Hp} {d : D} {v : V} {kvs : List (Key × D)} (h : DctV r d kvs) (ro : Rok K r H) (i : Is K (mem r) H v d) : ∃ a xs, v = .ref a ∧ Rd H a (.dK xs) ∧ IsKV K (mem r) H xs kvs := by
  rcases h with ⟨a, rfl, ow | ow⟩ | rfl
  · cases i
    obtain ⟨xs, e1, e2⟩ := dct_at ro ow
    exact ⟨a, xs, rfl, .inl e1, e2⟩
  · cases i
    obtain ⟨xs, e1, e2⟩ := lck_at ro ow
    exact ⟨a, xs, rfl, e1, e2⟩
  · cases i with
    | dct n h e a =>
      have := IsKV.of_zip a
      rw [e, zip_unz] at this
      exact ⟨_, _, rfl, .inl h, this⟩
end G
namespace GB
open PySem PySem.Spec PySem.W PyProof.Rows
/-- t looks the names up in the dict at D, one behind another, and goes on as r -/
def KwTo {α : Type} (D : Addr) : List (Str × Value) → Sem α → Sem α → Prop
  | [], t, r => t = r
  | q :: l, t, r => ∃ (β γ : Type) (k1 : Option Value → Sem β) (k2 : β → Sem γ) (k3 : γ → Sem α) (a : β), t = ((nsGet D q.1 >>= k1) >>= k2) >>= k3 ∧ k1 (some q.2) = pure a ∧ KwTo D l (k2 a >>= k3) r
theorem KwTo.run {α : Type} {K : Frag} {M : Model} {A : Around} {D : Addr} {E : Value → Shared → Prop} {s : Shared} {Q : α → Shared → Prop} (X : K.In s.heap) : ∀ {l : List (Str × Value)} {t r : Sem α}, (∀ q ∈ l, nsIn K D q.1 = some (some q.2)) → KwTo D l t r → wpAny M A r Q E s → wpAny M A t Q E s
  | [], t, r, _, e, h => by rw [show t = r from e]; exact h
  | q :: l, t, r, hl, e, h => by
    obtain ⟨β, γ, k1, k2, k3, a, e1, e2, e3⟩ := e
    have ih := KwTo.run X (fun p hp => hl p (List.mem_cons_of_mem _ hp)) e3 h
    have L : Looks M s.heap (nsGet D q.1 >>= k1) a := (looks_nsIn X (hl q List.mem_cons_self)).andThen (Looks.of_pure e2)
    rw [e1, bind_assoc]
    exact wpAny_bind (L.here ih)
end GB
namespace G
open PySem PySem.Spec L2
open PyProof.Rows (envOfC)
/-- the promise of such a def: what stands ahead, the keyword's value, the rest -/
def kwP (n : Nat) (sd : SpX) : SpX := fun ds r P XR => ∃ a rest z, ds = a ++ (rest ++ [z]) ∧ a.length = n ∧ rest.length ≤ 1000000 ∧ sd (a ++ [z, .tup rest]) r P XR
/-- the same called without the keyword: z is the default -/
def kw0P (n : Nat) (z : D) (sd : SpX) : SpX := starP n fun ds r P XR => ∃ a t, ds = a ++ [t] ∧ a.length = n ∧ sd (a ++ [z, t]) r P XR
/-- called with one keyword, its value behind the others -/
def FRK (P : Program) (w : World) (K : PySem.W.Frag) (mg : Str → Option Value) (base : Heap) (k : Nat) (f : Addr) (ks : Str) (sd : SpX) : Prop :=
  ∀ (A : Around) (outer : List Env) (s : Shared) (H : Hp) (us : List Value) (w1 : Value) (vs : List V) (z : V) (Q : VK) (E : XK), Room k A → Env0 P w K mg base A outer s H → Vals vs us → RelV z w1 → lift K sd (vs ++ [z]) H Q E →
    codeAny (model P w) A (.call (.ref f) ⟨us, [(ks, w1)]⟩) (CR (L2.CX P w) outer P w H s Q E) s
end G
namespace G
open PySem PySem.Spec L2
open PyProof.Rows (envOfC)
def ClNK (P : Program) (w : World) (K : PySem.W.Frag) (mg : Str → Option Value) (base : Heap) (k : Nat) (C : Addr) (pk : Str) (z : D) (sd : SpX) : Prop := ∃ f, Mk K C f ∧ FR P w K mg base k f (kw0P 1 z sd) ∧ FRK P w K mg base k f pk (kwP 1 sd)
section
variable {P : Program} {w : World} {K : PySem.W.Frag} {mg : Str → Option Value} {base : Heap}
theorem ClNK.n {C : Addr} {pk : Str} {z : D} {k : Nat} {sd : SpX} (h : ClNK P w K mg base k C pk z sd) : ClN P w K mg base k C [] (kw0P 1 z sd) := by
  obtain ⟨f, M, F, _⟩ := h
  refine ⟨f, M, fun j hj => ?_⟩
  have e : (fun (ds : List D) (r : Rs) (P : PK1) (XR : XD) => kw0P 1 z sd (ds ++ ([] : List D).drop j) r P XR) = kw0P 1 z sd := by
    funext ds r P XR
    rw [List.drop_nil, List.append_nil]
  rw [e]
  exact F
end
end G
namespace G
open PySem PySem.Spec L2 PyProof.Rows
end G
namespace G
open PySem PySem.Spec L2
def sm (l : List (Str × Str)) : List (Key × D) := l.map fun e => (.inr e.1, .str e.2)
def sGet (l : List (Str × Str)) (z : Str) : Option Str := (l.find? fun e => decide (e.1 = z)).map (·.2)
theorem sm_get (z : Str) : ∀ l : List (Str × Str), dGet (sm l) (.inr z) = (sGet l z).map D.str
  | [] => rfl
  | e :: l => by
    have ih := sm_get z l
    unfold sGet at ih ⊢
    unfold dGet at ih ⊢
    show Option.map _ (List.find? _ ((Sum.inr e.1, D.str e.2) :: sm l)) = _
    rw [List.find?_cons, List.find?_cons]
    by_cases h : e.1 = z
    · rw [show decide ((Sum.inr e.1 : Key) = Sum.inr z) = true from decide_eq_true (by rw [h]), show decide (e.1 = z) = true from decide_eq_true h]
      rfl
    · rw [show decide ((Sum.inr e.1 : Key) = Sum.inr z) = false from decide_eq_false fun q => h (Sum.inr.inj q), show decide (e.1 = z) = false from decide_eq_false h]
      exact ih
inductive SeqV (r : Rs) : D → List D → Prop
  | lst (xs : List D) : SeqV r (.lst xs) xs
  | tup (xs : List D) : SeqV r (.tup xs) xs
  | own {l : Addr} {xs : List D} (h : Own r l xs) : SeqV r (.adr l) xs
theorem SeqV.at_ {K : PySem.W.Frag} {r : Rs} {H : Hp} {d : D} {v : V} {xs : List D} (h : SeqV r d xs) (ro : Rok K r H) (i : Is K (mem r) H v d) : ∃ a vs, v = .ref a ∧ (SqT K H a vs ∨ SqL K H a vs) ∧ IsAll K (mem r) H vs xs := by
  cases h with
  | lst => cases i with | lst n s al => exact ⟨_, _, rfl, .inr (SqL.of s), al⟩
  | tup => cases i with | tup s al => exact ⟨_, _, rfl, .inl s, al⟩
  | own ow =>
    cases i
    obtain ⟨vs, h, al⟩ := own_get ro ow
    exact ⟨_, vs, rfl, .inr (SqL.of h), al⟩
end G
namespace G
open PySem PySem.Spec L2
end G
namespace G
open PySem PySem.Spec L2
theorem app_mem {α : Type} {x : α} {l : List α} (h : x ∈ l) : ∃ pre post, l = pre ++ x :: post := List.append_of_mem h
end G
namespace G
open PySem PySem.Spec L2
theorem DctV.mono {r r' : Rs} {d : D} {kvs : List (Key × D)} (h : DctV r d kvs) (m : ∀ t, t ∈ r → t ∈ r') : DctV r' d kvs := by
  rcases h with ⟨a, e, ⟨pre, post, er⟩ | ⟨pre, post, od, xs, er⟩⟩ | e
  · obtain ⟨p2, q2, e2⟩ := app_mem (m _ (by rw [er]; exact List.mem_append.mpr (.inr List.mem_cons_self)))
    exact .inl ⟨a, e, .inl ⟨p2, q2, e2⟩⟩
  · obtain ⟨p2, q2, e2⟩ := app_mem (m _ (by rw [er]; exact List.mem_append.mpr (.inr List.mem_cons_self)))
    exact .inl ⟨a, e, .inr ⟨p2, q2, od, xs, e2⟩⟩
  · exact .inr e
theorem DctV.own {r : Rs} {a : Addr} {kvs : List (Key × D)} (h : dctA a kvs ∈ r) : DctV r (.adr a) kvs := by
  obtain ⟨p2, q2, e2⟩ := app_mem h
  exact .inl ⟨a, rfl, .inl ⟨p2, q2, e2⟩⟩
inductive SetV (F : Str) (CS : Addr) (r : Rs) : D → List (Str × Str) → Prop
  | fro (l : List (Str × Str)) : SetV F CS r (.ins CS [F] [.dct ((sm l).map (·.1)) ((sm l).map (·.2))]) l
  | own {a c : Addr} {l : List (Str × Str)} (h1 : insA a CS [F] [.adr c] ∈ r) (h2 : dctA c (sm l) ∈ r) : SetV F CS r (.adr a) l
section
variable {F : Str} {CS : Addr} {r r' : Rs} {d : D} {l : List (Str × Str)} {P : PK1}
theorem SetV.mono (h : SetV F CS r d l) (m : ∀ t, t ∈ r → t ∈ r') : SetV F CS r' d l := by
  cases h with
  | fro => exact .fro l
  | own h1 h2 => exact .own (m _ h1) (m _ h2)
end
end G
namespace G
open PySem PySem.Spec L2
end G
namespace G
open PySem PySem.Spec L2
end G
namespace G
open PySem PySem.Spec L2
end G
namespace G
open PySem PySem.Spec L2
def repS (z : Str) (n : Nat) : Str := ⟨(List.replicate n z.cps).foldl (· ++ ·) #[]⟩
theorem rep_all (p : Nat → Bool) (c : Array Nat) (hc : c.all p = true) : ∀ (n : Nat) (acc : Array Nat), acc.all p = true → ((List.replicate n c).foldl (· ++ ·) acc).all p = true
  | 0, _, h => h
  | n + 1, acc, h => by
    rw [List.replicate_succ, List.foldl_cons]
    exact rep_all p c hc n _ (by rw [Array.all_append]; exact Bool.and_eq_true_iff.mpr ⟨h, hc⟩)
theorem rep_size (c : Array Nat) : ∀ (n : Nat) (acc : Array Nat), ((List.replicate n c).foldl (· ++ ·) acc).size = acc.size + n * c.size
  | 0, acc => by simp
  | n + 1, acc => by
    rw [List.replicate_succ, List.foldl_cons, rep_size c n, Array.size_append, Nat.succ_mul]
    omega
theorem repS_len (z : Str) (n : Nat) : (repS z n).length = n * z.length := by
  show ((List.replicate n z.cps).foldl (· ++ ·) #[]).size = _
  rw [rep_size]
  simp
  rfl
theorem sok_rep {z : Str} {n : Nat} (h : sok z) (hn : n * z.length ≤ 1000000) : sok (repS z n) := by
  refine ⟨?_, by rw [repS_len]; exact hn⟩
  exact rep_all _ _ h.1 n #[] (by simp)
end G
namespace G
open PySem PySem.Spec L2
theorem seq_cut {t1 t2 : AS} {A : An} {δ : Dl} {r : Rs} (C : Dl → Rs → Prop) (h2 : ∀ δ' r', C δ' r' → t2 A δ' r') (h1 : ∀ NX : Dl → Rs → Prop, (∀ δ' r', C δ' r' → NX δ' r') → t1 { A with nx := NX } δ r) : sSeq t1 t2 A δ r := h1 (fun δ' r' => t2 A δ' r') h2
end G
namespace G
open PySem PySem.Spec L2
end G
namespace G
open PySem PySem.Spec L2
structure oLenV (r : Rs) (ds : List D) (k : D → Prop) : Prop where
  ex : ∃ d xs, ds = [d] ∧ SeqV r d xs ∧ k (.int (xs.length : Nat))
theorem c_lenV {X : Cx} : CallR X (.builtin "len") (rC2 X.K oLenV) := by
  rintro pins s σ H vs us Q I rv ⟨r, ds, P, hr, i, ⟨d, xs, rfl, hd, ho⟩, k⟩
  cases i with
  | cons i t =>
    cases t
    obtain ⟨a, ws, rfl, hq, al⟩ := hd.at_ hr i
    refine call_len_seq pins s σ H _ us Q I rv ⟨a, ws, rfl, hq.symm, ?_⟩
    rw [al.length]
    exact k _ _ H ho (Ext.refl H) (.int _)
structure oTupV (r : Rs) (ds : List D) (k : D → Prop) : Prop where
  ex : ∃ d xs, ds = [d] ∧ SeqV r d xs ∧ k (.tup xs)
theorem c_tupV {X : Cx} : CallR X (.type "tuple") (rC2 X.K oTupV) := by
  rintro pins s σ H vs us Q I rv ⟨r, ds, P, hr, i, ⟨d, xs, rfl, hd, ho⟩, k⟩
  cases i with
  | cons i t =>
    cases t
    obtain ⟨a, ws, rfl, hq, al⟩ := hd.at_ hr i
    rcases hq with hq | hq
    · exact call_tuple_of pins s σ H _ us Q I rv ⟨a, ws, rfl, .inr ⟨hq, k _ _ H ho (Ext.refl H) (.tup hq al)⟩⟩
    · exact call_tuple_of pins s σ H _ us Q I rv ⟨a, ws, rfl, .inl ⟨hq, fun p hp => k _ _ _ ho (Ext.new hp) (new_tup hp al)⟩⟩
theorem SeqV.plus {r t : Rs} {d : D} {xs : List D} (h : SeqV r d xs) : SeqV (r ++ t) d xs := by
  cases h with
  | lst => exact .lst _
  | tup => exact .tup _
  | own h => exact .own (own_more h)
end G
namespace G
open PySem PySem.Spec L2
def aIsiV2 (T U : String) (ta : AT) : AT := fun x δ r P => ta x δ r fun d r1 => (∃ l xs, d = .adr l ∧ Own r1 l xs ∧ P (.bl (T == "list" || U == "list")) r1) ∨ (noAdr d = true ∧ P (.bl (isTy T d || isTy U d)) r1)
theorem d_isiV2 {X : Cx} {W : WX} {a : Expr} {ta : AT} {p pos : Pos} {T U : String} {q q2 q3 : Pos} {kk} {y z : Str} (ht : Ty5 T) (hu : Ty5 U) (hg : Gl X "isinstance") (hm : X.mg "isinstance" = none) (ha : PD X W a ta) (gy : Gl X y) (my : X.mg y = none) (gz : Gl X z) (mz : X.mg z = none) (by_ : bootBuiltins y = some (.type T) := by decide +kernel) (bz : bootBuiltins z = some (.type U) := by decide +kernel)
    (hny : y ≠ "__name__" := by decide) (hdy : (y == ("__debug__" : Str)) = false := by decide) (hnz : z ≠ "__name__" := by decide) (hdz : (z == ("__debug__" : Str)) = false := by decide)
    (he : starEach [a, .Tuple [.Name y q, .Name z q2] kk q3] X.env = (false, eval a X.env) :: starEach [.Tuple [.Name y q, .Name z q2] kk q3] X.env := by rfl) (hpl : (backTo pos (starEach [.Tuple [.Name y q, .Name z q2] kk q3] X.env)).any (·.1) = false := by rfl)
    (he2 : starEach [.Tuple [.Name y q, .Name z q2] kk q3] X.env = (false, eval (.Tuple [.Name y q, .Name z q2] kk q3) X.env) :: starEach [] X.env := by rfl)
    (he3 : starEach [.Name y q, .Name z q2] X.env = (false, eval (.Name y q) X.env) :: starEach [.Name z q2] X.env := by rfl) (he4 : starEach [.Name z q2] X.env = (false, eval (.Name z q2) X.env) :: starEach [] X.env := by rfl) :
    PD X W (.Call (.Name "isinstance" p) [a, .Tuple [.Name y q, .Name z q2] kk q3] [] pos) (aIsiV2 T U ta) :=
  imE (pe_callB call_isiT hg hm (by decide +kernel) (pa_cons ha (pa_cons (pe_tup (pa_cons (pe_bltn (v := .ty T) gy my by_ rfl hny hdy) (pa_cons (pe_bltn (v := .ty U) gz mz bz rfl hnz hdz) pa_nil he4) he3)) pa_nil he2) he) (by decide) (by decide) he hpl) fun σ H Q q => by
  obtain ⟨XR, δ, r, P, ok, h, k⟩ := q
  refine td_bind ok h fun d r1 v H1 h1 o1 k1 i1 => ⟨(by decide : 2 ≤ sizeLine), fun tp htp => ?_⟩
  rcases h1 with ⟨l, xs, rfl, ow, h1⟩ | ⟨n, h2⟩
  · cases i1
    obtain ⟨vs, h2, al⟩ := own_get o1.r ow
    have h3 := Ext.new htp (o := .tup [.ty T, .ty U]) _ _ h2
    refine ⟨.ref l, tp, _, _, [.type T, .type U], T == "list" || U == "list", rfl, upd_same, .cons (.ty T) (.cons (.ty U) .nil), .base (.lst h3), ?_, k _ r1 _ _ h1 (o1.new htp) (k1.trans (Kp.ext (Ext.new htp))) (.bl _)⟩
    exact kitAny_cons (kit_list ht) (fun e => by rw [e, Bool.false_or]; exact kitAny_cons (kit_list hu) (fun e => by rw [e]; exact kitAny_nil) (fun e => e)) (fun e => by rw [e]; rfl)
  · obtain ⟨t0, ty0, kt0⟩ := tyX2 (is_ext (Ext.new htp (o := .tup [.ty T, .ty U])) _ _ i1) n
    refine ⟨v, tp, _, _, [.type T, .type U], isTy T d || isTy U d, rfl, upd_same, .cons (.ty T) (.cons (.ty U) .nil), ty0, ?_, k _ r1 _ _ h2 (o1.new htp) (k1.trans (Kp.ext (Ext.new htp))) (.bl _)⟩
    exact kitAny_cons (kt0 T ht) (fun e => by rw [e, Bool.false_or]; exact kitAny_cons (kt0 U hu) (fun e => by rw [e]; exact kitAny_nil) (fun e => e)) (fun e => by rw [e]; rfl)
end G
namespace G
open PySem PySem.Spec L2
def ItS (Sq : Hp → List V → Prop) : It := ⟨fun i H => ∃ xs x, Sq H xs ∧ xs[i]? = some x, fun i H x H' => H' = H ∧ ∀ xs, Sq H xs → xs[i]? = some x, fun i H => ∃ xs, Sq H xs ∧ xs.length ≤ i⟩
structure aLcVK (x : XT) (g : AG) (tt : AB) (te : AT) (δw : Dl) (d0 : D) (xs : List D) (r1 : Rs) (P : PK1) : Prop where
  ex : ∃ I : Nat → List D → Rs → Prop, I 0 [] r1 ∧ (∀ i acc r', I i acc r' → SeqV r' d0 xs) ∧
  (∀ (p : Addr) i d acc r', xs[i]? = some d → I i acc r' → g d δw fun δ2 => tt x δ2 (r' ++ [lstA p acc]) fun b r2 =>
    (b = true → te x δ2 r2 fun y r3 => small (acc.length + 1) ∧ ∃ r4, le r3 (r4 ++ [lstA p acc]) ∧ I (i + 1) (acc ++ [y]) r4) ∧ (b = false → ∃ r4, le r2 (r4 ++ [lstA p acc]) ∧ I (i + 1) acc r4)) ∧
  ∀ acc r', I xs.length acc r' → P (.lst acc) r'
def aLcV (ta : AT) (g : AG) (tt : AB) (te : AT) (vs : List Nat) : AT := fun x δ r P => ta x δ r fun d r1 => ∃ xs, aLcVK x g tt te (wipeD δ vs) d xs r1 P
theorem SeqV.l_or_t {r : Rs} {d : D} {xs : List D} (h : SeqV r d xs) : (∀ {K : PySem.W.Frag} {r' : Rs} {H' : Hp} {a : Addr}, SeqV r' d xs → Rok K r' H' → Is K (mem r') H' (.ref a) d → ∃ ws, SqL K H' a ws ∧ IsAll K (mem r') H' ws xs) ∨ (∀ {K : PySem.W.Frag} {r' : Rs} {H' : Hp} {a : Addr}, SeqV r' d xs → Rok K r' H' → Is K (mem r') H' (.ref a) d → ∃ ws, SqT K H' a ws ∧ IsAll K (mem r') H' ws xs) := by
  cases h with
  | lst =>
    refine .inl fun {K r' H' a} _ ro i => ?_
    cases i
    rename_i n s al
    exact ⟨_, SqL.of s, al⟩
  | tup =>
    refine .inr fun {K r' H' a} _ ro i => ?_
    cases i
    rename_i s al
    exact ⟨_, s, al⟩
  | own h =>
    refine .inl fun {K r' H' a} h2 ro i => ?_
    cases i
    cases h2
    rename_i ow
    obtain ⟨ws, e1, e2⟩ := own_get ro ow
    exact ⟨ws, SqL.of e1, e2⟩
variable {K : PySem.W.Frag}
theorem lcV_core {W : WX} {XR : XT} {g : AG} {tt : AB} {te : AT} {vs js : List Nat} (hj : ∀ j ∈ js, j ∈ vs) {σ : L2.St} {H1 : Hp} {Q : VK} {δ : Dl} {r1 : Rs} {P : PK1} {a : Addr} {d0 : D} {xs : List D} {Sq : Hp → List V → Prop} (o1 : Ok K W XR r1 δ σ H1) (i1 : Is K (mem r1) H1 (.ref a) d0)
    (sq : ∀ {r' : Rs} {H' : Hp}, SeqV r' d0 xs → Rok K r' H' → Is K (mem r') H' (.ref a) d0 → ∃ ws, Sq H' ws ∧ IsAll K (mem r') H' ws xs) (h : aLcVK XR g tt te (wipeD δ vs) d0 xs r1 P)
    (k : ∀ d r' v H', P d r' → Ok K W XR r' δ σ H' → Kp K r1 H1 r' H' → Is K (mem r') H' v d → Q v H') : ∀ D, H1 D = none → ∃ Wn : Nat → Nat → Hp → Prop, (∃ m, Wn 0 m (upd H1 D (.lst []))) ∧ ∀ i m H, Wn i m H →
    ((ItS Sq).stop i H ∧ Q (.ref D) H) ∨ ((ItS Sq).go i H ∧ ∃ Nx : Hp → Prop, (∀ H', Nx H' → ∃ m', m' < m ∧ Wn (i + 1) m' H') ∧ ∀ x H', (ItS Sq).yld i H x H' → TDG K js g x (wipe σ vs) H' fun σ2 H2 => wipe σ2 vs = wipe σ vs ∧ TDB K W tt σ2 H2 fun b H3 =>
      if b = true then TD K W te σ2 H3 fun y H4 => ∃ acc, H4 D = some (.lst acc) ∧ acc.length < sizeLine ∧ Nx (upd H4 D (.lst (acc ++ [y]))) else Nx H3) := by
  obtain ⟨I, h0, how, hst, hd⟩ := h
  intro p hp
  obtain ⟨s1, s2⟩ := rok_plus o1.r hp
  refine ⟨fun i m H' => m = xs.length - i ∧ i ≤ xs.length ∧ ∃ acc r', I i acc r' ∧ Rok K (r' ++ [lstA p acc]) H' ∧ Kp K r1 H1 (r' ++ [lstA p acc]) H', ⟨xs.length, by simp, Nat.zero_le _, [], r1, h0, s1, s2⟩, ?_⟩
  rintro i m H' ⟨rfl, hi, acc, r', hI, ro, kp⟩
  obtain ⟨ws, w1, w2⟩ := sq (SeqV.plus (how _ _ _ hI)) ro (kp _ _ i1)
  by_cases hlt : i < xs.length
  · refine .inr ⟨⟨ws, ws[i]'(by rw [w2.length]; exact hlt), w1, by simp⟩, fun H2 => ∃ acc r2, I (i + 1) acc r2 ∧ Rok K (r2 ++ [lstA p acc]) H2 ∧ Kp K r1 H1 (r2 ++ [lstA p acc]) H2, fun H2 ⟨acc, r2, q1, q2, q3⟩ => ⟨xs.length - (i + 1), by omega, rfl, hlt, acc, r2, q1, q2, q3⟩, fun x H2 y => ?_⟩
    obtain ⟨rfl, hx⟩ := y
    obtain ⟨d, hd', ix⟩ := w2.get (hx ws w1)
    have o2 : Ok K W XR (r' ++ [lstA p acc]) (wipeD δ vs) (wipe σ vs) H2 := (o1.step kp ro).wipe vs
    refine ⟨W, XR, wipeD δ vs, _, d, _, o2, ix, hst p i d acc r' hd' hI, fun δ2 σ2 q o3 ag => ⟨wipe_agree ag hj, XR, δ2, _, _, o3, q, fun b r3 H3 q3 o4 k4 => ?_⟩⟩
    cases b with
    | true =>
      show TD K W te σ2 H3 _
      refine td_bind o4 (q3.1 rfl) fun y r5 v H5 ⟨sz, r6, l6, h5⟩ o5 k5 i5 => ?_
      obtain ⟨ws, e1, e2, e3, e4⟩ := rok_more (le_rok l6 o5.r) (is_anti l6.m i5)
      refine ⟨ws, e1, by rw [e2]; exact Nat.lt_of_lt_of_le (Nat.lt_succ_self _) sz.sz, acc ++ [y], r6, h5, e3, fun v' d' z => e4 _ _ (is_anti l6.m (k5 _ _ (k4 _ _ (kp _ _ z))))⟩
    | false =>
      show ∃ acc r2, _
      obtain ⟨r6, l6, h5⟩ := q3.2 rfl
      exact ⟨acc, r6, h5, le_rok l6 o4.r, fun v' d' z => is_anti l6.m (k4 _ _ (kp _ _ z))⟩
  · have e : i = xs.length := by omega
    obtain ⟨d1, d2, d3⟩ := rok_done ro
    exact .inl ⟨⟨ws, w1, by rw [w2.length, e] <;> exact Nat.le_refl _⟩, k _ r' _ H' (hd acc r' (e ▸ hI)) (o1.step (kp.trans d3) d1) (kp.trans d3) d2⟩
theorem td_lcV {W : WX} {ta : AT} {g : AG} {tt : AB} {te : AT} {vs js : List Nat} (hj : ∀ j ∈ js, j ∈ vs) {σ : L2.St} {H : Hp} {Q : VK} (q : TD K W (aLcV ta g tt te vs) σ H Q) : tLc (iAnyR K (TD K W ta)) (TDG K js g) (TDB K W tt) (TD K W te) vs σ H Q := by
  obtain ⟨XR, δ, r, P, o, h, k⟩ := q
  refine td_bind o h fun d r1 v H1 hh o1 k1 i1 => ?_
  obtain ⟨xs, hh⟩ := hh
  have hs : SeqV r1 d xs := by
    obtain ⟨I, h0, how, _⟩ := hh
    exact how _ _ _ h0
  obtain ⟨a, ws, rfl, _, _⟩ := hs.at_ o1.r i1
  have k2 : ∀ d r' v H', P d r' → Ok K W XR r' δ σ H' → Kp K r1 H1 r' H' → Is K (mem r') H' v d → Q v H' := fun d r' v H' p o2 kk i => k d r' v H' p o2 (k1.trans kk) i
  rcases hs.l_or_t with sq | sq
  · obtain ⟨ws, e1, _⟩ := sq hs o1.r i1
    exact ⟨a, rfl, .inl ⟨⟨ws, e1⟩, lcV_core (Sq := fun H xs => SqL K H a xs) hj o1 i1 sq hh k2⟩⟩
  · obtain ⟨ws, e1, _⟩ := sq hs o1.r i1
    exact ⟨a, rfl, .inr ⟨⟨ws, e1⟩, lcV_core (Sq := fun H xs => SqT K H a xs) hj o1 i1 sq hh k2⟩⟩
theorem d_lcV {X : Cx} {W : WX} {elt tg iter : Expr} {ifs : List Expr} {scope : Scope} {own : List (Str × Nat)} {pos : Pos} {js : List Nat} {ta : AT} {g : AG} {tt : AB} {te : AT} (hN : X.N.Nodup) (hi : PD X W iter ta) (ok : BlkOk X.N X.env.scope scope own)
    (hg : ∀ (s : Shared) (H : Hp) (C : Addr) (cl : List (Str × Addr)) (fp : List Addr), PDG (X.blk s H scope (compEnvC scope cl C X.env) fp) tg js g) (ht : ∀ (s : Shared) (H : Hp) (C : Addr) (cl : List (Str × Addr)) (fp : List Addr), PTs (X.blk s H scope (compEnvC scope cl C X.env) fp) ifs (TDB X.K W tt))
    (he : ∀ (s : Shared) (H : Hp) (C : Addr) (cl : List (Str × Addr)) (fp : List Addr), PD (X.blk s H scope (compEnvC scope cl C X.env) fp) W elt te) (hj : ∀ j ∈ js, j ∈ own.map (·.2) := by decide) (hc : X.calm = true := by rfl) (hs : ∀ x, foldedSetIterable iter X.env x = pure x := by intro _; rfl) :
    PD X W (.ListComp elt [⟨tg, iter, ifs, 0⟩] scope pos) (aLcV ta g tt te (own.map (·.2))) :=
  imE (pe_lc (g := TDG X.K js g) (tt := TDB X.K W tt) (te := TD X.K W te) hc hN (pi_any hi) ok hg ht he hs) fun _ _ _ q => td_lcV hj q
end G
namespace G
open PySem PySem.Spec L2
open PyProof.Rows (envOfC)
end G
namespace G
open PySem PySem.Spec L2
end G
namespace G
open PySem PySem.Spec L2
open PyProof.Rows (envOfC)
def ClMD (P : Program) (w : World) (K : PySem.W.Frag) (mg : Str → Option Value) (base : Heap) (k : Nat) (C : Addr) (m : Str) (dd : List D) (sd : SpX) : Prop := ∃ f, Meth K C m f ∧ ∀ j, j ≤ dd.length → FR P w K mg base k f (fun ds r P XR => sd (ds ++ dd.drop j) r P XR)
section
variable {P : Program} {w : World} {K : PySem.W.Frag} {mg : Str → Option Value} {base : Heap} {C : Addr} {m qual : Str} {st : Stmt} {N ps : List Str} {dd : List D} {k j : Nat} {sd : SpX}
/-- called with all but the last dd.length - j values -/
theorem ClMD.at_ (h : ClMD P w K mg base k C m dd sd) (j : Nat) (hj : j ≤ dd.length) : ClM P w K mg base k C m (fun ds r P XR => sd (ds ++ dd.drop j) r P XR) := by
  obtain ⟨f, M, F⟩ := h
  exact ⟨f, M, F j hj⟩
end
end G
namespace G
open PySem PySem.Spec L2
open PyProof.Rows (envOfC)
end G
namespace G
open PySem PySem.Spec L2
open PyProof.Rows (envOfC)
end G
namespace G
open PySem PySem.Spec L2
open PyProof.Rows (envOfC)
end G
namespace G
open PySem PySem.Spec L2
open PyProof.Rows (envOfC)
mutual
/-- flat things and tuples of such -/
def tt : D → Bool
  | .non => true | .bl _ => true | .int _ => true | .str _ => true | .adr _ => false | .lst _ => false | .tup ds => tts ds | .ins _ _ _ => false | .dct _ _ => false
def tts : List D → Bool
  | [] => true
  | d :: ds => tt d && tts ds
end
end G
namespace G
open PySem PySem.Spec L2
section
variable {prog : PySem.Program} {w : PySem.World} {K : Type} [DecidableEq K] {knd : PySem.KeyKind prog w K} {A : Around} {E : Value → Shared → Prop} {s : Shared}
theorem Paired.len {α β : Type} {R : α → β → Prop} {xs : List α} {ys : List β} (h : Paired R xs ys) : xs.length = ys.length := by
  induction h with
  | nil => rfl
  | cons _ _ ih => rw [List.length_cons, List.length_cons, ih]
end
end G
namespace G
open PySem PySem.Spec L2
end G
namespace G
open PySem PySem.Spec L2
end G
namespace G
open PySem PySem.Spec L2
structure oSplitL (x y : D) (k : D → Prop) : Prop where
  ex : ∃ a b, x = .str a ∧ y = .str b ∧ sepOk b = true ∧ a.length ≤ 900000 ∧ k (.lst ((Txt.split a b).map .str))
theorem d_splitL {X : Cx} {W : WX} {o e : Expr} {ta tb : AT} {apos pos : Pos} (ho : PD X W o ta) (he : PD X W e tb) (hs : starEach [e] X.env = [(false, eval e X.env)] := by rfl) (hbase : attributeBase o "split" X.env (eval o X.env) = eval o X.env := by rfl) (hline : (apos.endLine == pos.line) = true := by rfl) :
    PD X W (.Call (.Attribute o "split" apos) [e] [] pos) (aM1 oSplitL ta tb) := imE (pe_split ho he hs hbase hline) fun σ H Q ⟨XR, δ, r, P, ok, h, k⟩ => td_bind ok h fun d1 r1 v1 H1 h1 o1 k1 i1 => by
  cases i1 <;> try exact h1.elim
  rename_i z hz
  refine ⟨⟨z, rfl⟩, td_bind o1 h1 fun d2 r2 v2 H2 ⟨h2⟩ o2 k2 i2 => ?_⟩
  obtain ⟨a, b, e1, rfl, hb, hl, h2⟩ := h2
  cases e1
  cases i2
  exact ⟨z, b, rfl, rfl, sep_len hb, by rw [sizeLine_eq]; omega, fun p hp => k _ r2 _ _ h2 (o2.new hp) ((k1.trans k2).trans (Kp.ext (Ext.new hp))) (new_lst o2.r hp (all_soks fun x m => (split_sok hb hz x m).1))⟩
end G
namespace PySem.W
open PySem PySem.Spec PySem.Calls PyProof.Rows
end PySem.W
namespace L2
open PySem PySem.Spec PyProof.Rows
end L2
namespace G
open PySem PySem.Spec L2
/-- the exception's own dict is still told -/
def Hld (d : Option Addr) (r : Rs) : Prop := ∀ dx, d = some dx → ∃ fs ds pre post, r = pre ++ xdA dx fs ds :: post
theorem Hld.at_ {K : PySem.W.Frag} {d : Option Addr} {r : Rs} {H : Hp} (h : Hld d r) (o : Rok K r H) : ∀ dx, d = some dx → ∃ fs, H dx = some (.xd fs) := fun dx e => by
  obtain ⟨fs, ds, pre, post, rfl⟩ := h dx e
  obtain ⟨_, ⟨⟨kvs, h1, _, _⟩, _, _⟩, _⟩ := hold_append.mp (show hold K _ (pre ++ (xdA dx fs ds :: post)) H from o)
  exact ⟨kvs, h1⟩
end G
namespace G
open PySem PySem.Spec PyProof.Rows L2 LamX NdefX
/-- the function object of a lambda -/
def FnL (f : Addr) (F : NF) (body : Expr) : HO := .ext fun h => ∃ pm ctv : Value, h.get? f = some (PySem.W.kla_obj F.name F.qual F.params body F.scope F.cl pm F.c ctv)
def fnlA (f : Addr) (F : NF) (body : Expr) : At where
  M := fun a => a = f
  R := fun _ _ H => H f = some (FnL f F body)
  loc := fun g _ h => g _ _ rfl h
  anti := fun _ h => h
  grow := fun _ h => h
  al := fun {_ _ H} h a z => ⟨_, (congrArg H (show a = f from z)).trans h⟩
/-- the function object of an inner def -/
def fnA (f : Addr) (F : NF) : At where
  M := fun a => a = f
  R := fun _ _ H => H f = some (FnO f F)
  loc := fun g _ h => g _ _ rfl h
  anti := fun _ h => h
  grow := fun _ h => h
  al := fun {_ _ H} h a z => ⟨_, (congrArg H (show a = f from z)).trans h⟩
/-- the table of code objects at P, all of the name q; cs: those that stand in it -/
def tabA (P : Addr) (q : Str) (cs : List Addr) : At where
  M := fun a => a = P ∨ a ∈ cs
  R := fun _ _ H => (∃ ps : Array Value, H P = some (.tbl ps) ∧ TriplesOk ps.toList ∧ ∀ (pos : Pos) (cv : Value), codeAmong pos ps.toList = some cv → ∃ c ∈ cs, cv = .ref c) ∧ ∀ c ∈ cs, H c = some (CodeO c q)
  loc := fun g _ ⟨⟨ps, h1, h2, h3⟩, h4⟩ => ⟨⟨ps, g _ _ (.inl rfl) h1, h2, h3⟩, fun c hc => g _ _ (.inr hc) (h4 c hc)⟩
  anti := fun _ h => h
  grow := fun _ h => h
  al := fun {_ _ H} ⟨⟨ps, h1, _⟩, h4⟩ a z => z.elim (fun z => ⟨_, (congrArg H z).trans h1⟩) fun z => ⟨_, h4 a z⟩
section
variable {K : PySem.W.Frag} {r pre post : Rs} {H : Hp} {t : At} {p : Addr} {o : HO}
theorem hold_mem {N : Addr → Prop} {t : At} : ∀ {r : Rs}, hold K N r H → t ∈ r → t.R K N H
  | t' :: r, h, m => by
    rcases List.mem_cons.mp m with rfl | m
    · exact h.1
    · exact hold_mem h.2.2 m
theorem is_over {N : Addr → Prop} {H' : Hp} (hk : ∀ b o, ¬ N b → H b = some o → H' b = some o) (ht : ∀ a xs, SqT K H a xs → SqT K H' a xs) {v : V} {d : D} (h : Is K N H v d) : Is K N H' v d := Is.go (fun a o _ n s => ⟨n, hk a o n s⟩) ht d v h
/-- a new piece that owns one new thing that is no data -/
theorem rok_add (h : Rok K r H) (hp : H p = none) (nd : ¬ Dat o) (hM : ∀ a, t.M a → a = p) (hR : ∀ N, t.R K N (upd H p o)) : Rok K (r ++ [t]) (upd H p o) ∧ Kp K r H (r ++ [t]) (upd H p o) := by
  have e : ∀ a, mem (r ++ [t]) a → mem r a ∨ a = p := fun a z => (mem_append.mp z).elim .inl fun z => z.elim (fun z => .inr (hM a z)) False.elim
  have nD : NoDat (upd H p o) p := fun u q => by rw [upd_same] at q; cases q; exact nd
  have go : Kp K r H (r ++ [t]) (upd H p o) := fun v d q => is_anti e (is_growD nD (is_ext (Ext.new hp) _ _ q))
  refine ⟨hold_append.mpr ⟨hold_anti e (hold_growD nD (hold_ext (Ext.new hp) h)), ⟨hR _, fun _ _ z => z, True.intro⟩, fun a m z => ?_⟩, go⟩
  have := hM a (z.elim id False.elim)
  subst this
  exact not_al h hp m
/-- a code object more in a table -/
theorem rok_tab {P c : Addr} {q : Str} {cs : List Addr} {ps ps' : Array Value} (h : Rok K (pre ++ tabA P q cs :: post) H) (hP : H P = some (.tbl ps)) (hc : H c = none) (h2 : TriplesOk ps'.toList) (h3 : ∀ (pos : Pos) (cv : Value), codeAmong pos ps'.toList = some cv → ∃ b ∈ c :: cs, cv = .ref b) :
    Rok K (pre ++ tabA P q (c :: cs) :: post) (upd (upd H P (.tbl ps')) c (CodeO c q)) ∧ Kp K (pre ++ tabA P q cs :: post) H (pre ++ tabA P q (c :: cs) :: post) (upd (upd H P (.tbl ps')) c (CodeO c q)) := by
  obtain ⟨H2, hH2⟩ : ∃ H2, H2 = upd (upd H P (.tbl ps')) c (CodeO c q) := ⟨_, rfl⟩
  rw [← hH2]
  obtain ⟨N, hN⟩ : ∃ N, N = mem (pre ++ tabA P q cs :: post) := ⟨_, rfl⟩
  have nPc : P ≠ c := ne_of_none hP hc
  have at_ : ∀ b, b ≠ P → b ≠ c → H2 b = H b := fun b h1 h2 => by rw [hH2, upd_ne h2, upd_ne h1]
  have inP : N P := by rw [hN]; exact mem_append.mpr (.inr (.inl (.inl rfl)))
  have nc : ¬ N c := by rw [hN]; exact not_al h hc
  have keep : ∀ b u, b ≠ P → H b = some u → H2 b = some u := fun b u hb e => by rw [at_ b hb (fun z => by rw [z, hc] at e; cases e)]; exact e
  have goI : ∀ v d, Is K N H v d → Is K N H2 v d := fun v d q => is_over (fun b u hb e => keep b u (fun z => hb (z ▸ inP)) e) (fun a xs s => by
    rcases s with (s | ⟨u, s⟩) | s
    · exact .inl (.inl (keep a _ (fun z => by rw [z, hP] at s; cases s) s))
    · exact .inl (.inr ⟨u, keep a _ (fun z => by rw [z, hP] at s; cases s) s⟩)
    · exact .inr s) q
  have nD : NoDat H2 c := fun u e => by
    rw [hH2, upd_same] at e
    cases e
    exact fun z => z
  have e : ∀ a, mem (pre ++ tabA P q (c :: cs) :: post) a → N a ∨ a = c := fun a z => by
    rw [hN]
    rcases mem_append.mp z with z | z | z
    · exact .inl (mem_append.mpr (.inl z))
    · rcases z with z | z
      · exact .inl (mem_append.mpr (.inr (.inl (.inl z))))
      · rcases List.mem_cons.mp z with z | z
        · exact .inr z
        · exact .inl (mem_append.mpr (.inr (.inl (.inr z))))
    · exact .inl (mem_append.mpr (.inr (.inr z)))
  have go : Kp K (pre ++ tabA P q cs :: post) H (pre ++ tabA P q (c :: cs) :: post) H2 := fun v d z => is_anti e (is_growD nD (goI v d (by rw [hN]; exact z)))
  refine ⟨?_, go⟩
  have h' : hold K N (pre ++ tabA P q cs :: post) H := by rw [hN]; exact h
  obtain ⟨g1, ⟨⟨⟨ps0, r1, r2, r3⟩, r4⟩, g3, g4⟩, g5⟩ := hold_append.mp h'
  have up : ∀ {l : Rs}, hold K N l H → ¬ mem l P → hold K (mem (pre ++ tabA P q (c :: cs) :: post)) l H2 := fun hl hp => hold_anti e (hold_growD nD (hold_loc (fun b u m s => keep b u (fun z => hp (z ▸ m)) s) goI hl))
  have npP : ¬ mem pre P := fun z => g5 P z (.inl (.inl rfl))
  refine hold_append.mpr ⟨up g1 npP, ⟨⟨⟨ps', by rw [hH2, upd_ne nPc, upd_same], h2, h3⟩, fun b hb => ?_⟩, fun a z m => ?_, up g4 (g3 P (.inl rfl))⟩, fun a z m => ?_⟩
  · rcases List.mem_cons.mp hb with rfl | hb
    · rw [hH2, upd_same]
    · have hbP : b ≠ P := fun z => by
        have := r4 b hb
        rw [z, r1] at this
        unfold CodeO at this
        cases this
      exact keep b _ hbP (r4 b hb)
  · rcases z with z | z
    · exact g3 a (.inl z) m
    · rcases List.mem_cons.mp z with z | z
      · exact nc (by rw [hN, ← z]; exact mem_append.mpr (.inr (.inr m)))
      · exact g3 a (.inr z) m
  · rcases m with m | m
    · rcases m with m | m
      · exact g5 a z (.inl (.inl m))
      · rcases List.mem_cons.mp m with m | m
        · exact nc (by rw [hN, ← m]; exact mem_append.mpr (.inl z))
        · exact g5 a z (.inl (.inr m))
    · exact g5 a z (.inr m)
end
section
variable {X : Cx} {pins : List (Addr × Obj)} {σ : L2.St} {H : Hp} {s : Shared}
theorem inv_fnL {F : NF} {body : Expr} {o : Obj} {t' : Nat} {pm ctv : Value} (I : L2.Inv X pins σ H s) (ho : o = PySem.W.kla_obj F.name F.qual F.params body F.scope F.cl pm F.c ctv) :
    L2.Inv X pins σ (upd H s.heap.objs.size (FnL s.heap.objs.size F body)) { s with heap := s.heap.push o, toks := t' } := by
  subst ho
  refine I.laid (a := s.heap.objs.size) (fun b u e => Heap.get?_push_of_some _ e) (Nat.le_refl _) ?_
  have e : (s.heap.push (PySem.W.kla_obj F.name F.qual F.params body F.scope F.cl pm F.c ctv)).get? s.heap.objs.size = some (PySem.W.kla_obj F.name F.qual F.params body F.scope F.cl pm F.c ctv) := Heap.get?_push_size _ rfl
  exact ⟨⟨pm, ctv, e⟩, ⟨_, e⟩, fun h1 h2 ⟨p, t, z⟩ st => ⟨p, t, st _ z⟩⟩
/-- what stands in the table behind a making: the code object c' was there, or is new -/
def Made (H : Hp) (P : Addr) (q : Str) (pos : Pos) (ps : Array Value) (c' : Addr) (H1 : Hp) : Prop :=
  (H1 = H ∧ codeAmong pos ps.toList = some (.ref c')) ∨ (H c' = none ∧ H1 = upd (upd H P (.tbl (ps ++ #[rawInt pos.line, rawInt pos.col, .ref c']))) c' (CodeO c' q))
theorem lam_make3 {c P : Addr} {ps : Array Value} {params : Arguments} {body : Expr} {scope : Scope} {pos : Pos} {E : Value → Shared → Prop} {Q : Value → Shared → Prop} (I : L2.Inv X pins σ H s) (TB : TabB X.base X.mg c P) (hcode : X.env.code = .ref c)
    (hP : H P = some (.tbl ps)) (ht : TriplesOk ps.toList) (ha : ∀ (cv : Value), codeAmong pos ps.toList = some cv → ∃ c', cv = .ref c' ∧ H c' = some (CodeO c' (X.env.qual ++ "<lambda>"))) (hdef : defaultsOf params X.env = ([], [])) (hfree : ∀ y ∈ scope.names, y.2 = .free → ∃ c, X.env.cells.lookup y.1 = some c)
    (h : ∀ (f c' : Addr) (H1 : Hp) (s' : Shared), Made H P (X.env.qual ++ "<lambda>") pos ps c' H1 → H1 f = none → L2.Inv X pins σ (upd H1 f (FnL f ⟨"<lambda>", X.env.qual ++ "<lambda>", params, [], scope, cloFrom X.env.cells scope.names [], c'⟩ body)) s' → Q (.ref f) s') :
    wpAny (model X.prog X.w) X.A (eval (.Lambda params body scope pos) X.env) Q E s := by
  refine PySem.W.kla_eval hdef ?_
  have bP : s.heap.BuiltinsAt X.mg P := TB.bm.keeps I.bk
  have hP' : s.heap.get? P = some { cls := .none, data := .fields ps } := I.hok P _ hP
  cases hc : codeAmong pos ps.toList with
  | none =>
    refine PySem.W.kla_makeFunction (mg := X.mg) (c := c) (P := P) (ps := ps) (closure_ok hfree) I.ok.glob (I.mod.glob.keeps I.bk) hcode (TB.code.keeps I.bk) hP' ht hc TB.gP bP fun c' ctv h' tk hx hge hlt hrec htb => ?_
    obtain ⟨c2, oc, vs, t, e2, hoc, hd, hv⟩ := hrec
    cases e2
    have nC : H c' = none := I.hok.fresh hge
    have I1 := inv_table (t' := tk) (more := #[rawInt pos.line, rawInt pos.col, .ref c']) (h' := h') I hP (fun b o hb e => hx b o hb e) htb hge ⟨oc, vs, t, hoc, hd, hv⟩
    have nF := I1.hok.fresh (Nat.le_refl _)
    exact h h'.objs.size c' _ _ (.inr ⟨nC, rfl⟩) nF (inv_fnL (F := ⟨"<lambda>", X.env.qual ++ "<lambda>", params, [], scope, cloFrom X.env.cells scope.names [], c'⟩) (t' := tk) I1 rfl)
  | some cv =>
    obtain ⟨c', e, hco⟩ := ha cv hc
    subst e
    refine PySem.W.kla_makeFunctionHit (mg := X.mg) (c := c) (P := P) (ps := ps) (closure_ok hfree) I.ok.glob (I.mod.glob.keeps I.bk) hcode (TB.code.keeps I.bk) hP' ht hc bP fun ctv h' tk hx hsz => ?_
    have I1 : L2.Inv X pins σ H { s with heap := h', toks := tk } := I.kept hx
    have nF : H h'.objs.size = none := I1.hok.fresh (Nat.le_refl _)
    exact h h'.objs.size c' _ _ (.inl ⟨rfl, hc⟩) nF (inv_fnL (F := ⟨"<lambda>", X.env.qual ++ "<lambda>", params, [], scope, cloFrom X.env.cells scope.names [], c'⟩) (t' := tk) I1 rfl)
/-- the pieces behind a making -/
theorem made_ok {P c' : Addr} {q : Str} {cs : List Addr} {pos : Pos} {ps : Array Value} {pre post : Rs} {H1 : Hp} {K : PySem.W.Frag} (h : Rok K (pre ++ tabA P q cs :: post) H) (hP : H P = some (.tbl ps)) (ht : TriplesOk ps.toList) (hcs : ∀ (pos : Pos) (cv : Value), codeAmong pos ps.toList = some cv → ∃ c ∈ cs, cv = .ref c) (m : Made H P q pos ps c' H1) :
    ∃ cs', c' ∈ cs' ∧ Rok K (pre ++ tabA P q cs' :: post) H1 ∧ Kp K (pre ++ tabA P q cs :: post) H (pre ++ tabA P q cs' :: post) H1 := by
  rcases m with ⟨rfl, hc⟩ | ⟨nc, rfl⟩
  · obtain ⟨c, hm, e⟩ := hcs _ _ hc
    cases e
    exact ⟨cs, hm, h, Kp.refl⟩
  · have eL : (ps ++ #[rawInt pos.line, rawInt pos.col, .ref c']).toList = ps.toList ++ [rawInt pos.line, rawInt pos.col, .ref c'] := by simp
    obtain ⟨a, b⟩ := rok_tab (ps' := ps ++ #[rawInt pos.line, rawInt pos.col, .ref c']) h hP nc (by rw [eL]; exact PySem.TriplesOk_snoc _ _ _ _ ht) (fun p' cv hcv => by
      rw [eL] at hcv
      rcases among_app2 _ ht hcv with z | ⟨z, _, _⟩
      · obtain ⟨c, hm, e⟩ := hcs _ _ z
        exact ⟨c, List.mem_cons_of_mem _ hm, e⟩
      · exact ⟨c', List.mem_cons_self, z⟩)
    exact ⟨_, List.mem_cons_self, a, b⟩
end
end G
namespace G
open PySem PySem.Spec PyProof.Rows L2 LamX NdefX
/-- the code object of the function at f -/
def CodeAt (K : PySem.W.Frag) (f c : Addr) : Prop := ∀ oc od fd osl, K.lookup f = some ⟨oc, od, .func fd, osl⟩ → fd.code = .ref c
section
variable {P : Program} {w : World} {K : PySem.W.Frag} {mg : Str → Option Value} {base : Heap}
theorem fnA_dC {x qual : Str} {st : Stmt} {f c : Addr} {fd : FuncData} {N ps : List Str} {k : Nat} {sd : SpX} (F : FunA K x qual st f fd) (hc : CodeAt K f c) (S : FnScope N ps (defScope st)) (len : ∀ ds r P' XR, sd ds r P' XR → ds.length = ps.length)
    (hbody : ∀ (A : Around) (outer : List Env) (s : Shared) (H : Hp) (E : XK), Room k (A.deeper (envOfC qual (defScope st) s.heap.objs.size f (.ref c))) → Takes (cxOf (L2.CX P w) P w K mg base N qual (defScope st) f (.ref c) A outer s H E) (WK E) →
      PassesOwn (model P w) (cxOf (L2.CX P w) P w K mg base N qual (defScope st) f (.ref c) A outer s H E).A (cxOf (L2.CX P w) P w K mg base N qual (defScope st) f (.ref c) A outer s H E).env (cxOf (L2.CX P w) P w K mg base N qual (defScope st) f (.ref c) A outer s H E).xe →
      ∃ t : AS, PBD (cxOf (L2.CX P w) P w K mg base N qual (defScope st) f (.ref c) A outer s H E) (WK E) (defBody st) t ∧
      ∀ ds r P' XR, sd ds r P' XR → t { nx := fun _ r' => fit P' .non r', rt := fit P', xr := fitX XR } (startD N ds) r) : FO P w K mg base (k + 1) f fd ps sd := by
  obtain ⟨oc, od, dV, kV, doc, pm, an, cdv, ct, osl, rfl, lk, hcd⟩ := F.ex
  have ec : cdv = .ref c := hc _ _ _ _ lk
  subst ec
  refine fn_of lk hcd S (fun vs H Q E h => ?_) fun A outer s H vs Q E hr h => ?_
  · obtain ⟨r, ds, P', XR, hr, hi, hs, _, _⟩ := h
    rw [hi.length]
    exact len _ _ _ _ hs
  · obtain ⟨r, ds, P', XR, ro, hi, hs, hq, hx⟩ := h
    obtain ⟨t, ht, hread⟩ := hbody A outer s H E hr (takes_of rfl rfl rfl rfl) (passes_of rfl)
    refine ⟨_, ht, startD N ds, r, { nx := fun _ r' => fit P' .non r', rt := fit P', xr := fitX XR }, start_ok ro hi ?_, hread ds r P' XR hs, ⟨fun δ' r' σ' H' a o k => ?_, fun d r' v H' a o k i => ?_, fun _ _ _ _ z => z.elim, fun _ _ _ _ z => z.elim⟩⟩
    · rintro C fs es δ' r' σ' a H' ⟨r0, l, q⟩ o k e
      exact hx C fs es r0 a H' q (l.r _ _ o.r) (k.trans l.kp) (e.anti l.m)
    · obtain ⟨r0, l, a⟩ := a
      exact hq _ r0 _ H' a (l.r _ _ o.r) (k.trans l.kp) .non
    · obtain ⟨r0, l, a⟩ := a
      exact hq _ r0 _ H' a (l.r _ _ o) (k.trans l.kp) (is_anti l.m i)
/-- what such a body must give -/
def BodC (P : Program) (w : World) (K : PySem.W.Frag) (mg : Str → Option Value) (base : Heap) (qual : Str) (st : Stmt) (N : List Str) (c : Addr) (k : Nat) (sd : SpX) : Prop :=
  ∀ (f : Addr) (A : Around) (outer : List Env) (s : Shared) (H : Hp) (E : XK), Room k (A.deeper (envOfC qual (defScope st) s.heap.objs.size f (.ref c))) → Takes (cxOf (L2.CX P w) P w K mg base N qual (defScope st) f (.ref c) A outer s H E) (WK E) →
      PassesOwn (model P w) (cxOf (L2.CX P w) P w K mg base N qual (defScope st) f (.ref c) A outer s H E).A (cxOf (L2.CX P w) P w K mg base N qual (defScope st) f (.ref c) A outer s H E).env (cxOf (L2.CX P w) P w K mg base N qual (defScope st) f (.ref c) A outer s H E).xe →
      ∃ t : AS, PBD (cxOf (L2.CX P w) P w K mg base N qual (defScope st) f (.ref c) A outer s H E) (WK E) (defBody st) t ∧
      ∀ ds r P' XR, sd ds r P' XR → t { nx := fun _ r' => fit P' .non r', rt := fit P', xr := fitX XR } (startD N ds) r
def DfSC (K : PySem.W.Frag) (C : Addr) (m qual : Str) (st : Stmt) (ps : List Str) (c : Addr) : Prop := ∃ mc p f fd, FunA K m qual st f fd ∧ CodeAt K f c ∧ SMet K C mc m p f ∧ Binds K fd ps []
theorem cls_ofC {C c : Addr} {m qual : Str} {st : Stmt} {N ps : List Str} {k : Nat} {sd : SpX} (d : DfSC K C m qual st ps c) (S : FnScope N ps (defScope st)) (len : ∀ ds r P' XR, sd ds r P' XR → ds.length = ps.length) (h : BodC P w K mg base qual st N c k sd) : ClS P w K mg base (k + 1) C m sd := by
  obtain ⟨mc, p, f, fd, F, hc, M, b⟩ := d
  exact ⟨mc, p, f, M, fr_of (fnA_dC F hc S len (h f)) b⟩
end
/-- a lambda that captures nothing -/
def aLam (P : Addr) (q : Str) (params : Arguments) (scope : Scope) (body : Expr) : AT := fun _ _ r Pk => ∃ pre cs post, r = pre ++ tabA P q cs :: post ∧ ∀ f c' cs', c' ∈ cs' → Pk (.adr f) (pre ++ tabA P q cs' :: post ++ [fnlA f ⟨"<lambda>", q, params, [], scope, [], c'⟩ body])
theorem tab_at {K : PySem.W.Frag} {N : Addr → Prop} {H : Hp} {P : Addr} {q : Str} {cs : List Addr} (h : (tabA P q cs).R K N H) : ∃ ps, H P = some (.tbl ps) ∧ TriplesOk ps.toList ∧ (∀ (pos : Pos) (cv : Value), codeAmong pos ps.toList = some cv → ∃ c ∈ cs, cv = .ref c) ∧ ∀ (pos : Pos) (cv : Value), codeAmong pos ps.toList = some cv → ∃ c', cv = .ref c' ∧ H c' = some (CodeO c' q) := by
  obtain ⟨⟨ps, h1, h2, h3⟩, h4⟩ := h
  refine ⟨ps, h1, h2, h3, fun pos cv e => ?_⟩
  obtain ⟨c, hc, rfl⟩ := h3 pos cv e
  exact ⟨c, rfl, h4 c hc⟩
theorem clo_nil {cells : List (Str × Addr)} {names : List (Str × NameKind)} (h : ∀ y ∈ names, y.2 ≠ .free) : cloFrom cells names [] = [] := by
  refine List.eq_nil_iff_forall_not_mem.mpr fun ⟨y, c⟩ hm => ?_
  rcases cloFrom_mem hm with hm | ⟨h1, _⟩
  · cases hm
  · exact h _ h1 rfl
section
variable {X : Cx} {W : WX}
theorem d_lam {c P : Addr} {params : Arguments} {body : Expr} {scope : Scope} {pos : Pos} (TB : TabB X.base X.mg c P) (hcode : X.env.code = .ref c := by rfl) (hdef : defaultsOf params X.env = ([], []) := by rfl) (hfree : ∀ y ∈ scope.names, y.2 ≠ .free := by decide +kernel) :
    PD X W (.Lambda params body scope pos) (aLam P (X.env.qual ++ "<lambda>") params scope body) := by
  refine ⟨fun pins s σ H Q I ⟨XR, δ, r, Pk, o, h0, k⟩ => ?_⟩
  obtain ⟨pre, cs, post, e, h⟩ := h0
  subst e
  obtain ⟨_, ⟨hR, _, _⟩, _⟩ := hold_append.mp (show hold X.K _ (pre ++ tabA P (X.env.qual ++ "<lambda>") cs :: post) H from o.r)
  obtain ⟨ps, hP, ht, hcs, ha⟩ := tab_at hR
  refine lam_make3 I TB hcode hP ht (fun cv e => ha pos cv e) hdef (fun y hy e => absurd e (hfree y hy)) fun f c' H1 s' m hf J => ?_
  obtain ⟨cs', hc', r1, k1⟩ := made_ok o.r hP ht hcs m
  rw [clo_nil hfree] at J
  obtain ⟨r2, k2⟩ := rok_add (t := fnlA f ⟨"<lambda>", X.env.qual ++ "<lambda>", params, [], scope, [], c'⟩ body) r1 hf (by unfold FnL; exact fun z => z) (fun a z => z) (fun N => upd_same)
  exact ⟨.ref f, _, J, rfl, k _ _ _ _ (h f c' cs' hc') ((o.step k1 r1).step k2 r2) (k1.trans k2) (.adr f)⟩
end
/-- a function object that may be called: it stands in the written part, or is told by a piece -/
def FnIn (K : PySem.W.Frag) (f : Addr) (r : Rs) : Prop := PySem.W.keepIn K (.ref f) = true ∨ (∃ F body, fnlA f F body ∈ r) ∨ ∃ F, fnA f F ∈ r
structure LamIn (f : Addr) (F : NF) (body : Expr) (r : Rs) : Prop where
  fn : fnlA f F body ∈ r
  tab : ∃ P cs, tabA P F.qual cs ∈ r ∧ F.c ∈ cs
section
variable {P : Program} {w : World} {K : PySem.W.Frag} {mg : Str → Option Value} {base : Heap}
theorem startF_nil (N : List Str) (vs : List V) : startF N vs [] = L2.start N vs := by
  unfold startF L2.start
  simp
theorem lam_fr {F : NF} {body : Expr} {N ps : List Str} {f : Addr} {sd : SpX} {k : Nat} (S : NScope N ps [] F.scope) (hcl : F.cl = []) (hb : ∀ (pm ctv : Value) (us : List Value), us.length = ps.length → bindArgs (PySem.W.kla_fn F.name F.qual F.params body F.scope F.cl pm (.ref F.c) ctv) ⟨us, []⟩ = pure (ps.zip us))
    (len : ∀ ds r P' XR, sd ds r P' XR → ds.length = ps.length)
    (hbody : ∀ (A : Around) (outer : List Env) (s : Shared) (H : Hp) (E : XK), Room k (A.deeper (envF F f s.heap.objs.size)) → ∃ t : AT, PD (ncx (L2.CX P w) P w K mg base N F f A outer s H E) W0 body t ∧ ∀ ds r P' XR, sd ds r P' XR → t (fun _ _ _ _ _ => False) (startD N ds) r (fit P')) :
    FR P w K mg base (k + 1) f (fun ds r P' XR => LamIn f F body r ∧ sd ds r P' XR) := by
  intro A outer s H us vs Q E hr e0 rv hsp
  obtain ⟨r, ds, P', XR, ro, hi, ⟨⟨hm, P0, cs, hm2, hc⟩, hs⟩, hq, hx⟩ := hsp
  have hF : H f = some (FnL f F body) := hold_mem ro hm
  have hC : H F.c = some (CodeO F.c F.qual) := (hold_mem ro hm2).2 _ hc
  have hl : vs.length = ps.length := by rw [hi.length]; exact len _ _ _ _ hs
  have KX : K.In s.heap := e0.mod.kin.keeps fun b o e => (e0.bs b o e).1
  have lim : s.heap.NoLimit := e0.mod.nolimit.keeps fun b o e => (e0.bs b o e).1
  obtain ⟨⟨pm, ctv, of1⟩, _, _⟩ := e0.hok f _ hF
  obtain ⟨⟨oc, cvs, ct, hoc, hdc, hvc⟩, _, _⟩ := e0.hok F.c _ hC
  refine PySem.W.kla_callFunE hr.depth of1 rfl S.co S.gen rfl ⟨F.c, oc, cvs, ct, rfl, hoc, hdc, hvc⟩ ?_
  rw [hb pm ctv us (by rw [← rv.length]; exact hl)]
  refine wpAny_pure (wpAny_newFunctionEnv S.nocell (fun ⟨n, _⟩ hy => S.par n (List.of_mem_zip hy).1) (fun h₁ hns hsb => ⟨lim.fresh _ hsb, ?_⟩) S.kind)
  show codeAny _ _ (.expr body (envF F f s.heap.objs.size)) _ _
  have kp : ∀ b o, s.heap.get? b = some o → h₁.get? b = some o := fun b o e => hsb.extBut b o (Nat.ne_of_lt (Heap.lt_size e)) (Heap.get?_push_of_some _ e)
  have C : CellsAt F.cl [] [] s.heap H := ⟨rfl, fun y c e => (by rw [hcl] at e; cases e), fun x y c e => (by rw [hcl] at e; cases e), fun i y e => (by simp at e)⟩
  have J : L2.Inv (ncx (L2.CX P w) P w K mg base N F f A outer s H E) [] (L2.start N vs) H { s with heap := h₁, toks := s.toks + (ps.zip us).length } := by
    rw [← startF_nil]
    exact inv_startN S hr.hd e0 hl rv C hns kp
  obtain ⟨t, ht, hread⟩ := hbody A outer s H E (hr.deeper _)
  refine PySem.W.kla_codeExpr (wpAny_mono (ht.run [] _ (L2.start N vs) H Q J ⟨_, startD N ds, r, fit P', start_ok ro hi ?_, hread ds r P' XR hs, fun d r' v H' a o kk i => ?_⟩) (fun v s' hq' => ?_) fun e s' hq' => hq')
  · exact fun _ _ _ _ _ _ _ _ z => z.elim
  · obtain ⟨r0, l, a⟩ := a
    exact hq _ r0 _ H' a (l.r _ _ o.r) (kk.trans l.kp) (is_anti l.m i)
  · obtain ⟨w', H', J', rv', q⟩ := hq'
    exact ⟨w', H', J'.os, J'.bare, J'.base, J'.hok, rv', q⟩
end
section
variable {X : Cx} {W : WX} {k : Nat} {x : Str} {p pos : Pos} {e : Expr} {es : List Expr} {l : AL} {tf : AT}
/-- f may be called by the promise sd -/
def FVal (P : Program) (w : World) (K : PySem.W.Frag) (mg : Str → Option Value) (base : Heap) (k : Nat) (f : Addr) (sd : SpX) : Prop := FR P w K mg base k f sd
def aCallG (C : SpX → XT → Dl → List D → Rs → PK1 → Prop) (FV : Addr → SpX → Prop) (IN : Addr → Rs → Prop) (tf : AT) (l : AL) : AT := fun x δ r Pk => tf x δ r fun d r0 => ∃ f sd, d = .adr f ∧ FV f sd ∧ IN f r0 ∧ l x δ r0 fun ds r1 => IN f r1 ∧ C sd x δ ds r1 Pk
def aCallVN (FV : Addr → SpX → Prop) (IN : Addr → Rs → Prop) (tf : AT) (l : AL) : AT := aCallG (fun sd _ _ ds r1 Pk => sd ds r1 Pk noX) FV IN tf l
theorem fnIn_at {pins : List (Addr × Obj)} {σ : L2.St} {H : Hp} {s : Shared} {f : Addr} {r : Rs} (I : L2.Inv X pins σ H s) (o : Rok X.K r H) (h : (∃ F body, fnlA f F body ∈ r) ∨ ∃ F, fnA f F ∈ r) : PySem.W.FnAt f s.heap := by
  rcases h with ⟨F, body, h⟩ | ⟨F, h⟩
  · obtain ⟨⟨pm, ctv, ho⟩, _, _⟩ := I.hok f _ (hold_mem o h)
    exact ⟨_, _, _, _, ho⟩
  · exact fnAt_of I (hold_mem o h)
theorem callV_any {C : SpX → XT → Dl → List D → Rs → PK1 → Prop} (FV : Addr → SpX → Prop) (IN : Addr → Rs → Prop) (h1 : ∀ f sd, FV f sd → FVal X.prog X.w X.K X.mg X.base k f sd) (h2 : ∀ f r, IN f r → FnIn X.K f r) (hr : Room k X.A) (hf : PD X W (.Name x p) tf) (ha : PDL X W (e :: es) l)
    (he : starEach (e :: es) X.env = (false, eval e X.env) :: starEach es X.env) (hpl : (backTo pos (starEach es X.env)).any (·.1) = false)
    (im : ∀ {σ : L2.St} {H : Hp} {Q : VK} {XR : XT} {δ : Dl} {r : Rs} {Pk : PK1} {sd : SpX} {ds : List D} {vs : List V}, Ok X.K W XR r δ σ H → IsAll X.K (mem r) H vs ds → C sd XR δ ds r Pk → (∀ d r' v H', Pk d r' → Ok X.K W XR r' δ σ H' → Kp X.K r H r' H' → Is X.K (mem r') H' v d → Q v H') →
      ∃ E : XK, PassesAt (L2.CX X.prog X.w) X σ E ∧ lift X.K sd vs H Q E) : PD X W (.Call (.Name x p) (e :: es) [] pos) (aCallG C FV IN tf l) := by
  refine ⟨fun pins s σ H Q I ⟨XR, δ, r, Pk, o, h, kk⟩ => ?_⟩
  refine wpAny_Call_Name_kw (thn (hf.run pins s σ H _ I (td_bind (Q := fun v H1 => ∃ r0 d, Ok X.K W XR r0 δ σ H1 ∧ Kp X.K r H r0 H1 ∧ Is X.K (mem r0) H1 v d ∧ ∃ f sd, d = .adr f ∧ FV f sd ∧ IN f r0 ∧ l XR δ r0 fun ds r1 => IN f r1 ∧ C sd XR δ ds r1 Pk) o h fun d r0 v H1 q1 o1 k1 i1 => ⟨r0, d, o1, k1, i1, q1⟩)) fun u s1 ⟨v, H1, I1, rv, r0, d, o1, k1, i1, f, sd, hd, F, hin, q1⟩ => ?_)
  subst hd
  cases i1
  obtain rfl : u = Value.ref f := rv
  have F := h1 _ _ F
  have hin := h2 _ _ hin
  have args : wpAny (model X.prog X.w) X.A (spliced (backTo pos (starEach (e :: es) X.env))) (fun us s2 => ∃ vs H2 r1 ds, L2.Inv X pins σ H2 s2 ∧ Vals vs us ∧ Ok X.K W XR r1 δ σ H2 ∧ FnIn X.K f r1 ∧ ∃ E : XK, PassesAt (L2.CX X.prog X.w) X σ E ∧ lift X.K sd vs H2 Q E) X.xe s1 :=
    thn (ha.run pos pins s1 σ H1 _ I1 (tdl_bind (Q := fun vs H2 => ∃ r1 ds, Ok X.K W XR r1 δ σ H2 ∧ FnIn X.K f r1 ∧ ∃ E : XK, PassesAt (L2.CX X.prog X.w) X σ E ∧ lift X.K sd vs H2 Q E) o1 q1 fun ds r1 vs H2 q2 o2 k2 i2 => ⟨r1, ds, o2, h2 _ _ q2.1, im o2 i2 q2.2 fun d r' v H' a b c i => kk d r' v H' a b ((k1.trans k2).trans c) i⟩)) fun us s2 ⟨vs, H2, I2, rr, r1, ds, o2, q1, q2⟩ => ⟨vs, H2, r1, ds, I2, rr, o2, q1, q2⟩
  by_cases hk : PySem.W.keepIn X.K (.ref f) = true
  · refine PySem.W.callWith_K (h₀ := X.base) I1.ok.mod.kin hk (thn args fun us s2 ⟨vs, H2, r1, ds, I2, rr, o2, q1, E, hx, q⟩ => ⟨I2.kIn, ?_⟩) he hpl
    exact call_P F hr hx I2 rr q
  · refine PySem.W.callWith_F (first := []) (fnIn_at I1 o1.r (hin.resolve_left hk)) (thn args fun us s2 ⟨vs, H2, r1, ds, I2, rr, o2, q1, E, hx, q⟩ => ⟨fnIn_at I2 o2.r (q1.resolve_left hk), ?_⟩) he hpl
    show wpAny _ _ (call (.ref f) us) _ _ _
    exact call_P F hr hx I2 rr q
/-- .. nothing is raised -/
theorem d_callVN (FV : Addr → SpX → Prop) (IN : Addr → Rs → Prop) (h1 : ∀ f sd, FV f sd → FVal X.prog X.w X.K X.mg X.base k f sd) (h2 : ∀ f r, IN f r → FnIn X.K f r) (hr : Room k X.A) (hf : PD X W (.Name x p) tf) (ha : PDL X W (e :: es) l) (he : starEach (e :: es) X.env = (false, eval e X.env) :: starEach es X.env := by rfl) (hpl : (backTo pos (starEach es X.env)).any (·.1) = false := by rfl) :
    PD X W (.Call (.Name x p) (e :: es) [] pos) (aCallVN FV IN tf l) := callV_any FV IN h1 h2 hr hf ha he hpl fun o i h kk => ⟨_, passE, lift_n o i h kk⟩
end
end G
namespace G
open PySem PySem.Spec L2
/-- the text of a number from 0 on -/
def numS (n : Nat) : Str := Str.ofString (toString ((n : Nat) : Int))
theorem numS_tl (n : Nat) : tl (numS n) = TL.numL n := TL.tl_num n
theorem numS_sok {n : Nat} (h : n < 10 ^ 100) : sok (numS n) := by
  refine sok_iff.mpr ⟨fun c hc => ?_, ?_⟩
  · rw [numS_tl] at hc
    have := TL.numL_digits n c hc
    omega
  · rw [numS_tl]
    have := TL.numL_len (by decide) h
    omega
structure oStrN (ds : List D) (k : D → Prop) : Prop where
  ex : ∃ n : Nat, ds = [.int (n : Nat)] ∧ n < 10 ^ 100 ∧ k (.str (numS n))
theorem c_strN {X : Cx} : CallR X (.type "str") (rC X.K oStrN) := by
  rintro pins s σ H vs us Q I rv ⟨r, ds, P, hr, i, ⟨n, rfl, hn, ho⟩, k⟩
  cases i with
  | cons i t =>
    cases t
    cases i
    refine call_str_int pins s σ H _ us Q I rv ⟨(n : Int), rfl, ?_, k _ _ H ho (Ext.refl H) (.str (numS_sok hn))⟩
    show n.log2 < 1920
    by_cases h0 : n = 0
    · subst h0; decide
    · have h2 : n < 2 ^ 1920 := Nat.lt_of_lt_of_le hn (by decide +kernel)
      exact (Nat.log2_lt h0).mpr h2
structure oIntT (ds : List D) (k : D → Prop) : Prop where
  ex : ∃ a n, ds = [.str a] ∧ PySem.intText? a = some n ∧ a.length ≤ 640 ∧ k (.int n)
theorem c_intT {X : Cx} : CallR X (.type "int") (rC X.K oIntT) := by
  rintro pins s σ H vs us Q I rv ⟨r, ds, P, hr, i, ⟨a, n, rfl, hn, hl, ho⟩, k⟩
  cases i with
  | cons i t =>
    cases t
    cases i
    exact call_int_str pins s σ H _ us Q I rv ⟨a, n, rfl, hn, hl, k _ _ H ho (Ext.refl H) (.int _)⟩
def aDigit (ta : AT) : AT := fun x δ r P => ta x δ r fun d r1 => ∃ a, d = .str a ∧ P (.bl (Txt.isdigit a)) r1
theorem d_isdigit {X : Cx} {W : WX} {o : Expr} {ta : AT} {apos cpos : Pos} (ho : PD X W o ta) (hbase : attributeBase o "isdigit" X.env (eval o X.env) = eval o X.env := by rfl) (hline : (apos.endLine == cpos.line) = true := by rfl) : PD X W (.Call (.Attribute o "isdigit" apos) [] [] cpos) (aDigit ta) :=
  imE (pe_m0 PySem.F.slot_str_isdigit PySem.F.type_str_isdigit mt_isdigit ho hbase hline) fun σ H Q q => by
    obtain ⟨XR, δ, r, P, ok, h, k⟩ := q
    refine td_bind ok h fun d r1 v H1 h1 o1 k1 i1 => ?_
    obtain ⟨a, rfl, h1⟩ := h1
    cases i1
    exact ⟨⟨a, rfl⟩, a, rfl, rfl, True.intro, k _ r1 _ H1 h1 o1 k1 (.bl _)⟩
def aLamS (FV : Addr → SpX → Prop) (P : Addr) (q : Str) (sp : SpX) : AT := fun _ _ r Pk => ∃ pre cs post, r = pre ++ tabA P q cs :: post ∧ ∀ (f : Addr) (F : NdefX.NF) (body : Expr) (cs' : List Addr), FV f (fun ds r P XR => LamIn f F body r ∧ sp ds r P XR) → F.qual = q → F.c ∈ cs' → Pk (.adr f) (pre ++ tabA P q cs' :: post ++ [fnlA f F body])
theorem d_lamS {X : Cx} {W : WX} {c P : Addr} {params : Arguments} {body : Expr} {scope : Scope} {pos : Pos} {FV : Addr → SpX → Prop} {q : Str} (sp : SpX) (TB : LamX.TabB X.base X.mg c P) (hq : X.env.qual ++ "<lambda>" = q) (hV : ∀ f c', FV f (fun ds r P XR => LamIn f ⟨"<lambda>", q, params, [], scope, [], c'⟩ body r ∧ sp ds r P XR)) (hcode : X.env.code = .ref c := by rfl) (hdef : defaultsOf params X.env = ([], []) := by rfl) (hfree : ∀ y ∈ scope.names, y.2 ≠ .free := by decide +kernel) :
    PD X W (.Lambda params body scope pos) (aLamS FV P q sp) := imE (d_lam (W := W) TB hcode hdef hfree) fun σ H Q ⟨XR, δ, r, Pk, o, h, k⟩ => by
  obtain ⟨pre, cs, post, e, h⟩ := h
  refine ⟨XR, δ, r, Pk, o, ⟨pre, cs, post, by rw [hq]; exact e, fun f c' cs' hc => ?_⟩, k⟩
  rw [hq]
  exact h f _ body cs' (hV f c') rfl hc
end G
namespace G
open PySem PySem.Spec L2
open PyProof.Rows (envOfC)
/-- the tables as pieces: their addresses, the names of the code objects in them -/
def tabs (T : List (Addr × Str)) : Rs := T.map fun e => tabA e.1 e.2 []
def TabsAt (T : List (Addr × Str)) (H : Hp) : Prop := (T.map (·.1)).Nodup ∧ ∀ e ∈ T, H e.1 = some (.tbl #[])
theorem tabs_mem {T : List (Addr × Str)} {a : Addr} (h : mem (tabs T) a) : a ∈ T.map (·.1) := by
  induction T with
  | nil => exact h.elim
  | cons e T ih =>
    rcases h with (h | h) | h
    · rw [h]; exact List.mem_cons_self
    · cases h
    · exact List.mem_cons_of_mem _ (ih h)
theorem tabs_hold {K : PySem.W.Frag} {N : Addr → Prop} {H : Hp} : ∀ {T : List (Addr × Str)}, TabsAt T H → hold K N (tabs T) H
  | [], _ => True.intro
  | e :: T, h => by
    obtain ⟨h1, h2⟩ := h
    rw [List.map_cons, List.nodup_cons] at h1
    refine ⟨⟨⟨#[], h2 e List.mem_cons_self, True.intro, fun pos cv q => ?_⟩, fun c hc => by cases hc⟩, fun a ha m => ?_, tabs_hold ⟨h1.2, fun x hx => h2 x (List.mem_cons_of_mem _ hx)⟩⟩
    · have z : codeAmong pos [] = some cv := q
      simp [codeAmong] at z
    · rcases ha with ha | ha
      · exact h1.1 (by rw [← ha]; exact tabs_mem m)
      · cases ha
theorem TabsAt.upd {T : List (Addr × Str)} {H : Hp} {p : Addr} {o : HO} (h : TabsAt T H) (hp : H p = none) : TabsAt T (upd H p o) := ⟨h.1, fun e he => by rw [upd_ne (ne_of_none (h.2 e he) hp)]; exact h.2 e he⟩
theorem TabsAt.fresh {T : List (Addr × Str)} {H : Hp} {p : Addr} (h : TabsAt T H) (hp : H p = none) : p ∉ T.map (·.1) := fun z => by
  obtain ⟨e, he, rfl⟩ := List.mem_map.mp z
  rw [h.2 e he] at hp
  cases hp
/-- one piece ahead of the tables -/
theorem rok_tabs {K : PySem.W.Frag} {t : At} {T : List (Addr × Str)} {H : Hp} (h : ∀ N, t.R K N H) (hM : ∀ a, t.M a → a ∉ T.map (·.1)) (hT : TabsAt T H) : Rok K (t :: tabs T) H := ⟨h _, fun a m z => hM a m (tabs_mem z), tabs_hold hT⟩
def spPoolT (K : PySem.W.Frag) (T : List (Addr × Str)) : Sp := fun vs H Q _ => ∃ (s : Addr) (ns : List Int), vs = [.ref s] ∧ SqL K H s (ns.map V.int) ∧ ns.length ≤ 63 ∧ TabsAt T H ∧ ∀ p a H', Rok K (poolA p a 0 :: tabs T) H' → Q (.ref p) H'
def spLawT (K : PySem.W.Frag) (T : List (Addr × Str)) : Sp := fun vs H Q _ => ∃ (a : Addr) (ns : List Int), vs = [.ref a] ∧ SqL K H a (ns.map V.int) ∧ ns.length ≤ 63 ∧ TabsAt T H ∧ ∀ H', Q (.bl true) H'
theorem law_goT {K : PySem.W.Frag} {W : WX} {t : AS} {N : List Str} {Dd : Ends} {s p : Addr} {H' : Hp} {r : Rs} (ro : Rok K r H') (hD : ∀ H', Dd.rt (.bl true) H')
    (h : t { nx := fun _ _ => False, rt := fun d _ => d = .bl true } (none :: some (.adr p) :: List.replicate (N.length - 2) none) r) (hN : 2 ≤ N.length := by decide) : TSD K W t Dd ((L2.start N [.ref s]).set 1 (some (.ref p))) H' := by
  refine ⟨_, _, { nx := fun _ _ => False, rt := fun d _ => d = .bl true }, ⟨⟨fun i d e => ?_, ro, ?_⟩, fun _ _ _ _ _ _ _ _ z => z.elim⟩, h, ⟨fun _ _ _ _ z => z.elim, fun d r' v H2 e _ _ i => ?_, fun _ _ _ _ z => z.elim, fun _ _ _ _ z => z.elim⟩⟩
  · match i with
    | 0 => cases e
    | 1 =>
      cases e
      refine ⟨.ref p, ?_, .adr p⟩
      rw [List.getElem?_set_self]
      unfold L2.start
      simp
      omega
    | i + 2 =>
      have e : (List.replicate (N.length - 2) (none : Option D))[i]? = some (some d) := e
      rw [List.getElem?_replicate] at e
      split at e <;> cases e
  · unfold L2.start
    simp
    omega
  · subst e
    cases i
    exact hD _
theorem law_endT {P : Program} {w : World} {K : PySem.W.Frag} {h : Heap} {mg : Str → Option Value} {T : List (Addr × Str)} {TB : Heap → Prop} (X : K.In h) (G : h.Ns mainGlobals mg) {fa f : Addr} {st : Stmt} {n : Nat} (hfa : mg "law" = some (.ref fa)) {oc : Value} {od an : Option Addr} {osl : Array (Option Value)} {kV doc pm cdv ct : Value}
    (a : PySem.W.nsIn K mainGlobals "law" = some (some (.ref f))) (l : K.lookup f = some ⟨oc, od, .func (PySem.W.fnOf "law" "law" (defArgs st) (defBody st) (defScope st) .none kV doc pm an cdv ct), osl⟩) (c : PySem.W.codeIn K cdv "law" = true) (k : PySem.W.keepIn K (.ref f) = true)
    (b : ∀ v : Value, bindArgs (PySem.W.fnOf "law" "law" (defArgs st) (defBody st) (defScope st) .none kV doc pm an cdv ct) ⟨[v], []⟩ = pure [(("_law_script" : Str), v)])
    (ok : ∀ (base : Heap) (fd : FuncData), TB base → Fun K "law" "law" st f fd → FnOk P w K mg base CX0 n f fd ["_law_script"] (spLawT K T)) :
    ∃ fd : FuncData, (∀ (s : Shared) (v : Value), BindsTo s fd ⟨[v], []⟩ [("_law_script", v)]) ∧ ∀ base : Heap, K.In base → base.Ns mainGlobals mg → TB base → FnOk P w K mg base CX0 n fa fd ["_law_script"] (spLawT K T) := by
  have e := hfa.symm.trans (PySem.W.mg_of X G a)
  cases e
  exact ⟨_, fun s v => .of_eq (b v), fun base _ _ t => ok base _ t (fun_mk (st := st) l c k)⟩
/-- the written part without the tables stands where it stands with them -/
theorem frag_cons {a : Addr} {o : Obj} {K : PySem.W.Frag} {h : Heap} (k : PySem.W.Frag.In ((a, o) :: K) h) (n : K.lookup a = none) : K.In h ∧ h.get? a = some o := by
  refine ⟨fun b u e => k b u ?_, k a o ?_⟩
  · have hb : b ≠ a := fun z => by rw [z, n] at e; cases e
    have : (b == a) = false := by simpa using hb
    show List.lookup b ((a, o) :: K) = some u
    rw [List.lookup, this]
    exact e
  · show List.lookup a ((a, o) :: K) = some o
    simp [List.lookup]
end G
namespace G
open PySem PySem.Spec L2
def aFind (ta tb : AT) : AT := fun x δ r P => ta x δ r fun d1 r1 => match d1 with | .str a => tb x δ r1 fun d2 r2 => (match d2 with | .str b => P (.int (Txt.find a b)) r2 | _ => False) | _ => False
theorem d_find {X : Cx} {W : WX} {o e : Expr} {ta tb : AT} {apos pos : Pos} (ho : PD X W o ta) (he : PD X W e tb) (hs : starEach [e] X.env = [(false, eval e X.env)] := by rfl) (hbase : attributeBase o "find" X.env (eval o X.env) = eval o X.env := by rfl) (hline : (apos.endLine == pos.line) = true := by rfl) :
    PD X W (.Call (.Attribute o "find" apos) [e] [] pos) (aFind ta tb) := imE (pe_m1 PySem.F.slot_str_find PySem.F.type_str_find mt_find ho he hs hbase hline) fun σ H Q q => by
  obtain ⟨XR, δ, r, P, ok, h, k⟩ := q
  refine td_bind ok h fun d1 r1 v1 H1 h1 o1 k1 i1 => ?_
  cases i1 <;> try exact h1.elim
  rename_i z hz
  refine ⟨⟨z, rfl⟩, td_bind o1 h1 fun d2 r2 v2 H2 h2 o2 k2 i2 => ?_⟩
  cases i2 <;> try exact h2.elim
  exact ⟨z, _, rfl, rfl, k _ r2 _ H2 h2 o2 (k1.trans k2) (.int _)⟩
end G
namespace G
open PySem PySem.Spec L2
structure oSplitO (x y : D) (r : Rs) (k : PK1) : Prop where
  ex : ∃ a b, x = .str a ∧ y = .str b ∧ sepOk b = true ∧ a.length ≤ 900000 ∧ ∀ p, k (.adr p) (r ++ [lstA p ((Txt.split a b).map .str)])
def aSplO (ta tb : AT) : AT := fun x δ r P => ta x δ r fun d1 r1 => match d1 with | .str a => tb x δ r1 fun d2 r2 => oSplitO (.str a) d2 r2 P | _ => False
theorem d_splitLO {X : Cx} {W : WX} {o e : Expr} {ta tb : AT} {apos pos : Pos} (ho : PD X W o ta) (he : PD X W e tb) (hs : starEach [e] X.env = [(false, eval e X.env)] := by rfl) (hbase : attributeBase o "split" X.env (eval o X.env) = eval o X.env := by rfl) (hline : (apos.endLine == pos.line) = true := by rfl) :
    PD X W (.Call (.Attribute o "split" apos) [e] [] pos) (aSplO ta tb) := imE (pe_split ho he hs hbase hline) fun σ H Q ⟨XR, δ, r, P, ok, h, k⟩ => td_bind ok h fun d1 r1 v1 H1 h1 o1 k1 i1 => by
  cases i1 <;> try exact h1.elim
  rename_i z hz
  refine ⟨⟨z, rfl⟩, td_bind o1 h1 fun d2 r2 v2 H2 ⟨h2⟩ o2 k2 i2 => ?_⟩
  obtain ⟨a, b, e1, rfl, hb, hl, h2⟩ := h2
  cases e1
  cases i2
  exact ⟨z, b, rfl, rfl, sep_len hb, by rw [sizeLine_eq]; omega, fun p hp => let ⟨q1, q2⟩ := rok_new o2.r hp (all_soks fun x m => (split_sok hb hz x m).1); k _ _ _ _ (h2 p) (o2.step q2 q1) ((k1.trans k2).trans q2) (.adr p)⟩
structure oMulL (x y : D) (k : D → Prop) : Prop where
  ex : ∃ z, ∃ n : Nat, x = .str z ∧ y = .int n ∧ 2 ≤ n ∧ n ≤ 10000 ∧ 1 ≤ z.length ∧ z.length ≤ 100 ∧ k (.str (repS z n))
theorem p_mulL {X : Cx} : OpR X (binaryOp .Mult) (rD X.K oMulL) := by
  rintro pins s σ H x y v u Q I rx ry ⟨r, d1, d2, P, hr, i1, i2, ⟨z, n, rfl, rfl, h1, h2, h3, h4, ho⟩, k⟩
  cases i1 with
  | str oz =>
    cases i2
    obtain ⟨t, rfl⟩ := rx
    obtain ⟨t', rfl⟩ := ry
    have hle : n * z.length ≤ 10000 * 100 := Nat.mul_le_mul h2 h4
    refine PySem.P.mul_str (by rw [decide_eq_false (by omega), decide_eq_false (by omega)]; rfl) (fun _ _ => ?_) (fun _ _ => ?_) ?_
    · intro hgt
      have : (2 ^ 63 - 1) / (n : Int) ≥ 1000 := by
        rw [ge_iff_le, Int.le_ediv_iff_mul_le (by omega)]
        omega
      omega
    · show decide _ = false
      rw [Int.toNat_natCast, Nat.mul_comm]
      exact decide_eq_false (by rw [sizeLine_eq]; omega)
    · have e1 : ¬ ((n : Int) < 1) := by omega
      have e2 : (((n : Int) == 1) || (z.length == 0)) = false := by
        rw [Bool.or_eq_false_iff]
        exact ⟨beq_eq_false_iff_ne.mpr (by omega), beq_eq_false_iff_ne.mpr (by omega)⟩
      rw [if_neg e1, if_neg (by rw [e2]; exact Bool.false_ne_true), Int.toNat_natCast]
      refine ⟨?_, ⟨.str (repS z n), H, I.tok _, ⟨_, rfl⟩, k _ _ H ho (Ext.refl H) (.str (sok_rep oz (by omega)))⟩⟩
      show (repS z n).length ≤ _
      rw [repS_len, sizeLine_eq]
      omega
end G
namespace Q
open PySem PySem.Spec L2 G
open PyProof.Rows (envOfC)
def top (i : Nat) : Stmt := PySem.Challenge.pw_quietprobes_k39_contents_read.main.body.getD i (.Pass ⟨0, 0, 0, 0⟩)
abbrev s_BadContents___init__ : Stmt := inClass (top 2) 0
abbrev s_BadText___init__ : Stmt := inClass (top 3) 0
abbrev s_is_name : Stmt := top 7
abbrev s_is_short : Stmt := top 12
abbrev s_is_length : Stmt := top 13
abbrev s_is_load : Stmt := top 14
abbrev s_wrong_part : Stmt := top 15
abbrev s_load_text : Stmt := top 16
abbrev s_words_text : Stmt := top 17
abbrev s_read_length : Stmt := top 18
abbrev s_read_load : Stmt := top 19
abbrev s_read_words : Stmt := top 20
abbrev s_Contents___init__ : Stmt := inClass (top 21) 0
abbrev s_Contents___eq__ : Stmt := inClass (top 21) 1
abbrev s_Contents___len__ : Stmt := inClass (top 21) 2
abbrev s_Contents___add__ : Stmt := inClass (top 21) 3
abbrev s_Contents___str__ : Stmt := inClass (top 21) 4
abbrev s_Contents_read : Stmt := inClass (top 21) 5
abbrev s__law_is_name : Stmt := top 23
abbrev s__law_draw : Stmt := top 24
abbrev s__law_pool : Stmt := top 25
abbrev s__law_names : Stmt := top 26
abbrev s__law_triple : Stmt := top 27
abbrev s__law_text : Stmt := top 28
abbrev s__law_same : Stmt := top 29
abbrev s__law_has : Stmt := top 30
abbrev s__law_number : Stmt := top 31
abbrev s__law_member : Stmt := top 32
abbrev s__law_understood : Stmt := top 33
abbrev s__law_changed : Stmt := top 34
abbrev s__law_tried : Stmt := top 35
abbrev s__law_bounds : Stmt := top 36
abbrev s_law : Stmt := top 37
section
variable {P : Program} {w : World} {K : PySem.W.Frag} {mg : Str → Option Value} {base : Heap}
abbrev N__law_draw : List Str := ["_law_pool_here", "_law_many", "_law_cell", "_law_code", "_law_digit", "_law_far", "_law_mixed"]
theorem sc__law_draw : FnScope N__law_draw ["_law_pool_here", "_law_many"] (defScope s__law_draw) := ⟨rfl, rfl, rfl, by decide +kernel, rfl, by decide +kernel, by decide +kernel⟩
theorem emod_lt' {a m : Int} (h : 0 < m) : 0 ≤ a % m ∧ a % m < m := ⟨Int.emod_nonneg a (by omega), Int.emod_lt_of_pos a h⟩
theorem c__law_draw (B : Bl mg) (Dx : Dfn K mg "_law_draw" s__law_draw ["_law_pool_here", "_law_many"]) : Cl P w K mg base 1 "_law_draw" ["_law_pool_here", "_law_many"] spDraw := by
  obtain ⟨f, fd, F, g, b⟩ := Dx
  refine cl_cx0 (f := f) (fd := fd) ?_ g F.kp b
  have sc := sc__law_draw
  refine F.ok sc (fun vs H Q E h => ?_) (fun cdv A outer s H vs Q E hr h => ?_)
  · obtain ⟨r, ds, P', XR, ro, hi, ⟨p, a, m, N, X, rfl, _⟩, _, _⟩ := h
    exact hi.length
  · obtain ⟨r, ds, P', XR, ro, hi, ⟨p, a, m, N, X, rfl, rfl, ⟨hm, hm2⟩, hN, hP⟩, hQ, _⟩ := h
    obtain ⟨rfl⟩ : vs = [.ref p, .int m] := by
      match vs, hi with
      | [_, _], .cons (.adr _) (.cons (.int _) .nil) => rfl
    have fin : ∀ (k : Int) (H' : Hp), 0 ≤ k → k < m → (∀ b o, b ≠ p → b ≠ a → H b = some o → H' b = some o) → (poolA p a (N + 1)).R K (mem (poolA p a (N + 1) :: X)) H' → Q (.int k) H' := fun k H' h0 h1 hk ht =>
      let ⟨q1, q2⟩ := pool_step ro hk ht
      hQ _ _ _ _ (hP k h0 h1) q1 q2 (.int k)
    obtain ⟨⟨ne, ns, c1, c2, c3, h1, h2, g1, g2, g2', g3, g3', gn⟩, _, _⟩ := ro
    have ix : ∀ {X : Cx} {a b : Expr} {ta tb : TE} {pos : Pos}, PE X a ta → PE X b tb → PlainIx b → PE X (.Subscript a b pos) (tOp (rIxL X.K) ta tb) := fun ha hb hs => pe_ix ix_list ha hb hs
    refine ⟨_, pss_cons (ps_augS (pv 0) pe_int pget_list pe_int ip_add set_list)
      (Evl.pss_cut (ps_if (PW.pt (pw_and (pt_cmpR op_eq (ix (pv 0) pe_int (fun _ _ => rfl)) pe_int (nomark _)) (pw_and1 (pt_truth (ix (pv 0) pe_int (fun _ _ => rfl)) (by intro _; rfl)))))
        (pss_cons (ps_set (i := 2) sc.nd rfl (.inl rfl) (pe_callTy call_int1 (by rfl) B.int (by decide +kernel) (pa_cons (pe_bm PySem.F.plainAttrs_list PySem.F.slot_list_pop PySem.F.type_list_pop mt_popAt (ix (pv 0) pe_int (fun _ _ => rfl)) (pa_cons pe_int pa_nil)) pa_nil)))
        (pss_cons (ps_set (i := 3) sc.nd rfl (.inl rfl) (pe_ifExp (pt_cmpR op_ge (pv 2) pe_int (nomark _)) (pe_op op_mul pe_int (pv 2)) (pe_op op_sub (pe_un un_neg pe_int) (pe_op op_mul pe_int (pv 2)))))
        (pss_one (ps_if (pt_cmpR op_ge (pv 3) (pe_op op_pow pe_int pe_int) (nomark _))
          (pss_one (ps_asg (pv 3) (pg_sub (pv 0) pe_int set_list)))
          (pss_one (ps_asg (pe_op op_mod (pe_callTy call_int1 (by rfl) B.int (by decide +kernel) (pa_cons (pe_op op_add (pe_op op_add (pe_op op_mul (ix (pv 0) pe_int (fun _ _ => rfl)) pe_int) (pe_op op_mul (pv 3) pe_int)) pe_int) pa_nil)) pe_int) (pg_sub (pv 0) pe_int set_list)))))))
        pss_nil)
      (pss_cons (ps_if (pt_cmpR op_gt (ix (pv 0) pe_int (fun _ _ => rfl)) pe_int (nomark _))
        (pss_cons (ps_set (i := 4) sc.nd rfl (.inl rfl) (pe_op op_mod (pe_callTy call_int1 (by rfl) B.int (by decide +kernel) (pa_cons (ix (pv 0) pe_int (fun _ _ => rfl)) pa_nil)) (pv 1)))
        (pss_cons (ps_asg (pe_op op_fdivW (ix (pv 0) pe_int (fun _ _ => rfl)) (pv 1)) (pg_sub (pv 0) pe_int set_list))
        (pss_one (ps_ret (pv 4))))) pss_nil)
      (pss_cons (ps_set (i := 5) sc.nd rfl (.inl rfl) (pe_op op_add (pe_op op_mul (ix (pv 0) pe_int (fun _ _ => rfl)) pe_int) (pe_op op_mul (pe_op op_mul (ix (pv 0) pe_int (fun _ _ => rfl)) (ix (pv 0) pe_int (fun _ _ => rfl))) pe_int)))
      (pss_cons (ps_set (i := 6) sc.nd rfl (.inl rfl) (pe_op op_mod (pe_callTy call_int1 (by rfl) B.int (by decide +kernel) (pa_cons (pe_op op_add (pe_op op_mul (ix (pv 0) pe_int (fun _ _ => rfl)) pe_int) (pv 5)) pa_nil)) pe_int))
      (pss_one (ps_ret (pe_ifExp (pt_truth (ix (pv 0) pe_int (fun _ _ => rfl)) (by intro _; rfl)) (pe_op op_mod (pe_op op_mod (pe_callTy call_int1 (by rfl) B.int (by decide +kernel) (pa_cons (pe_op op_fdivW (pe_op op_mul (pv 6) pe_int) pe_int) pa_nil)) pe_int) (pv 1)) pe_int))))))), ?_⟩
    -- _law_pool_here[2] += 1
    refine ⟨_, rfl, p, _, 2, .int c2, rfl, rfl, by decide, SqL.of h1, rfl, c2, 1, rfl, rfl, p, _, 2, 2, rfl, rfl, h1, rfl, ?_⟩
    let c2' := c2 + 1
    have k1 : (upd H p (.lst ([V.ref a, .int c1, .int c2, .int c3].set 2 (.int (c2 + 1))))) p = some (.lst [.ref a, .int c1, .int (c2 + 1), .int c3]) := upd_same
    have k2 : (upd H p (.lst ([V.ref a, .int c1, .int c2, .int c3].set 2 (.int (c2 + 1))))) a = some (.lst (ns.map V.int)) := by rw [upd_ne (Ne.symm ne)]; exact h2
    have k3 : ∀ b o, b ≠ p → b ≠ a → H b = some o → (upd H p (.lst ([V.ref a, .int c1, .int c2, .int c3].set 2 (.int (c2 + 1))))) b = some o := fun b o n1 _ e => by rw [upd_ne n1]; exact e
    generalize upd H p (.lst ([V.ref a, .int c1, .int c2, .int c3].set 2 (.int (c2 + 1)))) = H1 at k1 k2 k3
    refine ⟨fun σ' H' => ∃ (x y : Option V) (ns' : List Int) (d1 d3 : Int), σ' = [some (.ref p), some (.int m), x, y, none, none, none] ∧ H' p = some (.lst [.ref a, .int d1, .int (c2 + 1), .int d3]) ∧ H' a = some (.lst (ns'.map V.int)) ∧ 0 ≤ d1 ∧ 0 ≤ d3 ∧ d3 < 2147483629 ∧ ns'.length ≤ 63 ∧
      ∀ b o, b ≠ p → b ≠ a → H b = some o → H' b = some o, ?_, ?_⟩
    · -- the pool takes one more of the script
      refine ⟨_, rfl, p, _, 1, .int c1, rfl, rfl, SqL.of k1, rfl, rfl, _, rfl, ?_⟩
      refine ite2 (fun hc => ?_) (fun hc => ?_)
      · refine ⟨_, rfl, p, _, 0, .ref a, rfl, rfl, SqL.of k1, rfl, _, .inl ⟨_, SqL.of k2, rfl⟩, ?_⟩
        refine ite2 (fun he => ?_) (fun he => ?_)
        · cases ns with
          | nil => cases he
          | cons n0 ns =>
            refine ⟨_, rfl, p, _, 0, .ref a, rfl, rfl, SqL.of k1, rfl, .inl ⟨rfl, _, SqL.of k2⟩, a, _, 0, 0, .int n0, rfl, rfl, k2, by decide, by decide, PySem.StrLaws.seqIndex_nonneg (Int.le_refl 0) (by rw [List.length_map, List.length_cons]; omega), rfl, .inl ⟨n0, rfl, ?_⟩⟩
            have k1' : (upd H1 a (.lst ((List.map V.int (n0 :: ns)).eraseIdx 0))) p = some (.lst [.ref a, .int c1, .int (c2 + 1), .int c3]) := by rw [upd_ne ne]; exact k1
            have k2' : (upd H1 a (.lst ((List.map V.int (n0 :: ns)).eraseIdx 0))) a = some (.lst (ns.map V.int)) := upd_same
            have k3' : ∀ b o, b ≠ p → b ≠ a → H b = some o → (upd H1 a (.lst ((List.map V.int (n0 :: ns)).eraseIdx 0))) b = some o := fun b o n1 n2 e => by rw [upd_ne n2]; exact k3 b o n1 n2 e
            generalize upd H1 a (.lst ((List.map V.int (n0 :: ns)).eraseIdx 0)) = H2 at k1' k2' k3'
            have gl : ns.length ≤ 63 := Nat.le_trans (Nat.le_succ _) gn
            -- code
            refine ⟨_, rfl, _, _, rfl, rfl, _, rfl, ?_⟩
            refine ite2 (fun h => ?_) (fun h => ?_)
            refine ⟨_, rfl, 2, n0, rfl, rfl, .inl ⟨by decide, by decide⟩, ?_⟩
            have hcd : 0 ≤ 2 * n0 := by
              have := of_decide_eq_true h
              omega
            show gName 3 (.int (2 * n0)) _ _ _
            generalize 2 * n0 = cd at hcd ⊢
            rotate_left
            refine ⟨1, rfl, _, rfl, 2, n0, rfl, rfl, .inl ⟨by decide, by decide⟩, -1, 2 * n0, rfl, rfl, ?_⟩
            have hcd : 0 ≤ -1 - 2 * n0 := by
              have : ¬ (0 ≤ n0) := fun z => h (decide_eq_true z)
              omega
            show gName 3 (.int (-1 - 2 * n0)) _ _ _
            generalize -1 - 2 * n0 = cd at hcd ⊢
            all_goals
              refine ⟨_, rfl, 10, 18, rfl, rfl, ⟨by decide, by decide, by decide⟩, _, _, rfl, rfl, _, rfl, ?_⟩
              refine ite2 (fun h => ?_) (fun h => ?_)
              · refine ⟨_, rfl, _, rfl, p, _, 1, 1, rfl, rfl, k1', rfl, ?_⟩
                exact ⟨_, _, ns, cd, c3, rfl, upd_same, by rw [upd_ne (Ne.symm ne)]; exact k2', hcd, g3, g3', gl, fun b o n1 n2 e => by rw [upd_ne n1]; exact k3' b o n1 n2 e⟩
              · refine ⟨_, rfl, p, _, 3, .int c3, rfl, rfl, SqL.of k1', rfl, c3, 48271, rfl, rfl, .inr ⟨by decide, by decide⟩, _, rfl, cd, 69621, rfl, rfl, .inr ⟨by decide, by decide⟩, _, _, rfl, rfl, _, _, rfl, rfl, .inl ⟨_, rfl, _, _, rfl, rfl, (by decide : (0 : Int) < 2147483629), ?_⟩⟩
                refine ⟨_, rfl, p, _, 3, 3, rfl, rfl, k1', rfl, ?_⟩
                exact ⟨_, _, ns, c1, _, rfl, upd_same, by rw [upd_ne (Ne.symm ne)]; exact k2', g1, (emod_lt' (by decide)).1, (emod_lt' (by decide)).2, gl, fun b o n1 n2 e => by rw [upd_ne n1]; exact k3' b o n1 n2 e⟩
        · exact ⟨_, _, ns, c1, c3, rfl, k1, k2, g1, g3, g3', gn, k3⟩
      · exact ⟨_, _, ns, c1, c3, rfl, k1, k2, g1, g3, g3', gn, k3⟩
    · -- the digit
      rintro σ' H' ⟨x, y, ns', d1, d3, rfl, k1, k2, e1, e3, e3', en, k3⟩
      have ok : ∀ d, 0 ≤ d → ∀ H'', H'' p = some (.lst [.ref a, .int d, .int (c2 + 1), .int d3]) → H'' a = some (.lst (ns'.map V.int)) → (poolA p a (N + 1)).R K (mem (poolA p a (N + 1) :: X)) H'' := fun d hd H'' q1 q2 => ⟨ne, ns', d, c2 + 1, d3, q1, q2, hd, by omega, by omega, e3, e3', en⟩
      refine ⟨_, rfl, p, _, 1, .int d1, rfl, rfl, SqL.of k1, rfl, _, _, rfl, rfl, _, rfl, ?_⟩
      refine ite2 (fun h => ?_) (fun h => ?_)
      · have hd : 0 < d1 := of_decide_eq_true h
        refine ⟨_, rfl, p, _, 1, .int d1, rfl, rfl, SqL.of k1, rfl, .inl ⟨_, rfl, _, rfl, _, _, rfl, rfl, hm, ?_⟩⟩
        refine ⟨_, rfl, p, _, 1, .int d1, rfl, rfl, SqL.of k1, rfl, _, rfl, d1, m, rfl, rfl, wide_div hm (b := 200) (by omega) (by decide) (by decide), ?_⟩
        refine ⟨_, rfl, p, _, 1, 1, rfl, rfl, k1, rfl, ?_⟩
        refine ⟨_, rfl, fin _ _ (emod_lt' hm).1 (emod_lt' hm).2 (fun b o n1 n2 e => by rw [upd_ne n1]; exact k3 b o n1 n2 e) (ok (d1 / m) (Int.ediv_nonneg (by omega) (by omega)) _ upd_same (by rw [upd_ne (Ne.symm ne)]; exact k2))⟩
      · have b2 : CMul (c2 + 1) (c2 + 1) := .inl ⟨by omega, by omega⟩
        refine ⟨_, rfl, p, _, 2, .int (c2 + 1), rfl, rfl, SqL.of k1, rfl, _, 40692, rfl, rfl, .inr ⟨by decide, by decide⟩, _, rfl, p, _, 2, .int (c2 + 1), rfl, rfl, SqL.of k1, rfl, _, rfl, p, _, 2, .int (c2 + 1), rfl, rfl, SqL.of k1, rfl, _, _, rfl, rfl, b2, _, 3, rfl, rfl, .inr ⟨by decide, by decide⟩, _, _, rfl, rfl, ?_⟩
        refine ⟨_, rfl, p, _, 3, .int d3, rfl, rfl, SqL.of k1, rfl, _, 16807, rfl, rfl, .inr ⟨by decide, by decide⟩, _, rfl, _, _, rfl, rfl, .inl ⟨_, rfl, _, _, rfl, rfl, (by decide : (0 : Int) < 2147483647), ?_⟩⟩
        refine ⟨_, rfl, p, _, 3, .int d3, rfl, rfl, SqL.of k1, rfl, _, rfl, ?_⟩
        refine ite2 (fun h => ?_) (fun h => ?_)
        · refine ⟨_, rfl, _, 48271, rfl, rfl, .inr ⟨by decide, by decide⟩, _, 7, rfl, rfl, wide_div (by decide) (b := 10) (by decide) (by decide) (by decide), .inl ⟨_, rfl, _, _, rfl, rfl, (by decide : (0 : Int) < 2147483629), _, rfl, _, _, rfl, rfl, hm, ?_⟩⟩
          exact fin _ _ (emod_lt' hm).1 (emod_lt' hm).2 k3 (ok d1 e1 _ k1 k2)
        · exact fin 0 _ (Int.le_refl _) hm k3 (ok d1 e1 _ k1 k2)
abbrev N__law_pool : List Str := ["_law_script"]
theorem sc__law_pool : FnScope N__law_pool ["_law_script"] (defScope s__law_pool) := ⟨rfl, rfl, rfl, by decide +kernel, rfl, by decide +kernel, by decide +kernel⟩
theorem cut_map {α : Type} (f : α → V) (xs : List α) (lo hi : Option Int) : ∃ ys : List α, cutV (xs.map f) lo hi = ys.map f ∧ ys.length ≤ xs.length := by
  unfold cutV
  refine ⟨(xs.drop (HT.sIx (xs.map f).length 0 lo)).take (HT.sIx (xs.map f).length (xs.map f).length hi - HT.sIx (xs.map f).length 0 lo), by rw [List.map_take, List.map_drop], ?_⟩
  rw [List.length_take, List.length_drop]
  omega
theorem c__law_poolT {T : List (Addr × Str)} (B : Bl mg) (Dx : Dfn K mg "_law_pool" s__law_pool ["_law_script"]) : ∃ f fd, FnOk P w K mg base CX0 1 f fd ["_law_script"] (spPoolT K T) ∧ mg "_law_pool" = some (.ref f) ∧ PySem.W.keepIn K (.ref f) = true ∧ Binds K fd ["_law_script"] [] := by
  obtain ⟨f, fd, F, g, b⟩ := Dx
  refine ⟨f, fd, ?_, g, F.kp, b⟩
  have sc := sc__law_pool
  refine F.ok sc (fun vs H Q E h => ?_) (fun cdv A outer s H vs Q E hr h => ?_)
  · obtain ⟨a, ns, rfl, _⟩ := h
    rfl
  · obtain ⟨a, ns, rfl, hS, hl, hT, hQ⟩ := h
    refine ⟨_, pss_one (ps_ret (pe_lst (pa_cons (pe_callTy call_list_of (by rfl) B.list (by decide +kernel) (pa_cons (pe_slice sl_list (pv 0) po_none (po_some pe_int)) pa_nil)) (pa_cons pe_int (pa_cons pe_int (pa_cons pe_int pa_nil)))))), ?_⟩
    obtain ⟨ms, e, hm⟩ := cut_map V.int ns none (some 63)
    refine ⟨_, rfl, _, rfl, a, _, rfl, hS, fun q hq => ?_⟩
    rw [e]
    refine ⟨q, _, rfl, .inl (SqL.of upd_same), fun l hl2 => ⟨(by decide : 4 ≤ sizeLine), fun p hp => ?_⟩⟩
    have hlp : l ≠ p := ne_of_none (H := upd (upd H q (.lst (ms.map V.int))) l (.lst (ms.map V.int))) upd_same hp
    have hT1 := hT.upd (o := .lst (ms.map V.int)) hq
    have hT2 := hT1.upd (o := .lst (ms.map V.int)) hl2
    refine hQ p l _ (rok_tabs (fun N => ⟨Ne.symm hlp, ms, 0, 0, 0, upd_same, ?_, by decide, by decide, by decide, by decide, by decide, by omega⟩) (fun b m => ?_) (hT2.upd hp))
    · rw [upd_ne hlp, upd_same]
    · rcases m with rfl | rfl
      · exact hT2.fresh hp
      · exact hT1.fresh hl2
def dif (xs ys : List D) (d : D) : Bool := match d with | .int i => (match xs[i.toNat]?, ys[i.toNat]? with | some x, some y => !same x y | _, _ => false) | _ => false
theorem dif_all {xs ys : List D} (hl : xs.length = ys.length) : (((List.range ys.length).map fun i : Nat => D.int (i : Int)).filter (dif xs ys)).isEmpty = sames xs ys := by
  cases q : sames xs ys with
  | true =>
    rw [List.isEmpty_iff, List.filter_eq_nil_iff]
    intro d hd
    obtain ⟨i, hi, rfl⟩ := List.mem_map.mp hd
    have hi := List.mem_range.mp hi
    have e1 : xs[i]? = some xs[i] := List.getElem?_eq_getElem (by omega)
    have e2 : ys[i]? = some ys[i] := List.getElem?_eq_getElem hi
    show ¬ (match xs[((i : Nat) : Int).toNat]?, ys[((i : Nat) : Int).toNat]? with | some x, some y => !same x y | _, _ => false) = true
    rw [Int.toNat_natCast, e1, e2]
    dsimp only
    rw [sames_at q e1 e2]
    decide
  | false =>
    rw [Bool.eq_false_iff, Ne, List.isEmpty_iff, List.filter_eq_nil_iff]
    intro h
    have : sames xs ys = true := sames_of hl fun j x y ex ey => by
      have hj := (List.getElem?_eq_some_iff.mp ey).1
      have := h (.int (j : Nat)) (List.mem_map.mpr ⟨j, List.mem_range.mpr hj, rfl⟩)
      have : ¬ (match xs[((j : Nat) : Int).toNat]?, ys[((j : Nat) : Int).toNat]? with | some x, some y => !same x y | _, _ => false) = true := this
      rw [Int.toNat_natCast, ex, ey] at this
      dsimp only at this
      simpa using this
    rw [this] at q
    cases q
theorem same_ll {xs ys : List D} : G.same (.lst xs) (.lst ys) = sames xs ys := by simp only [G.same]
theorem same_tt {xs ys : List D} : G.same (.tup xs) (.tup ys) = sames xs ys := by simp only [G.same]
abbrev N__law_same : List Str := ["_law_actual", "_law_due", "_law_k"]
theorem sc__law_same : FnScope N__law_same ["_law_actual", "_law_due"] (defScope s__law_same) := ⟨rfl, rfl, rfl, by decide +kernel, rfl, by decide +kernel, by decide +kernel⟩
theorem c__law_same (B : Bl mg) (Dx : Dfn K mg "_law_same" s__law_same ["_law_actual", "_law_due"]) : ∀ n : Nat, Cl P w K mg base n "_law_same" ["_law_actual", "_law_due"] (spSame n)
  | 0 => cl_never Dx fun ds r P' XR ⟨a, b, _, _, _, _, z, _⟩ => by omega
  | n + 1 => by
    have sc := sc__law_same
    have C__law_same := c__law_same B Dx n
    refine cl_of Dx sc (fun ds r P' XR ⟨a, b, e, _⟩ => by rw [e]; rfl) (fun f cdv A outer s H E hr tk po => ?_)
    have hu := hr.units
    refine ⟨_, (ss_cons (s_if (b_tru (d_isi2 .list .tuple (by rfl) B.isi (dv 1) (by rfl) B.list (by rfl) B.tuple))
  (ss_cons (s_if (b_cmp (p_ne hu) (d_isi .list (by rfl) B.isi (dv 0) (by rfl) B.list) (d_isi .list (by rfl) B.isi (dv 1) (by rfl) B.list))
  (ss_one (s_ret d_bl))
  ss_nil)
  (ss_cons (s_if (b_w (w_or (b_not (b_tru (d_isi2 .list .tuple (by rfl) B.isi (dv 0) (by rfl) B.list (by rfl) B.tuple))) (w_or1 (b_cmp (p_ne hu) (d_blt c_len (by rfl) B.len (dl_cons (dv 0) dl_nil)) (d_blt c_len (by rfl) B.len (dl_cons (dv 1) dl_nil))))))
  (ss_one (s_ret d_bl))
  ss_nil)
  (ss_one (s_ret (d_cmp (p_eq hu) (d_lc (js := [2]) (own := [("_law_k", 2)]) sc.nd (i_r1 (by rfl) B.range (dl_cons (d_blt c_len (by rfl) B.len (dl_cons (dv 1) dl_nil)) dl_nil)) (blkOk_by (own := [("_law_k", 2)]) (N := N__law_same) (sc := defScope s__law_same) (by decide +kernel)) (fun _ _ _ _ _ => (g_name (i := 2) sc.nd)) (fun _ _ _ _ _ => (pts_1 (b_not (b_tru (d_fnN C__law_same hr (dl_cons (d_ix (dv 0) (dv 2)) (dl_cons (d_ix (dv 1) (dv 2)) dl_nil))))))) (fun _ _ _ _ _ => (dv 2))) (d_lst dl_nil))))))
  ss_nil)
  (ss_cons (s_if (b_w (w_or (b_cmp p_is (dv 1) d_non) (w_or1 (b_cmp p_is (dv 0) d_non))))
  (ss_one (s_ret (d_and (d_cmp p_is (dv 1) d_non) (d_one (d_cmp p_is (dv 0) d_non)))))
  ss_nil)
  (ss_cons (s_if (b_cmp (p_ne hu) (d_isi .bool (by rfl) B.isi (dv 0) (by rfl) B.bool) (d_isi .bool (by rfl) B.isi (dv 1) (by rfl) B.bool))
  (ss_one (s_ret d_bl))
  ss_nil)
  (ss_cons (s_if (b_cmp (p_ne hu) (d_isi .int (by rfl) B.isi (dv 0) (by rfl) B.int) (d_isi .int (by rfl) B.isi (dv 1) (by rfl) B.int))
  (ss_one (s_ret d_bl))
  ss_nil)
  (ss_cons (s_if (b_w (w_or (b_tru (d_isi2 .list .tuple (by rfl) B.isi (dv 0) (by rfl) B.list (by rfl) B.tuple)) (w_or1 (b_cmp (p_ne hu) (d_isi .str (by rfl) B.isi (dv 0) (by rfl) B.str) (d_isi .str (by rfl) B.isi (dv 1) (by rfl) B.str)))))
  (ss_one (s_ret d_bl))
  ss_nil)
  (ss_one (s_ret (d_cmp (p_eq hu) (dv 0) (dv 1))))))))), fun ds r P' XR h => ?_⟩
    obtain ⟨a, b, rfl, pa, pb, da, db, h⟩ := h
    replace h := fit.of h
    cases b with
    | adr x => cases pb
    | ins _ _ _ => cases pb
    | dct _ _ => cases pb
    | lst ys =>
      refine brT ?_
      cases a <;> first | (cases pa; done) | skip
      case lst xs =>
        refine ⟨Nat.zero_le _, Nat.zero_le _, brF (brF fun ly lx => ⟨Nat.zero_le _, Nat.zero_le _, ?_⟩)⟩
        by_cases hl : xs.length = ys.length
        rotate_left
        · refine brt (ne_len hl) ?_
          have : sames xs ys = false := by
            cases q : sames xs ys with
            | false => rfl
            | true => exact absurd (sames_len q) hl
          rw [same_ll, this] at h
          exact h
        refine brf (eq_len hl) ?_
        have pbl := (plain_lst pb).1
        replace pa := (plain_lst pa).2
        replace pb := (plain_lst pb).2
        simp only [dep] at da db
        rw [sizeLine_eq] at ly
        refine fun _ => ⟨⟨by omega, by omega⟩, ?_⟩
        refine lc_fm (dif xs ys) (fun d => d) (by unfold small; simp; omega) (fun e he r2 Q1 Q2 q1 q2 => ?_) ?_
        · obtain ⟨i, hi, rfl⟩ := List.mem_map.mp he
          have hi : i < ys.length := by simpa using hi
          have e1 : xs[i]? = some xs[i] := List.getElem?_eq_getElem (by omega)
          have e2 : ys[i]? = some ys[i] := List.getElem?_eq_getElem hi
          have ed : dif xs ys (.int (i : Nat)) = !same xs[i] ys[i] := by
            show (match xs[((i : Nat) : Int).toNat]?, ys[((i : Nat) : Int).toNat]? with | some x, some y => !same x y | _, _ => false) = _
            rw [Int.toNat_natCast, e1, e2]
          refine ix_l (atI_nat e1) (ix_l (atI_nat e2) ⟨_, _, rfl, plains_at pa e1, plains_at pb e2, by have := deps_at e1; omega, by have := deps_at e2; omega, ?_⟩)
          exact ⟨fun z => q1 (ed.trans z), fun z => q2 (ed.trans z)⟩
        · rw [List.map_id']
          have dd : deps (((List.range ((ys.length : Nat) : Int).toNat).map fun i : Nat => D.int (i : Int)).filter (dif xs ys)) ≤ 0 := by
            have := deps_le (k := 0) (ds := ((List.range ((ys.length : Nat) : Int).toNat).map fun i : Nat => D.int (i : Int)).filter (dif xs ys)) fun d hd => by
              obtain ⟨i, _, rfl⟩ := List.mem_map.mp (List.mem_filter.mp hd).1
              exact Nat.le_refl _
            exact this
          refine ⟨Nat.le_of_ble_eq_true rfl, ?_, Nat.le_of_ble_eq_true rfl, ?_⟩
          · show deps _ + 1 ≤ 64
            omega
          · rw [eq_nil, Int.toNat_natCast, dif_all hl]
            rw [same_ll] at h
            exact h
      case tup xs => exact ⟨Nat.zero_le _, Nat.zero_le _, brT h⟩
      all_goals exact ⟨Nat.zero_le _, Nat.zero_le _, brT h⟩
    | tup ys =>
      refine brT ?_
      cases a <;> first | (cases pa; done) | skip
      case tup xs =>
        refine ⟨Nat.zero_le _, Nat.zero_le _, brF (brF fun ly lx => ⟨Nat.zero_le _, Nat.zero_le _, ?_⟩)⟩
        by_cases hl : xs.length = ys.length
        rotate_left
        · refine brt (ne_len hl) ?_
          have : sames xs ys = false := by
            cases q : sames xs ys with
            | false => rfl
            | true => exact absurd (sames_len q) hl
          rw [same_tt, this] at h
          exact h
        refine brf (eq_len hl) ?_
        have pbl := (plain_tup pb).1
        replace pa := (plain_tup pa).2
        replace pb := (plain_tup pb).2
        simp only [dep] at da db
        rw [sizeLine_eq] at ly
        refine fun _ => ⟨⟨by omega, by omega⟩, ?_⟩
        refine lc_fm (dif xs ys) (fun d => d) (by unfold small; simp; omega) (fun e he r2 Q1 Q2 q1 q2 => ?_) ?_
        · obtain ⟨i, hi, rfl⟩ := List.mem_map.mp he
          have hi : i < ys.length := by simpa using hi
          have e1 : xs[i]? = some xs[i] := List.getElem?_eq_getElem (by omega)
          have e2 : ys[i]? = some ys[i] := List.getElem?_eq_getElem hi
          have ed : dif xs ys (.int (i : Nat)) = !same xs[i] ys[i] := by
            show (match xs[((i : Nat) : Int).toNat]?, ys[((i : Nat) : Int).toNat]? with | some x, some y => !same x y | _, _ => false) = _
            rw [Int.toNat_natCast, e1, e2]
          refine ix_t (atI_nat e1) (ix_t (atI_nat e2) ⟨_, _, rfl, plains_at pa e1, plains_at pb e2, by have := deps_at e1; omega, by have := deps_at e2; omega, ?_⟩)
          exact ⟨fun z => q1 (ed.trans z), fun z => q2 (ed.trans z)⟩
        · rw [List.map_id']
          have dd : deps (((List.range ((ys.length : Nat) : Int).toNat).map fun i : Nat => D.int (i : Int)).filter (dif xs ys)) ≤ 0 := by
            have := deps_le (k := 0) (ds := ((List.range ((ys.length : Nat) : Int).toNat).map fun i : Nat => D.int (i : Int)).filter (dif xs ys)) fun d hd => by
              obtain ⟨i, _, rfl⟩ := List.mem_map.mp (List.mem_filter.mp hd).1
              exact Nat.le_refl _
            exact this
          refine ⟨Nat.le_of_ble_eq_true rfl, ?_, Nat.le_of_ble_eq_true rfl, ?_⟩
          · show deps _ + 1 ≤ 64
            omega
          · rw [eq_nil, Int.toNat_natCast, dif_all hl]
            rw [same_tt] at h
            exact h
      case lst xs => exact ⟨Nat.zero_le _, Nat.zero_le _, brT h⟩
      all_goals exact ⟨Nat.zero_le _, Nat.zero_le _, brF (brT (brT h))⟩
    | non =>
      refine brF (brT (brT (brT ?_)))
      cases a <;> first | (cases pa; done) | exact h
    | bl x =>
      refine brF (brF ?_)
      cases a <;> first | (cases pa; done) | skip
      case non => exact brT (brF h)
      case bl y => cases x <;> cases y <;> exact brF ⟨Nat.zero_le _, Nat.zero_le _, brF ⟨Nat.zero_le _, Nat.zero_le _, brF (brF ⟨Nat.zero_le _, Nat.zero_le _, brF ⟨Nat.zero_le _, Nat.zero_le _, h⟩⟩)⟩⟩
      all_goals exact brF ⟨Nat.zero_le _, Nat.zero_le _, brT h⟩
    | str x =>
      refine brF (brF ?_)
      cases a <;> first | (cases pa; done) | skip
      case non => exact brT (brF h)
      case str y => exact brF ⟨Nat.zero_le _, Nat.zero_le _, brF ⟨Nat.zero_le _, Nat.zero_le _, brF (brF ⟨Nat.zero_le _, Nat.zero_le _, brF ⟨Nat.zero_le _, Nat.zero_le _, h⟩⟩)⟩⟩
      case bl y => exact brF ⟨Nat.zero_le _, Nat.zero_le _, brT h⟩
      case int y => exact brF ⟨Nat.zero_le _, Nat.zero_le _, brF ⟨Nat.zero_le _, Nat.zero_le _, brT h⟩⟩
      all_goals exact brF ⟨Nat.zero_le _, Nat.zero_le _, brF ⟨Nat.zero_le _, Nat.zero_le _, brF (brT (brT h))⟩⟩
    | int x =>
      refine brF (brF ?_)
      cases a <;> first | (cases pa; done) | skip
      case non => exact brT (brF h)
      case int y => exact brF ⟨Nat.zero_le _, Nat.zero_le _, brF ⟨Nat.zero_le _, Nat.zero_le _, brF (brF ⟨Nat.zero_le _, Nat.zero_le _, brF ⟨Nat.zero_le _, Nat.zero_le _, h⟩⟩)⟩⟩
      case bl y => exact brF ⟨Nat.zero_le _, Nat.zero_le _, brT h⟩
      all_goals exact brF ⟨Nat.zero_le _, Nat.zero_le _, brF ⟨Nat.zero_le _, Nat.zero_le _, brT h⟩⟩
abbrev N_is_name : List Str := ["value", "letter"]
theorem sc_is_name : FnScope N_is_name ["value"] (defScope s_is_name) := ⟨rfl, rfl, rfl, by decide +kernel, rfl, by decide +kernel, by decide +kernel⟩
theorem c_is_name (B : Bl mg) (gL : GS mg "LETTERS" abc) (gM : GI mg "MOST_LETTERS" 8) (Dx : Dfn K mg "is_name" s_is_name ["value"]) : Cl P w K mg base 1 "is_name" ["value"] spIsName := by
  have sc := sc_is_name
  refine cl_of Dx sc (fun ds r P' XR ⟨d, e, _⟩ => by rw [e]; rfl) (fun f cdv A outer s H E hr tk po => ?_)
  have hi := u65 hr
  refine ⟨_, (ss_cons (s_if (b_w (w_or (b_not (b_tru (d_isi .str (by rfl) B.isi (dv 0) (by rfl) B.str))) (w_or1 (b_not (b_chain p_le p_le d_int (d_blt c_len (by rfl) B.len (dl_cons (dv 0) dl_nil)) (d_gI gM))))))
  (ss_one (s_ret d_bl))
  ss_nil)
  (ss_one (s_ret (d_blt c_all (by rfl) B.all (dl_cons (d_lc (js := [1]) (own := [("letter", 1)]) sc.nd (i_str (dv 0)) (blkOk_by (own := [("letter", 1)]) (N := N_is_name) (sc := defScope s_is_name) (by decide +kernel)) (fun _ _ _ _ _ => (g_name (i := 1) sc.nd)) (fun _ _ _ _ _ => pts_no) (fun _ _ _ _ _ => (d_cmp (p_in hi) (dv 1) (d_gS gL)))) dl_nil))))), fun ds r P' XR h => ?_⟩
  obtain ⟨d, rfl, pd, h⟩ := h
  replace h := fit.of h
  cases d with
  | adr => cases pd
  | ins => cases pd
  | dct => cases pd
  | str z =>
    refine brF ?_
    have hb : ∀ b, isNm z = b → fit P' (.bl b) r := fun b e => e ▸ h
    refine ⟨fun (h1 : decide ((1 : Int) ≤ ((z.length : Nat) : Int)) = true) => ⟨fun (h2 : (!decide (((z.length : Nat) : Int) ≤ 8)) = true) => ?_, fun (h2 : (!decide (((z.length : Nat) : Int) ≤ 8)) = false) => ?_⟩, fun (h1 : decide ((1 : Int) ≤ ((z.length : Nat) : Int)) = false) => brT ?_⟩
    · refine hb _ ?_
      have : ¬ z.length ≤ 8 := fun q => by
        have q2 : ((z.length : Nat) : Int) ≤ 8 := by omega
        rw [decide_eq_true q2] at h2
        cases h2
      unfold isNm
      rw [decide_eq_false this, Bool.and_false, Bool.false_and]
    · have l8 : z.length ≤ 8 := by
        have : ((z.length : Nat) : Int) ≤ 8 := by
          cases q : decide (((z.length : Nat) : Int) ≤ 8) with
          | true => exact of_decide_eq_true q
          | false => rw [q] at h2; cases h2
        omega
      have l1 : 1 ≤ z.length := by
        have : (1 : Int) ≤ ((z.length : Nat) : Int) := of_decide_eq_true h1
        omega
      refine lc_map (fun d => .bl (match d with | .str w => (match sub1 w with | some c => decide (c ∈ tl abc) | none => false) | _ => false)) ?_ ?_ ?_
      · rw [List.length_map]
        show (tl z).length ≤ 1000000
        rw [← len_tl]
        omega
      · intro d hd r' P'' q
        obtain ⟨c, hc, rfl⟩ := List.mem_map.mp hd
        exact ⟨q⟩
      · have e : (List.map (fun c => D.str ⟨#[c]⟩) (tl z)).map (fun d => D.bl (match d with | .str w => (match sub1 w with | some c => decide (c ∈ tl abc) | none => false) | _ => false)) = (tl z).map fun c => D.bl (isLet c) := by
          rw [List.map_map]
          congr 1
          funext c
          show D.bl (decide (c ∈ tl abc)) = _
          rw [isLet_abc]
        rw [e]
        refine oAll_of (f := fun bs => bs.all id) (k := fun d => fit P' d r) (bls_of isLet (tl z)) ?_
        refine hb _ ?_
        unfold isNm
        rw [decide_eq_true l1, decide_eq_true l8, List.all_map]
        rfl
    · refine hb _ ?_
      have : ¬ 1 ≤ z.length := fun q => by
        have q2 : (1 : Int) ≤ ((z.length : Nat) : Int) := by omega
        rw [decide_eq_true q2] at h1
        cases h1
      unfold isNm
      rw [decide_eq_false this, Bool.false_and, Bool.false_and]
  | _ => exact brT (brT h)
def spNames : SpX := fun ds r P _ => ∃ (p a : Addr) (N : Nat) (X : Rs) (m : Nat), ds = [.adr p, .int (m : Nat)] ∧ r = poolA p a N :: X ∧ N < 1000000 ∧ m ≤ 26 ∧ ∀ zs : List Str, zs.length = m → zs.Nodup → (∀ z ∈ zs, isNm z = true) → P (.lst (zs.map .str)) (poolA p a (N + 2 + 8 * m) :: X)
theorem nm_app1 {c : Nat} {cs : List Nat} (hc : isLet c = true) (hl : cs.length ≤ 7) (h : ∀ x ∈ cs, isLet x = true) : isNm (⟨#[c]⟩ ++ tJoin "" (cs.map sg)) = true ∧ isNm (tJoin "" (cs.map sg) ++ ⟨#[c]⟩) = true ∧ tl ((⟨#[c]⟩ : Str) ++ tJoin "" (cs.map sg)) = c :: cs ∧ tl (tJoin "" (cs.map sg) ++ (⟨#[c]⟩ : Str)) = cs ++ [c] := by
  have t1 : tl ((⟨#[c]⟩ : Str) ++ tJoin "" (cs.map sg)) = c :: cs := by
    show ((#[c] : Array Nat) ++ (tJoin "" (cs.map sg)).cps).toList = _
    rw [Array.toList_append]
    show [c] ++ tl (tJoin ⟨#[]⟩ (cs.map sg)) = _
    rw [tl_signs]
    rfl
  have t2 : tl (tJoin "" (cs.map sg) ++ (⟨#[c]⟩ : Str)) = cs ++ [c] := by
    show ((tJoin "" (cs.map sg)).cps ++ (#[c] : Array Nat)).toList = _
    rw [Array.toList_append]
    show tl (tJoin ⟨#[]⟩ (cs.map sg)) ++ [c] = _
    rw [tl_signs]
  refine ⟨?_, ?_, t1, t2⟩
  · unfold isNm
    rw [len_tl, t1, List.length_cons]
    simp only [Bool.and_eq_true, decide_eq_true_eq, List.all_eq_true]
    exact ⟨⟨by omega, by omega⟩, fun x hx => (List.mem_cons.mp hx).elim (fun e => e ▸ hc) (h x)⟩
  · unfold isNm
    rw [len_tl, t2, List.length_append, List.length_singleton]
    simp only [Bool.and_eq_true, decide_eq_true_eq, List.all_eq_true]
    exact ⟨⟨by omega, by omega⟩, fun x hx => (List.mem_append.mp hx).elim (h x) fun q => (List.mem_singleton.mp q) ▸ hc⟩
theorem abc_let {i c : Nat} (h : (tl abc)[i]? = some c) : c = 97 + i ∧ isLet c = true := by
  have q : ((List.range 26).all fun n => decide ((tl abc)[n]? = some (97 + n))) = true := by decide +kernel
  have l : (tl abc).length = 26 := by decide +kernel
  have hi := (List.getElem?_eq_some_iff.mp h).1
  rw [l] at hi
  have e := of_decide_eq_true (List.all_eq_true.mp q i (List.mem_range.mpr hi))
  rw [h] at e
  have e := Option.some.inj e
  subst e
  refine ⟨rfl, ?_⟩
  unfold isLet
  rw [decide_eq_true (by omega), decide_eq_true (by omega)]
  rfl
abbrev N__law_names : List Str := ["_law_pool_here", "_law_many", "_law_letters", "_law_size", "_law_front", "_law_names_here", "_law_k", "_law_word", "_law_j"]
theorem sc__law_names : FnScope N__law_names ["_law_pool_here", "_law_many"] (defScope s__law_names) := ⟨rfl, rfl, rfl, by decide +kernel, rfl, by decide +kernel, by decide +kernel⟩
theorem c__law_names (B : Bl mg) (C__law_draw : Cl P w K mg base 1 "_law_draw" ["_law_pool_here", "_law_many"] spDraw) (Dx : Dfn K mg "_law_names" s__law_names ["_law_pool_here", "_law_many"]) : Cl P w K mg base 2 "_law_names" ["_law_pool_here", "_law_many"] spNames := by
  have sc := sc__law_names
  refine cl_of Dx sc (fun ds r P' XR ⟨_, _, _, _, _, e, _⟩ => by rw [e]; rfl) (fun f cdv A outer s H E hr tk po => ⟨_, (ss_cons (s_set (i := 2) sc.nd d_str)
  (ss_cons (s_set (i := 3) sc.nd (d_fn C__law_draw tk hr (dl_cons (dv 0) (dl_cons d_int dl_nil))))
  (ss_cons (s_set (i := 4) sc.nd (d_fn C__law_draw tk hr (dl_cons (dv 0) (dl_cons d_int dl_nil))))
  (ss_cons (s_set (i := 5) sc.nd (d_lstO dl_nil))
  (ss_cons (s_for (i_r1 (by rfl) B.range (dl_cons (dv 1) dl_nil)) (g_name (i := 6) sc.nd)
  (ss_cons (s_set (i := 7) sc.nd (d_join d_str (d_lc (js := [8]) (own := [("_law_j", 8)]) sc.nd (i_r1 (by rfl) B.range (dl_cons (dv 3) dl_nil)) (blkOk_by (own := [("_law_j", 8)]) (N := N__law_names) (sc := defScope s__law_names) (by decide +kernel)) (fun _ _ _ _ _ => (g_name (i := 8) sc.nd)) (fun _ _ _ _ _ => pts_no) (fun _ _ _ _ _ => (d_ix (dv 2) (d_fnN C__law_draw hr (dl_cons (dv 0) (dl_cons d_int dl_nil))))))))
  (ss_one (s_expr (d_app (dv 5) (dl_cons (d_if (b_tru (dv 4)) (d_bin p_add (d_ix (dv 2) (dv 6)) (dv 7)) (d_bin p_add (dv 7) (d_ix (dv 2) (dv 6)))) dl_nil))))) po)
  (ss_one (s_melt 5 (s_ret (dv 5))))))))), fun ds r P' XR h => ?_⟩)
  obtain ⟨p, a, N, X, m, rfl, rfl, hN, hm, hP⟩ := h
  refine ⟨p, a, 8, N, X, rfl, rfl, ⟨by decide, by decide⟩, by omega, fun sz s0 s8 => ⟨p, a, 2, N + 1, X, rfl, rfl, ⟨by decide, by decide⟩, by omega, fun fr f0 f2 => ⟨Nat.zero_le _, fun q => ⟨⟨by omega, by omega⟩, ?_⟩⟩⟩⟩
  obtain ⟨sz, rfl⟩ : ∃ n : Nat, sz = n := ⟨sz.toNat, by omega⟩
  refine ⟨fun i δ r' => (∃ e6 e7 e8, δ = [some (.adr p), some (.int (m : Nat)), some (.str abc), some (.int sz), some (.int fr), some (.adr q), e6, e7, e8]) ∧ ∃ (zs : List Str) (n : Nat), r' = poolA p a n :: (X ++ [lstA q (zs.map .str)]) ∧ n ≤ N + 2 + 8 * i ∧ zs.length = i ∧ zs.Nodup ∧ (∀ z ∈ zs, isNm z = true) ∧ ∀ j z, zs[j]? = some z → (fr ≠ 0 → (tl z).head? = some (97 + j)) ∧ (fr = 0 → (tl z).getLast? = some (97 + j)), ⟨⟨_, _, _, rfl⟩, [], _, rfl, Nat.le_refl _, rfl, List.nodup_nil, fun _ h => (by cases h), fun j z h => (by cases h)⟩, ?_, ?_⟩
  · rintro i d δ r' hd ⟨⟨e6, e7, e8, rfl⟩, zs, n, rfl, hn, hzl, hnd, hnm, hch⟩
    have hi : i < m := by
      have := (List.getElem?_eq_some_iff.mp hd).1
      rw [List.length_map, List.length_range] at this
      omega
    rw [List.getElem?_map, List.getElem?_range (by omega)] at hd
    cases hd
    refine ⟨⟨by omega, by omega⟩, ⟨fun j acc r' => ∃ cs : List Nat, acc = cs.map (fun c => D.str (sg c)) ∧ cs.length = j ∧ (∀ c ∈ cs, isLet c = true) ∧ r' = poolA p a (n + j) :: (X ++ [lstA q (zs.map .str)]), ⟨[], rfl, rfl, fun _ h => (by cases h), rfl⟩, ?_, ?_⟩⟩
    · rintro pp j d acc r' hd ⟨cs, rfl, hc, hl, rfl⟩
      have hj : j < sz := by
        have := (List.getElem?_eq_some_iff.mp hd).1
        rw [List.length_map, List.length_range] at this
        omega
      refine brT ⟨p, a, 26, _, _, rfl, rfl, ⟨by decide, by decide⟩, by omega, fun k k0 k1 => ?_⟩
      obtain ⟨c, hat, hc2⟩ := abc_at k0 k1
      refine ix_s hat ⟨?_, poolA p a (n + j + 1) :: (X ++ [lstA q (zs.map .str)]), le.refl, cs ++ [c], by rw [List.map_append]; rfl, by rw [List.length_append, hc]; rfl, fun x hx => (List.mem_append.mp hx).elim (hl x) fun h => (List.mem_singleton.mp h) ▸ hc2, rfl⟩
      rw [List.length_map, hc]
      unfold small
      omega
    · rintro acc r' ⟨cs, rfl, hc, hl, rfl⟩
      rw [List.length_map, List.length_range] at hc
      have hc : cs.length = sz := by omega
      have hc7 : cs.length ≤ 7 := by omega
      have lr : (List.map (fun i : Nat => D.int (i : Int)) (List.range ((sz : Int)).toNat)).length = sz := by rw [List.length_map, List.length_range]; omega
      refine join_l (strL_sg cs) (by rw [sum_ones, List.length_map]; show cs.length + cs.length * 0 ≤ 1000000; omega) ?_
      have l26 : (tl abc).length = 26 := by decide +kernel
      have hlt : i < (tl abc).length := by omega
      obtain ⟨c, hcat⟩ : ∃ c, (tl abc)[i]? = some c := ⟨_, List.getElem?_eq_getElem hlt⟩
      obtain ⟨ec, hlc⟩ := abc_let hcat
      obtain ⟨n1, n2, t1, t2⟩ := nm_app1 hlc hc7 hl
      have fin : ∀ z : Str, isNm z = true → (fr ≠ 0 → (tl z).head? = some (97 + i)) → (fr = 0 → (tl z).getLast? = some (97 + i)) → (zs ++ [z]).length = i + 1 ∧ (zs ++ [z]).Nodup ∧ (∀ z' ∈ zs ++ [z], isNm z' = true) ∧ ∀ j z', (zs ++ [z])[j]? = some z' → (fr ≠ 0 → (tl z').head? = some (97 + j)) ∧ (fr = 0 → (tl z').getLast? = some (97 + j)) := fun z hz h1 h2 => by
        have hch2 : ∀ j z', (zs ++ [z])[j]? = some z' → (fr ≠ 0 → (tl z').head? = some (97 + j)) ∧ (fr = 0 → (tl z').getLast? = some (97 + j)) := fun j z' hj => by
          rw [List.getElem?_append] at hj
          split at hj
          · exact hch j z' hj
          · rename_i hn
            have hj0 : j - zs.length = 0 := by
              have := (List.getElem?_eq_some_iff.mp hj).1
              rw [List.length_singleton] at this
              omega
            rw [hj0] at hj
            cases hj
            have : j = i := by omega
            subst this
            exact ⟨h1, h2⟩
        refine ⟨by rw [List.length_append, List.length_singleton, hzl], ?_, fun z' hz' => (List.mem_append.mp hz').elim (hnm z') fun h => (List.mem_singleton.mp h) ▸ hz, hch2⟩
        refine List.nodup_append.mpr ⟨hnd, by simp, fun x hx y hy e => ?_⟩
        rw [List.mem_singleton] at hy
        subst hy
        subst e
        obtain ⟨j, hj⟩ := List.mem_iff_getElem?.mp hx
        have hjl := (List.getElem?_eq_some_iff.mp hj).1
        obtain ⟨q1, q2⟩ := hch j x hj
        by_cases hf : fr = 0
        · have := (q2 hf).symm.trans (h2 hf)
          have := Option.some.inj this
          omega
        · have := (q1 hf).symm.trans (h1 hf)
          have := Option.some.inj this
          omega
      have sz8 : (tJoin "" (cs.map sg)).length ≤ 7 := by show (tJoin ⟨#[]⟩ (cs.map sg)).length ≤ 7; rw [len_tl, tl_signs]; exact hc7
      refine ⟨q, zs.map .str, rfl, ⟨_ :: X, [], rfl⟩, fun z => ?_, fun z => ?_⟩
      · have hf : fr ≠ 0 := by simpa using z
        refine ix_s (L2.atI_nat hcat) ?_
        refine ⟨by show 1 + _ ≤ _; omega, ⟨_ :: X, zs.map .str, [], .str _, rfl, rfl, by unfold small; rw [List.length_map]; omega, ⟨_, _, _, rfl⟩, zs ++ [_], _, by rw [List.map_append]; rfl, by omega, fin _ n1 (fun _ => by rw [t1, ec]; rfl) (fun e => absurd e hf)⟩⟩
      · have hf : fr = 0 := by simpa using z
        refine ix_s (L2.atI_nat hcat) ?_
        refine ⟨by show _ + 1 ≤ _; omega, ⟨_ :: X, zs.map .str, [], .str _, rfl, rfl, by unfold small; rw [List.length_map]; omega, ⟨_, _, _, rfl⟩, zs ++ [_], _, by rw [List.map_append]; rfl, by omega, fin _ n2 (fun e => absurd hf e) (fun _ => by rw [t2, ec]; simp)⟩⟩
  · rintro δ r' ⟨⟨e6, e7, e8, rfl⟩, zs, n, rfl, hn, hzl, hnd, hnm, hch⟩
    rw [List.length_map, List.length_range] at hzl hn
    have hzl : zs.length = m := by omega
    refine ⟨q, zs.map .str, _ :: X, [], rfl, rfl, ?_⟩
    rw [List.append_nil]
    exact ⟨_, pool_mono (by omega), hP zs hzl hnd hnm⟩
theorem lcV_map {x : XT} {g : AG} {te : AT} {δw : Dl} {d0 : D} {ds : List D} {r1 : Rs} {P : PK1} (f : D → D) (hs : SeqV r1 d0 ds) (hz : small ds.length) (he : ∀ d ∈ ds, ∀ (p : Addr) (acc : List D) (P' : PK1), P' (f d) (r1 ++ [lstA p acc]) → g d δw fun δ2 => te x δ2 (r1 ++ [lstA p acc]) P') (hP : P (.lst (ds.map f)) r1) : aLcVK x g bYes te δw d0 ds r1 P := by
  refine ⟨fun i acc r' => acc = (ds.take i).map f ∧ r' = r1, ⟨rfl, rfl⟩, fun i acc r' h => h.2 ▸ hs, ?_, ?_⟩
  · rintro p i d acc r' hd ⟨rfl, rfl⟩
    have hi := (List.getElem?_eq_some_iff.mp hd).1
    refine Eq.mp ?_ (he d (List.mem_of_getElem? hd) p ((ds.take i).map f) (fun y r3 => small (((ds.take i).map f).length + 1) ∧ ∃ r4, le r3 (r4 ++ [lstA p ((ds.take i).map f)]) ∧ ((ds.take i).map f ++ [y] = (ds.take (i + 1)).map f ∧ r4 = r')) ?_)
    · congr 1
      funext δ2
      unfold bYes
      simp
    · refine ⟨?_, r', le.refl, ?_, rfl⟩
      · unfold small at *
        rw [List.length_map, List.length_take]
        omega
      · rw [List.take_add_one, hd, List.map_append]
        rfl
  · rintro acc r' ⟨rfl, rfl⟩
    rw [List.take_length]
    exact hP
abbrev N_is_short : List Str := ["value", "most"]
theorem sc_is_short : FnScope N_is_short ["value", "most"] (defScope s_is_short) := ⟨rfl, rfl, rfl, by decide +kernel, rfl, by decide +kernel, by decide +kernel⟩
def isLen (d : D) : Bool := match d with | .int i => decide (0 ≤ i) && decide (i ≤ 10 ^ 30) | _ => false
def spLength : SpX := fun ds r P _ => ∃ d, ds = [d] ∧ plain d = true ∧ P (.bl (isLen d)) r
abbrev N_is_length : List Str := ["value"]
theorem sc_is_length : FnScope N_is_length ["value"] (defScope s_is_length) := ⟨rfl, rfl, rfl, by decide +kernel, rfl, by decide +kernel, by decide +kernel⟩
theorem c_is_length (B : Bl mg) (gL : GI mg "LONGEST" (10 ^ 30)) (Dx : Dfn K mg "is_length" s_is_length ["value"]) : Cl P w K mg base 1 "is_length" ["value"] spLength := by
  have sc := sc_is_length
  refine cl_of Dx sc (fun ds r P' XR ⟨_, e, _⟩ => by rw [e]; rfl) (fun f cdv A outer s H E hr tk po => ?_)
  have hu := hr.units
  have hi := u65 hr
  refine ⟨_, (ss_one (s_ret (d_and (d_isi .int (by rfl) B.isi (dv 0) (by rfl) B.int) (d_and (d_not (d_isi .bool (by rfl) B.isi (dv 0) (by rfl) B.bool)) (d_one (d_chain p_le p_le d_int (dv 0) (d_gI gL))))))), fun ds r P' XR h => ?_⟩
  obtain ⟨d, rfl, hd, h⟩ := h
  cases d with
  | int i =>
    refine brT (brT ?_)
    have e : isLen (.int i) = (decide (0 ≤ i) && decide (i ≤ 10 ^ 30)) := rfl
    rw [e] at h
    by_cases k : 0 ≤ i
    · rw [decide_eq_true k, Bool.true_and] at h
      exact brt (decide_eq_true k) (fit.of h)
    · rw [decide_eq_false k, Bool.false_and] at h
      exact brf (decide_eq_false k) (fit.of h)
  | bl b => exact brT (brF (fit.of h))
  | non => exact brF (fit.of h)
  | str z => exact brF (fit.of h)
  | lst ds => exact brF (fit.of h)
  | tup ds => exact brF (fit.of h)
  | adr a => cases hd
  | ins _ _ _ => cases hd
  | dct _ _ => cases hd
abbrev N_is_load : List Str := ["value", "name"]
theorem sc_is_load : FnScope N_is_load ["value"] (defScope s_is_load) := ⟨rfl, rfl, rfl, by decide +kernel, rfl, by decide +kernel, by decide +kernel⟩
def isBlD (d : D) : Bool := match d with | .bl _ => true | _ => false
def goodA (xs : List D) : Bool := decide (xs.length ≤ 1000) && xs.all isBlD
def goodL (xs : List D) : Bool := decide (xs.length ≤ 1000) && xs.all isLen
def goodLd (ys : List D) : Bool := decide (ys.length ≤ 100) && ys.all isNameD
abbrev N_wrong_part : List Str := ["answers", "lengths", "loads", "each"]
theorem sc_wrong_part : FnScope N_wrong_part ["answers", "lengths", "loads"] (defScope s_wrong_part) := ⟨rfl, rfl, rfl, by decide +kernel, rfl, by decide +kernel, by decide +kernel⟩
def ctF : List Str := ["answers", "lengths", "loads"]
def ctD (CC : Addr) (xa xl : List D) (zs : List (List D)) : D := .ins CC ctF [.tup xa, .tup xl, .tup (zs.map .tup)]
abbrev N_Contents___init__ : List Str := ["self", "answers", "lengths", "loads", "wrong", "load"]
theorem sc_Contents___init__ : FnScope N_Contents___init__ ["self", "answers", "lengths", "loads"] (defScope s_Contents___init__) := ⟨rfl, rfl, rfl, by decide +kernel, rfl, by decide +kernel, by decide +kernel⟩
def spCtLen (CC : Addr) : SpX := fun ds r P _ => ∃ (xa xl : List D) (zs : List (List D)), ds = [ctD CC xa xl zs] ∧ xa.length ≤ 1000 ∧ xl.length ≤ 1000 ∧ zs.length ≤ 1000 ∧ P (.int ((xa.length + xl.length + zs.length : Nat) : Int)) r
abbrev N_Contents___len__ : List Str := ["self"]
theorem sc_Contents___len__ : FnScope N_Contents___len__ ["self"] (defScope s_Contents___len__) := ⟨rfl, rfl, rfl, by decide +kernel, rfl, by decide +kernel, by decide +kernel⟩
theorem c_Contents_len {CC : Addr} (B : Bl mg) (K_Contents : KCls K mg "Contents" CC ctF) (Dx : DfG K CC "__len__" "Contents.__len__" s_Contents___len__ ["self"]) : ClG P w K mg base 1 CC "__len__" (spCtLen CC) := by
  have sc := sc_Contents___len__
  refine clg_of Dx sc (fun ds r P' XR ⟨_, _, _, e, _⟩ => by rw [e]; rfl) (fun f cdv A outer s H E hr tk po => ?_)
  have hu := hr.units
  have hi := u65 hr
  refine ⟨_, (ss_one (s_ret (d_blt c_len (by rfl) B.len (dl_cons (d_bin p_add (d_bin p_add (d_fld (dv 0)) (d_fld (dv 0))) (d_fld (dv 0))) dl_nil)))), fun ds r P' XR h => ?_⟩
  obtain ⟨xa, xl, zs, rfl, h1, h2, h3, h⟩ := h
  have hsl := sizeLine_eq
  refine .fro 0 _ rfl rfl (.fro 1 _ rfl rfl ⟨by unfold small; omega, .fro 2 _ rfl rfl ⟨by unfold small; rw [List.length_append, List.length_map]; omega, fun _ => ?_⟩⟩)
  rw [List.length_append, List.length_append, List.length_map]
  exact fit.of h
structure Trip (m : Nat) (xa : List Bool) (xl : List Int) (zs : List (List Str)) : Prop where
  la : xa.length < m
  ll : xl.length < m
  lz : zs.length < m
  ok : ∀ i ∈ xl, 0 ≤ i ∧ i ≤ 10 ^ 30
  nm : ∀ v ∈ zs, v.length ≤ 4 ∧ ∀ z ∈ v, isNm z = true
def trA (xa : List Bool) : List D := xa.map .bl
def trL (xl : List Int) : List D := xl.map .int
def trZ (zs : List (List Str)) : List (List D) := zs.map fun v => v.map .str
def spTripleO : SpX := fun ds r P _ => ∃ (p a : Addr) (N : Nat) (X : Rs) (m : Nat), ds = [.adr p, .int (m : Nat)] ∧ r = poolA p a N :: X ∧ N < 900000 ∧ 1 ≤ m ∧ m ≤ 100 ∧ ∀ xa xl zs, Trip m xa xl zs → ∀ q, P (.adr q) (poolA p a (N + 10000) :: X ++ [lstA q [.lst (trA xa), .lst (trL xl), .lst ((trZ zs).map .tup)]])
abbrev N__law_triple : List Str := ["_law_pool_here", "_law_most", "_law_says", "_law_k", "_law_sizes", "_law_pick", "_law_near", "_law_far", "_law_stocks", "_law_names_here", "_law_j"]
theorem sc__law_triple : FnScope N__law_triple ["_law_pool_here", "_law_most"] (defScope s__law_triple) := ⟨rfl, rfl, rfl, by decide +kernel, rfl, by decide +kernel, by decide +kernel⟩
theorem c__law_triple (B : Bl mg) (C__law_draw : Cl P w K mg base 1 "_law_draw" ["_law_pool_here", "_law_many"] spDraw) (C__law_names : Cl P w K mg base 2 "_law_names" ["_law_pool_here", "_law_many"] spNames) (Dx : Dfn K mg "_law_triple" s__law_triple ["_law_pool_here", "_law_most"]) : Cl P w K mg base 3 "_law_triple" ["_law_pool_here", "_law_most"] spTripleO := by
  have sc := sc__law_triple
  refine cl_of Dx sc (fun ds r P' XR ⟨_, _, _, _, _, e, _⟩ => by rw [e]; rfl) (fun f cdv A outer s H E hr tk po => ?_)
  have hu := hr.units
  have hi := u65 hr
  refine ⟨_, (ss_cons (s_setLc (i := 2) (js := [3]) (own := [("_law_k", 3)]) sc.nd (i_r1 (by rfl) B.range (dl_cons (d_fn C__law_draw tk hr (dl_cons (dv 0) (dl_cons (dv 1) dl_nil))) dl_nil)) (blkOk_by (own := [("_law_k", 3)]) (N := N__law_triple) (sc := defScope s__law_triple) (by decide +kernel)) (fun _ _ _ _ _ => (g_name (i := 3) sc.nd)) (fun _ _ _ _ _ => pts_no) (fun _ _ _ _ _ => (d_cmp (p_eq hu) (d_fnN C__law_draw hr (dl_cons (dv 0) (dl_cons d_int dl_nil))) d_int)) (sw_true rfl rfl rfl (by decide +kernel)))
  (ss_cons (s_set (i := 4) sc.nd (d_lstO dl_nil))
  (ss_cons (s_for (i_r1 (by rfl) B.range (dl_cons (d_fn C__law_draw tk hr (dl_cons (dv 0) (dl_cons (dv 1) dl_nil))) dl_nil)) (g_name (i := 3) sc.nd)
  (ss_cons (s_set (i := 5) sc.nd (d_fn C__law_draw tk hr (dl_cons (dv 0) (dl_cons d_int dl_nil))))
  (ss_cons (s_set (i := 6) sc.nd (d_fn C__law_draw tk hr (dl_cons (dv 0) (dl_cons d_int dl_nil))))
  (ss_cons (s_set (i := 7) sc.nd (d_fn C__law_draw tk hr (dl_cons (dv 0) (dl_cons (d_bin p_add (d_bin p_pow d_int d_int) d_int) dl_nil))))
  (ss_one (s_expr (d_app (dv 4) (dl_cons (d_ix (d_lst (dl_cons (d_bin p_sub (d_bin p_pow d_int d_int) (dv 6)) (dl_cons (dv 6) (dl_cons (dv 7) (dl_cons (dv 7) dl_nil))))) (dv 5)) dl_nil))))))) po)
  (ss_cons (s_set (i := 8) sc.nd (d_lstO dl_nil))
  (ss_cons (s_for (i_r1 (by rfl) B.range (dl_cons (d_fn C__law_draw tk hr (dl_cons (dv 0) (dl_cons (dv 1) dl_nil))) dl_nil)) (g_name (i := 3) sc.nd)
  (ss_cons (s_set (i := 9) sc.nd (d_fn C__law_names tk hr (dl_cons (dv 0) (dl_cons d_int dl_nil))))
  (ss_one (s_expr (d_app (dv 8) (dl_cons (d_ty c_tuple (by rfl) B.tuple (dl_cons (d_lc (js := [10]) (own := [("_law_j", 10)]) sc.nd (i_r1 (by rfl) B.range (dl_cons (d_fn C__law_draw tk hr (dl_cons (dv 0) (dl_cons d_int dl_nil))) dl_nil)) (blkOk_by (own := [("_law_j", 10)]) (N := N__law_triple) (sc := defScope s__law_triple) (by decide +kernel)) (fun _ _ _ _ _ => (g_name (i := 10) sc.nd)) (fun _ _ _ _ _ => pts_no) (fun _ _ _ _ _ => (d_ix (dv 9) (d_fnN C__law_draw hr (dl_cons (dv 0) (dl_cons d_int dl_nil)))))) dl_nil)) dl_nil))))) po)
  (ss_one (s_melt 4 (s_melt 8 (s_ret (d_lstO (dl_cons (dv 2) (dl_cons (dv 4) (dl_cons (dv 8) dl_nil))))))))))))), fun ds r P' XR h => ?_⟩
  obtain ⟨p, a, N, X, m, rfl, rfl, hN, hm1, hm, h⟩ := h
  have hsl := sizeLine_eq
  refine ⟨p, a, m, N, X, rfl, rfl, ⟨by omega, by omega⟩, by omega, fun k1 k10 k1m => ?_⟩
  refine ⟨⟨by omega, by omega⟩, ⟨fun i acc r' => ∃ bs : List Bool, bs.length = i ∧ acc = bs.map .bl ∧ r' = poolA p a (N + 1 + i) :: X, ⟨[], rfl, rfl, rfl⟩, ?_, ?_⟩⟩
  · rintro pl i d acc r' hd ⟨bs, hb, rfl, rfl⟩
    have hi := (List.getElem?_eq_some_iff.mp hd).1
    rw [List.length_map, List.length_range] at hi
    refine brT ⟨p, a, 2, N + 1 + i, _, rfl, rfl, ⟨by decide, by decide⟩, by omega, fun x x0 x1 => ⟨Nat.zero_le _, Nat.zero_le _, by unfold small; rw [List.length_map]; omega, poolA p a (N + 1 + (i + 1)) :: X, le.refl, bs ++ [x == 1], by rw [List.length_append, hb]; rfl, by rw [List.map_append]; rfl, rfl⟩⟩
  rintro acc r' ⟨bs, hb, rfl, rfl⟩
  rw [List.length_map, List.length_range] at hb
  obtain ⟨n1, hn1, hn1b⟩ : ∃ n1, n1 = N + 1 + (List.map (fun i => D.int (i : Nat)) (List.range k1.toNat)).length ∧ n1 ≤ N + 101 := ⟨_, rfl, by rw [List.length_map, List.length_range]; omega⟩
  rw [← hn1]
  refine ⟨Nat.le_of_ble_eq_true rfl, fun p4 => ?_⟩
  refine ⟨p, a, m, n1, _, rfl, rfl, ⟨by omega, by omega⟩, by omega, fun k2 k20 k2m => ?_⟩
  refine ⟨⟨by omega, by omega⟩, fun i δ r' => (∃ x3 x5 x6 x7, δ = [some (.adr p), some (.int (m : Nat)), some (.lst (bs.map .bl)), x3, some (.adr p4), x5, x6, x7, none, none, none]) ∧ ∃ is : List Int, is.length = i ∧ (∀ v ∈ is, 0 ≤ v ∧ v ≤ 10 ^ 30) ∧ r' = poolA p a (n1 + 1 + 3 * i) :: (X ++ [lstA p4 (is.map .int)]), ⟨⟨_, _, _, _, rfl⟩, [], rfl, fun _ h => (by cases h), rfl⟩, ?_, ?_⟩
  · rintro i d δ r' hd ⟨⟨x3, x5, x6, x7, rfl⟩, is, hil, his, rfl⟩
    have hi := (List.getElem?_eq_some_iff.mp hd).1
    rw [List.length_map, List.length_range] at hi
    refine ⟨p, a, 4, _, _, rfl, rfl, ⟨by decide, by decide⟩, by omega, fun u u0 u1 => ?_⟩
    refine ⟨p, a, 100, _, _, rfl, rfl, ⟨by decide, by decide⟩, by omega, fun y y0 y1 => ?_⟩
    refine ⟨⟨by decide, by decide, by decide⟩, p, a, _, _, _, rfl, rfl, ⟨by decide, by decide⟩, by omega, fun z z0 z1 => ?_⟩
    refine ⟨p4, is.map .int, rfl, ⟨poolA p a (n1 + 1 + 3 * i + 1 + 1 + 1) :: X, [], rfl⟩, ⟨by decide, by decide, by decide⟩, Nat.le_of_ble_eq_true rfl, ?_⟩
    obtain ⟨d, md, ed⟩ := pick_in (l := [.int (10 ^ 30 - y), .int y, .int z, .int z]) u0 u1
    refine ix_l ed ?_
    have z2 : z < 10 ^ 30 + 1 := z1
    obtain ⟨v, rfl, hv⟩ : ∃ v : Int, d = .int v ∧ 0 ≤ v ∧ v ≤ 10 ^ 30 := by
      simp only [List.mem_cons, List.not_mem_nil, or_false] at md
      rcases md with rfl | rfl | rfl | rfl
      · exact ⟨_, rfl, by omega, by omega⟩
      · exact ⟨_, rfl, by omega, by omega⟩
      · exact ⟨_, rfl, by omega, by omega⟩
      · exact ⟨_, rfl, by omega, by omega⟩
    refine ⟨poolA p a (n1 + 1 + 3 * i + 1 + 1 + 1) :: X, is.map .int, [], .int v, rfl, rfl, by unfold small; rw [List.length_map]; omega, ⟨_, _, _, _, rfl⟩, is ++ [v], by rw [List.length_append, hil]; rfl, fun w hw => ?_, by rw [List.map_append]; rfl⟩
    rcases List.mem_append.mp hw with q | q
    · exact his w q
    · rw [List.mem_singleton.mp q]; exact hv
  rintro δ r' ⟨⟨x3, x5, x6, x7, rfl⟩, is, hil, his, rfl⟩
  rw [List.length_map, List.length_range] at hil
  obtain ⟨n2, hn2, hn2b⟩ : ∃ n2, n2 = n1 + 1 + 3 * (List.map (fun i => D.int (i : Nat)) (List.range k2.toNat)).length ∧ n2 ≤ n1 + 301 := ⟨_, rfl, by rw [List.length_map, List.length_range]; omega⟩
  rw [← hn2]
  refine ⟨Nat.le_of_ble_eq_true rfl, fun p8 => ?_⟩
  obtain ⟨Y, hY⟩ : ∃ Y, Y = X ++ [lstA p4 (is.map D.int)] := ⟨_, rfl⟩
  rw [← hY]
  refine ⟨p, a, m, n2, _, rfl, rfl, ⟨by omega, by omega⟩, by omega, fun k3 k30 k3m => ?_⟩
  refine ⟨⟨by omega, by omega⟩, fun i δ r' => (∃ x3 x5 x6 x7 x9, δ = [some (.adr p), some (.int (m : Nat)), some (.lst (bs.map .bl)), x3, some (.adr p4), x5, x6, x7, some (.adr p8), x9, none]) ∧ ∃ (n3 : Nat) (zs : List (List Str)), n3 ≤ n2 + 1 + 39 * i ∧ zs.length = i ∧ (∀ v ∈ zs, v.length ≤ 4 ∧ ∀ z ∈ v, isNm z = true) ∧ r' = poolA p a n3 :: (Y ++ [lstA p8 ((trZ zs).map .tup)]), ⟨⟨_, _, _, _, _, rfl⟩, n2 + 1, [], by omega, rfl, fun _ h => (by cases h), rfl⟩, ?_, ?_⟩
  · rintro i d δ r' hd ⟨⟨x3, x5, x6, x7, x9, rfl⟩, n3, zs, hn3, hzl, hzs, rfl⟩
    have hi := (List.getElem?_eq_some_iff.mp hd).1
    rw [List.length_map, List.length_range] at hi
    refine ⟨p, a, n3, _, 4, rfl, rfl, by omega, by decide, fun nz hl hnd hnm => ?_⟩
    refine ⟨p8, _, rfl, ⟨poolA p a (n3 + 2 + 8 * 4) :: Y, [], rfl⟩, ?_⟩
    refine ⟨p, a, 5, _, _, rfl, rfl, ⟨by decide, by decide⟩, by omega, fun k4 k40 k45 => ?_⟩
    refine ⟨⟨by omega, by omega⟩, ⟨fun j acc r'' => ∃ vs : List Str, vs.length = j ∧ acc = vs.map .str ∧ (∀ z ∈ vs, isNm z = true) ∧ r'' = poolA p a (n3 + 2 + 8 * 4 + 1 + j) :: (Y ++ [lstA p8 ((trZ zs).map .tup)]), ⟨[], rfl, rfl, fun _ h => (by cases h), rfl⟩, ?_, ?_⟩⟩
    · rintro pl j d2 acc r'' hd2 ⟨vs, hvl, rfl, hvs, rfl⟩
      have hj := (List.getElem?_eq_some_iff.mp hd2).1
      rw [List.length_map, List.length_range] at hj
      refine brT ⟨p, a, 4, _, _, rfl, rfl, ⟨by decide, by decide⟩, by omega, fun c c0 c1 => ?_⟩
      obtain ⟨c, rfl⟩ : ∃ n : Nat, c = n := ⟨c.toNat, by omega⟩
      obtain ⟨z, hzc⟩ : ∃ z, nz[c]? = some z := ⟨nz[c]'(by omega), List.getElem?_eq_getElem _⟩
      refine ix_l (L2.atI_nat (by rw [List.getElem?_map, hzc]; rfl)) ⟨by unfold small; rw [List.length_map]; omega, _, le.refl, vs ++ [z], by rw [List.length_append, hvl]; rfl, by rw [List.map_append]; rfl, fun w hw => ?_, rfl⟩
      rcases List.mem_append.mp hw with q | q
      · exact hvs w q
      · rw [List.mem_singleton.mp q]; exact hnm z (List.mem_of_getElem? hzc)
    rintro acc r'' ⟨vs, hvl, rfl, hvs, rfl⟩
    rw [List.length_map, List.length_range] at hvl
    obtain ⟨n4, hn4, hn4b⟩ : ∃ n4, n4 = n3 + 2 + 8 * 4 + 1 + (List.map (fun i => D.int (i : Nat)) (List.range k4.toNat)).length ∧ n4 ≤ n3 + 39 := ⟨_, rfl, by rw [List.length_map, List.length_range]; omega⟩
    rw [← hn4]
    refine ⟨poolA p a n4 :: Y, (trZ zs).map .tup, [], .tup (vs.map .str), rfl, rfl, by unfold small trZ; rw [List.length_map, List.length_map]; omega, ⟨_, _, _, _, _, rfl⟩, n4, zs ++ [vs], by omega, by rw [List.length_append, hzl]; rfl, fun v hv => ?_, ?_⟩
    · rcases List.mem_append.mp hv with q | q
      · exact hzs v q
      · rw [List.mem_singleton.mp q]; exact ⟨by omega, hvs⟩
    · unfold trZ
      rw [List.map_append, List.map_append]
      rfl
  rintro δ r' ⟨⟨x3, x5, x6, x7, x9, rfl⟩, n3, zs, hn3, hzl, hzs, rfl⟩
  rw [List.length_map, List.length_range] at hn3 hzl
  refine ⟨p4, is.map .int, poolA p a n3 :: X, [lstA p8 ((trZ zs).map .tup)], rfl, by rw [hY, List.append_assoc]; rfl, ?_⟩
  refine ⟨p8, (trZ zs).map .tup, poolA p a n3 :: X, [], rfl, rfl, ?_⟩
  refine ⟨Nat.le_of_ble_eq_true rfl, fun pq => ?_⟩
  rw [List.append_nil]
  exact ⟨_, pool_mono (by omega), h bs is zs ⟨by omega, by omega, by omega, his, hzs⟩ pq⟩
def trD (xa : List Bool) (xl : List Int) (zs : List (List Str)) : D := .lst [.lst (trA xa), .lst (trL xl), .lst ((trZ zs).map .tup)]
def spHas (CC : Addr) : SpX := fun ds r P _ => ∃ (xa : List Bool) (xl : List Int) (zs : List (List Str)), ds = [ctD CC (trA xa) (trL xl) (trZ zs), trD xa xl zs] ∧ xa.length ≤ 1000 ∧ xl.length ≤ 1000 ∧ zs.length ≤ 1000 ∧ (∀ v ∈ zs, v.length ≤ 1000) ∧ P (.bl true) r
abbrev N__law_has : List Str := ["_law_contents", "_law_triple_here", "_law_told", "_law_many"]
theorem sc__law_has : FnScope N__law_has ["_law_contents", "_law_triple_here"] (defScope s__law_has) := ⟨rfl, rfl, rfl, by decide +kernel, rfl, by decide +kernel, by decide +kernel⟩
theorem plainS (zs : List Str) : plains (zs.map D.str) = true := plains_of fun d hd => by
  obtain ⟨z, _, rfl⟩ := List.mem_map.mp hd
  rfl
theorem c__law_has {CC : Addr} (B : Bl mg) (K_Contents : KCls K mg "Contents" CC ctF) (L_Contents : ClG P w K mg base 1 CC "__len__" (spCtLen CC)) (C__law_same : Cl P w K mg base 6 "_law_same" ["_law_actual", "_law_due"] (spSame 6)) (Dx : Dfn K mg "_law_has" s__law_has ["_law_contents", "_law_triple_here"]) : Cl P w K mg base 7 "_law_has" ["_law_contents", "_law_triple_here"] (spHas CC) := by
  have sc := sc__law_has
  refine cl_of Dx sc (fun ds r P' XR ⟨_, _, _, e, _⟩ => by rw [e]; rfl) (fun f cdv A outer s H E hr tk po => ?_)
  have hu := hr.units
  have hi := u65 hr
  refine ⟨_, (ss_cons (s_set (i := 2) sc.nd (d_lst (dl_cons (d_fld (dv 0)) (dl_cons (d_fld (dv 0)) (dl_cons (d_fld (dv 0)) (dl_cons (d_lenI L_Contents hr (by rfl) B.len (dl_cons (dv 0) dl_nil)) dl_nil))))))
  (ss_cons (s_set (i := 3) sc.nd (d_bin p_add (d_bin p_add (d_blt c_len (by rfl) B.len (dl_cons (d_ix (dv 1) d_int) dl_nil)) (d_blt c_len (by rfl) B.len (dl_cons (d_ix (dv 1) d_int) dl_nil))) (d_blt c_len (by rfl) B.len (dl_cons (d_ix (dv 1) d_int) dl_nil))))
  (ss_one (s_ret (d_fn C__law_same tk hr (dl_cons (dv 2) (dl_cons (d_lst (dl_cons (d_ty c_tuple (by rfl) B.tuple (dl_cons (d_ix (dv 1) d_int) dl_nil)) (dl_cons (d_ty c_tuple (by rfl) B.tuple (dl_cons (d_ix (dv 1) d_int) dl_nil)) (dl_cons (d_ty c_tuple (by rfl) B.tuple (dl_cons (d_ix (dv 1) d_int) dl_nil)) (dl_cons (dv 3) dl_nil))))) dl_nil))))))), fun ds r P' XR h => ?_⟩
  obtain ⟨xa, xl, zs, rfl, h1, h2, h3, h4, h⟩ := h
  have hsl := sizeLine_eq
  have l1 : (trA xa).length = xa.length := List.length_map _
  have l2 : (trL xl).length = xl.length := List.length_map _
  have l3 : (trZ zs).length = zs.length := List.length_map _
  refine .fro 0 _ rfl rfl (.fro 1 _ rfl rfl (.fro 2 _ rfl rfl ⟨_, rfl, .fro, trA xa, trL xl, trZ zs, rfl, by omega, by omega, by omega, _, rfl, by omega, Nat.le_of_ble_eq_true rfl, ?_⟩))
  refine ix_l at0 fun _ => ix_l at1 fun _ => ix_l at2 fun _ => ?_
  refine ix_l at0 (ix_l at1 (ix_l at2 ⟨Nat.le_of_ble_eq_true rfl, ?_⟩))
  have eI : ((trA xa).length : Int) + ((trL xl).length : Int) + (((trZ zs).map D.tup).length : Int) = (((trA xa).length + (trL xl).length + (trZ zs).length : Nat) : Int) := by rw [List.length_map]; omega
  rw [eI]
  have pA : plain (.tup (trA xa)) = true := plain_of_tup (by omega) (plains_of fun d hd => by obtain ⟨b, _, rfl⟩ := List.mem_map.mp hd; rfl)
  have pL : plain (.tup (trL xl)) = true := plain_of_tup (by omega) (plains_of fun d hd => by obtain ⟨b, _, rfl⟩ := List.mem_map.mp hd; rfl)
  have pZ : plain (.tup ((trZ zs).map .tup)) = true := plain_of_tup (by rw [List.length_map]; omega) (plains_of fun d hd => by
    obtain ⟨v, hv, rfl⟩ := List.mem_map.mp hd
    obtain ⟨w, hw, rfl⟩ := List.mem_map.mp hv
    have := h4 w hw
    exact plain_of_tup (by rw [List.length_map]; omega) (plainS w))
  have dA : deps (trA xa) ≤ 0 := deps_le fun d hd => by obtain ⟨b, _, rfl⟩ := List.mem_map.mp hd; exact Nat.le_refl _
  have dL : deps (trL xl) ≤ 0 := deps_le fun d hd => by obtain ⟨b, _, rfl⟩ := List.mem_map.mp hd; exact Nat.le_refl _
  have dZ : deps ((trZ zs).map .tup) ≤ 1 := deps_le fun d hd => by
    obtain ⟨v, hv, rfl⟩ := List.mem_map.mp hd
    obtain ⟨w, hw, rfl⟩ := List.mem_map.mp hv
    show deps (w.map D.str) + 1 ≤ 1
    have : deps (w.map D.str) ≤ 0 := deps_le fun d hd => by obtain ⟨b, _, rfl⟩ := List.mem_map.mp hd; exact Nat.le_refl _
    omega
  obtain ⟨T, hT⟩ : ∃ T : D, T = .lst [.tup (trA xa), .tup (trL xl), .tup ((trZ zs).map .tup), .int (((trA xa).length + (trL xl).length + (trZ zs).length : Nat) : Int)] := ⟨_, rfl⟩
  have pT : plain T = true := by
    rw [hT]
    refine plain_of_lst (Nat.le_of_ble_eq_true rfl) (plains_of fun d hd => ?_)
    simp only [List.mem_cons, List.not_mem_nil, or_false] at hd
    rcases hd with rfl | rfl | rfl | rfl
    · exact pA
    · exact pL
    · exact pZ
    · rfl
  have dT : dep T ≤ 3 := by
    rw [hT]
    show deps _ + 1 ≤ 3
    have : deps [D.tup (trA xa), .tup (trL xl), .tup ((trZ zs).map .tup), .int (((trA xa).length + (trL xl).length + (trZ zs).length : Nat) : Int)] ≤ 2 := deps_le fun d hd => by
      simp only [List.mem_cons, List.not_mem_nil, or_false] at hd
      rcases hd with rfl | rfl | rfl | rfl
      · show deps _ + 1 ≤ 2; omega
      · show deps _ + 1 ≤ 2; omega
      · show deps _ + 1 ≤ 2; omega
      · exact Nat.zero_le _
    omega
  rw [← hT]
  refine ⟨T, T, rfl, pT, pT, Nat.le_trans dT (by decide), Nat.lt_of_le_of_lt dT (by decide), ?_⟩
  rw [show G.same T T = true from same_refl _ pT]
  exact fit.of h
def seqOf : D → Option (List D) | .lst xs => some xs | .tup xs => some xs | _ => none
theorem seqOf_V {r : Rs} {d : D} {xs : List D} (h : seqOf d = some xs) : SeqV r d xs := by
  cases d <;> cases h
  · exact .lst _
  · exact .tup _
theorem seqOf_plain {d : D} {xs : List D} (h : seqOf d = some xs) (p : plain d = true) : xs.length ≤ 1000000 ∧ ∀ y ∈ xs, plain y = true := by
  have go : ∀ {l : List D}, plains l = true → ∀ y ∈ l, plain y = true := by
    intro l
    induction l with
    | nil => exact fun _ y hy => by cases hy
    | cons x l ih =>
      intro h y hy
      have h : (plain x && plains l) = true := h
      rw [Bool.and_eq_true] at h
      rcases List.mem_cons.mp hy with rfl | hy
      · exact h.1
      · exact ih h.2 y hy
  cases d <;> cases h
  · have := plain_lst p
    exact ⟨this.1, go this.2⟩
  · have := plain_tup p
    exact ⟨this.1, go this.2⟩
def shortD (d : D) (m : Nat) : Bool := match seqOf d with | some xs => decide (xs.length ≤ m) | none => false
def spShortD : SpX := fun ds r P _ => ∃ (d : D) (m : Nat), ds = [d, .int (m : Nat)] ∧ plain d = true ∧ P (.bl (shortD d m)) r
theorem cd_is_short (B : Bl mg) (Dx : Dfn K mg "is_short" s_is_short ["value", "most"]) : Cl P w K mg base 1 "is_short" ["value", "most"] spShortD := by
  have sc := sc_is_short
  refine cl_of Dx sc (fun ds r P' XR ⟨_, _, e, _⟩ => by rw [e]; rfl) (fun f cdv A outer s H E hr tk po => ?_)
  have hu := hr.units
  have hi := u65 hr
  refine ⟨_, (ss_one (s_ret (d_and (d_isiV2 .list .tuple (by rfl) B.isi (dv 0) (by rfl) B.list (by rfl) B.tuple) (d_one (d_cmp p_le (d_blt2 c_lenV (by rfl) B.len (dl_cons (dv 0) dl_nil)) (dv 1)))))), fun ds r P' XR h => ?_⟩
  obtain ⟨d, m, rfl, hd, h⟩ := h
  have e : ∀ xs : List D, decide ((xs.length : Int) ≤ (m : Int)) = decide (xs.length ≤ m) := fun xs => by
    by_cases k : xs.length ≤ m
    · rw [decide_eq_true k, decide_eq_true (by omega)]
    · rw [decide_eq_false k, decide_eq_false (by omega)]
  cases d with
  | lst xs =>
    have h2 : fit P' (.bl (decide ((xs.length : Int) ≤ (m : Int)))) r := by rw [e]; exact fit.of h
    exact .inr ⟨rfl, brT ⟨_, xs, rfl, .lst _, h2⟩⟩
  | tup xs =>
    have h2 : fit P' (.bl (decide ((xs.length : Int) ≤ (m : Int)))) r := by rw [e]; exact fit.of h
    exact .inr ⟨rfl, brT ⟨_, xs, rfl, .tup _, h2⟩⟩
  | int i => exact .inr ⟨rfl, brF (fit.of h)⟩
  | bl b => exact .inr ⟨rfl, brF (fit.of h)⟩
  | non => exact .inr ⟨rfl, brF (fit.of h)⟩
  | str z => exact .inr ⟨rfl, brF (fit.of h)⟩
  | adr a => cases hd
  | ins _ _ _ => cases hd
  | dct _ _ => cases hd
def loadD (d : D) : Bool := match seqOf d with | some xs => goodLd xs | none => false
def spLoadD : SpX := fun ds r P _ => ∃ (d : D), ds = [d] ∧ plain d = true ∧ P (.bl (loadD d)) r
theorem cd_is_load (B : Bl mg) (gN : GI mg "NAMES" 100) (C_is_short : Cl P w K mg base 1 "is_short" ["value", "most"] spShortD) (C_is_name : Cl P w K mg base 1 "is_name" ["value"] spIsName) (Dx : Dfn K mg "is_load" s_is_load ["value"]) : Cl P w K mg base 2 "is_load" ["value"] spLoadD := by
  have sc := sc_is_load
  refine cl_of Dx sc (fun ds r P' XR ⟨_, e, _⟩ => by rw [e]; rfl) (fun f cdv A outer s H E hr tk po => ?_)
  have hu := hr.units
  have hi := u65 hr
  refine ⟨_, (ss_one (s_ret (d_and (d_fn C_is_short tk hr (dl_cons (dv 0) (dl_cons (d_gI gN) dl_nil))) (d_one (d_blt c_all (by rfl) B.all (dl_cons (d_lcV (js := [1]) (own := [("name", 1)]) sc.nd (dv 0) (blkOk_by (own := [("name", 1)]) (N := N_is_load) (sc := defScope s_is_load) (by decide +kernel)) (fun _ _ _ _ _ => (g_name (i := 1) sc.nd)) (fun _ _ _ _ _ => pts_no) (fun _ _ _ _ _ => (d_fnN C_is_name hr (dl_cons (dv 1) dl_nil)))) dl_nil)))))), fun ds r P' XR h => ?_⟩
  obtain ⟨d, rfl, hd, h⟩ := h
  refine ⟨d, 100, rfl, hd, ?_⟩
  unfold loadD at h
  unfold shortD
  cases e : seqOf d with
  | none =>
    rw [e] at h
    exact brf rfl (fit.of h)
  | some xs =>
    rw [e] at h
    obtain ⟨h1, h2⟩ := seqOf_plain e hd
    dsimp only at h ⊢
    unfold goodLd at h
    by_cases k : xs.length ≤ 100
    · rw [decide_eq_true k, Bool.true_and] at h
      refine brt (decide_eq_true k) ⟨xs, lcV_map (fun y => .bl (isNameD y)) (seqOf_V e) (by unfold small; have := sizeLine_eq; omega) (fun y hy p acc P2 hP => ⟨y, rfl, h2 y hy, hP⟩) ⟨?_⟩⟩
      show (match bls _ with | some bs => _ | none => False)
      rw [bls_of]
      have e2 : (xs.map isNameD).all id = xs.all isNameD := by rw [List.all_map]; rfl
      rw [← e2] at h
      exact fit.of h
    · rw [decide_eq_false k, Bool.false_and] at h
      exact brf (decide_eq_false k) (fit.of h)
/-- the first wrong part of three objects -/
def okA (d : D) : Bool := match seqOf d with | some xs => goodA xs | none => false
def okL (d : D) : Bool := match seqOf d with | some xs => goodL xs | none => false
def okZ (d : D) : Bool := match seqOf d with | some xs => decide (xs.length ≤ 1000) && xs.all loadD | none => false
def wrongD (da dl dz : D) : D := if okA da = false then .str "answers" else if okL dl = false then .str "lengths" else if okZ dz = false then .str "loads" else .non
def spWrongD : SpX := fun ds r P _ => ∃ (da dl dz : D), ds = [da, dl, dz] ∧ plain da = true ∧ plain dl = true ∧ plain dz = true ∧ P (wrongD da dl dz) r
theorem cd_wrong_part (B : Bl mg) (gM : GI mg "MOST" 1000) (C_is_short : Cl P w K mg base 1 "is_short" ["value", "most"] spShortD) (C_is_length : Cl P w K mg base 1 "is_length" ["value"] spLength) (C_is_load : Cl P w K mg base 2 "is_load" ["value"] spLoadD) (Dx : Dfn K mg "wrong_part" s_wrong_part ["answers", "lengths", "loads"]) : Cl P w K mg base 3 "wrong_part" ["answers", "lengths", "loads"] spWrongD := by
  have sc := sc_wrong_part
  refine cl_of Dx sc (fun ds r P' XR ⟨_, _, _, e, _⟩ => by rw [e]; rfl) (fun f cdv A outer s H E hr tk po => ?_)
  have hu := hr.units
  have hi := u65 hr
  refine ⟨_, (ss_cons (s_if (b_w (w_or (b_not (b_tru (d_fn C_is_short tk hr (dl_cons (dv 0) (dl_cons (d_gI gM) dl_nil))))) (w_or1 (b_not (b_tru (d_blt c_all (by rfl) B.all (dl_cons (d_lcV (js := [3]) (own := [("each", 3)]) sc.nd (dv 0) (blkOk_by (own := [("each", 3)]) (N := N_wrong_part) (sc := defScope s_wrong_part) (by decide +kernel)) (fun _ _ _ _ _ => (g_name (i := 3) sc.nd)) (fun _ _ _ _ _ => pts_no) (fun _ _ _ _ _ => (d_isi .bool (by rfl) B.isi (dv 3) (by rfl) B.bool))) dl_nil)))))))
  (ss_one (s_ret d_str))
  ss_nil)
  (ss_cons (s_if (b_w (w_or (b_not (b_tru (d_fn C_is_short tk hr (dl_cons (dv 1) (dl_cons (d_gI gM) dl_nil))))) (w_or1 (b_not (b_tru (d_blt c_all (by rfl) B.all (dl_cons (d_lcV (js := [3]) (own := [("each", 3)]) sc.nd (dv 1) (blkOk_by (own := [("each", 3)]) (N := N_wrong_part) (sc := defScope s_wrong_part) (by decide +kernel)) (fun _ _ _ _ _ => (g_name (i := 3) sc.nd)) (fun _ _ _ _ _ => pts_no) (fun _ _ _ _ _ => (d_fnN C_is_length hr (dl_cons (dv 3) dl_nil)))) dl_nil)))))))
  (ss_one (s_ret d_str))
  ss_nil)
  (ss_cons (s_if (b_w (w_or (b_not (b_tru (d_fn C_is_short tk hr (dl_cons (dv 2) (dl_cons (d_gI gM) dl_nil))))) (w_or1 (b_not (b_tru (d_blt c_all (by rfl) B.all (dl_cons (d_lcV (js := [3]) (own := [("each", 3)]) sc.nd (dv 2) (blkOk_by (own := [("each", 3)]) (N := N_wrong_part) (sc := defScope s_wrong_part) (by decide +kernel)) (fun _ _ _ _ _ => (g_name (i := 3) sc.nd)) (fun _ _ _ _ _ => pts_no) (fun _ _ _ _ _ => (d_fnN C_is_load hr (dl_cons (dv 3) dl_nil)))) dl_nil)))))))
  (ss_one (s_ret d_str))
  ss_nil)
  (ss_one (s_ret d_non))))), fun ds r P' XR h => ?_⟩
  obtain ⟨da, dl, dz, rfl, ha, hl, hz, h⟩ := h
  have hsl := sizeLine_eq
  have eall : ∀ {α : Type} (q : α → Bool) (l : List α), (l.map q).all id = l.all q := fun q l => by rw [List.all_map]; rfl
  unfold wrongD at h
  refine ⟨da, 1000, rfl, ha, ?_⟩
  have out1 : okA da = false → fit P' (.str "answers") r := fun k => by rw [if_pos k] at h; exact fit.of h
  have out2 : okA da = true → okL dl = false → fit P' (.str "lengths") r := fun k1 k => by rw [if_neg (by rw [k1]; exact Bool.noConfusion), if_pos k] at h; exact fit.of h
  have out3 : okA da = true → okL dl = true → okZ dz = false → fit P' (.str "loads") r := fun k1 k2 k => by rw [if_neg (by rw [k1]; exact Bool.noConfusion), if_neg (by rw [k2]; exact Bool.noConfusion), if_pos k] at h; exact fit.of h
  have out4 : okA da = true → okL dl = true → okZ dz = true → fit P' .non r := fun k1 k2 k => by rw [if_neg (by rw [k1]; exact Bool.noConfusion), if_neg (by rw [k2]; exact Bool.noConfusion), if_neg (by rw [k]; exact Bool.noConfusion)] at h; exact fit.of h
  have hA : okA da = (match seqOf da with | some xs => goodA xs | none => false) := rfl
  have hL : okL dl = (match seqOf dl with | some xs => goodL xs | none => false) := rfl
  have hZ : okZ dz = (match seqOf dz with | some xs => decide (xs.length ≤ 1000) && xs.all loadD | none => false) := rfl
  unfold shortD
  cases e1 : seqOf da with
  | none => rw [e1] at hA; exact brt rfl (brT (out1 hA))
  | some xa =>
    rw [e1] at hA
    obtain ⟨xa1, xa2⟩ := seqOf_plain e1 ha
    dsimp only at hA ⊢
    unfold goodA at hA
    by_cases k1 : xa.length ≤ 1000
    · rw [decide_eq_true k1, Bool.true_and] at hA
      refine brf (by rw [decide_eq_true k1]; rfl) ⟨xa, lcV_map (fun y => .bl (isBlD y)) (seqOf_V e1) (by unfold small; omega) (fun y hy p acc P2 hP => ?_) ⟨?_⟩⟩
      · have := xa2 y hy
        cases y <;> first | exact hP | cases this
      show (match bls _ with | some bs => _ | none => False)
      rw [bls_of]
      cases k2 : xa.all isBlD with
      | false => exact brt (congrArg (fun b => !b) ((eall _ _).trans k2)) (out1 (hA.trans k2))
      | true =>
        have t1 := hA.trans k2
        refine brf (congrArg (fun b => !b) ((eall _ _).trans k2)) ?_
        refine ⟨dl, 1000, rfl, hl, ?_⟩
        unfold shortD
        cases e2 : seqOf dl with
        | none => rw [e2] at hL; exact brt rfl (brT (out2 t1 hL))
        | some xl =>
          rw [e2] at hL
          obtain ⟨xl1, xl2⟩ := seqOf_plain e2 hl
          dsimp only at hL ⊢
          unfold goodL at hL
          by_cases k3 : xl.length ≤ 1000
          · rw [decide_eq_true k3, Bool.true_and] at hL
            refine brf (by rw [decide_eq_true k3]; rfl) ⟨xl, lcV_map (fun y => .bl (isLen y)) (seqOf_V e2) (by unfold small; omega) (fun y hy p acc P2 hP => ⟨y, rfl, xl2 y hy, hP⟩) ⟨?_⟩⟩
            show (match bls _ with | some bs => _ | none => False)
            rw [bls_of]
            cases k4 : xl.all isLen with
            | false => exact brt (congrArg (fun b => !b) ((eall _ _).trans k4)) (out2 t1 (hL.trans k4))
            | true =>
              have t2 := hL.trans k4
              refine brf (congrArg (fun b => !b) ((eall _ _).trans k4)) ?_
              refine ⟨dz, 1000, rfl, hz, ?_⟩
              unfold shortD
              cases e3 : seqOf dz with
              | none => rw [e3] at hZ; exact brt rfl (brT (out3 t1 t2 hZ))
              | some xz =>
                rw [e3] at hZ
                obtain ⟨xz1, xz2⟩ := seqOf_plain e3 hz
                dsimp only at hZ ⊢
                by_cases k5 : xz.length ≤ 1000
                · rw [decide_eq_true k5, Bool.true_and] at hZ
                  refine brf (by rw [decide_eq_true k5]; rfl) ⟨xz, lcV_map (fun y => .bl (loadD y)) (seqOf_V e3) (by unfold small; omega) (fun y hy p acc P2 hP => ⟨y, rfl, xz2 y hy, hP⟩) ⟨?_⟩⟩
                  show (match bls _ with | some bs => _ | none => False)
                  rw [bls_of]
                  cases k6 : xz.all loadD with
                  | false => exact brt (congrArg (fun b => !b) ((eall _ _).trans k6)) (out3 t1 t2 (hZ.trans k6))
                  | true => exact brf (congrArg (fun b => !b) ((eall _ _).trans k6)) (out4 t1 t2 (hZ.trans k6))
                · rw [decide_eq_false k5, Bool.false_and] at hZ
                  exact brt (by rw [decide_eq_false k5]; rfl) (brT (out3 t1 t2 hZ))
          · rw [decide_eq_false k3, Bool.false_and] at hL
            exact brt (by rw [decide_eq_false k3]; rfl) (brT (out2 t1 hL))
    · rw [decide_eq_false k1, Bool.false_and] at hA
      exact brt (by rw [decide_eq_false k1]; rfl) (brT (out1 hA))
/-- contents of any objects -/
def seqD (d : D) : List D := (seqOf d).getD []
def spCtInitD (CC CB : Addr) : SpX := fun ds r P XR => ∃ (a : Addr) (da dl dz : D) (r0 : Rs), ds = [.adr a, da, dl, dz] ∧ r = r0 ++ [insA a CC [] []] ∧ plain da = true ∧ plain dl = true ∧ plain dz = true ∧
  ((wrongD da dl dz = .non ∧ P .non (r0 ++ [insA a CC ctF [.tup (seqD da), .tup (seqD dl), .tup ((seqD dz).map fun d => .tup (seqD d))]])) ∨ (wrongD da dl dz ≠ .non ∧ XR CB ["part"] [wrongD da dl dz] r))
theorem wrongD_non {da dl dz : D} (h : wrongD da dl dz = .non) : okA da = true ∧ okL dl = true ∧ okZ dz = true := by
  unfold wrongD at h
  split at h
  · cases h
  split at h
  · cases h
  split at h
  · cases h
  exact ⟨by cases e : okA da <;> simp_all, by cases e : okL dl <;> simp_all, by cases e : okZ dz <;> simp_all⟩
theorem seqD_of {d : D} {b : Bool} {f : List D → Bool} (h : (match seqOf d with | some xs => f xs | none => false) = true) : seqOf d = some (seqD d) ∧ f (seqD d) = true := by
  unfold seqD
  cases e : seqOf d with
  | none => rw [e] at h; cases h
  | some xs => rw [e] at h; exact ⟨rfl, h⟩
theorem bd_Contents_init {CC CB : Addr} (B : Bl mg) (X_BadContents : ErrX P w K mg base "BadContents" CB "part") (C_wrong_part : Cl P w K mg base 3 "wrong_part" ["answers", "lengths", "loads"] spWrongD) (K_Contents : KCls K mg "Contents" CC ctF) : Bod P w K mg base "Contents.__init__" s_Contents___init__ N_Contents___init__ 3 (spCtInitD CC CB) := by
  have sc := sc_Contents___init__
  intro f cdv A outer s H E hr tk po
  have hu := hr.units
  have hi := u65 hr
  refine ⟨_, (ss_cons (s_set (i := 4) sc.nd (d_fn C_wrong_part tk hr (dl_cons (dv 1) (dl_cons (dv 2) (dl_cons (dv 3) dl_nil)))))
  (ss_cons (s_if (b_cmp p_ns (dv 4) d_non)
  (ss_one (s_raise X_BadContents.c tk hr (dl_cons (dv 4) dl_nil)))
  ss_nil)
  (ss_cons (s_put (K_Contents.no "answers" (by decide)) (dv 0) (d_ty2 c_tupV (by rfl) B.tuple (dl_cons (dv 1) dl_nil)))
  (ss_cons (s_put (K_Contents.no "lengths" (by decide)) (dv 0) (d_ty2 c_tupV (by rfl) B.tuple (dl_cons (dv 2) dl_nil)))
  (ss_one (s_put (K_Contents.no "loads" (by decide)) (dv 0) (d_ty c_tuple (by rfl) B.tuple (dl_cons (d_lcV (js := [5]) (own := [("load", 5)]) sc.nd (dv 3) (blkOk_by (own := [("load", 5)]) (N := N_Contents___init__) (sc := defScope s_Contents___init__) (by decide +kernel)) (fun _ _ _ _ _ => (g_name (i := 5) sc.nd)) (fun _ _ _ _ _ => pts_no) (fun _ _ _ _ _ => (d_ty2 c_tupV (by rfl) B.tuple (dl_cons (dv 5) dl_nil)))) dl_nil)))))))), fun ds r P' XR h => ?_⟩
  obtain ⟨a, da, dl, dz, r0, rfl, rfl, ha, hl, hz, h⟩ := h
  have hsl := sizeLine_eq
  refine ⟨da, dl, dz, rfl, ha, hl, hz, ?_⟩
  rcases h with ⟨hw, h⟩ | ⟨hw, h⟩
  · obtain ⟨w1, w2, w3⟩ := wrongD_non hw
    obtain ⟨a1, a2⟩ := seqD_of (b := true) (f := goodA) w1
    obtain ⟨l1, l2⟩ := seqD_of (b := true) (f := goodL) w2
    obtain ⟨z1, z2⟩ := seqD_of (b := true) (f := fun xs => decide (xs.length ≤ 1000) && xs.all loadD) w3
    rw [hw]
    rw [Bool.and_eq_true, decide_eq_true_eq] at z2
    have z2 := And.intro z2.1 (List.all_eq_true.mp z2.2)
    refine brF ⟨da, seqD da, rfl, SeqV.plus (seqOf_V a1), .new r0 [] rfl (by decide) (by decide) ⟨dl, seqD dl, rfl, SeqV.plus (seqOf_V l1), .new r0 [] rfl (by decide) (by decide) ?_⟩⟩
    refine ⟨_, lcV_map (fun d => .tup (seqD d)) (SeqV.plus (seqOf_V z1)) (by unfold small; omega) (fun d hd p acc P2 hP => ?_) ?_⟩
    · obtain ⟨b1, b2⟩ := seqD_of (b := true) (f := goodLd) (z2.2 d hd)
      exact ⟨d, seqD d, rfl, SeqV.plus (SeqV.plus (seqOf_V b1)), hP⟩
    exact .new r0 [] rfl (by decide) (by decide) (fit.of h)
  · have hn : isNonD (wrongD da dl dz) = false := by
      revert hw
      unfold wrongD
      split
      · exact fun _ => rfl
      · split
        · exact fun _ => rfl
        · split
          · exact fun _ => rfl
          · exact fun k => absurd rfl k
    exact brt (by rw [hn]; rfl) ⟨_, rfl, fitX.of (δ := []) h⟩
theorem spCtInitD_len {CC CB : Addr} : ∀ ds r P' XR, spCtInitD CC CB ds r P' XR → ds.length = 4 := fun ds r P' XR ⟨_, _, _, _, _, e, _⟩ => by rw [e]; rfl
theorem cd_Contents_init {CC CB : Addr} (B : Bl mg) (X_BadContents : ErrX P w K mg base "BadContents" CB "part") (C_wrong_part : Cl P w K mg base 3 "wrong_part" ["answers", "lengths", "loads"] spWrongD) (K_Contents : KCls K mg "Contents" CC ctF) (Dx : DfN K CC "Contents.__init__" s_Contents___init__ ["self", "answers", "lengths", "loads"] [.tup [], .tup [], .tup []]) : ClN P w K mg base 4 CC [.tup [], .tup [], .tup []] (spCtInitD CC CB) :=
  cln_of Dx sc_Contents___init__ spCtInitD_len (bd_Contents_init B X_BadContents C_wrong_part K_Contents)
def asc (z : Str) : Prop := ∀ c ∈ tl z, c < 128
def isDg (c : Nat) : Bool := decide (48 ≤ c) && decide (c ≤ 57)
theorem isdigit_asc {z : Str} (h : asc z) : Txt.isdigit z = (!(tl z).isEmpty && (tl z).all isDg) := by
  have one : ∀ c, c < 128 → Unicode.isDigit c = isDg c := by
    have k : ∀ n : _root_.Fin 128, Unicode.isDigit n.val = isDg n.val := by decide +kernel
    exact fun c hc => k ⟨c, hc⟩
  unfold Txt.isdigit
  rw [len_tl]
  have e2 : z.cps.all Unicode.isDigit = (tl z).all isDg := by
    show z.cps.all Unicode.isDigit = z.cps.toList.all isDg
    rw [← Array.all_toList, Bool.eq_iff_iff, List.all_eq_true, List.all_eq_true]
    exact ⟨fun q c hc => by rw [← one c (h c hc)]; exact q c hc, fun q c hc => by rw [one c (h c hc)]; exact q c hc⟩
  rw [e2]
  cases tl z with
  | nil => rfl
  | cons c l => rfl
theorem all_dg {l : List Nat} (h : l.all isDg = true) : NumText.AllDigits l := fun c hc => by
  have := List.all_eq_true.mp h c hc
  unfold isDg at this
  rw [Bool.and_eq_true, decide_eq_true_eq, decide_eq_true_eq] at this
  exact this
/-- what read_length tells -/
def rdLen (z : Str) : D := if (!(tl z).isEmpty && (tl z).all isDg) = true ∧ (tl z).length ≤ 31 ∧ z = numS (NumText.digitsVal (tl z)) then .int (NumText.digitsVal (tl z) : Nat) else .non
def rdLoad (z : Str) : D := if z = "." then .lst [] else .lst ((Txt.split z "+").map .str)
def rdAns (z : Str) : D := if z = "yes" then .bl true else if z = "no" then .bl false else .non
theorem digits_lt : ∀ {l : List Nat}, NumText.AllDigits l → NumText.digitsVal l < 10 ^ l.length := by
  intro l
  have go : ∀ (l : List Nat) (a : Nat), NumText.AllDigits l → l.foldl (fun a c => a * 10 + (c - 48)) a < (a + 1) * 10 ^ l.length := by
    intro l
    induction l with
    | nil => intro a _; simp
    | cons c l ih =>
      intro a h
      have hc := h c (by simp)
      have := ih (a * 10 + (c - 48)) fun x hx => h x (by simp [hx])
      rw [List.foldl_cons, List.length_cons]
      refine Nat.lt_of_lt_of_le this ?_
      rw [Nat.pow_succ, Nat.mul_comm (10 ^ l.length) 10, ← Nat.mul_assoc]
      exact Nat.mul_le_mul_right _ (by omega)
  intro h
  have := go l 0 h
  simpa [NumText.digitsVal] using this
theorem asc_split {b : Str} (h : sepOk b = true) {a : Str} (ha : asc a) : ∀ p ∈ Txt.split a b, asc p := fun p m c hc => by
  have m2 : tl p ∈ TL.spl (tl b) 0 [] (tl a) := by rw [← split_tl h]; exact List.mem_map_of_mem m
  obtain ⟨h1, _⟩ := spl_mem m2
  exact (h1 c hc).elim (fun z => by cases z) (ha c)
theorem split_ln {b : Str} (h : sepOk b = true) {a : Str} : ∀ p ∈ Txt.split a b, p.length ≤ a.length := fun p m => by
  have m2 : tl p ∈ TL.spl (tl b) 0 [] (tl a) := by rw [← split_tl h]; exact List.mem_map_of_mem m
  obtain ⟨_, h2⟩ := spl_mem m2
  rw [List.length_nil, Nat.zero_add] at h2
  rw [len_tl, len_tl]
  exact h2
def spRdLen : SpX := fun ds r P _ => ∃ z : Str, ds = [.str z] ∧ asc z ∧ P (rdLen z) r
abbrev N_read_length : List Str := ["word"]
theorem sc_read_length : FnScope N_read_length ["word"] (defScope s_read_length) := ⟨rfl, rfl, rfl, by decide +kernel, rfl, by decide +kernel, by decide +kernel⟩
theorem c_read_length (B : Bl mg) (Dx : Dfn K mg "read_length" s_read_length ["word"]) : Cl P w K mg base 1 "read_length" ["word"] spRdLen := by
  have sc := sc_read_length
  refine cl_of Dx sc (fun ds r P' XR ⟨_, e, _⟩ => by rw [e]; rfl) (fun f cdv A outer s H E hr tk po => ?_)
  have hu := hr.units
  have hi := u65 hr
  refine ⟨_, (ss_cons (s_if (b_w (w_or (b_not (b_tru (d_isdigit (dv 0)))) (w_or (b_cmp p_gt (d_blt c_len (by rfl) B.len (dl_cons (dv 0) dl_nil)) d_int) (w_or1 (b_cmp (p_ne hu) (dv 0) (d_ty c_strN (by rfl) B.str (dl_cons (d_ty c_intT (by rfl) B.int (dl_cons (dv 0) dl_nil)) dl_nil)))))))
  (ss_one (s_ret d_non))
  ss_nil)
  (ss_one (s_ret (d_ty c_intT (by rfl) B.int (dl_cons (dv 0) dl_nil))))), fun ds r P' XR h => ?_⟩
  obtain ⟨z, rfl, ha, h⟩ := h
  unfold rdLen at h
  refine ⟨z, rfl, ?_⟩
  rw [isdigit_asc ha]
  by_cases h1 : (!(tl z).isEmpty && (tl z).all isDg) = true
  · rw [h1]
    have hd := all_dg (Bool.and_eq_true_iff.mp h1).2
    have hne : tl z ≠ [] := fun e => by rw [e] at h1; cases h1
    have hv := digits_lt hd
    by_cases h2 : (tl z).length ≤ 31
    · have hv2 : NumText.digitsVal (tl z) < 10 ^ 100 := Nat.lt_of_lt_of_le hv (Nat.pow_le_pow_right (by decide) (by omega))
      have hi2 : PySem.intText? z = some ((NumText.digitsVal (tl z) : Nat) : Int) := PySem.intText_digits hd hne (by rw [len_tl]; omega)
      refine brF (brf (decide_eq_false (by rw [len_tl]; omega)) ⟨z, _, rfl, hi2, by rw [len_tl]; omega, NumText.digitsVal (tl z), rfl, hv2, ?_⟩)
      refine ⟨Nat.zero_le _, Nat.zero_le _, ?_⟩
      by_cases h3 : z = numS (NumText.digitsVal (tl z))
      · rw [if_pos ⟨h1, h2, h3⟩] at h
        rw [show eqD (.str z) (.str (numS (NumText.digitsVal (tl z)))) = true from by rw [← h3]; exact eqv_str z]
        exact brF ⟨z, _, rfl, hi2, by rw [len_tl]; omega, fit.of h⟩
      · rw [if_neg (fun k => h3 k.2.2)] at h
        rw [show eqD (.str z) (.str (numS (NumText.digitsVal (tl z)))) = false from by rw [eqD_str]; simpa using h3]
        exact brT (fit.of h)
    · rw [if_neg (fun k => h2 k.2.1)] at h
      exact brF (brt (decide_eq_true (by rw [len_tl]; omega)) (brT (fit.of h)))
  · rw [if_neg (fun k => h1 k.1)] at h
    rw [Bool.eq_false_iff.mpr h1]
    exact brT (brT (fit.of h))
def spRdLoad : SpX := fun ds r P _ => ∃ z : Str, ds = [.str z] ∧ z.length ≤ 900000 ∧ P (rdLoad z) r
abbrev N_read_load : List Str := ["word"]
theorem sc_read_load : FnScope N_read_load ["word"] (defScope s_read_load) := ⟨rfl, rfl, rfl, by decide +kernel, rfl, by decide +kernel, by decide +kernel⟩
theorem c_read_load (B : Bl mg) (Dx : Dfn K mg "read_load" s_read_load ["word"]) : Cl P w K mg base 1 "read_load" ["word"] spRdLoad := by
  have sc := sc_read_load
  refine cl_of Dx sc (fun ds r P' XR ⟨_, e, _⟩ => by rw [e]; rfl) (fun f cdv A outer s H E hr tk po => ?_)
  have hu := hr.units
  have hi := u65 hr
  refine ⟨_, (ss_one (s_ret (d_if (b_cmp (p_eq hu) (dv 0) d_str) (d_lst dl_nil) (d_splitL (dv 0) d_str)))), fun ds r P' XR h => ?_⟩
  obtain ⟨z, rfl, hl, h⟩ := h
  unfold rdLoad at h
  refine ⟨Nat.zero_le _, Nat.zero_le _, ?_⟩
  by_cases h1 : z = "."
  · subst h1
    rw [if_pos rfl] at h
    exact brT ⟨Nat.zero_le _, fit.of h⟩
  · rw [if_neg h1] at h
    refine brf (by rw [eqD_str]; simpa using h1) ⟨z, "+", rfl, rfl, by decide +kernel, hl, fit.of h⟩
def spRdWords (FV : Addr → SpX → Prop) (IN : Addr → Rs → Prop) : SpX := fun ds r P _ => ∃ (t : Str) (f : Addr) (g : Str → D) (sd : SpX), ds = [.str t, .adr f] ∧ t.length ≤ 900000 ∧ FV f sd ∧ (∀ t', IN f (r ++ t')) ∧ (∀ z ∈ Txt.split t " ", ∀ (t' : Rs) (P' : PK1), P' (g z) (r ++ t') → sd [.str z] (r ++ t') P' noX) ∧ P (if t = "-" then .lst [] else .lst ((Txt.split t " ").map g)) r
abbrev N_read_words : List Str := ["text", "reader", "word"]
theorem sc_read_words : FnScope N_read_words ["text", "reader"] (defScope s_read_words) := ⟨rfl, rfl, rfl, by decide +kernel, rfl, by decide +kernel, by decide +kernel⟩
theorem c_read_words (B : Bl mg) (Dx : Dfn K mg "read_words" s_read_words ["text", "reader"]) : Cl P w K mg base 2 "read_words" ["text", "reader"] (spRdWords (FVal P w K mg base 1) (FnIn K)) := by
  have sc := sc_read_words
  refine cl_of Dx sc (fun ds r P' XR ⟨_, _, _, _, e, _⟩ => by rw [e]; rfl) (fun f cdv A outer s H E hr tk po => ?_)
  have hu := hr.units
  have hi := u65 hr
  refine ⟨_, (ss_one (s_ret (d_if (b_cmp (p_eq hu) (dv 0) d_str) (d_lst dl_nil) (d_lc (js := [2]) (own := [("word", 2)]) sc.nd (i_list (d_splitL (dv 0) d_str)) (blkOk_by (own := [("word", 2)]) (N := N_read_words) (sc := defScope s_read_words) (by decide +kernel)) (fun _ _ _ _ _ => (g_name (i := 2) sc.nd)) (fun _ _ _ _ _ => pts_no) (fun _ _ _ _ _ => (d_callVN (FVal P w K mg base 1) (FnIn K) (fun _ _ h => h) (fun _ _ h => h) hr (dv 1) (dl_cons (dv 2) dl_nil))))))), fun ds r P' XR h => ?_⟩
  obtain ⟨t, f, g, sd, rfl, hl, hf, hin, hg, h⟩ := h
  refine ⟨Nat.zero_le _, Nat.zero_le _, ?_⟩
  by_cases h1 : t = "-"
  · subst h1
    rw [if_pos rfl] at h
    exact brT ⟨Nat.zero_le _, fit.of h⟩
  · rw [if_neg h1] at h
    refine brf (by rw [eqD_str]; simpa using h1) ⟨t, " ", rfl, rfl, by decide +kernel, hl, ?_⟩
    have hsm : (Txt.split t " ").length ≤ 1000000 := Nat.le_trans (PyProof.Rows.split_le t " ") (by omega)
    refine lc_mapR (f := fun d => match d with | .str z => g z | _ => .non) (by unfold small; rw [List.length_map]; exact hsm) (fun d hd p acc P2 hP => ?_) ?_
    · obtain ⟨z, hz, rfl⟩ := List.mem_map.mp hd
      refine ⟨f, sd, rfl, hf, hin _, hin _, hg z hz _ _ hP⟩
    · rw [List.map_map]
      exact fit.of h
def rdW (g : Str → D) (t : Str) : D := if t = "-" then .lst [] else .lst ((Txt.split t " ").map g)
/-- what a text of contents reads as: three rows, or nothing -/
def ctRd (t : Str) : Option (D × D × D) := match Txt.split t " / " with
  | [a, b, c] => if isNonD (wrongD (rdW rdAns a) (rdW rdLen b) (rdW rdLoad c)) = true then some (rdW rdAns a, rdW rdLen b, rdW rdLoad c) else none
  | _ => none
def spRdAns : SpX := fun ds r P _ => ∃ z : Str, ds = [.str z] ∧ P (rdAns z) r
theorem lam_rd {q : Str} {c' fL : Addr} {p0 p1 p2 p3 p4 p5 p6 p7 p8 : Pos} {k1 k2 k3 k4 : _} (hline : (p6.endLine == p8.line) = true) : FVal P w K mg base 1 fL (fun ds r P' XR => LamIn fL ⟨"<lambda>", q, { posonlyargs := [], args := [{ arg := "word", annotation := none, pos := p0 }], vararg := none, kwonlyargs := [], kw_defaults := [], kwarg := none, defaults := [] }, [], { kind := ScopeKind.function, names := [("word", NameKind.local)], isGenerator := false, isCoroutine := false }, [], c'⟩
    (((Expr.Dict [some (Expr.Constant (Const.str "yes") k1 p1), some (Expr.Constant (Const.str "no") k2 p2)] [Expr.Constant (Const.bool true) k3 p3, Expr.Constant (Const.bool false) k4 p4] p5).Attribute "get" p6).Call [Expr.Name "word" p7] [] p8) r ∧ spRdAns ds r P' XR) := by
  refine lam_fr (N := ["word"]) (ps := ["word"]) (k := 0) (NdefX.nscope_by rfl) rfl (fun pm ctv us hl => match us, hl with | [_], _ => rfl) (fun ds r P' XR ⟨z, e, _⟩ => by rw [e]; rfl) fun A outer s H E hr => ?_
  have hi := u65 hr
  refine ⟨_, d_dgt1 hi (d_dispF (dp_cons d_str d_bl (dp_cons d_str d_bl dp_nil)) (h15 := Nat.le_of_ble_eq_true rfl)) (dv 0) ⟨rfl, rfl, hline, rfl⟩, fun ds r P' XR h => ?_⟩
  obtain ⟨z, rfl, h⟩ := h
  refine fun p => ⟨r, _, rfl, rfl, Nat.le_of_ble_eq_true rfl, ?_⟩
  refine ⟨.inr ⟨_, _, rfl⟩, oDGet.of (kvs := [(.inr "yes", .bl true), (.inr "no", .bl false)]) (key := .inr z) (.inr rfl) rfl ?_⟩
  have e : (dGet [((.inr "yes" : Key), D.bl true), (.inr "no", .bl false)] (.inr z)).getD .non = rdAns z := by
    unfold rdAns
    split
    · rename_i q
      subst q
      rw [dGet_pos]
      rfl
    · rename_i q
      rw [dGet_neg (fun k => q (Sum.inr.inj k).symm)]
      split
      · rename_i q
        subst q
        rw [dGet_pos]
        rfl
      · rename_i q
        rw [dGet_neg (fun k => q (Sum.inr.inj k).symm)]
        rfl
  rw [e]
  exact fit.of h
theorem lam_in {F : NdefX.NF} {body : Expr} {q : Str} {fL TP : Addr} {cs' : List Addr} {pre post : Rs} (hq : F.qual = q) (hc : F.c ∈ cs') (t' : Rs) : LamIn fL F body (pre ++ tabA TP q cs' :: post ++ [fnlA fL F body] ++ t') ∧ FnIn K fL (pre ++ tabA TP q cs' :: post ++ [fnlA fL F body] ++ t') := by
  subst hq
  have m1 : fnlA fL F body ∈ pre ++ tabA TP F.qual cs' :: post ++ [fnlA fL F body] ++ t' := List.mem_append_left _ (List.mem_append_right _ (List.mem_singleton.mpr rfl))
  have m2 : tabA TP F.qual cs' ∈ pre ++ tabA TP F.qual cs' :: post ++ [fnlA fL F body] ++ t' := List.mem_append_left _ (List.mem_append_left _ (List.mem_append_right _ List.mem_cons_self))
  exact ⟨⟨m1, TP, cs', m2, hc⟩, .inr (.inl ⟨F, body, m1⟩)⟩
theorem plain_rdW {g : Str → D} {t : Str} (hl : t.length ≤ 900000) (hg : ∀ z ∈ Txt.split t " ", plain (g z) = true) : plain (rdW g t) = true := by
  unfold rdW
  split
  · rfl
  · exact plain_of_lst (by rw [List.length_map]; exact Nat.le_trans (PyProof.Rows.split_le t " ") (by omega)) (plains_of fun d hd => by
      obtain ⟨z, hz, rfl⟩ := List.mem_map.mp hd
      exact hg z hz)
theorem plain_rdLoad {z : Str} (h : z.length ≤ 900000) : plain (rdLoad z) = true := by
  unfold rdLoad
  split
  · rfl
  · exact plain_of_lst (by rw [List.length_map]; exact Nat.le_trans (PyProof.Rows.split_le z "+") (by omega)) (plains_of fun d hd => by
      obtain ⟨z, hz, rfl⟩ := List.mem_map.mp hd
      rfl)
def spCtRead (CC CX TP : Addr) : SpX := fun ds r P XR => (∃ (t : Str) (pre : Rs) (cs : List Addr) (post : Rs), ds = [.str t] ∧ r = pre ++ tabA TP "Contents.read.<locals>.<lambda>" cs :: post ∧ t.length ≤ 300000 ∧ asc t ∧
    ∀ cs', (∀ a b c, ctRd t = some (a, b, c) → P (ctD CC (seqD a) (seqD b) ((seqD c).map seqD)) (pre ++ tabA TP "Contents.read.<locals>.<lambda>" cs' :: post)) ∧ (ctRd t = none → XR CX ["line"] [.int 0] (pre ++ tabA TP "Contents.read.<locals>.<lambda>" cs' :: post))) ∨
  (∃ d, ds = [d] ∧ plain d = true ∧ isTy "str" d = false ∧ XR CX ["line"] [.int (-1)] r)
abbrev N_Contents_read : List Str := ["text", "parts", "answers", "lengths", "loads"]
theorem sc_Contents_read : FnScope N_Contents_read ["text"] (defScope s_Contents_read) := ⟨rfl, rfl, rfl, by decide +kernel, rfl, by decide +kernel, by decide +kernel⟩
theorem c_Contents_read {CC CX CB TP cdc : Addr} (B : Bl mg) (TB : LamX.TabB base mg cdc TP) (X_BadText : ErrX P w K mg base "BadText" CX "line") (K_Contents : KCls K mg "Contents" CC ctF) (N_Contents : ClN P w K mg base 4 CC [.tup [], .tup [], .tup []] (spCtInitD CC CB)) (C_wrong_part : Cl P w K mg base 3 "wrong_part" ["answers", "lengths", "loads"] spWrongD)
    (C_read_words : Cl P w K mg base 2 "read_words" ["text", "reader"] (spRdWords (FVal P w K mg base 1) (FnIn K))) (C_read_length : Cl P w K mg base 1 "read_length" ["word"] spRdLen) (C_read_load : Cl P w K mg base 1 "read_load" ["word"] spRdLoad)
    (Dx : DfSC K CC "read" "Contents.read" s_Contents_read ["text"] cdc) : ClS P w K mg base 7 CC "read" (spCtRead CC CX TP) := by
  have sc := sc_Contents_read
  obtain ⟨fl, fdl, Fl, gl, kl, bl⟩ := C_read_length
  obtain ⟨fo, fdo, Fo, go, ko, bo⟩ := C_read_load
  refine cls_ofC Dx sc (fun ds r P' XR h => ?_) (fun f A outer s H E hr tk po => ?_)
  · rcases h with ⟨_, _, _, _, e, _⟩ | ⟨_, e, _⟩ <;> rw [e] <;> rfl
  have hu := hr.units
  have hi := u65 hr
  have hq : ((cxOf (L2.CX P w) P w K mg base N_Contents_read "Contents.read" (defScope s_Contents_read) f (Value.ref cdc) A outer s H E).env.qual ++ "<lambda>" : Str) = "Contents.read.<locals>.<lambda>" := by rfl
  refine ⟨_, (ss_cons (s_if (b_not (b_tru (d_isi .str (by rfl) B.isi (dv 0) (by rfl) B.str)))
  (ss_one (s_raise X_BadText.c tk hr (dl_cons (d_neg d_int) dl_nil)))
  ss_nil)
  (ss_cons (s_set (i := 1) sc.nd (d_splitL (dv 0) d_str))
  (ss_cons (s_if (b_cmp (p_ne hu) (d_blt c_len (by rfl) B.len (dl_cons (dv 1) dl_nil)) d_int)
  (ss_one (s_raise X_BadText.c tk hr (dl_cons d_int dl_nil)))
  ss_nil)
  (ss_cons (s_set (i := 2) sc.nd (d_fn C_read_words tk hr (dl_cons (d_ix (dv 1) d_int) (dl_cons (d_lamS (FV := FVal P w K mg base 1) spRdAns TB hq (by intro fL c1; exact lam_rd rfl)) dl_nil))))
  (ss_cons (s_set (i := 3) sc.nd (d_fn C_read_words tk hr (dl_cons (d_ix (dv 1) d_int) (dl_cons (d_adr gl) dl_nil))))
  (ss_cons (s_set (i := 4) sc.nd (d_fn C_read_words tk hr (dl_cons (d_ix (dv 1) d_int) (dl_cons (d_adr go) dl_nil))))
  (ss_cons (s_if (b_cmp p_ns (d_fn C_wrong_part tk hr (dl_cons (dv 2) (dl_cons (dv 3) (dl_cons (dv 4) dl_nil)))) d_non)
  (ss_one (s_raise X_BadText.c tk hr (dl_cons d_int dl_nil)))
  ss_nil)
  (ss_one (s_ret (d_frz (d_mk 3 N_Contents K_Contents tk hr (dl_cons (dv 2) (dl_cons (dv 3) (dl_cons (dv 4) dl_nil)))))))))))))), fun ds r P' XR h => ?_⟩
  have hsl := sizeLine_eq
  rcases h with ⟨t, pre, cs, post, rfl, rfl, hl, ha, h⟩ | ⟨d, rfl, hp, hs, h⟩
  · refine brF ⟨t, _, rfl, rfl, by decide +kernel, by omega, ?_⟩
    have hlen : (Txt.split t " / ").length ≤ 300002 := Nat.le_trans (PyProof.Rows.split_le t " / ") (by show t.length + 2 ≤ 300002; omega)
    have hsp : ∀ p ∈ Txt.split t " / ", asc p ∧ p.length ≤ 300000 := fun p hp => ⟨asc_split (by decide +kernel) ha p hp, Nat.le_trans (split_ln (by decide +kernel) p hp) hl⟩
    by_cases h3 : (Txt.split t " / ").length = 3
    · obtain ⟨a, b, c, he⟩ : ∃ a b c, Txt.split t " / " = [a, b, c] := by
        match Txt.split t " / ", h3 with
        | [a, b, c], _ => exact ⟨a, b, c, rfl⟩
      rw [he] at hsp ⊢
      obtain ⟨aa, la⟩ := hsp a (by simp)
      obtain ⟨ab, lb⟩ := hsp b (by simp)
      obtain ⟨ac, lc⟩ := hsp c (by simp)
      refine fun _ => ⟨Nat.zero_le _, Nat.zero_le _, brF (ix_l at0 ⟨pre, cs, post, rfl, fun fL F body cs' hV hq' hc' => ?_⟩)⟩
      refine ⟨a, fL, rdAns, _, rfl, by omega, hV, fun t' => (lam_in hq' hc' t').2, fun z _ t' P2 hP => ⟨(lam_in (K := K) hq' hc' t').1, z, rfl, hP⟩, ?_⟩
      refine ix_l at1 ⟨b, fl, rdLen, _, rfl, by omega, fr_of Fl bl, fun t' => .inl kl, fun z hz t' P2 hP => ⟨z, rfl, asc_split (by decide +kernel) ab z hz, hP⟩, ?_⟩
      refine ix_l at2 ⟨c, fo, rdLoad, _, rfl, by omega, fr_of Fo bo, fun t' => .inl ko, fun z hz t' P2 hP => ⟨z, rfl, Nat.le_trans (split_ln (by decide +kernel) z hz) (by omega), hP⟩, ?_⟩
      have pA : plain (rdW rdAns a) = true := plain_rdW (by omega) fun z _ => by unfold rdAns; split; rfl; split <;> rfl
      have pL : plain (rdW rdLen b) = true := plain_rdW (by omega) fun z _ => by unfold rdLen; split <;> rfl
      have pZ : plain (rdW rdLoad c) = true := plain_rdW (by omega) fun z hz => plain_rdLoad (Nat.le_trans (split_ln (by decide +kernel) z hz) (by omega))
      refine ⟨rdW rdAns a, rdW rdLen b, rdW rdLoad c, rfl, pA, pL, pZ, ?_⟩
      obtain ⟨h1, h2⟩ := h cs'
      unfold ctRd at h1 h2
      rw [he] at h1 h2
      cases hw : isNonD (wrongD (rdW rdAns a) (rdW rdLen b) (rdW rdLoad c)) with
      | false =>
        dsimp only at h2
        rw [hw] at h2
        exact brt (by rw [hw]; rfl) ⟨_, rfl, _, le.drop, h2 rfl⟩
      | true =>
        dsimp only at h1
        rw [hw] at h1
        have hn : wrongD (rdW rdAns a) (rdW rdLen b) (rdW rdLoad c) = .non := by
          revert hw
          cases wrongD (rdW rdAns a) (rdW rdLen b) (rdW rdLoad c) <;> first | (intro; rfl) | (intro h; cases h)
        refine brf (by rw [hw]; rfl) fun ac => ⟨ac, _, _, _, _, rfl, rfl, pA, pL, pZ, .inl ⟨hn, rfl, ac, CC, ctF, _, _, [], rfl, rfl, ?_⟩⟩
        rw [List.append_nil]
        have h1 := h1 _ _ _ rfl
        unfold ctD at h1
        rw [List.map_map] at h1
        exact ⟨_, le.drop, h1⟩
    · have hnone : ctRd t = none := by
        unfold ctRd
        split
        · rename_i e
          rw [e] at h3
          exact absurd rfl h3
        · rfl
      refine fun _ => ⟨Nat.zero_le _, Nat.zero_le _, brt ?_ ⟨_, rfl, fitX.of (δ := []) ((h cs).2 hnone)⟩⟩
      rw [List.length_map]
      simp [eqD, py, PyData.eqv]
      omega
  · have hs2 : (!isTy "str" d) = true := by rw [hs]; rfl
    have hx : fitX XR CX ["line"] [.int (-1)] [] r := fitX.of h
    cases d <;> first | (cases hp; done) | (cases hs; done) | exact brT ⟨_, rfl, fitX.of (δ := []) h⟩
def wtx (ws : List Str) : Str := if ws = [] then "-" else tJoin " " ws
def ldt (v : List Str) : Str := if v = [] then "." else tJoin "+" v
def yn (b : Bool) : Str := if b then "yes" else "no"
def wA (xa : List Bool) : Str := wtx (xa.map yn)
def wL (xl : List Int) : Str := wtx (xl.map fun i => numS i.toNat)
def wZ (zs : List (List Str)) : Str := wtx (zs.map ldt)
def ctText (xa : List Bool) (xl : List Int) (zs : List (List Str)) : Str := tJoin " / " [wA xa, wL xl, wZ zs]
theorem tl_sep : tl (" / " : Str) = [32, 47, 32] := by decide
theorem spl_sep : ∀ (p acc rest : List Nat), 47 ∉ p → TL.spl [32, 47, 32] 0 acc (p ++ ([32, 47, 32] ++ rest)) = (acc ++ p) :: TL.spl [32, 47, 32] 0 [] rest
  | [], acc, rest, _ => by
    rw [List.nil_append, List.append_nil]
    show TL.spl [32, 47, 32] 0 acc (32 :: 47 :: 32 :: rest) = _
    rw [TL.spl_hit (by rfl), TL.spl_pass]
    rfl
  | c :: p, acc, rest, h => by
    have hm : TL.pre [32, 47, 32] (c :: (p ++ ([32, 47, 32] ++ rest))) = false := by
      have : ∀ q : List Nat, q.head? ≠ some 47 → TL.pre [32, 47, 32] (c :: q) = false := fun q hq => by
        unfold TL.pre
        match q, hq with
        | [], _ => simp
        | y :: q, hq => 
          have : y ≠ 47 := fun e => hq (by rw [e]; rfl)
          simp [this]
      refine this _ ?_
      match p, h with
      | [], _ => simp
      | y :: p, h => 
        have : y ≠ 47 := fun e => h (by rw [e]; simp)
        simp [this]
    rw [List.cons_append, TL.spl_miss hm, spl_sep p (acc ++ [c]) rest (fun k => h (List.mem_cons_of_mem _ k))]
    rw [List.append_assoc]
    rfl
theorem spl_none : ∀ (p acc : List Nat), 47 ∉ p → TL.spl [32, 47, 32] 0 acc p = [acc ++ p]
  | [], acc, _ => by rw [TL.spl_nil, List.append_nil]
  | c :: p, acc, h => by
    have hm : TL.pre [32, 47, 32] (c :: p) = false := by
      unfold TL.pre
      match p, h with
      | [], _ => simp
      | y :: p, h =>
        have : y ≠ 47 := fun e => h (by rw [e]; simp)
        simp [this]
    rw [TL.spl_miss hm, spl_none p (acc ++ [c]) (fun k => h (List.mem_cons_of_mem _ k)), List.append_assoc]
    rfl
theorem split_three {a b c : Str} (ha : 47 ∉ tl a) (hb : 47 ∉ tl b) (hc : 47 ∉ tl c) : Txt.split (tJoin " / " [a, b, c]) " / " = [a, b, c] := by
  have e := split_tl (a := tJoin " / " [a, b, c]) (b := " / ") (by decide +kernel)
  rw [tl_tJoin, tl_sep] at e
  have e2 : TL.spl [32, 47, 32] 0 [] (TL.joinL [32, 47, 32] ([a, b, c].map tl)) = [a, b, c].map tl := by
    show TL.spl [32, 47, 32] 0 [] (tl a ++ ([32, 47, 32] ++ (tl b ++ ([32, 47, 32] ++ tl c)))) = [tl a, tl b, tl c]
    rw [spl_sep _ _ _ ha, spl_sep _ _ _ hb, spl_none _ _ hc]
    rfl
  rw [e2] at e
  exact TL.map_tl_inj e
theorem joinL_mem {S : List Nat} {c : Nat} : ∀ {l : List (List Nat)}, c ∈ TL.joinL S l → c ∈ S ∨ ∃ p ∈ l, c ∈ p
  | [], h => by cases h
  | [p], h => .inr ⟨p, List.mem_singleton.mpr rfl, h⟩
  | p :: q :: r, h => by
    rcases List.mem_append.mp h with h | h
    · exact .inr ⟨p, by simp, h⟩
    · rcases List.mem_append.mp h with h | h
      · exact .inl h
      · rcases joinL_mem h with h | ⟨x, hx, h⟩
        · exact .inl h
        · exact .inr ⟨x, List.mem_cons_of_mem _ hx, h⟩
theorem tJoin_mem {s : Str} {ws : List Str} {c : Nat} (h : c ∈ tl (tJoin s ws)) : c ∈ tl s ∨ ∃ z ∈ ws, c ∈ tl z := by
  rw [tl_tJoin] at h
  rcases joinL_mem h with h | ⟨p, hp, h⟩
  · exact .inl h
  · obtain ⟨z, hz, rfl⟩ := List.mem_map.mp hp
    exact .inr ⟨z, hz, h⟩
theorem wtx_mem {ws : List Str} {c : Nat} (h : c ∈ tl (wtx ws)) : c = 45 ∨ c = 32 ∨ ∃ z ∈ ws, c ∈ tl z := by
  unfold wtx at h
  split at h
  · exact .inl (by simpa using (show c ∈ [45] from h))
  · rcases tJoin_mem h with h | h
    · exact .inr (.inl (by simpa using (show c ∈ [32] from h)))
    · exact .inr (.inr h)
theorem ldt_mem {v : List Str} {c : Nat} (h : c ∈ tl (ldt v)) : c = 46 ∨ c = 43 ∨ ∃ z ∈ v, c ∈ tl z := by
  unfold ldt at h
  split at h
  · exact .inl (by simpa using (show c ∈ [46] from h))
  · rcases tJoin_mem h with h | h
    · exact .inr (.inl (by simpa using (show c ∈ [43] from h)))
    · exact .inr (.inr h)
theorem split_join1 {s : Nat} {S : Str} (hS : tl S = [s]) (hok : sepOk S = true) {ws : List Str} (h : ws ≠ []) (hf : ∀ z ∈ ws, s ∉ tl z) : Txt.split (tJoin S ws) S = ws := by
  have e := split_tl (a := tJoin S ws) (b := S) hok
  rw [tl_tJoin, hS, TL.spl_join (by simpa using h) (fun p m => by
    obtain ⟨z, hz, rfl⟩ := List.mem_map.mp m
    exact hf z hz)] at e
  exact TL.map_tl_inj e
theorem rdW_wtx {g : Str → D} {ws : List Str} (h : ∀ z ∈ ws, 32 ∉ tl z ∧ z ≠ "-") : rdW g (wtx ws) = .lst (ws.map g) := by
  unfold wtx
  by_cases h0 : ws = []
  · subst h0
    rfl
  · rw [if_neg h0]
    have e := split_join1 (s := 32) (S := " ") (by decide) (by decide +kernel) h0 fun z hz => (h z hz).1
    have hn : tJoin " " ws ≠ "-" := fun k => by
      rw [k] at e
      have e2 : Txt.split ("-" : Str) " " = [("-" : Str)] := by decide +kernel
      rw [e2] at e
      exact (h "-" (by rw [← e]; simp)).2 rfl
    unfold rdW
    rw [if_neg hn, e]
theorem rdLoad_ldt {v : List Str} (h : ∀ z ∈ v, isNm z = true) : rdLoad (ldt v) = .lst (v.map .str) := by
  have h43 : ∀ z ∈ v, 43 ∉ tl z := fun z hz k => by
    have := h z hz
    unfold isNm isLet at this
    simp only [Bool.and_eq_true, decide_eq_true_eq, List.all_eq_true] at this
    have := this.2 _ k
    omega
  unfold ldt
  by_cases h0 : v = []
  · subst h0
    rfl
  · rw [if_neg h0]
    have e := split_join1 (s := 43) (S := "+") (by decide) (by decide +kernel) h0 h43
    have hn : tJoin "+" v ≠ "." := fun k => by
      rw [k] at e
      have e2 : Txt.split ("." : Str) "+" = [("." : Str)] := by decide +kernel
      rw [e2] at e
      have := h "." (by rw [← e]; simp)
      revert this
      decide +kernel
    unfold rdLoad
    rw [if_neg hn, e]
/-- rows of contents that are good -/
structure GoodT (xa : List Bool) (xl : List Int) (zs : List (List Str)) : Prop where
  la : xa.length ≤ 60
  ll : xl.length ≤ 60
  lz : zs.length ≤ 60
  ok : ∀ i ∈ xl, 0 ≤ i ∧ i ≤ 10 ^ 30
  nm : ∀ v ∈ zs, v.length ≤ 100 ∧ ∀ z ∈ v, isNm z = true
theorem num_lt {i : Int} (h : 0 ≤ i ∧ i ≤ 10 ^ 30) : i.toNat < 10 ^ 31 := by
  have h2 : i ≤ 1000000000000000000000000000000 := h.2
  have : (10 : Nat) ^ 31 = 10000000000000000000000000000000 := by decide
  omega
theorem yn_free (b : Bool) : (∀ c ∈ tl (yn b), 97 ≤ c ∧ c < 128) ∧ yn b ≠ "-" ∧ (yn b).length ≤ 3 := by
  cases b <;> exact ⟨by decide, by decide, by decide⟩
theorem num_free (n : Nat) : (∀ c ∈ tl (numS n), 48 ≤ c ∧ c ≤ 57) ∧ numS n ≠ "-" := by
  have h : ∀ c ∈ tl (numS n), 48 ≤ c ∧ c ≤ 57 := fun c hc => by rw [numS_tl] at hc; exact TL.numL_digits n c hc
  refine ⟨h, fun k => ?_⟩
  have := h 45 (by rw [k]; decide)
  omega
theorem nm_let {z : Str} (h : isNm z = true) : ∀ c ∈ tl z, 97 ≤ c ∧ c ≤ 122 := fun c hc => by
  unfold isNm isLet at h
  simp only [Bool.and_eq_true, decide_eq_true_eq, List.all_eq_true] at h
  exact h.2 c hc
theorem ldt_free {v : List Str} (h : ∀ z ∈ v, isNm z = true) : (∀ c ∈ tl (ldt v), c = 46 ∨ c = 43 ∨ (97 ≤ c ∧ c ≤ 122)) ∧ ldt v ≠ "-" := by
  have a : ∀ c ∈ tl (ldt v), c = 46 ∨ c = 43 ∨ (97 ≤ c ∧ c ≤ 122) := fun c hc => by
    rcases ldt_mem hc with k | k | ⟨z, hz, k⟩
    · exact .inl k
    · exact .inr (.inl k)
    · exact .inr (.inr (nm_let (h z hz) c k))
  refine ⟨a, fun k => ?_⟩
  have := a 45 (by rw [k]; decide)
  omega
theorem w_free {xa : List Bool} {xl : List Int} {zs : List (List Str)} (g : GoodT xa xl zs) : (∀ c ∈ tl (wA xa), c < 128 ∧ c ≠ 47) ∧ (∀ c ∈ tl (wL xl), c < 128 ∧ c ≠ 47) ∧ (∀ c ∈ tl (wZ zs), c < 128 ∧ c ≠ 47) := by
  refine ⟨fun c hc => ?_, fun c hc => ?_, fun c hc => ?_⟩
  · rcases wtx_mem hc with k | k | ⟨z, hz, k⟩
    · omega
    · omega
    · obtain ⟨b, _, rfl⟩ := List.mem_map.mp hz
      have := (yn_free b).1 c k
      omega
  · rcases wtx_mem hc with k | k | ⟨z, hz, k⟩
    · omega
    · omega
    · obtain ⟨b, _, rfl⟩ := List.mem_map.mp hz
      have := (num_free b.toNat).1 c k
      omega
  · rcases wtx_mem hc with k | k | ⟨z, hz, k⟩
    · omega
    · omega
    · obtain ⟨v, hv, rfl⟩ := List.mem_map.mp hz
      have := (ldt_free (g.nm v hv).2).1 c k
      omega
theorem sum_le_len {l : List Nat} {m : Nat} (h : ∀ x ∈ l, x ≤ m) : l.sum ≤ l.length * m := by
  induction l with
  | nil => simp
  | cons x l ih =>
    rw [List.sum_cons, List.length_cons, Nat.add_mul, Nat.one_mul]
    have := ih fun y hy => h y (List.mem_cons_of_mem _ hy)
    have := h x List.mem_cons_self
    omega
theorem joinL_len {S : List Nat} {m : Nat} : ∀ {l : List (List Nat)}, (∀ p ∈ l, p.length ≤ m) → (TL.joinL S l).length ≤ l.length * (m + S.length)
  | [], _ => Nat.zero_le _
  | [p], h => by
    have := h p (List.mem_singleton.mpr rfl)
    show p.length ≤ 1 * (m + S.length)
    omega
  | p :: q :: r, h => by
    have h1 := h p (by simp)
    have h2 := joinL_len (S := S) (l := q :: r) fun x hx => h x (List.mem_cons_of_mem _ hx)
    show (p ++ (S ++ TL.joinL S (q :: r))).length ≤ (r.length + 1 + 1) * (m + S.length)
    rw [List.length_append, List.length_append, Nat.add_mul, Nat.one_mul]
    have : (q :: r).length * (m + S.length) = (r.length + 1) * (m + S.length) := rfl
    omega
theorem tJoin_len {s : Str} {ws : List Str} {m : Nat} (h : ∀ z ∈ ws, z.length ≤ m) : (tJoin s ws).length ≤ ws.length * (m + s.length) := by
  rw [len_tl, tl_tJoin, len_tl]
  have := joinL_len (S := tl s) (l := ws.map tl) (m := m) fun p hp => by
    obtain ⟨z, hz, rfl⟩ := List.mem_map.mp hp
    have := h z hz
    rw [len_tl] at this
    exact this
  rw [List.length_map] at this
  exact this
theorem wtx_len {ws : List Str} {m : Nat} (h : ∀ z ∈ ws, z.length ≤ m) : (wtx ws).length ≤ ws.length * (m + 1) + 1 := by
  unfold wtx
  split
  · show 1 ≤ _; omega
  · exact Nat.le_succ_of_le (tJoin_len h)
theorem ldt_len {v : List Str} (h : ∀ z ∈ v, isNm z = true) : (ldt v).length ≤ v.length * 9 + 1 := by
  unfold ldt
  split
  · show 1 ≤ _; omega
  · exact Nat.le_succ_of_le (tJoin_len fun z hz => isNm_len (h z hz))
theorem num_len {n : Nat} (h : n < 10 ^ 31) : (numS n).length ≤ 31 := by
  rw [len_tl, numS_tl]
  exact TL.numL_len (by decide) h
theorem w_len {xa : List Bool} {xl : List Int} {zs : List (List Str)} (g : GoodT xa xl zs) : (wA xa).length ≤ 241 ∧ (wL xl).length ≤ 1921 ∧ (wZ zs).length ≤ 54121 := by
  have l1 := g.la
  have l2 := g.ll
  have l3 := g.lz
  refine ⟨?_, ?_, ?_⟩
  · have := wtx_len (ws := xa.map yn) (m := 3) fun z hz => by
      obtain ⟨b, _, rfl⟩ := List.mem_map.mp hz
      exact (yn_free b).2.2
    rw [List.length_map] at this
    unfold wA
    omega
  · have := wtx_len (ws := xl.map fun i => numS i.toNat) (m := 31) fun z hz => by
      obtain ⟨b, hb, rfl⟩ := List.mem_map.mp hz
      exact num_len (num_lt (g.ok b hb))
    rw [List.length_map] at this
    unfold wL
    omega
  · have := wtx_len (ws := zs.map ldt) (m := 901) fun z hz => by
      obtain ⟨v, hv, rfl⟩ := List.mem_map.mp hz
      have := ldt_len (g.nm v hv).2
      have := (g.nm v hv).1
      omega
    rw [List.length_map] at this
    unfold wZ
    omega
theorem ctText_ok {xa : List Bool} {xl : List Int} {zs : List (List Str)} (g : GoodT xa xl zs) : asc (ctText xa xl zs) ∧ (ctText xa xl zs).length ≤ 60000 := by
  obtain ⟨f1, f2, f3⟩ := w_free g
  obtain ⟨l1, l2, l3⟩ := w_len g
  refine ⟨fun c hc => ?_, ?_⟩
  · rcases tJoin_mem hc with k | ⟨z, hz, k⟩
    · have : c ∈ [32, 47, 32] := k
      simp at this
      omega
    · simp only [List.mem_cons, List.not_mem_nil, or_false] at hz
      rcases hz with rfl | rfl | rfl
      · exact (f1 c k).1
      · exact (f2 c k).1
      · exact (f3 c k).1
  · rw [len_tl]
    unfold ctText
    rw [tl_tJoin]
    show (tl (wA xa) ++ (tl " / " ++ (tl (wL xl) ++ (tl " / " ++ tl (wZ zs))))).length ≤ 60000
    simp only [List.length_append]
    rw [len_tl] at l1 l2 l3
    have : (tl (" / " : Str)).length = 3 := by decide
    omega
def wds (t : Str) : List Str := if t = "-" then [] else Txt.split t " "
def ldv (z : Str) : List Str := if z = "." then [] else Txt.split z "+"
def numOk (z : Str) : Bool := (!(tl z).isEmpty && (tl z).all isDg) && (decide ((tl z).length ≤ 31) && ((decide ((tl z).length ≤ 1) || !decide ((tl z).head? = some 48)) && decide (NumText.digitsVal (tl z) ≤ 10 ^ 30)))
def memA (z : Str) : Option Bool := if z = "yes" then some true else if z = "no" then some false else none
def memL (z : Str) : Option Int := if numOk z = true then some (NumText.digitsVal (tl z) : Nat) else none
def memZ (z : Str) : Option (List Str) := if (decide ((ldv z).length ≤ 100) && (ldv z).all isNm) = true then some (ldv z) else none
def rowOf {α : Type} (m : Str → Option α) (t : Str) : Option (List α) := if (wds t).length ≤ 1000 then (wds t).mapM m else none
def und (t : Str) : Option (List Bool × List Int × List (List Str)) := match Txt.split t " / " with
  | [a, b, c] => match rowOf memA a, rowOf memL b, rowOf memZ c with
    | some xa, some xl, some zs => some (xa, xl, zs)
    | _, _, _ => none
  | _ => none
theorem mapM_some {α β : Type} {f : α → Option β} : ∀ {l : List α} {ys : List β}, l.mapM f = some ys → ys.length = l.length ∧ ∀ (i : Nat) (x : α), l[i]? = some x → ∃ y, f x = some y ∧ ys[i]? = some y
  | [], ys, h => by
    rw [List.mapM_nil] at h
    cases h
    exact ⟨rfl, fun i x e => by simp at e⟩
  | a :: l, ys, h => by
    rw [List.mapM_cons] at h
    cases ha : f a with
    | none => rw [ha] at h; cases h
    | some b =>
      cases hl : l.mapM f with
      | none => rw [ha, hl] at h; cases h
      | some bs =>
        rw [ha, hl] at h
        cases h
        obtain ⟨e1, e2⟩ := mapM_some hl
        refine ⟨by rw [List.length_cons, List.length_cons, e1], fun i x e => ?_⟩
        match i, e with
        | 0, e => cases e; exact ⟨b, ha, rfl⟩
        | i + 1, e => exact e2 i x e
theorem mapM_none {α β : Type} {f : α → Option β} : ∀ {l : List α}, l.mapM f = none → ∃ x ∈ l, f x = none
  | [], h => by rw [List.mapM_nil] at h; cases h
  | a :: l, h => by
    rw [List.mapM_cons] at h
    cases ha : f a with
    | none => exact ⟨a, List.mem_cons_self, ha⟩
    | some b =>
      cases hl : l.mapM f with
      | none =>
        obtain ⟨x, hx, e⟩ := mapM_none hl
        exact ⟨x, List.mem_cons_of_mem _ hx, e⟩
      | some bs => rw [ha, hl] at h; cases h
theorem mapM_map {α β : Type} {f : α → Option β} {g : α → D} {emb : β → D} (h : ∀ x y, f x = some y → g x = emb y) : ∀ {l : List α} {ys : List β}, l.mapM f = some ys → l.map g = ys.map emb
  | [], ys, e => by rw [List.mapM_nil] at e; cases e; rfl
  | a :: l, ys, e => by
    rw [List.mapM_cons] at e
    cases ha : f a with
    | none => rw [ha] at e; cases e
    | some b =>
      cases hl : l.mapM f with
      | none => rw [ha, hl] at e; cases e
      | some bs =>
        rw [ha, hl] at e
        cases e
        rw [List.map_cons, List.map_cons, h _ _ ha, mapM_map h hl]
theorem memA_rd {z : Str} : (∀ y, memA z = some y → rdAns z = .bl y) ∧ (memA z = none → isBlD (rdAns z) = false) := by
  unfold memA rdAns
  split
  · exact ⟨fun y e => by cases e; rfl, fun e => by cases e⟩
  · split
    · exact ⟨fun y e => by cases e; rfl, fun e => by cases e⟩
    · exact ⟨fun y e => (by cases e), fun _ => rfl⟩
theorem numS_iff {z : Str} (hd : (!(tl z).isEmpty && (tl z).all isDg) = true) : z = numS (NumText.digitsVal (tl z)) ↔ (decide ((tl z).length ≤ 1) || !decide ((tl z).head? = some 48)) = true := by
  rw [Bool.and_eq_true] at hd
  have ha := all_dg hd.2
  have hne : tl z ≠ [] := fun e => by rw [e] at hd; cases hd.1
  have key : z = numS (NumText.digitsVal (tl z)) ↔ TL.numL (NumText.digitsVal (tl z)) = tl z := by
    constructor
    · intro e
      have := congrArg tl e
      rw [numS_tl] at this
      exact this.symm
    · intro e
      refine TL.ext_tl ?_
      show tl z = tl (numS _)
      rw [numS_tl, e]
  rw [key]
  have ofN : ∀ l : List Nat, NumText.AllDigits l → (l.map Char.ofNat).map Char.toNat = l := fun l => by
    induction l with
    | nil => exact fun _ => rfl
    | cons c l ih =>
      intro h
      have hc := h c List.mem_cons_self
      rw [List.map_cons, List.map_cons, ih fun x hx => h x (List.mem_cons_of_mem _ hx)]
      congr 1
      have k : ∀ n : _root_.Fin 58, (Char.ofNat n.val).toNat = n.val := by decide
      exact k ⟨c, by omega⟩
  unfold TL.numL
  obtain ⟨c, l, e⟩ : ∃ c l, tl z = c :: l := by
    cases q : tl z with
    | nil => exact absurd q hne
    | cons c l => exact ⟨c, l, rfl⟩
  rw [e] at ha ⊢
  have hc := ha c List.mem_cons_self
  by_cases h48 : c = 48
  · subst h48
    cases l with
    | nil => exact ⟨fun _ => rfl, fun _ => by decide⟩
    | cons d l =>
      refine ⟨fun k => ?_, fun k => by simp at k⟩
      have t := congrArg List.length k
      rw [List.length_map, NumText.toDigits_all _ ha] at t
      have dl : ((48 :: d :: l).dropWhile (· == 48)).length ≤ l.length + 1 := by
        rw [List.dropWhile_cons]
        simp only [beq_self_eq_true, if_true]
        have := (List.dropWhile_sublist (l := d :: l) (· == 48)).length_le
        simpa using this
      cases q : (48 :: d :: l).dropWhile (· == 48) with
      | nil => rw [q] at t; simp at t
      | cons a m =>
        rw [q] at t dl
        simp only [List.length_map, List.length_cons] at t dl
        omega
  · refine ⟨fun _ => by simp [h48], fun _ => ?_⟩
    rw [NumText.toDigits_digitsVal l.length (c :: l) rfl ha (.inr ⟨c, l, rfl, by omega⟩)]
    exact ofN _ ha
theorem memL_rd {z : Str} : (∀ y, memL z = some y → rdLen z = .int y ∧ 0 ≤ y ∧ y ≤ 10 ^ 30) ∧ (memL z = none → isLen (rdLen z) = false) := by
  have h30 : ((10 : Nat) ^ 30 : Nat) = 1000000000000000000000000000000 := by decide
  have no : numOk z = false → rdLen z = .non → (∀ y, memL z = some y → rdLen z = .int y ∧ 0 ≤ y ∧ y ≤ 10 ^ 30) ∧ (memL z = none → isLen (rdLen z) = false) := fun h1 h2 => by
    have e : memL z = none := by unfold memL; rw [h1]; rfl
    rw [e, h2]
    exact ⟨fun y e => (by cases e), fun _ => rfl⟩
  by_cases hd : (!(tl z).isEmpty && (tl z).all isDg) = true
  · have hk := numS_iff hd
    by_cases hl : (tl z).length ≤ 31
    · by_cases hz : z = numS (NumText.digitsVal (tl z))
      · have hR : rdLen z = .int (NumText.digitsVal (tl z) : Nat) := if_pos ⟨hd, hl, hz⟩
        have hN : numOk z = decide (NumText.digitsVal (tl z) ≤ 10 ^ 30) := by
          unfold numOk
          rw [hd, decide_eq_true hl, hk.mp hz]
          rfl
        rw [hR]
        by_cases hb : NumText.digitsVal (tl z) ≤ 10 ^ 30
        · have e : memL z = some (NumText.digitsVal (tl z) : Nat) := by unfold memL; rw [hN, decide_eq_true hb]; rfl
          rw [e]
          refine ⟨fun y e => ?_, fun e => by cases e⟩
          cases e
          refine ⟨rfl, by omega, ?_⟩
          show ((NumText.digitsVal (tl z) : Nat) : Int) ≤ 1000000000000000000000000000000
          omega
        · have e : memL z = none := by unfold memL; rw [hN, decide_eq_false hb]; rfl
          rw [e]
          refine ⟨fun y e => (by cases e), fun _ => ?_⟩
          show (decide (0 ≤ ((NumText.digitsVal (tl z) : Nat) : Int)) && decide (((NumText.digitsVal (tl z) : Nat) : Int) ≤ 1000000000000000000000000000000)) = false
          rw [decide_eq_false (show ¬ (((NumText.digitsVal (tl z) : Nat) : Int) ≤ 1000000000000000000000000000000) by omega), Bool.and_false]
      · refine no ?_ (if_neg fun k => hz k.2.2)
        unfold numOk
        rw [Bool.eq_false_iff.mpr fun k => hz (hk.mpr k), Bool.false_and, Bool.and_false, Bool.and_false]
    · refine no ?_ (if_neg fun k => hl k.2.1)
      unfold numOk
      rw [decide_eq_false hl, Bool.false_and, Bool.and_false]
  · refine no ?_ (if_neg fun k => hd k.1)
    unfold numOk
    rw [Bool.eq_false_iff.mpr hd, Bool.false_and]
theorem memZ_rd {z : Str} : (∀ y, memZ z = some y → rdLoad z = .lst (y.map .str) ∧ y.length ≤ 100 ∧ ∀ x ∈ y, isNm x = true) ∧ (memZ z = none → loadD (rdLoad z) = false) := by
  have e : rdLoad z = .lst ((ldv z).map .str) := by
    unfold rdLoad ldv
    split <;> rfl
  have e2 : loadD (rdLoad z) = (decide ((ldv z).length ≤ 100) && (ldv z).all isNm) := by
    rw [e]
    show (decide (((ldv z).map D.str).length ≤ 100) && ((ldv z).map D.str).all isNameD) = _
    rw [List.length_map, List.all_map]
    rfl
  rw [e2]
  unfold memZ
  split
  · rename_i h
    refine ⟨fun y k => ?_, fun k => by cases k⟩
    cases k
    rw [Bool.and_eq_true, decide_eq_true_eq, List.all_eq_true] at h
    exact ⟨e, h⟩
  · rename_i h
    exact ⟨fun y k => (by cases k), fun _ => Bool.eq_false_iff.mpr h⟩
theorem rdW_wds (g : Str → D) (t : Str) : rdW g t = .lst ((wds t).map g) := by
  unfold rdW wds
  split <;> rfl
/-- a row: all is well, or not -/
theorem row_rd {α : Type} {m : Str → Option α} {g : Str → D} {emb : α → D} {ok : D → Bool} (h1 : ∀ z y, m z = some y → g z = emb y ∧ ok (emb y) = true) (h2 : ∀ z, m z = none → ok (g z) = false) (t : Str) :
    (∀ ys, rowOf m t = some ys → rdW g t = .lst (ys.map emb) ∧ ys.length ≤ 1000 ∧ (decide ((ys.map emb).length ≤ 1000) && (ys.map emb).all ok) = true) ∧ (rowOf m t = none → (decide (((wds t).map g).length ≤ 1000) && ((wds t).map g).all ok) = false) := by
  unfold rowOf
  by_cases hl : (wds t).length ≤ 1000
  · rw [if_pos hl]
    refine ⟨fun ys e => ?_, fun e => ?_⟩
    · have em := mapM_map (g := g) (emb := emb) (fun x y k => (h1 x y k).1) e
      have el := (mapM_some e).1
      refine ⟨by rw [rdW_wds, em], by omega, ?_⟩
      rw [List.length_map, decide_eq_true (by omega), Bool.true_and, List.all_eq_true]
      intro d hd
      rw [← em] at hd
      obtain ⟨z, hz, rfl⟩ := List.mem_map.mp hd
      obtain ⟨i, hi⟩ := List.mem_iff_getElem?.mp hz
      obtain ⟨y, e1, _⟩ := (mapM_some e).2 i z hi
      rw [(h1 z y e1).1]
      exact (h1 z y e1).2
    · obtain ⟨z, hz, e1⟩ := mapM_none e
      have : ((wds t).map g).all ok = false := by
        cases q : ((wds t).map g).all ok with
        | false => rfl
        | true =>
          have := List.all_eq_true.mp q (g z) (List.mem_map.mpr ⟨z, hz, rfl⟩)
          rw [h2 z e1] at this
          cases this
      rw [this, Bool.and_false]
  · rw [if_neg hl]
    exact ⟨fun ys e => (by cases e), fun _ => by rw [List.length_map, decide_eq_false hl, Bool.false_and]⟩
def RowsOk (xa : List Bool) (xl : List Int) (zs : List (List Str)) : Prop := xa.length ≤ 1000 ∧ xl.length ≤ 1000 ∧ zs.length ≤ 1000 ∧ ∀ v ∈ zs, v.length ≤ 100
theorem ctRd_und (t : Str) : (∀ xa xl zs, und t = some (xa, xl, zs) → ctRd t = some (.lst (trA xa), .lst (trL xl), .lst (zs.map fun v => .lst (v.map .str))) ∧ RowsOk xa xl zs) ∧ (und t = none → ctRd t = none) := by
  unfold und ctRd
  split
  · rename_i a b c he
    try rw [he]
    have rA := row_rd (m := memA) (g := rdAns) (emb := D.bl) (ok := isBlD) (fun z y k => ⟨memA_rd.1 y k, rfl⟩) (fun z k => memA_rd.2 k) a
    have rL := row_rd (m := memL) (g := rdLen) (emb := D.int) (ok := isLen) (fun z y k => ⟨(memL_rd.1 y k).1, by
      have := (memL_rd.1 y k).2
      show (decide (0 ≤ y) && decide (y ≤ 10 ^ 30)) = true
      rw [decide_eq_true this.1, decide_eq_true this.2]
      rfl⟩) (fun z k => memL_rd.2 k) b
    have rZ := row_rd (m := memZ) (g := rdLoad) (emb := fun v => D.lst (v.map .str)) (ok := loadD) (fun z y k => ⟨(memZ_rd.1 y k).1, by
      have := (memZ_rd.1 y k).2
      show (decide ((y.map D.str).length ≤ 100) && (y.map D.str).all isNameD) = true
      rw [List.length_map, decide_eq_true this.1, Bool.true_and, List.all_eq_true]
      intro d hd
      obtain ⟨x, hx, rfl⟩ := List.mem_map.mp hd
      exact this.2 x hx⟩) (fun z k => memZ_rd.2 k) c
    have wr : ∀ A L Z : List D, (goodA A = false ∨ goodL L = false ∨ (decide (Z.length ≤ 1000) && Z.all loadD) = false) → isNonD (wrongD (.lst A) (.lst L) (.lst Z)) = false := fun A L Z h => by
      unfold wrongD
      rw [show okA (.lst A) = goodA A from rfl, show okL (.lst L) = goodL L from rfl, show okZ (.lst Z) = (decide (Z.length ≤ 1000) && Z.all loadD) from rfl]
      rcases h with h | h | h
      · rw [h]; rfl
      · rw [h]; cases goodA A <;> rfl
      · rw [h]; cases goodA A <;> cases goodL L <;> rfl
    have bad : (goodA ((wds a).map rdAns) = false ∨ goodL ((wds b).map rdLen) = false ∨ (decide (((wds c).map rdLoad).length ≤ 1000) && ((wds c).map rdLoad).all loadD) = false) → (if isNonD (wrongD (rdW rdAns a) (rdW rdLen b) (rdW rdLoad c)) = true then some (rdW rdAns a, rdW rdLen b, rdW rdLoad c) else none) = none := fun h => by
      rw [rdW_wds, rdW_wds, rdW_wds, wr _ _ _ h]
      rfl
    cases eA : rowOf memA a with
    | none => exact ⟨fun _ _ _ e => (by cases e), fun _ => bad (.inl (rA.2 eA))⟩
    | some xa =>
      cases eL : rowOf memL b with
      | none => exact ⟨fun _ _ _ e => (by cases e), fun _ => bad (.inr (.inl (rL.2 eL)))⟩
      | some xl =>
        cases eZ : rowOf memZ c with
        | none => exact ⟨fun _ _ _ e => (by cases e), fun _ => bad (.inr (.inr (rZ.2 eZ)))⟩
        | some zs =>
          refine ⟨fun _ _ _ e => ?_, fun e => by cases e⟩
          cases e
          obtain ⟨a1, a2, a3⟩ := rA.1 _ eA
          obtain ⟨l1, l2, l3⟩ := rL.1 _ eL
          obtain ⟨z1, z2, z3⟩ := rZ.1 _ eZ
          have hg : (match [a, b, c] with | [a, b, c] => if isNonD (wrongD (rdW rdAns a) (rdW rdLen b) (rdW rdLoad c)) = true then some (rdW rdAns a, rdW rdLen b, rdW rdLoad c) else none | _ => none) = (if isNonD (wrongD (rdW rdAns a) (rdW rdLen b) (rdW rdLoad c)) = true then some (rdW rdAns a, rdW rdLen b, rdW rdLoad c) else none : Option (D × D × D)) := rfl
          refine ⟨Eq.trans (show _ = _ from hg) ?_, a2, l2, z2, fun v hv => ?_⟩
          rw [a1, l1, z1]
          have hw : isNonD (wrongD (.lst (xa.map D.bl)) (.lst (xl.map D.int)) (.lst (zs.map fun v => .lst (v.map .str)))) = true := by
            unfold wrongD
            rw [show okA (.lst (xa.map D.bl)) = true from a3, show okL (.lst (xl.map D.int)) = true from l3, show okZ (.lst (zs.map fun v => .lst (v.map .str))) = true from z3]
            rfl
          rw [hw]
          rfl
          have e3 := mapM_some (show (wds c).mapM memZ = some zs from by
            unfold rowOf at eZ
            split at eZ
            · exact eZ
            · cases eZ)
          obtain ⟨i, hi⟩ := List.mem_iff_getElem?.mp hv
          have hlt : i < (wds c).length := by rw [← e3.1]; exact (List.getElem?_eq_some_iff.mp hi).1
          obtain ⟨y, f1, f2⟩ := e3.2 i _ (List.getElem?_eq_getElem hlt)
          rw [hi] at f2
          cases f2
          exact (memZ_rd.1 _ f1).2.1
  · rename_i h
    refine ⟨fun _ _ _ e => (by cases e), fun _ => ?_⟩
    first
      | rfl
      | (split
         · rename_i a b c e
           exact (h a b c e).elim
         · rfl)
theorem len_zero (xs : List D) : eqD (.int (xs.length : Nat)) (.int 0) = xs.isEmpty := by cases xs <;> rfl
def spLName : SpX := fun ds r P _ => ∃ z : Str, ds = [.str z] ∧ z.length ≤ 900000 ∧ P (.bl (isNm z)) r
abbrev N__law_is_name : List Str := ["_law_x", "_law_sign"]
theorem sc__law_is_name : FnScope N__law_is_name ["_law_x"] (defScope s__law_is_name) := ⟨rfl, rfl, rfl, by decide +kernel, rfl, by decide +kernel, by decide +kernel⟩
theorem c__law_is_name (B : Bl mg) (Dx : Dfn K mg "_law_is_name" s__law_is_name ["_law_x"]) : Cl P w K mg base 1 "_law_is_name" ["_law_x"] spLName := by
  have sc := sc__law_is_name
  refine cl_of Dx sc (fun ds r P' XR ⟨d, e, _⟩ => by rw [e]; rfl) (fun f cdv A outer s H E hr tk po => ?_)
  have hu := hr.units
  have hi := u65 hr
  refine ⟨_, (ss_cons (s_if (b_w (w_or (b_not (b_tru (d_isi .str (by rfl) B.isi (dv 0) (by rfl) B.str))) (w_or1 (b_not (b_chain p_le p_le d_int (d_blt c_len (by rfl) B.len (dl_cons (dv 0) dl_nil)) d_int)))))
  (ss_one (s_ret d_bl))
  ss_nil)
  (ss_one (s_ret (d_cmp (p_eq hu) (d_blt c_len (by rfl) B.len (dl_cons (d_lc (js := [1]) (own := [("_law_sign", 1)]) sc.nd (i_str (dv 0)) (blkOk_by (own := [("_law_sign", 1)]) (N := N__law_is_name) (sc := defScope s__law_is_name) (by decide +kernel)) (fun _ _ _ _ _ => (g_name (i := 1) sc.nd)) (fun _ _ _ _ _ => (pts_1 (b_cmp (p_notIn hi) (dv 1) d_str))) (fun _ _ _ _ _ => (dv 1))) dl_nil)) d_int)))), fun ds r P' XR h => ?_⟩
  obtain ⟨z, rfl, hz, h⟩ := h
  replace h := fit.of h
  have hb : ∀ b, isNm z = b → fit P' (.bl b) r := fun b e => e ▸ h
  unfold isNm at hb
  refine brF ?_
  by_cases l1 : 1 ≤ z.length
  · refine brt (decide_eq_true (by omega)) ?_
    by_cases l8 : z.length ≤ 8
    · refine brf (congrArg (fun b => !b) (decide_eq_true (show ((z.length : Nat) : Int) ≤ 8 by omega))) ?_
      refine lc_fm (fun d => !(match d with | .str w => (match sub1 w with | some c => decide (c ∈ tl abc) | none => false) | _ => false)) (fun d => d) ?_ ?_ ?_
      · rw [List.length_map]
        show (tl z).length ≤ 1000000
        rw [← len_tl]
        omega
      · intro d hd r' Q1 Q2 q1 q2
        obtain ⟨c, hc, rfl⟩ := List.mem_map.mp hd
        exact ⟨⟨q1, q2⟩⟩
      · rw [List.map_id']
        refine fun _ => ⟨Nat.zero_le _, Nat.zero_le _, hb _ ?_⟩
        rw [len_zero, filter_none, decide_eq_true l1, decide_eq_true l8, List.all_map]
        show (true && true && (tl z).all isLet) = (tl z).all fun c => decide (c ∈ tl abc)
        rw [Bool.true_and, Bool.true_and]
        congr 1
        funext c
        exact (isLet_abc c).symm
    · refine brt (congrArg (fun b => !b) (decide_eq_false (show ¬ ((z.length : Nat) : Int) ≤ 8 by omega))) (hb _ ?_)
      rw [decide_eq_false l8, Bool.and_false, Bool.false_and]
  · refine brf (decide_eq_false (by omega)) (brT (hb _ ?_))
    rw [decide_eq_false l1, Bool.false_and, Bool.false_and]
theorem isDg_in (c : Nat) : decide (c ∈ tl ("0123456789" : Str)) = isDg c := by
  by_cases h : c < 58
  · have k : ∀ n : _root_.Fin 58, decide (n.val ∈ tl ("0123456789" : Str)) = isDg n.val := by decide
    exact k ⟨c, h⟩
  · have e : tl ("0123456789" : Str) = [48, 49, 50, 51, 52, 53, 54, 55, 56, 57] := rfl
    rw [e]
    unfold isDg
    rw [decide_eq_false (show ¬ c ≤ 57 by omega), Bool.and_false, decide_eq_false]
    simp only [List.mem_cons, List.not_mem_nil, or_false]
    omega
theorem dg_len {z : Str} (f : D → Bool) (hf : ∀ c, f (.str ⟨#[c]⟩) = isDg c) : decide (((((z.cps.toList.map fun c => D.str ⟨#[c]⟩).filter f).length : Nat) : Int) < ((z.length : Nat) : Int)) = !(tl z).all isDg := by
  have e : ((z.cps.toList.map fun c => D.str ⟨#[c]⟩).filter f).length = ((tl z).filter isDg).length := by
    rw [List.filter_map, List.length_map]
    congr 2
    funext c
    exact hf c
  rw [e, len_tl]
  cases h : (tl z).all isDg with
  | true =>
    rw [List.all_eq_true] at h
    rw [List.filter_eq_self.mpr h]
    exact decide_eq_false (by omega)
  | false =>
    rw [← Bool.not_eq_true, List.all_eq_true] at h
    have : ((tl z).filter isDg).length < (tl z).length := by
      rw [List.length_filter_lt_length_iff_exists]
      exact Classical.byContradiction fun k => h fun x hx => Classical.byContradiction fun q => k ⟨x, hx, q⟩
    exact decide_eq_true (by omega)
theorem le30 {n : Nat} : ((n : Nat) : Int) ≤ 10 ^ Int.toNat 30 ↔ n ≤ 10 ^ 30 := by
  have e : (10 : Int) ^ Int.toNat 30 = ((10 ^ 30 : Nat) : Int) := by decide
  rw [e]
  omega
def numD (z : Str) : D := if numOk z = true then .int (NumText.digitsVal (tl z) : Nat) else .non
def spLNum : SpX := fun ds r P _ => ∃ z : Str, ds = [.str z] ∧ z.length ≤ 900000 ∧ P (numD z) r
abbrev N__law_number : List Str := ["_law_word", "_law_digits", "_law_sign"]
theorem sc__law_number : FnScope N__law_number ["_law_word"] (defScope s__law_number) := ⟨rfl, rfl, rfl, by decide +kernel, rfl, by decide +kernel, by decide +kernel⟩
theorem c__law_number (B : Bl mg) (Dx : Dfn K mg "_law_number" s__law_number ["_law_word"]) : Cl P w K mg base 1 "_law_number" ["_law_word"] spLNum := by
  have sc := sc__law_number
  refine cl_of Dx sc (fun ds r P' XR ⟨d, e, _⟩ => by rw [e]; rfl) (fun f cdv A outer s H E hr tk po => ?_)
  have hu := hr.units
  have hi := u65 hr
  refine ⟨_, (ss_cons (s_setLc (i := 1) (js := [2]) (own := [("_law_sign", 2)]) sc.nd (i_str (dv 0)) (blkOk_by (own := [("_law_sign", 2)]) (N := N__law_number) (sc := defScope s__law_number) (by decide +kernel)) (fun _ _ _ _ _ => (g_name (i := 2) sc.nd)) (fun _ _ _ _ _ => (pts_1 (b_cmp (p_in hi) (dv 2) d_str))) (fun _ _ _ _ _ => (dv 2)) (sw_true rfl rfl rfl (by decide +kernel)))
  (ss_cons (s_if (b_w (w_or (b_cmp (p_eq hu) (dv 0) d_str) (w_or (b_cmp p_lt (d_blt c_len (by rfl) B.len (dl_cons (dv 1) dl_nil)) (d_blt c_len (by rfl) B.len (dl_cons (dv 0) dl_nil))) (w_or (b_cmp p_gt (d_blt c_len (by rfl) B.len (dl_cons (dv 0) dl_nil)) d_int) (w_or1 (b_w (w_and (b_cmp (p_eq hu) (d_ix (dv 0) d_int) d_str) (w_and1 (b_cmp p_gt (d_blt c_len (by rfl) B.len (dl_cons (dv 0) dl_nil)) d_int)))))))))
  (ss_one (s_ret d_non))
  ss_nil)
  (ss_one (s_ret (d_if (b_cmp p_le (d_ty c_intT (by rfl) B.int (dl_cons (dv 0) dl_nil)) (d_bin p_pow d_int d_int)) (d_ty c_intT (by rfl) B.int (dl_cons (dv 0) dl_nil)) d_non))))), fun ds r P' XR h => ?_⟩
  obtain ⟨z, rfl, hz, h⟩ := h
  replace h := fit.of h
  unfold numD numOk at h
  refine lc_fm (fun d => match d with | .str w => (match sub1 w with | some c => decide (c ∈ tl ("0123456789" : Str)) | none => false) | _ => false) (fun d => d) ?_ ?_ ?_
  · rw [List.length_map]
    show (tl z).length ≤ 1000000
    rw [← len_tl]
    omega
  · intro d hd r' Q1 Q2 q1 q2
    obtain ⟨c, hc, rfl⟩ := List.mem_map.mp hd
    exact ⟨⟨q1, q2⟩⟩
  rw [List.map_id']
  refine ⟨Nat.zero_le _, Nat.zero_le _, ?_⟩
  have hlen := dg_len (z := z) (fun d => match d with | .str w => (match sub1 w with | some c => decide (c ∈ tl ("0123456789" : Str)) | none => false) | _ => false) (fun c => isDg_in c)
  by_cases h0 : z = ""
  · subst h0
    exact brT (brT (show fit P' D.non r from h))
  refine brf (by rw [eqD_str]; simpa using h0) fun _ => ?_
  have hne : tl z ≠ [] := fun e => h0 (TL.ext_tl (show tl z = tl ("" : Str) from e))
  have hemp : (tl z).isEmpty = false := by cases q : tl z with | nil => exact absurd q hne | cons c l => rfl
  rw [hemp] at h
  by_cases h1 : (tl z).all isDg = true
  · rw [h1] at hlen h
    refine brf hlen ?_
    by_cases h2 : (tl z).length ≤ 31
    · rw [decide_eq_true h2] at h
      refine brf (decide_eq_false (by rw [len_tl]; omega)) ?_
      obtain ⟨c, l, ec⟩ : ∃ c l, tl z = c :: l := by
        cases q : tl z with
        | nil => exact absurd q hne
        | cons c l => exact ⟨c, l, rfl⟩
      have h48 : decide ((tl z).head? = some 48) = decide (c = 48) := by rw [ec]; simp
      rw [h48] at h
      refine ix_s (by rw [ec]; exact at0) ⟨Nat.zero_le _, Nat.zero_le _, ?_⟩
      have hc48 : eqD (.str ⟨#[c]⟩) (.str "0") = decide (c = 48) := by
        rw [eqD_str]
        by_cases q : c = 48
        · subst q; rfl
        · rw [decide_eq_false q]
          exact decide_eq_false fun k => q (by have := congrArg tl k; cases this; rfl)
      rw [hc48]
      dsimp only
      have hd := all_dg h1
      have hi2 : PySem.intText? z = some ((NumText.digitsVal (tl z) : Nat) : Int) := PySem.intText_digits hd hne (by rw [len_tl]; omega)
      by_cases q : c = 48
      · rw [decide_eq_true q] at h
        rw [decide_eq_true q]
        by_cases q1 : (tl z).length ≤ 1
        · rw [decide_eq_true q1] at h
          refine brT (brf (decide_eq_false (by rw [len_tl]; omega)) ?_)
          replace h : fit P' (if decide (NumText.digitsVal (tl z) ≤ 10 ^ 30) = true then D.int (NumText.digitsVal (tl z) : Nat) else D.non) r := h
          refine ⟨z, _, rfl, hi2, by rw [len_tl]; omega, ?_⟩
          refine ⟨⟨by decide, by decide⟩, ?_⟩
          by_cases hb : NumText.digitsVal (tl z) ≤ 10 ^ 30
          · rw [if_pos (decide_eq_true hb)] at h
            exact brt (decide_eq_true (le30.mpr hb)) ⟨z, _, rfl, hi2, by rw [len_tl]; omega, h⟩
          · rw [if_neg (by rw [decide_eq_false hb]; exact Bool.false_ne_true)] at h
            exact brf (decide_eq_false (fun k => hb (le30.mp k))) h
        · rw [decide_eq_false q1] at h
          exact brT (brt (decide_eq_true (by rw [len_tl]; omega)) (show fit P' D.non r from h))
      · rw [decide_eq_false q, Bool.not_false, Bool.or_true] at h
        rw [decide_eq_false q]
        refine brF (brF ?_)
        replace h : fit P' (if decide (NumText.digitsVal (tl z) ≤ 10 ^ 30) = true then D.int (NumText.digitsVal (tl z) : Nat) else D.non) r := h
        refine ⟨z, _, rfl, hi2, by rw [len_tl]; omega, ?_⟩
        refine ⟨⟨by decide, by decide⟩, ?_⟩
        by_cases hb : NumText.digitsVal (tl z) ≤ 10 ^ 30
        · rw [if_pos (decide_eq_true hb)] at h
          exact brt (decide_eq_true (le30.mpr hb)) ⟨z, _, rfl, hi2, by rw [len_tl]; omega, h⟩
        · rw [if_neg (by rw [decide_eq_false hb]; exact Bool.false_ne_true)] at h
          exact brf (decide_eq_false (fun k => hb (le30.mp k))) h
    · rw [decide_eq_false h2] at h
      exact brt (decide_eq_true (by rw [len_tl]; omega)) (brT (show fit P' D.non r from h))
  · rw [Bool.eq_false_iff.mpr h1] at hlen h
    exact brt hlen (brT (show fit P' D.non r from h))
def oD {α : Type} (f : α → D) : Option α → D | some y => f y | none => .non
def memD (i : Nat) (z : Str) : D := if i = 0 then oD .bl (memA z) else if i = 1 then oD .int (memL z) else oD (fun v => .tup (v.map .str)) (memZ z)
theorem numD_oD (z : Str) : numD z = oD .int (memL z) := by unfold numD memL; split <;> rfl
def spLMem : SpX := fun ds r P _ => ∃ (i : Nat) (z : Str), ds = [.int i, .str z] ∧ i < 3 ∧ z.length ≤ 900000 ∧ P (memD i z) r
theorem bad_len (l : List Str) : (!((((((l.map D.str).filter fun d => !isNameD d).map fun d => d).length : Nat) : Int) == 0)) = !l.all isNm := by
  have e : (((l.map D.str).filter fun d => !isNameD d).map fun d => d).isEmpty = l.all isNm := by
    rw [List.map_id', filter_none, List.all_map]
    rfl
  rw [← e]
  cases (((l.map D.str).filter fun d => !isNameD d).map fun d => d) with
  | nil => rfl
  | cons a t =>
    have : ((((a :: t).length : Nat) : Int) == 0) = false := beq_false_of_ne (by rw [List.length_cons]; omega)
    rw [this]
    rfl
abbrev N__law_member : List Str := ["_law_part", "_law_word", "_law_load", "_law_name"]
theorem sc__law_member : FnScope N__law_member ["_law_part", "_law_word"] (defScope s__law_member) := ⟨rfl, rfl, rfl, by decide +kernel, rfl, by decide +kernel, by decide +kernel⟩
theorem c__law_member (B : Bl mg) (Dx : Dfn K mg "_law_member" s__law_member ["_law_part", "_law_word"]) (C__law_is_name : Cl P w K mg base 1 "_law_is_name" ["_law_x"] spLName) (C__law_number : Cl P w K mg base 1 "_law_number" ["_law_word"] spLNum) : Cl P w K mg base 2 "_law_member" ["_law_part", "_law_word"] spLMem := by
  have sc := sc__law_member
  refine cl_of Dx sc (fun ds r P' XR ⟨_, _, e, _⟩ => by rw [e]; rfl) (fun f cdv A outer s H E hr tk po => ?_)
  have hu := hr.units
  have hi := u65 hr
  refine ⟨_, (ss_cons (s_if (b_cmp (p_eq hu) (dv 0) d_int)
  (ss_one (s_ret (d_if (b_cmp (p_eq hu) (dv 1) d_str) d_bl (d_if (b_cmp (p_eq hu) (dv 1) d_str) d_bl d_non))))
  ss_nil)
  (ss_cons (s_if (b_cmp (p_eq hu) (dv 0) d_int)
  (ss_one (s_ret (d_fn C__law_number tk hr (dl_cons (dv 1) dl_nil))))
  ss_nil)
  (ss_cons (s_set (i := 2) sc.nd (d_if (b_cmp (p_eq hu) (dv 1) d_str) (d_lst dl_nil) (d_splitL (dv 1) d_str)))
  (ss_cons (s_if (b_w (w_or (b_cmp p_gt (d_blt c_len (by rfl) B.len (dl_cons (dv 2) dl_nil)) d_int) (w_or1 (b_tru (d_blt c_len (by rfl) B.len (dl_cons (d_lc (js := [3]) (own := [("_law_name", 3)]) sc.nd (i_list (dv 2)) (blkOk_by (own := [("_law_name", 3)]) (N := N__law_member) (sc := defScope s__law_member) (by decide +kernel)) (fun _ _ _ _ _ => (g_name (i := 3) sc.nd)) (fun _ _ _ _ _ => (pts_1 (b_not (b_tru (d_fnN C__law_is_name hr (dl_cons (dv 3) dl_nil)))))) (fun _ _ _ _ _ => (dv 3))) dl_nil))))))
  (ss_one (s_ret d_non))
  ss_nil)
  (ss_one (s_ret (d_ty c_tuple (by rfl) B.tuple (dl_cons (dv 2) dl_nil)))))))), fun ds r P' XR h => ?_⟩
  obtain ⟨i, z, rfl, hi3, hz, h⟩ := h
  replace h := fit.of h
  unfold memD at h
  have h3 : i = 0 ∨ i = 1 ∨ i = 2 := by omega
  rcases h3 with rfl | rfl | rfl
  · rw [if_pos rfl] at h
    unfold memA at h
    refine ⟨Nat.zero_le _, Nat.zero_le _, brT ?_⟩
    refine ⟨Nat.zero_le _, Nat.zero_le _, ?_⟩
    by_cases h1 : z = "yes"
    · rw [if_pos h1] at h
      exact brt (by rw [eqD_str]; simpa using h1) h
    · rw [if_neg h1] at h
      refine brf (by rw [eqD_str]; simpa using h1) ⟨Nat.zero_le _, Nat.zero_le _, ?_⟩
      by_cases h2 : z = "no"
      · rw [if_pos h2] at h
        exact brt (by rw [eqD_str]; simpa using h2) h
      · rw [if_neg h2] at h
        exact brf (by rw [eqD_str]; simpa using h2) h
  · rw [if_neg (by decide), if_pos rfl, ← numD_oD] at h
    refine ⟨Nat.zero_le _, Nat.zero_le _, brF ⟨Nat.zero_le _, Nat.zero_le _, brT ?_⟩⟩
    exact ⟨z, rfl, hz, h⟩
  · rw [if_neg (by decide), if_neg (by decide)] at h
    refine ⟨Nat.zero_le _, Nat.zero_le _, brF ⟨Nat.zero_le _, Nat.zero_le _, brF ?_⟩⟩
    refine ⟨Nat.zero_le _, Nat.zero_le _, ?_⟩
    have hsm : (Txt.split z "+").length ≤ 1000000 := Nat.le_trans (PyProof.Rows.split_le z "+") (by omega)
    by_cases h1 : z = "."
    · subst h1
      refine brT ⟨Nat.zero_le _, ?_⟩
      refine fun _ => brf (decide_eq_false (by decide)) ?_
      refine lc_fm (fun d => !isNameD d) (fun d => d) (Nat.zero_le _) (fun d hd => by cases hd) (fun _ => brf rfl (show fit P' (.tup []) r from h))
    · unfold memZ ldv at h
      simp only [if_neg h1] at h
      refine brf (by rw [eqD_str]; simpa using h1) ⟨z, "+", rfl, rfl, by decide +kernel, hz, fun _ => ?_⟩
      rw [List.length_map]
      by_cases h2 : (Txt.split z "+").length ≤ 100
      · refine brf (decide_eq_false (by omega)) ?_
        refine lc_fm (fun d => !isNameD d) (fun d => d) (by unfold small; rw [List.length_map]; exact hsm) (fun d hd r' Q1 Q2 q1 q2 => ?_) (fun _ => ?_)
        · obtain ⟨y, hy, rfl⟩ := List.mem_map.mp hd
          refine ⟨y, rfl, Nat.le_trans (split_ln (by decide +kernel) y hy) hz, ?_⟩
          exact ⟨q1, q2⟩
        have hb := bad_len (Txt.split z "+")
        rw [decide_eq_true h2, Bool.true_and] at h
        by_cases h4 : (Txt.split z "+").all isNm = true
        · rw [if_pos h4] at h
          rw [h4] at hb
          exact brf hb h
        · rw [if_neg h4] at h
          rw [Bool.eq_false_iff.mpr h4] at hb
          exact brt hb h
      · rw [decide_eq_false h2, Bool.false_and, if_neg (by decide)] at h
        exact brt (decide_eq_true (by omega)) (brT h)
theorem row_y {α : Type} {m : Str → Option α} {f : α → D} (hf : ∀ y, isNonD (f y) = false) {i : Nat} (hm : ∀ z, memD i z = oD f (m z)) {z : Str} {ys : List α} (h : rowOf m z = some ys) : (wds z).length ≤ 1000 ∧ (wds z).map (memD i) = ys.map f ∧ ((wds z).map (memD i)).filter isNonD = [] := by
  unfold rowOf at h
  split at h
  · rename_i hl
    have e := mapM_map (g := memD i) (emb := f) (fun x y e => by rw [hm, e]; rfl) h
    refine ⟨hl, e, ?_⟩
    rw [e, List.filter_eq_nil_iff]
    intro d hd
    obtain ⟨y, _, rfl⟩ := List.mem_map.mp hd
    rw [hf]
    exact Bool.false_ne_true
  · cases h
theorem row_n {α : Type} {m : Str → Option α} {f : α → D} {i : Nat} (hm : ∀ z, memD i z = oD f (m z)) {z : Str} (h : rowOf m z = none) : (wds z).length ≤ 1000 → ((wds z).map (memD i)).filter isNonD ≠ [] := fun hl e => by
  unfold rowOf at h
  rw [if_pos hl] at h
  obtain ⟨x, hx, e2⟩ := mapM_none h
  rw [List.filter_eq_nil_iff] at e
  exact e _ (List.mem_map_of_mem hx) (by rw [hm, e2]; rfl)
def ptU (a b c : Str) : Nat → Str | 0 => a | 1 => b | _ => c
def rwU (a b c : Str) (k : Nat) : D := .lst ((wds (ptU a b c k)).map (memD k))
def okU (a b c : Str) (k : Nat) : Prop := (wds (ptU a b c k)).length ≤ 1000 ∧ ((wds (ptU a b c k)).map (memD k)).filter isNonD = []
def und3 (a b c : Str) : Option (List Bool × List Int × List (List Str)) := match rowOf memA a, rowOf memL b, rowOf memZ c with
    | some xa, some xl, some zs => some (xa, xl, zs)
    | _, _, _ => none
theorem memD0 (z : Str) : memD 0 z = oD .bl (memA z) := rfl
theorem memD1 (z : Str) : memD 1 z = oD .int (memL z) := rfl
theorem memD2 (z : Str) : memD 2 z = oD (fun v => .tup (v.map .str)) (memZ z) := rfl
theorem und3_no {a b c : Str} {k : Nat} (hk : k < 3) (h : ¬ okU a b c k) : und3 a b c = none := by
  unfold und3
  match k, hk with
  | 0, _ => cases e : rowOf memA a with
    | none => rfl
    | some ys => exact absurd ⟨(row_y (fun _ => rfl) memD0 e).1, (row_y (fun _ => rfl) memD0 e).2.2⟩ h
  | 1, _ => cases e : rowOf memL b with
    | none => cases rowOf memA a <;> rfl
    | some ys => exact absurd ⟨(row_y (fun _ => rfl) memD1 e).1, (row_y (fun _ => rfl) memD1 e).2.2⟩ h
  | 2, _ => cases e : rowOf memZ c with
    | none => cases rowOf memA a <;> cases rowOf memL b <;> rfl
    | some ys => exact absurd ⟨(row_y (fun _ => rfl) memD2 e).1, (row_y (fun _ => rfl) memD2 e).2.2⟩ h
theorem und3_yes {a b c : Str} (h : ∀ k, k < 3 → okU a b c k) : ∃ xa xl zs, und3 a b c = some (xa, xl, zs) ∧ (List.range 3).map (rwU a b c) = [.lst (trA xa), .lst (trL xl), .lst ((trZ zs).map .tup)] := by
  unfold und3
  cases ea : rowOf memA a with
  | none => exact absurd (h 0 (by decide)).2 (row_n memD0 ea (h 0 (by decide)).1)
  | some xa =>
    cases eb : rowOf memL b with
    | none => exact absurd (h 1 (by decide)).2 (row_n memD1 eb (h 1 (by decide)).1)
    | some xl =>
      cases ec : rowOf memZ c with
      | none => exact absurd (h 2 (by decide)).2 (row_n memD2 ec (h 2 (by decide)).1)
      | some zs =>
        refine ⟨xa, xl, zs, rfl, ?_⟩
        show [D.lst ((wds a).map (memD 0)), D.lst ((wds b).map (memD 1)), D.lst ((wds c).map (memD 2))] = _
        rw [(row_y (fun _ => rfl) memD0 ea).2.1, (row_y (fun _ => rfl) memD1 eb).2.1, (row_y (fun _ => rfl) memD2 ec).2.1]
        unfold trA trL trZ
        rw [List.map_map]
        rfl
theorem und_3 {t a b c : Str} (h : Txt.split t " / " = [a, b, c]) : und t = und3 a b c := by
  unfold und
  rw [h]
  rfl
theorem und_n3 {t : Str} (h : (Txt.split t " / ").length ≠ 3) : und t = none := by
  unfold und
  split
  · rename_i a b c e
    rw [e] at h
    exact absurd rfl h
  · rfl
def undD (t : Str) : D := match und t with | some (xa, xl, zs) => trD xa xl zs | none => .non
def spLUnd : SpX := fun ds r P _ => ∃ t : Str, ds = [.str t] ∧ t.length ≤ 900000 ∧ P (undD t) r
abbrev N__law_understood : List Str := ["_law_text_here", "_law_parts", "_law_triple_here", "_law_part", "_law_words", "_law_members", "_law_word", "_law_member_here"]
theorem sc__law_understood : FnScope N__law_understood ["_law_text_here"] (defScope s__law_understood) := ⟨rfl, rfl, rfl, by decide +kernel, rfl, by decide +kernel, by decide +kernel⟩
theorem c__law_understood (B : Bl mg) (Dx : Dfn K mg "_law_understood" s__law_understood ["_law_text_here"]) (C__law_member : Cl P w K mg base 2 "_law_member" ["_law_part", "_law_word"] spLMem) : Cl P w K mg base 3 "_law_understood" ["_law_text_here"] spLUnd := by
  have sc := sc__law_understood
  refine cl_of Dx sc (fun ds r P' XR ⟨_, e, _⟩ => by rw [e]; rfl) (fun f cdv A outer s H E hr tk po => ?_)
  have hu := hr.units
  have hi := u65 hr
  refine ⟨_, (ss_cons (s_set (i := 1) sc.nd (d_splitL (dv 0) d_str))
  (ss_cons (s_if (b_cmp (p_ne hu) (d_blt c_len (by rfl) B.len (dl_cons (dv 1) dl_nil)) d_int)
  (ss_one (s_ret d_non))
  ss_nil)
  (ss_cons (s_set (i := 2) sc.nd (d_lstO dl_nil))
  (ss_cons (s_for (i_r1 (by rfl) B.range (dl_cons d_int dl_nil)) (g_name (i := 3) sc.nd)
  (ss_cons (s_set (i := 4) sc.nd (d_if (b_cmp (p_eq hu) (d_ix (dv 1) (dv 3)) d_str) (d_lst dl_nil) (d_splitL (d_ix (dv 1) (dv 3)) d_str)))
  (ss_cons (s_setLc (i := 5) (js := [6]) (own := [("_law_word", 6)]) sc.nd (i_list (dv 4)) (blkOk_by (own := [("_law_word", 6)]) (N := N__law_understood) (sc := defScope s__law_understood) (by decide +kernel)) (fun _ _ _ _ _ => (g_name (i := 6) sc.nd)) (fun _ _ _ _ _ => pts_no) (fun _ _ _ _ _ => (d_fnN C__law_member hr (dl_cons (dv 3) (dl_cons (dv 6) dl_nil)))) (sw_true rfl rfl rfl (by decide +kernel)))
  (ss_cons (s_if (b_w (w_or (b_cmp p_gt (d_blt c_len (by rfl) B.len (dl_cons (dv 5) dl_nil)) d_int) (w_or1 (b_tru (d_blt c_len (by rfl) B.len (dl_cons (d_lc (js := [7]) (own := [("_law_member_here", 7)]) sc.nd (i_list (dv 5)) (blkOk_by (own := [("_law_member_here", 7)]) (N := N__law_understood) (sc := defScope s__law_understood) (by decide +kernel)) (fun _ _ _ _ _ => (g_name (i := 7) sc.nd)) (fun _ _ _ _ _ => (pts_1 (b_cmp p_is (dv 7) d_non))) (fun _ _ _ _ _ => (dv 7))) dl_nil))))))
  (ss_one (s_ret d_non))
  ss_nil)
  (ss_one (s_expr (d_app (dv 2) (dl_cons (dv 5) dl_nil))))))) po)
  (ss_one (s_melt 2 (s_ret (dv 2)))))))), fun ds r P' XR h => ?_⟩
  obtain ⟨t, rfl, ht, h⟩ := h
  refine ⟨t, " / ", rfl, rfl, by decide +kernel, ht, ?_⟩
  have hsp : ∀ y ∈ Txt.split t " / ", y.length ≤ t.length := split_ln (by decide +kernel)
  refine fun _ => ⟨Nat.zero_le _, Nat.zero_le _, ?_⟩
  rw [List.length_map]
  by_cases h3 : (Txt.split t " / ").length = 3
  · obtain ⟨a, b, c, e3⟩ : ∃ a b c, Txt.split t " / " = [a, b, c] := by
      match Txt.split t " / ", h3 with
      | [a, b, c], _ => exact ⟨a, b, c, rfl⟩
    rw [e3] at hsp ⊢
    refine brF ?_
    unfold undD at h
    rw [und_3 e3] at h
    refine ⟨Nat.zero_le _, fun q => ?_⟩
    have hpt : ∀ k, k < 3 → (ptU a b c k).length ≤ 900000 := fun k hk => Nat.le_trans (match k, hk with
      | 0, _ => hsp a (by simp)
      | 1, _ => hsp b (by simp)
      | 2, _ => hsp c (by simp)) ht
    refine ⟨⟨by decide, by decide⟩, fun j δ r' => (∃ x3 x4 x5, δ = some (.str t) :: some (.lst ([a, b, c].map .str)) :: some (.adr q) :: x3 :: x4 :: x5 :: List.replicate (N__law_understood.length - 6) none) ∧ (∀ k, k < j → okU a b c k) ∧ r' = r ++ [lstA q ((List.range j).map (rwU a b c))], ⟨⟨_, _, _, rfl⟩, (fun k hk => absurd hk (Nat.not_lt_zero k)), rfl⟩, ?_, ?_⟩
    · rintro j d δ r' hd ⟨⟨x3, x4, x5, rfl⟩, hok, rfl⟩
      have hj := (List.getElem?_eq_some_iff.mp hd).1
      rw [List.length_map, List.length_range] at hj
      replace hj : j < 3 := hj
      obtain rfl : d = .int (j : Nat) := by
        rw [List.getElem?_map, show (List.range (Int.toNat 3))[j]? = some j from List.getElem?_range hj] at hd
        exact (Option.some.inj hd).symm
      have hat : atI ([a, b, c].map D.str) (j : Nat) = some (.str (ptU a b c j)) := by
        match j, hj with
        | 0, _ => rfl
        | 1, _ => rfl
        | 2, _ => rfl
      have hp := hpt j hj
      have hwl : (wds (ptU a b c j)).length ≤ 1000000 := by
        unfold wds
        split
        · exact Nat.zero_le _
        · exact Nat.le_trans (PyProof.Rows.split_le _ " ") (by omega)
      have hwn : ∀ y ∈ wds (ptU a b c j), y.length ≤ 900000 := by
        unfold wds
        split
        · exact fun _ h => by cases h
        · exact fun y hy => Nat.le_trans (split_ln (by decide +kernel) y hy) hp
      dsimp only
      refine seq_cut (t1 := sAsg 4 _) (fun δ2 r2 => δ2 = some (.str t) :: some (.lst ([a, b, c].map .str)) :: some (.adr q) :: some (.int (j : Nat)) :: some (.lst ((wds (ptU a b c j)).map .str)) :: x5 :: List.replicate (N__law_understood.length - 6) none ∧ r2 = r ++ [lstA q ((List.range j).map (rwU a b c))]) ?_ ?_
      · rintro δ2 r2 ⟨rfl, rfl⟩
        refine lc_mapR (f := fun d => match d with | .str z => memD j z | _ => .non) (by unfold small; rw [List.length_map]; exact hwl) (fun d hd p acc P2 hP => ?_) ?_
        · obtain ⟨z, hz, rfl⟩ := List.mem_map.mp hd
          exact ⟨j, z, rfl, hj, hwn z hz, hP⟩
        rw [List.map_map]
        have hfl : ((wds (ptU a b c j)).map ((fun d => match d with | .str z => memD j z | _ => .non) ∘ D.str)) = (wds (ptU a b c j)).map (memD j) := rfl
        rw [hfl]
        have hno : ¬ okU a b c j → P' .non r := fun k => by
          rw [und3_no hj k] at h
          exact h
        refine fun _ => ?_
        rw [List.length_map]
        by_cases h1 : (wds (ptU a b c j)).length ≤ 1000
        · refine brf (decide_eq_false (by omega)) ?_
          refine lc_fm isNonD (fun d => d) (by unfold small; rw [List.length_map]; exact hwl) (fun d hd r' Q1 Q2 q1 q2 => ?_) (fun _ => ?_)
          · exact ⟨q1, q2⟩
          rw [List.map_id']
          by_cases h2 : ((wds (ptU a b c j)).map (memD j)).filter isNonD = []
          · rw [h2]
            refine brf rfl ?_
            refine ⟨q, _, rfl, Own.last, r, _, [], _, rfl, rfl, by unfold small; rw [List.length_map, List.length_range]; omega, ?_⟩
            refine ⟨⟨_, _, _, rfl⟩, fun k hk => ?_, ?_⟩
            · by_cases q4 : k = j
              · subst q4; exact ⟨h1, h2⟩
              · exact hok k (by omega)
            · rw [List.range_succ, List.map_append]
              rfl
          · refine brt ?_ ⟨r, le.drop, hno fun k => h2 k.2⟩
            cases e : ((wds (ptU a b c j)).map (memD j)).filter isNonD with
            | nil => exact absurd e h2
            | cons x y => exact bne_iff_ne.mpr (by rw [List.length_cons]; omega)
        · exact brt (decide_eq_true (by omega)) (brT ⟨r, le.drop, hno fun k => h1 k.1⟩)
      · intro NX hN
        refine ix_l hat ⟨Nat.zero_le _, Nat.zero_le _, ?_⟩
        by_cases h1 : ptU a b c j = "-"
        · refine brt (by rw [eqD_str]; simpa using h1) ⟨Nat.zero_le _, ?_⟩
          exact hN _ _ ⟨by unfold wds; rw [if_pos h1]; rfl, rfl⟩
        · refine brf (by rw [eqD_str]; simpa using h1) (ix_l hat ⟨_, " ", rfl, rfl, by decide +kernel, hp, ?_⟩)
          exact hN _ _ ⟨by unfold wds; rw [if_neg h1]; rfl, rfl⟩
    · rintro δ r' ⟨⟨x3, x4, x5, rfl⟩, hok, rfl⟩
      obtain ⟨xa, xl, zs, e1, e2⟩ := und3_yes hok
      rw [e1] at h
      rw [List.length_map, List.length_range]
      refine ⟨q, _, r, [], rfl, rfl, ?_⟩
      rw [List.append_nil]
      refine fit.of ?_
      have e2' : (List.range (Int.toNat 3)).map (rwU a b c) = [.lst (trA xa), .lst (trL xl), .lst ((trZ zs).map .tup)] := e2
      rw [e2']
      exact h
  · refine brt ?_ ?_
    · show (!(((Txt.split t " / ").length : Nat) : Int) == 3) = true
      have : ((((Txt.split t " / ").length : Nat) : Int) == 3) = false := beq_false_of_ne (by omega)
      rw [this]
      rfl
    · unfold undD at h
      rw [und_n3 h3] at h
      exact fit.of h
theorem asc_app {a b : Str} (ha : asc a) (hb : asc b) : asc (a ++ b) := fun c hc => by
  rw [show tl (a ++ b) = tl a ++ tl b from TL.tl_append a b] at hc
  exact (List.mem_append.mp hc).elim (ha c) (hb c)
theorem asc_cut {z : Str} (h : asc z) (lo hi : Option Int) : asc (cutS z lo hi) := fun c hc => h c (by
  have hc : c ∈ List.take (HT.sIx z.length z.length hi - HT.sIx z.length 0 lo) (List.drop (HT.sIx z.length 0 lo) z.cps.toList) := by
    have e : tl (cutS z lo hi) = List.take (HT.sIx z.length z.length hi - HT.sIx z.length 0 lo) (List.drop (HT.sIx z.length 0 lo) z.cps.toList) := rfl
    rw [← e]
    exact hc
  exact List.mem_of_mem_drop (List.mem_of_mem_take hc))
def wtS (s : Nat) (l : List (List Nat)) : Nat := (l.map List.length).sum + l.length * s
theorem wtS_cons (s : Nat) (a : List Nat) (l : List (List Nat)) : wtS s (a :: l) = a.length + s + wtS s l := by
  unfold wtS
  rw [List.map_cons, List.sum_cons, List.length_cons, Nat.add_mul]
  omega
theorem wtS_spl {S : List Nat} (hS : S ≠ []) : ∀ {l : List Nat} {k : Nat} {acc : List Nat}, wtS S.length (TL.spl S k acc l) ≤ acc.length + (l.length - k) + S.length
  | [], k, acc => by
    rw [TL.spl_nil, wtS_cons, show wtS S.length [] = 0 by unfold wtS; simp]
    omega
  | c :: r, 0, acc => by
    have pS : 0 < S.length := List.length_pos_iff.mpr hS
    cases q : TL.pre S (c :: r) with
    | true =>
      rw [TL.spl_hit q, wtS_cons]
      have := wtS_spl hS (l := r) (k := S.length - 1) (acc := [])
      have hl : S.length ≤ (c :: r).length := by
        have e : (c :: r).take S.length = S := eq_of_beq q
        have := congrArg List.length e
        rw [List.length_take] at this
        omega
      rw [List.length_nil] at this
      rw [List.length_cons] at hl ⊢
      omega
    | false =>
      rw [TL.spl_miss q]
      have := wtS_spl hS (l := r) (k := 0) (acc := acc ++ [c])
      rw [List.length_append, List.length_singleton] at this
      rw [List.length_cons]
      omega
  | c :: r, k + 1, acc => by
    have : wtS S.length (TL.spl S k acc r) ≤ _ := wtS_spl hS (l := r) (k := k) (acc := acc)
    show wtS S.length (TL.spl S k acc r) ≤ _
    rw [List.length_cons]
    omega
theorem joinL_wt {S : List Nat} : ∀ {l : List (List Nat)}, (TL.joinL S l).length ≤ wtS S.length l - S.length
  | [] => Nat.zero_le _
  | [p] => by
    rw [wtS_cons]
    show p.length ≤ _
    omega
  | p :: q :: l => by
    have := joinL_wt (S := S) (l := q :: l)
    rw [wtS_cons]
    rw [show TL.joinL S (p :: q :: l) = p ++ (S ++ TL.joinL S (q :: l)) from rfl, List.length_append, List.length_append]
    have : S.length ≤ wtS S.length (q :: l) := by rw [wtS_cons]; omega
    omega
theorem wtS_set {s : Nat} (x : List Nat) : ∀ (l : List (List Nat)) (i : Nat), wtS s (l.set i x) ≤ wtS s l + x.length
  | [], i => by rw [List.set_nil]; omega
  | a :: l, 0 => by rw [List.set_cons_zero, wtS_cons, wtS_cons]; omega
  | a :: l, i + 1 => by
    have := wtS_set (s := s) x l i
    rw [List.set_cons_succ, wtS_cons, wtS_cons]
    omega
theorem wtS_erase {s : Nat} : ∀ (l : List (List Nat)) (i : Nat), wtS s (l.eraseIdx i) ≤ wtS s l
  | [], i => by rw [List.eraseIdx_nil]; omega
  | a :: l, 0 => by rw [List.eraseIdx_cons_zero, wtS_cons]; omega
  | a :: l, i + 1 => by
    have := wtS_erase (s := s) l i
    rw [List.eraseIdx_cons_succ, wtS_cons, wtS_cons]
    omega
theorem er_map {α β : Type} (f : α → β) : ∀ (l : List α) (i : Nat), (l.eraseIdx i).map f = (l.map f).eraseIdx i
  | [], i => by rw [List.eraseIdx_nil]; rfl
  | a :: l, 0 => rfl
  | a :: l, i + 1 => congrArg (f a :: ·) (er_map f l i)
theorem wt_split {t S : Str} (hS : sepOk S = true) : wtS S.length ((Txt.split t S).map tl) ≤ t.length + S.length := by
  have hne : tl S ≠ [] := fun e => by
    unfold G.sepOk at hS
    rw [e] at hS
    cases hS
  rw [split_tl hS, len_tl, len_tl]
  have := wtS_spl hne (l := tl t) (k := 0) (acc := [])
  rw [List.length_nil] at this
  omega
theorem wtS_map (s : Nat) (l : List Str) : (l.map (·.length)).sum + l.length * s = wtS s (l.map tl) := by
  unfold wtS
  rw [List.map_map, List.length_map]
  congr 3
theorem set_map {α β : Type} (f : α → β) (x : α) : ∀ (l : List α) (i : Nat), (l.set i x).map f = (l.map f).set i (f x)
  | [], i => by rw [List.set_nil]; rfl
  | a :: l, 0 => rfl
  | a :: l, i + 1 => congrArg (f a :: ·) (set_map f x l i)
theorem chg_setw {t S x : Str} (hS : sepOk S = true) (i : Nat) : (((Txt.split t S).set i x).map (·.length)).sum + ((Txt.split t S).set i x).length * S.length ≤ t.length + S.length + x.length := by
  rw [wtS_map, set_map]
  have h2 := wtS_set (s := S.length) (tl x) ((Txt.split t S).map tl) i
  have h3 := wt_split (t := t) hS
  rw [← len_tl] at h2
  omega
theorem chg_dropw {t S : Str} (hS : sepOk S = true) (i : Nat) : (((Txt.split t S).eraseIdx i).map (·.length)).sum + ((Txt.split t S).eraseIdx i).length * S.length ≤ t.length + S.length := by
  rw [wtS_map, er_map]
  have h2 := wtS_erase (s := S.length) ((Txt.split t S).map tl) i
  have h3 := wt_split (t := t) hS
  omega
theorem spl_pos (t : Str) {S : Str} (hS : sepOk S = true) : 0 < (Txt.split t S).length := by
  rw [List.length_pos_iff]
  intro e
  have h := split_tl (a := t) hS
  rw [e, List.map_nil] at h
  have : ∀ (l : List Nat) (k : Nat) (acc : List Nat), TL.spl (tl S) k acc l ≠ [] := by
    intro l
    induction l with
    | nil => intro k acc; rw [TL.spl_nil]; simp
    | cons c l ih =>
      intro k acc
      cases k with
      | zero =>
        cases q : TL.pre (tl S) (c :: l) with
        | true => rw [TL.spl_hit q]; simp
        | false => rw [TL.spl_miss q]; exact ih _ _
      | succ k => exact ih _ _
  exact this _ _ _ h.symm
theorem chg_set {t S x : Str} (hS : sepOk S = true) (ha : asc t) (hs : asc S) (hx : asc x) (i : Nat) : asc (tJoin S ((Txt.split t S).set i x)) ∧ (tJoin S ((Txt.split t S).set i x)).length ≤ t.length + x.length := by
  refine ⟨fun c hc => ?_, ?_⟩
  · rcases tJoin_mem hc with k | ⟨z, hz, k⟩
    · exact hs c k
    · rcases List.mem_or_eq_of_mem_set hz with hz | rfl
      · exact asc_split hS ha z hz c k
      · exact hx c k
  · have h1 := joinL_wt (S := tl S) (l := ((Txt.split t S).set i x).map tl)
    have h2 := wtS_set (s := S.length) (tl x) ((Txt.split t S).map tl) i
    have h3 := wt_split (t := t) hS
    rw [len_tl (tJoin S _), tl_tJoin]
    rw [List.map_set] at h1 ⊢
    rw [← len_tl] at h1 h2
    omega
theorem chg_drop {t S : Str} (hS : sepOk S = true) (ha : asc t) (hs : asc S) (i : Nat) : asc (tJoin S ((Txt.split t S).eraseIdx i)) ∧ (tJoin S ((Txt.split t S).eraseIdx i)).length ≤ t.length := by
  refine ⟨fun c hc => ?_, ?_⟩
  · rcases tJoin_mem hc with k | ⟨z, hz, k⟩
    · exact hs c k
    · exact asc_split hS ha z (List.mem_of_mem_eraseIdx hz) c k
  · have h1 := joinL_wt (S := tl S) (l := ((Txt.split t S).eraseIdx i).map tl)
    have h2 := wtS_erase (s := S.length) ((Txt.split t S).map tl) i
    have h3 := wt_split (t := t) hS
    rw [len_tl (tJoin S _), tl_tJoin]
    rw [er_map] at h1 ⊢
    rw [← len_tl] at h1
    omega
def spChg : SpX := fun ds r P _ => ∃ (p a : Addr) (n : Nat) (X : Rs) (t : Str), ds = [.adr p, .str t] ∧ r = poolA p a n :: X ∧ asc t ∧ t.length ≤ 300000 ∧ n ≤ 100000000 ∧ ∀ (t' : Str) (n' : Nat), asc t' → t'.length ≤ 2 * t.length + 5000 → n' ≤ n + 10 → P (.str t') (poolA p a n' :: X)
def pcs18 : List Str := [" ", "/", " / ", "-", "yes", "no", "0", "00", "1", "+", ".", "a", "A", "\n", "- / ", "abcdefgh", "_", "9"]
theorem pcs_ok : ∀ z ∈ pcs18, asc z ∧ z.length ≤ 8 := by
  have h : pcs18.all (fun z => (tl z).all (fun c => decide (c < 128)) && decide (z.length ≤ 8)) = true := by decide
  intro z hz
  have := List.all_eq_true.mp h z hz
  rw [Bool.and_eq_true, List.all_eq_true, decide_eq_true_eq] at this
  exact ⟨fun c hc => of_decide_eq_true (this.1 c hc), this.2⟩
theorem three_ok (v : Str) (h : v = repS "1" 5000 ∨ v = numS (10 ^ 30) ∨ v = numS (10 ^ 30 + 1)) : asc v ∧ v.length ≤ 5000 := by
  rcases h with rfl | rfl | rfl
  · refine ⟨fun c hc => ?_, by rw [repS_len]; decide⟩
    have := rep_all (fun c => decide (c < 128)) ("1" : Str).cps (by rw [← Array.all_toList]; decide) 5000 #[] (by simp)
    rw [← Array.all_toList, List.all_eq_true] at this
    exact of_decide_eq_true (this c hc)
  · exact ⟨fun c hc => by have := (num_free (10 ^ 30)).1 c hc; omega, Nat.le_trans (num_len (by decide)) (by decide)⟩
  · exact ⟨fun c hc => by have := (num_free (10 ^ 30 + 1)).1 c hc; omega, Nat.le_trans (num_len (by decide)) (by decide)⟩
theorem oJoin_l {S : Str} {l : List Str} {k : D → Prop} (h : (l.map (·.length)).sum + l.length * S.length ≤ 1000000) (q : k (.str (tJoin S l))) : oJoin (.str S) (.lst (l.map .str)) k := by
  refine ⟨?_⟩
  show (match strL (l.map D.str) with | some ys => (ys.map (·.length)).sum + ys.length * S.length ≤ 1000000 ∧ k (.str (tJoin S ys)) | none => False)
  rw [strL_map]
  exact ⟨h, q⟩
abbrev N__law_changed : List Str := ["_law_pool_here", "_law_text_here", "_law_pieces", "_law_piece", "_law_at", "_law_pick", "_law_parts"]
theorem sc__law_changed : FnScope N__law_changed ["_law_pool_here", "_law_text_here"] (defScope s__law_changed) := ⟨rfl, rfl, rfl, by decide +kernel, rfl, by decide +kernel, by decide +kernel⟩
theorem c__law_changed (B : Bl mg) (Dx : Dfn K mg "_law_changed" s__law_changed ["_law_pool_here", "_law_text_here"]) (C__law_draw : Cl P w K mg base 1 "_law_draw" ["_law_pool_here", "_law_many"] spDraw) : Cl P w K mg base 2 "_law_changed" ["_law_pool_here", "_law_text_here"] spChg := by
  have sc := sc__law_changed
  refine cl_of Dx sc (fun ds r P' XR ⟨_, _, _, _, _, e, _⟩ => by rw [e]; rfl) (fun f cdv A outer s H E hr tk po => ?_)
  have hu := hr.units
  have hi := u65 hr
  refine ⟨_, (ss_cons (s_set (i := 2) sc.nd (d_lst (dl_cons d_str (dl_cons d_str (dl_cons d_str (dl_cons d_str (dl_cons d_str (dl_cons d_str (dl_cons d_str (dl_cons d_str (dl_cons d_str (dl_cons d_str (dl_cons d_str (dl_cons d_str (dl_cons d_str (dl_cons d_str (dl_cons d_str (dl_cons d_str (dl_cons d_str (dl_cons d_str dl_nil))))))))))))))))))))
  (ss_cons (s_set (i := 3) sc.nd (d_ix (dv 2) (d_fn C__law_draw tk hr (dl_cons (dv 0) (dl_cons d_int dl_nil)))))
  (ss_cons (s_set (i := 4) sc.nd (d_fn C__law_draw tk hr (dl_cons (dv 0) (dl_cons (d_bin p_add (d_blt c_len (by rfl) B.len (dl_cons (dv 1) dl_nil)) d_int) dl_nil))))
  (ss_cons (s_set (i := 5) sc.nd (d_fn C__law_draw tk hr (dl_cons (dv 0) (dl_cons d_int dl_nil))))
  (ss_cons (s_if (b_cmp (p_eq hu) (dv 5) d_int)
  (ss_one (s_ret (d_bin p_add (d_sl (dv 1) o_no (o_some (dv 4))) (d_sl (dv 1) (o_some (d_bin p_add (dv 4) d_int)) o_no))))
  ss_nil)
  (ss_cons (s_if (b_cmp (p_eq hu) (dv 5) d_int)
  (ss_one (s_ret (d_bin p_add (d_bin p_add (d_sl (dv 1) o_no (o_some (dv 4))) (dv 3)) (d_sl (dv 1) (o_some (d_bin p_add (dv 4) d_int)) o_no))))
  ss_nil)
  (ss_cons (s_if (b_cmp (p_eq hu) (dv 5) d_int)
  (ss_cons (s_set (i := 6) sc.nd (d_splitLO (dv 1) d_str))
  (ss_cons (s_setO (dv 3) (dv 6) (d_fn C__law_draw tk hr (dl_cons (dv 0) (dl_cons (d_blt2 c_lenO (by rfl) B.len (dl_cons (dv 6) dl_nil)) dl_nil))))
  (ss_one (s_melt 6 (s_ret (d_join d_str (dv 6)))))))
  ss_nil)
  (ss_cons (s_if (b_cmp (p_eq hu) (dv 5) d_int)
  (ss_cons (s_set (i := 6) sc.nd (d_splitLO (dv 1) d_str))
  (ss_cons (s_expr (d_popAt (dv 6) (dl_cons (d_fn C__law_draw tk hr (dl_cons (dv 0) (dl_cons (d_blt2 c_lenO (by rfl) B.len (dl_cons (dv 6) dl_nil)) dl_nil))) dl_nil)))
  (ss_one (s_melt 6 (s_ret (d_join d_str (dv 6)))))))
  ss_nil)
  (ss_cons (s_if (b_w (w_and (b_cmp (p_eq hu) (dv 5) d_int) (w_and1 (b_cmp (p_in hi) d_str (dv 1)))))
  (ss_cons (s_set (i := 4) sc.nd (d_find (dv 1) d_str))
  (ss_cons (s_set (i := 3) sc.nd (d_ix (d_lst (dl_cons (d_bin p_mulL d_str d_int) (dl_cons (d_ty c_strN (by rfl) B.str (dl_cons (d_bin p_pow d_int d_int) dl_nil)) (dl_cons (d_ty c_strN (by rfl) B.str (dl_cons (d_bin p_add (d_bin p_pow d_int d_int) d_int) dl_nil)) dl_nil)))) (d_fn C__law_draw tk hr (dl_cons (dv 0) (dl_cons d_int dl_nil)))))
  (ss_one (s_ret (d_bin p_add (d_bin p_add (d_sl (dv 1) o_no (o_some (dv 4))) (dv 3)) (d_sl (dv 1) (o_some (d_bin p_add (dv 4) d_int)) o_no))))))
  ss_nil)
  (ss_one (s_ret (d_bin p_add (d_bin p_add (d_sl (dv 1) o_no (o_some (dv 4))) (dv 3)) (d_sl (dv 1) (o_some (dv 4)) o_no))))))))))))), fun ds r P' XR h => ?_⟩
  obtain ⟨p, a, n, X, t, rfl, rfl, ha, ht, hn, h⟩ := h
  refine ⟨Nat.le_of_ble_eq_true rfl, p, a, 18, n, X, rfl, rfl, ⟨by decide, by decide⟩, by omega, fun k k0 k1 => ?_⟩
  obtain ⟨k, rfl⟩ : ∃ m : Nat, k = m := ⟨k.toNat, by omega⟩
  have hk : k < pcs18.length := by show k < 18; omega
  obtain ⟨z, hzc⟩ : ∃ z, pcs18[k]? = some z := ⟨pcs18[k], List.getElem?_eq_getElem hk⟩
  obtain ⟨az, lz⟩ := pcs_ok z (List.mem_of_getElem? hzc)
  refine ix_l (z := pcs18.map .str) (L2.atI_nat (by rw [List.getElem?_map, hzc]; rfl)) ?_
  refine ⟨p, a, _, n + 1, X, rfl, rfl, ⟨by omega, by omega⟩, by omega, fun q q0 q1 => ?_⟩
  refine ⟨p, a, 6, n + 1 + 1, X, rfl, rfl, ⟨by decide, by decide⟩, by omega, fun m m0 m1 => ?_⟩
  have h01 : sepOk " " = true := by decide +kernel
  have h02 : sepOk " / " = true := by decide +kernel
  have as1 : asc " " := by unfold asc; decide
  have as2 : asc " / " := by unfold asc; decide
  have nsp : ∀ S : Str, (Txt.split t S).length ≤ 300010 := fun S => by have := PyProof.Rows.split_le t S; omega
  have L1 := cutS_length t none (some q)
  have L2' := cutS_length t (some (q + 1)) none
  have L3 := cutS_length t (some q) none
  have A1 := asc_cut ha none (some q)
  have A2 := asc_cut ha (some (q + 1)) none
  have A3 := asc_cut ha (some q) none
  refine ⟨Nat.zero_le _, Nat.zero_le _, ?_⟩
  by_cases m0' : m = 0
  · refine brt (by rw [eqD_int, m0']; rfl) (sl_s (sl_s ⟨by show (cutS t none (some q)).length + (cutS t (some (q + 1)) none).length ≤ 1000000; omega, fit.of (h _ _ (asc_app A1 A2) (by rw [len_app]; omega) (by omega))⟩))
  refine brf (by rw [eqD_int]; exact beq_false_of_ne m0') ⟨Nat.zero_le _, Nat.zero_le _, ?_⟩
  by_cases m1' : m = 1
  · refine brt (by rw [eqD_int, m1']; rfl) (sl_s ⟨by show (cutS t none (some q)).length + z.length ≤ 1000000; omega, sl_s ⟨by show (cutS t none (some q) ++ z).length + (cutS t (some (q + 1)) none).length ≤ 1000000; rw [len_app]; omega, fit.of (h _ _ (asc_app (asc_app A1 az) A2) (by rw [len_app, len_app]; omega) (by omega))⟩⟩)
  refine brf (by rw [eqD_int]; exact beq_false_of_ne m1') ⟨Nat.zero_le _, Nat.zero_le _, ?_⟩
  by_cases m2' : m = 2
  · refine brt (by rw [eqD_int, m2']; rfl) ⟨t, " ", rfl, rfl, h01, by omega, fun b => ?_⟩
    refine ⟨b, _, rfl, Own.last, ?_⟩
    refine fun _ => ⟨p, a, _, n + 1 + 1 + 1, _, rfl, rfl, ⟨?_, ?_⟩, by omega, fun j j0 j1 => ?_⟩
    · rw [List.length_map]
      have := spl_pos t h01
      omega
    · rw [List.length_map]
      have := nsp " "
      omega
    obtain ⟨j, rfl⟩ : ∃ m : Nat, j = m := ⟨j.toNat, by omega⟩
    refine ⟨b, poolA p a (n + 1 + 1 + 1 + 1) :: X, _, [], j, rfl, rfl, rfl, by omega, ?_⟩
    refine ⟨b, _, poolA p a (n + 1 + 1 + 1 + 1) :: X, [], rfl, rfl, ?_⟩
    rw [List.append_nil]
    obtain ⟨c1, c2⟩ := chg_set h01 ha as1 az j
    have cw := chg_setw (t := t) (x := z) h01 j
    have e1 : (" " : Str).length = 1 := by decide
    rw [← set_map]
    exact oJoin_l (by omega) (fit.of (h _ _ c1 (by omega) (by omega)))
  refine brf (by rw [eqD_int]; exact beq_false_of_ne m2') ⟨Nat.zero_le _, Nat.zero_le _, ?_⟩
  by_cases m3' : m = 3
  · refine brt (by rw [eqD_int, m3']; rfl) ⟨t, " / ", rfl, rfl, h02, by omega, fun b => ?_⟩
    refine ⟨b, _, rfl, Own.last, ?_⟩
    refine ⟨b, _, rfl, Own.last, fun _ => ?_⟩
    refine ⟨p, a, _, n + 1 + 1 + 1, _, rfl, rfl, ⟨?_, ?_⟩, by omega, fun j j0 j1 => ?_⟩
    · rw [List.length_map]
      have := spl_pos t h02
      omega
    · rw [List.length_map]
      have := nsp " / "
      omega
    obtain ⟨j, rfl⟩ : ∃ m : Nat, j = m := ⟨j.toNat, by omega⟩
    have e4 := nsp " / "
    have e5 : j < ((Txt.split t " / ").map D.str).length := by omega
    rw [List.length_map] at e5
    refine ⟨poolA p a (n + 1 + 1 + 1 + 1) :: X, _, [], _, j, rfl, rfl, List.getElem?_eq_getElem (by rw [List.length_map]; exact e5), by omega, ?_⟩
    refine ⟨b, _, poolA p a (n + 1 + 1 + 1 + 1) :: X, [], rfl, rfl, ?_⟩
    rw [List.append_nil]
    obtain ⟨c1, c2⟩ := chg_drop h02 ha as2 j
    have cw := chg_dropw (t := t) h02 j
    have e1 : (" / " : Str).length = 3 := by decide
    rw [← er_map]
    exact oJoin_l (by omega) (fit.of (h _ _ c1 (by omega) (by omega)))
  refine brf (by rw [eqD_int]; exact beq_false_of_ne m3') ⟨Nat.zero_le _, Nat.zero_le _, ?_⟩
  by_cases m4' : m = 4
  · refine brt (by rw [eqD_int, m4']; rfl) ?_
    refine ⟨fun _ => ?_, fun _ => ?_⟩
    · show sSeq _ _ _ _ _
      refine ⟨"1", 5000, rfl, rfl, by decide, by decide, by decide, by decide, ?_⟩
      have p30 : (10 : Int) ^ Int.toNat 30 = ((10 ^ 30 : Nat) : Int) := by decide
      refine ⟨⟨by decide, by decide⟩, 10 ^ 30, congrArg (fun i => [D.int i]) p30, by decide, ?_⟩
      refine ⟨⟨by decide, by decide⟩, 10 ^ 30 + 1, congrArg (fun i => [D.int i]) (by rw [p30]; rfl), by decide, ?_⟩
      refine ⟨Nat.le_of_ble_eq_true rfl, p, a, 3, n + 1 + 1 + 1, X, rfl, rfl, ⟨by decide, by decide⟩, by omega, fun j j0 j1 => ?_⟩
      obtain ⟨j, rfl⟩ : ∃ m : Nat, j = m := ⟨j.toNat, by omega⟩
      generalize Txt.find t "-" = g
      have B1 := cutS_length t none (some g)
      have B2 := cutS_length t (some (g + 1)) none
      have D1 := asc_cut ha none (some g)
      have D2 := asc_cut ha (some (g + 1)) none
      have fin : ∀ v : Str, asc v → v.length ≤ 5000 → fit P' (.str (cutS t none (some g) ++ v ++ cutS t (some (g + 1)) none)) (poolA p a (n + 1 + 1 + 1 + 1) :: X) := fun v av lv => fit.of (h _ _ (asc_app (asc_app D1 av) D2) (by rw [len_app, len_app]; omega) (by omega))
      have three : ∀ v : Str, v = repS "1" 5000 ∨ v = numS (10 ^ 30) ∨ v = numS (10 ^ 30 + 1) → asc v ∧ v.length ≤ 5000 := three_ok
      match j, j1 with
      | 0, _ =>
        obtain ⟨av, lv⟩ := three _ (.inl rfl)
        exact ix_l at0 (sl_s ⟨by show (cutS t none (some g)).length + _ ≤ 1000000; omega, sl_s ⟨by show (cutS t none (some g) ++ _).length + (cutS t (some (g + 1)) none).length ≤ 1000000; rw [len_app]; omega, fin _ av lv⟩⟩)
      | 1, _ =>
        obtain ⟨av, lv⟩ := three _ (.inr (.inl rfl))
        exact ix_l at1 (sl_s ⟨by show (cutS t none (some g)).length + _ ≤ 1000000; omega, sl_s ⟨by show (cutS t none (some g) ++ _).length + (cutS t (some (g + 1)) none).length ≤ 1000000; rw [len_app]; omega, fin _ av lv⟩⟩)
      | 2, _ =>
        obtain ⟨av, lv⟩ := three _ (.inr (.inr rfl))
        exact ix_l at2 (sl_s ⟨by show (cutS t none (some g)).length + _ ≤ 1000000; omega, sl_s ⟨by show (cutS t none (some g) ++ _).length + (cutS t (some (g + 1)) none).length ≤ 1000000; rw [len_app]; omega, fin _ av lv⟩⟩)
    · exact (sl_s ⟨by show (cutS t none (some q)).length + z.length ≤ 1000000; omega, sl_s ⟨by show (cutS t none (some q) ++ z).length + (cutS t (some q) none).length ≤ 1000000; rw [len_app]; omega, fit.of (h _ _ (asc_app (asc_app A1 az) A3) (by rw [len_app, len_app]; omega) (by omega))⟩⟩)
  · refine brf (by rw [eqD_int]; exact beq_false_of_ne m4') (brF ?_)
    exact (sl_s ⟨by show (cutS t none (some q)).length + z.length ≤ 1000000; omega, sl_s ⟨by show (cutS t none (some q) ++ z).length + (cutS t (some q) none).length ≤ 1000000; rw [len_app]; omega, fit.of (h _ _ (asc_app (asc_app A1 az) A3) (by rw [len_app, len_app]; omega) (by omega))⟩⟩)
theorem ctText_sm {xa : List Bool} {xl : List Int} {zs : List (List Str)} (g : GoodT xa xl zs) (h1 : xa.length ≤ 6) (h2 : xl.length ≤ 6) (h3 : zs.length ≤ 6) : asc (ctText xa xl zs) ∧ (ctText xa xl zs).length ≤ 6000 := by
  refine ⟨(ctText_ok g).1, ?_⟩
  have a1 : (wA xa).length ≤ 25 := by
    have := wtx_len (ws := xa.map yn) (m := 3) fun z hz => by
      obtain ⟨b, _, rfl⟩ := List.mem_map.mp hz
      exact (yn_free b).2.2
    rw [List.length_map] at this
    unfold wA
    omega
  have a2 : (wL xl).length ≤ 193 := by
    have := wtx_len (ws := xl.map fun i => numS i.toNat) (m := 31) fun z hz => by
      obtain ⟨b, hb, rfl⟩ := List.mem_map.mp hz
      exact num_len (num_lt (g.ok b hb))
    rw [List.length_map] at this
    unfold wL
    omega
  have a3 : (wZ zs).length ≤ 5413 := by
    have := wtx_len (ws := zs.map ldt) (m := 901) fun z hz => by
      obtain ⟨v, hv, rfl⟩ := List.mem_map.mp hz
      have := ldt_len (g.nm v hv).2
      have := (g.nm v hv).1
      omega
    rw [List.length_map] at this
    unfold wZ
    omega
  rw [len_tl]
  unfold ctText
  rw [tl_tJoin]
  show (tl (wA xa) ++ (tl " / " ++ (tl (wL xl) ++ (tl " / " ++ tl (wZ zs))))).length ≤ 6000
  simp only [List.length_append]
  rw [len_tl] at a1 a2 a3
  have : (tl (" / " : Str)).length = 3 := by decide
  omega
def spTried9 (CC TP : Addr) : SpX := fun ds r P _ => ∃ d, ds = [d] ∧ ((∃ (t : Str) (pre : Rs) (cs : List Addr) (post : Rs), d = .str t ∧ r = pre ++ tabA TP "Contents.read.<locals>.<lambda>" cs :: post ∧ t.length ≤ 300000 ∧ asc t ∧
    ∀ cs', (∀ xa xl zs, und t = some (xa, xl, zs) → RowsOk xa xl zs → P (ctD CC (trA xa) (trL xl) (trZ zs)) (pre ++ tabA TP "Contents.read.<locals>.<lambda>" cs' :: post)) ∧ (und t = none → P (.int 0) (pre ++ tabA TP "Contents.read.<locals>.<lambda>" cs' :: post))) ∨
  (plain d = true ∧ isTy "str" d = false ∧ P (.int (-1)) r))
abbrev N__law_tried : List Str := ["_law_text_here", "_law_caught", "e", "_law_told"]
theorem sc__law_tried : FnScope N__law_tried ["_law_text_here"] (defScope s__law_tried) := ⟨rfl, rfl, rfl, by decide +kernel, rfl, by decide +kernel, by decide +kernel⟩
theorem c__law_tried {CC CX TP : Addr} (B : Bl mg) (K_Contents : KCls K mg "Contents" CC ctF) (S_Contents_read : ClS P w K mg base 7 CC "read" (spCtRead CC CX TP)) (X_BadText : ErrX P w K mg base "BadText" CX "line") (Dx : Dfn K mg "_law_tried" s__law_tried ["_law_text_here"]) : Cl P w K mg base 8 "_law_tried" ["_law_text_here"] (spTried9 CC TP) := by
  have sc := sc__law_tried
  refine cl_of Dx sc (fun ds r P' XR ⟨_, e, _⟩ => by rw [e]; rfl) (fun f cdv A outer s H E hr tk po => ?_)
  have hu := hr.units
  have hi := u65 hr
  refine ⟨_, (ss_cons (s_set (i := 1) sc.nd d_non)
  (ss_cons (s_try tk (fun W2 pn xe tk po => (ss_one (s_set (i := 3) sc.nd (d_st S_Contents_read K_Contents tk hr (dl_cons (dv 0) dl_nil))))) (.as (i := 2) sc.nd rfl rfl ⟨rfl, by decide, .inl X_BadText.c.g⟩ (hcc (X_BadText.exm X_BadText.se) hc0) (fun a oe cls d pn hz hf => (ss_cons (s_set (i := 1) sc.nd (d_xf (fm_cons ⟨X_BadText.xf, X_BadText.no⟩ fm_nil) hz hf (dv 2)))
  (ss_one (s_set (i := 3) sc.nd d_non)))) .nil))
  (ss_one (s_ret (d_if (b_cmp p_is (dv 3) d_non) (dv 1) (dv 3)))))), fun ds r P' XR h => ?_⟩
  obtain ⟨d, rfl, h⟩ := h
  rcases h with ⟨t, pre, cs, post, rfl, rfl, hl, ha, h⟩ | ⟨hp, hs, h⟩
  · obtain ⟨u1, u2⟩ := ctRd_und t
    refine .inl ⟨t, pre, cs, post, rfl, rfl, hl, ha, fun cs' => ⟨fun a b c e => ?_, fun e => ?_⟩⟩
    · cases hu2 : und t with
      | none => rw [u2 hu2] at e; cases e
      | some q =>
        obtain ⟨xa, xl, zs⟩ := q
        obtain ⟨e1, ok⟩ := u1 _ _ _ hu2
        rw [e1] at e
        cases e
        have eZ : (seqD (.lst (zs.map fun v => D.lst (v.map .str)))).map seqD = trZ zs := by
          show (zs.map fun v => D.lst (v.map .str)).map seqD = trZ zs
          rw [List.map_map]
          rfl
        rw [eZ]
        exact brF (fit.of ((h cs').1 _ _ _ hu2 ok))
    · have hn : und t = none := by
        cases hu2 : und t with
        | none => rfl
        | some q =>
          rw [(u1 q.1 q.2.1 q.2.2 hu2).1] at e
          cases e
      refine ⟨true, List.mem_singleton.mpr rfl, fun _ ea dx hd => ?_, fun z => by cases z⟩
      cases dx with
      | none => cases (hd rfl).1
      | some dx => exact ⟨rfl, CX, dx, ["line"], [.int 0], 0, _, _, [], List.mem_singleton.mpr rfl, rfl, rfl, rfl, rfl, rfl, ⟨_, le.drop, brT (fit.of ((h cs').2 hn))⟩⟩
  · refine .inr ⟨d, rfl, hp, hs, ?_⟩
    refine ⟨true, List.mem_singleton.mpr rfl, fun _ ea dx hd => ?_, fun z => by cases z⟩
    cases dx with
    | none => cases (hd rfl).1
    | some dx => exact ⟨rfl, CX, dx, ["line"], [.int (-1)], 0, _, _, [], List.mem_singleton.mpr rfl, rfl, rfl, rfl, rfl, rfl, ⟨_, le.drop, brT (fit.of h)⟩⟩
theorem str_inj : ∀ {a b : List Str}, a.map D.str = b.map D.str → a = b
  | [], [], _ => rfl
  | x :: a, y :: b, h => by
    rw [List.map_cons, List.map_cons] at h
    injection h with h1 h2
    injection h1 with h1
    rw [h1, str_inj h2]
theorem wds_wtx {ws : List Str} (h : ∀ z ∈ ws, 32 ∉ tl z ∧ z ≠ "-") : wds (wtx ws) = ws := by
  have e := rdW_wtx (g := D.str) h
  rw [rdW_wds] at e
  injection e with e
  exact str_inj e
theorem ldv_ldt {v : List Str} (h : ∀ z ∈ v, isNm z = true) : ldv (ldt v) = v := by
  have e := rdLoad_ldt h
  have e1 : rdLoad (ldt v) = .lst ((ldv (ldt v)).map .str) := by
    unfold rdLoad ldv
    split <;> rfl
  rw [e1] at e
  injection e with e
  exact str_inj e
theorem mapM_rep {α β : Type} {f : α → Option β} {x : α} {y : β} (h : f x = some y) : ∀ n, (List.replicate n x).mapM f = some (List.replicate n y)
  | 0 => by rw [List.replicate_zero, List.mapM_nil]; rfl
  | n + 1 => by rw [List.replicate_succ, List.mapM_cons, h, mapM_rep h n]; rfl
def yesN (n : Nat) : Str := wtx (List.replicate n "yes")
theorem yes_free (n : Nat) : ∀ c ∈ tl (yesN n), c < 128 ∧ c ≠ 47 := fun c hc => by
  rcases wtx_mem hc with k | k | ⟨z, hz, k⟩
  · omega
  · omega
  · rw [List.eq_of_mem_replicate hz] at k
    have := (yn_free true).1 c k
    omega
theorem yes_wds (n : Nat) : wds (yesN n) = List.replicate n ("yes" : Str) := wds_wtx fun z hz => by
  rw [List.eq_of_mem_replicate hz]
  exact ⟨by decide, by decide⟩
theorem yes_row {n : Nat} (h : n ≤ 1000) : rowOf memA (yesN n) = some (List.replicate n true) := by
  unfold rowOf
  rw [yes_wds, List.length_replicate, if_pos h]
  exact mapM_rep (by unfold memA; rw [if_pos rfl]) n
theorem yes_row_no {n : Nat} (h : 1000 < n) : rowOf memA (yesN n) = none := by
  unfold rowOf
  rw [yes_wds, List.length_replicate, if_neg (by omega)]
theorem wds_dash : wds "-" = [] := if_pos rfl
theorem row_dash {α : Type} (m : Str → Option α) : rowOf m "-" = some [] := by
  unfold rowOf
  rw [wds_dash]
  rfl
theorem rep_nm {nm : Str} (h : isNm nm = true) (n : Nat) : ∀ z ∈ List.replicate n nm, isNm z = true := fun z hz => by rw [List.eq_of_mem_replicate hz]; exact h
theorem load_wds {nm : Str} (h : isNm nm = true) (n : Nat) : wds (ldt (List.replicate n nm)) = [ldt (List.replicate n nm)] := by
  have hf := ldt_free (rep_nm h n)
  have e := wds_wtx (ws := [ldt (List.replicate n nm)]) fun z hz => by
    rw [List.mem_singleton.mp hz]
    exact ⟨fun k => by have := hf.1 32 k; omega, hf.2⟩
  have e1 : wtx [ldt (List.replicate n nm)] = ldt (List.replicate n nm) := by
    refine TL.ext_tl ?_
    show tl (wtx [ldt (List.replicate n nm)]) = _
    unfold wtx
    rw [if_neg (by simp), tl_tJoin]
    rfl
  rw [e1] at e
  exact e
theorem load_row {nm : Str} (h : isNm nm = true) {n : Nat} (hn : n ≤ 100) : rowOf memZ (ldt (List.replicate n nm)) = some [List.replicate n nm] := by
  unfold rowOf
  rw [load_wds h, if_pos (show [ldt (List.replicate n nm)].length ≤ 1000 from Nat.le_of_ble_eq_true rfl), List.mapM_cons, List.mapM_nil]
  have e : memZ (ldt (List.replicate n nm)) = some (List.replicate n nm) := by
    unfold memZ
    rw [ldv_ldt (rep_nm h n), List.length_replicate, decide_eq_true hn, Bool.true_and, if_pos (List.all_eq_true.mpr (rep_nm h n))]
  rw [e]
  rfl
theorem load_row_no {nm : Str} (h : isNm nm = true) {n : Nat} (hn : 100 < n) : rowOf memZ (ldt (List.replicate n nm)) = none := by
  unfold rowOf
  rw [load_wds h, if_pos (show [ldt (List.replicate n nm)].length ≤ 1000 from Nat.le_of_ble_eq_true rfl), List.mapM_cons]
  have e : memZ (ldt (List.replicate n nm)) = none := by
    unfold memZ
    rw [ldv_ldt (rep_nm h n), List.length_replicate, decide_eq_false (by omega), Bool.false_and, if_neg (by decide)]
  rw [e]
  rfl
theorem load_47 {nm : Str} (h : isNm nm = true) (n : Nat) : ∀ c ∈ tl (ldt (List.replicate n nm)), c < 128 ∧ c ≠ 47 := fun c hc => by
  have := (ldt_free (rep_nm h n)).1 c hc
  omega
theorem dash_47 : ∀ c ∈ tl ("-" : Str), c < 128 ∧ c ≠ 47 := by decide
theorem und_tJoin {a b c : Str} (ha : ∀ x ∈ tl a, x < 128 ∧ x ≠ 47) (hb : ∀ x ∈ tl b, x < 128 ∧ x ≠ 47) (hc : ∀ x ∈ tl c, x < 128 ∧ x ≠ 47) : und (tJoin " / " [a, b, c]) = und3 a b c := und_3 (split_three (fun k => (ha 47 k).2 rfl) (fun k => (hb 47 k).2 rfl) (fun k => (hc 47 k).2 rfl))
theorem asc_tJoin {a b c : Str} (ha : ∀ x ∈ tl a, x < 128 ∧ x ≠ 47) (hb : ∀ x ∈ tl b, x < 128 ∧ x ≠ 47) (hc : ∀ x ∈ tl c, x < 128 ∧ x ≠ 47) : asc (tJoin " / " [a, b, c]) := fun x hx => by
  rcases tJoin_mem hx with k | ⟨z, hz, k⟩
  · have : x ∈ [32, 47, 32] := k
    simp at this
    omega
  · simp only [List.mem_cons, List.not_mem_nil, or_false] at hz
    rcases hz with rfl | rfl | rfl
    · exact (ha x k).1
    · exact (hb x k).1
    · exact (hc x k).1
theorem joinL_snoc (S x : List Nat) : ∀ (l : List (List Nat)), l ≠ [] → TL.joinL S (l ++ [x]) = TL.joinL S l ++ (S ++ x)
  | [], h => absurd rfl h
  | [p], _ => rfl
  | p :: q :: l, _ => by
    have ih := joinL_snoc S x (q :: l) (by simp)
    show p ++ (S ++ TL.joinL S (q :: l ++ [x])) = p ++ (S ++ TL.joinL S (q :: l)) ++ (S ++ x)
    rw [ih]
    simp
theorem tJoin_snoc (S x : Str) (l : List Str) (h : l ≠ []) : tl (tJoin S (l ++ [x])) = tl (tJoin S l) ++ (tl S ++ tl x) := by
  rw [tl_tJoin, tl_tJoin, List.map_append]
  exact joinL_snoc _ _ _ (by simpa using h)
theorem rep_snoc {α : Type} (n : Nat) (x : α) : List.replicate n x ++ [x] = List.replicate (n + 1) x := by
  rw [show [x] = List.replicate 1 x from rfl, List.replicate_append_replicate]
theorem tl3 (a b c : Str) : tl (tJoin " / " [a, b, c]) = tl a ++ (tl " / " ++ (tl b ++ (tl " / " ++ tl c))) := by rw [tl_tJoin]; rfl
theorem yesN_eq (n : Nat) : yesN (n + 1) = tJoin " " (List.replicate (n + 1) ("yes" : Str)) := by
  show wtx _ = _
  exact if_neg (by simp)
theorem ldt_eq (n : Nat) (nm : Str) : ldt (List.replicate (n + 1) nm) = tJoin "+" (List.replicate (n + 1) nm) := if_neg (by simp)
theorem text1 (A L : Str) : A ++ " / - / " ++ L = tJoin " / " [A, "-", L] := by
  refine TL.ext_tl ?_
  rw [TL.tl_append, TL.tl_append]
  refine Eq.trans ?_ (tl3 _ _ _).symm
  rw [List.append_assoc]
  congr 1
theorem text2 (n : Nat) : tJoin " " (List.replicate (n + 1) ("yes" : Str)) ++ " yes / - / -" = tJoin " / " [yesN (n + 2), "-", "-"] := by
  refine TL.ext_tl ?_
  rw [TL.tl_append]
  refine Eq.trans ?_ (tl3 _ _ _).symm
  rw [yesN_eq, ← rep_snoc (n + 1), tJoin_snoc _ _ _ (by simp), List.append_assoc]
  congr 1
theorem text3 (n : Nat) (nm : Str) : "- / - / " ++ tJoin "+" (List.replicate (n + 1) nm) ++ "+" ++ nm = tJoin " / " ["-", "-", ldt (List.replicate (n + 2) nm)] := by
  refine TL.ext_tl ?_
  rw [TL.tl_append, TL.tl_append, TL.tl_append]
  refine Eq.trans ?_ (tl3 _ _ _).symm
  rw [ldt_eq, ← rep_snoc (n + 1), tJoin_snoc _ _ _ (by simp)]
  simp only [← List.append_assoc]
  congr 1
def spBnd (TP : Addr) : SpX := fun ds r P _ => ∃ (p a : Addr) (n : Nat) (cs : List Addr), ds = [.adr p] ∧ r = [poolA p a n, tabA TP "Contents.read.<locals>.<lambda>" cs] ∧ n ≤ 800000 ∧ ∀ r', P (.bl true) r'
abbrev N__law_bounds : List Str := ["_law_pool_here", "_law_name", "_law_yes", "_law_load", "_law_told"]
theorem sc__law_bounds : FnScope N__law_bounds ["_law_pool_here"] (defScope s__law_bounds) := ⟨rfl, rfl, rfl, by decide +kernel, rfl, by decide +kernel, by decide +kernel⟩
theorem c__law_bounds {CC TP : Addr} (B : Bl mg) (K_Contents : KCls K mg "Contents" CC ctF) (C__law_names : Cl P w K mg base 2 "_law_names" ["_law_pool_here", "_law_many"] spNames) (C__law_has : Cl P w K mg base 7 "_law_has" ["_law_contents", "_law_triple_here"] (spHas CC)) (C__law_same : Cl P w K mg base 6 "_law_same" ["_law_actual", "_law_due"] (spSame 6)) (C__law_tried : Cl P w K mg base 8 "_law_tried" ["_law_text_here"] (spTried9 CC TP)) (Dx : Dfn K mg "_law_bounds" s__law_bounds ["_law_pool_here"]) : Cl P w K mg base 9 "_law_bounds" ["_law_pool_here"] (spBnd TP) := by
  have sc := sc__law_bounds
  refine cl_of Dx sc (fun ds r P' XR ⟨_, _, _, _, e, _⟩ => by rw [e]; rfl) (fun f cdv A outer s H E hr tk po => ?_)
  have hu := hr.units
  have hi := u65 hr
  refine ⟨_, (ss_cons (s_set (i := 1) sc.nd (d_ix (d_fn C__law_names tk hr (dl_cons (dv 0) (dl_cons d_int dl_nil))) d_int))
  (ss_cons (s_set (i := 2) sc.nd (d_join d_str (d_bin p_rep (d_lst (dl_cons d_str dl_nil)) d_int)))
  (ss_cons (s_set (i := 3) sc.nd (d_join d_str (d_bin p_rep (d_lst (dl_cons (dv 1) dl_nil)) d_int)))
  (ss_cons (s_if (b_not (b_tru (d_fn C__law_has tk hr (dl_cons (d_fn C__law_tried tk hr (dl_cons (d_bin p_add (d_bin p_add (dv 2) d_str) (dv 3)) dl_nil)) (dl_cons (d_lst (dl_cons (d_bin p_rep (d_lst (dl_cons d_bl dl_nil)) d_int) (dl_cons (d_lst dl_nil) (dl_cons (d_lst (dl_cons (d_ty c_tuple (by rfl) B.tuple (dl_cons (d_bin p_rep (d_lst (dl_cons (dv 1) dl_nil)) d_int) dl_nil)) dl_nil)) dl_nil)))) dl_nil)))))
  (ss_one (s_ret d_bl))
  ss_nil)
  (ss_cons (s_set (i := 4) sc.nd (d_lst (dl_cons (d_fn C__law_tried tk hr (dl_cons (d_bin p_add (dv 2) d_str) dl_nil)) (dl_cons (d_fn C__law_tried tk hr (dl_cons (d_bin p_add (d_bin p_add (d_bin p_add d_str (dv 3)) d_str) (dv 1)) dl_nil)) dl_nil))))
  (ss_one (s_ret (d_fn C__law_same tk hr (dl_cons (dv 4) (dl_cons (d_lst (dl_cons d_int (dl_cons d_int dl_nil))) dl_nil)))))))))), fun ds r P' XR h => ?_⟩
  obtain ⟨p, a, n, cs, rfl, rfl, hn, h⟩ := h
  refine ⟨p, a, n, _, 1, rfl, rfl, by omega, by decide, fun nz hl hnd hnm => ?_⟩
  obtain ⟨nm, rfl⟩ : ∃ nm, nz = [nm] := by
    match nz, hl with
    | [nm], _ => exact ⟨nm, rfl⟩
  have hn1 := hnm nm (by simp)
  refine ix_l at0 ?_
  obtain ⟨N1, hN1⟩ : ∃ N : Nat, N + 1 = 1000 := ⟨999, rfl⟩
  obtain ⟨N2, hN2⟩ : ∃ N : Nat, N + 1 = 100 := ⟨99, rfl⟩
  refine ⟨Nat.le_of_ble_eq_true rfl, [.str "yes"], N1 + 1, rfl, by rw [hN1]; rfl, by omega, by unfold small; rw [hN1]; exact Nat.le_of_ble_eq_true rfl, ?_⟩
  rw [List.flatten_replicate_singleton, ← List.map_replicate (f := D.str)]
  have ly : (("yes" : Str)).length = 3 := by decide
  have l8 := isNm_len hn1
  have l1 : ((" " : Str)).length = 1 := by decide
  have l2 : (("+" : Str)).length = 1 := by decide
  have s1 : ((List.replicate (N1 + 1) ("yes" : Str)).map (·.length)).sum + (List.replicate (N1 + 1) ("yes" : Str)).length * (" " : Str).length ≤ 1000000 := by
    rw [List.map_replicate, List.sum_replicate_nat, List.length_replicate, ly, l1]
    omega
  refine oJoin_l s1 ?_
  refine ⟨Nat.le_of_ble_eq_true rfl, [.str nm], N2 + 1, rfl, by rw [hN2]; rfl, by omega, by unfold small; rw [hN2]; exact Nat.le_of_ble_eq_true rfl, ?_⟩
  rw [List.flatten_replicate_singleton, ← List.map_replicate (f := D.str)]
  have s2 : ((List.replicate (N2 + 1) nm).map (·.length)).sum + (List.replicate (N2 + 1) nm).length * ("+" : Str).length ≤ 1000000 := by
    rw [List.map_replicate, List.sum_replicate_nat, List.length_replicate, l2]
    have : (N2 + 1) * nm.length ≤ 100 * 8 := Nat.mul_le_mul (by omega) l8
    omega
  refine oJoin_l s2 ?_
  have U1 : und (tJoin " " (List.replicate (N1 + 1) ("yes" : Str)) ++ " / - / " ++ tJoin "+" (List.replicate (N2 + 1) nm)) = some (List.replicate (N1 + 1) true, [], [List.replicate (N2 + 1) nm]) := by
    rw [text1, ← yesN_eq, ← ldt_eq, und_tJoin (yes_free _) dash_47 (load_47 hn1 _)]
    unfold und3
    rw [yes_row (by omega), row_dash, load_row hn1 (by omega)]
  have U2 : und (tJoin " " (List.replicate (N1 + 1) ("yes" : Str)) ++ " yes / - / -") = none := by
    rw [text2, und_tJoin (yes_free _) dash_47 dash_47]
    unfold und3
    rw [yes_row_no (by omega)]
  have U3 : und ("- / - / " ++ tJoin "+" (List.replicate (N2 + 1) nm) ++ "+" ++ nm) = none := by
    rw [text3, und_tJoin dash_47 dash_47 (load_47 hn1 _)]
    unfold und3
    rw [row_dash, row_dash, load_row_no hn1 (by omega)]
  have A1 : asc (tJoin " " (List.replicate (N1 + 1) ("yes" : Str)) ++ " / - / " ++ tJoin "+" (List.replicate (N2 + 1) nm)) := by
    rw [text1, ← yesN_eq, ← ldt_eq]
    exact asc_tJoin (yes_free _) dash_47 (load_47 hn1 _)
  have A2 : asc (tJoin " " (List.replicate (N1 + 1) ("yes" : Str)) ++ " yes / - / -") := by
    rw [text2]
    exact asc_tJoin (yes_free _) dash_47 dash_47
  have A3 : asc ("- / - / " ++ tJoin "+" (List.replicate (N2 + 1) nm) ++ "+" ++ nm) := by
    rw [text3]
    exact asc_tJoin dash_47 dash_47 (load_47 hn1 _)
  have lA : (tJoin " " (List.replicate (N1 + 1) ("yes" : Str))).length ≤ 4000 := by
    have := tJoin_len (s := " ") (ws := List.replicate (N1 + 1) ("yes" : Str)) (m := 3) fun z hz => by
      rw [List.eq_of_mem_replicate hz]
      decide
    rw [List.length_replicate, l1] at this
    omega
  have lL : (tJoin "+" (List.replicate (N2 + 1) nm)).length ≤ 900 := by
    have := tJoin_len (s := "+") (ws := List.replicate (N2 + 1) nm) (m := 8) fun z hz => by
      rw [List.eq_of_mem_replicate hz]
      exact l8
    rw [List.length_replicate, l2] at this
    omega
  revert U1 U2 U3 A1 A2 A3 lA lL
  generalize tJoin " " (List.replicate (N1 + 1) ("yes" : Str)) = TA
  generalize tJoin "+" (List.replicate (N2 + 1) nm) = TL
  intro U1 U2 U3 A1 A2 A3 lA lL
  have e3 : (" / - / " : Str).length = 7 := by decide
  have e4 : (" yes / - / -" : Str).length = 12 := by decide
  have e5 : ("- / - / " : Str).length = 8 := by decide
  refine ⟨by show TA.length + (" / - / " : Str).length ≤ 1000000; omega, by show (TA ++ " / - / ").length + TL.length ≤ 1000000; rw [len_app]; omega, ?_⟩
  refine ⟨_, rfl, .inl ⟨_, [poolA p a (n + 2 + 8 * 1)], cs, [], rfl, rfl, by rw [len_app, len_app]; omega, A1, fun cs' => ⟨fun xa xl zs e ok => ?_, fun e => by rw [U1] at e; cases e⟩⟩⟩
  rw [U1] at e
  cases e
  refine ⟨Nat.le_of_ble_eq_true rfl, [.bl true], N1 + 1, rfl, by rw [hN1]; rfl, by omega, by unfold small; rw [hN1]; exact Nat.le_of_ble_eq_true rfl, ?_⟩
  rw [List.flatten_replicate_singleton]
  refine ⟨Nat.zero_le _, ?_⟩
  refine ⟨Nat.le_of_ble_eq_true rfl, [.str nm], N2 + 1, rfl, by rw [hN2]; rfl, by omega, by unfold small; rw [hN2]; exact Nat.le_of_ble_eq_true rfl, ?_⟩
  rw [List.flatten_replicate_singleton]
  refine ⟨Nat.le_of_ble_eq_true rfl, Nat.le_of_ble_eq_true rfl, ?_⟩
  refine ⟨List.replicate (N1 + 1) true, [], [List.replicate (N2 + 1) nm], ?_, by rw [List.length_replicate]; omega, Nat.zero_le _, Nat.le_of_ble_eq_true rfl, fun v hv => by rw [List.mem_singleton.mp hv, List.length_replicate]; omega, ?_⟩
  · simp [trD, trA, trL, trZ, List.map_replicate]
  refine brF ?_
  refine ⟨by show TA.length + (" yes / - / -" : Str).length ≤ 1000000; omega, ?_⟩
  refine ⟨_, rfl, .inl ⟨_, [poolA p a (n + 2 + 8 * 1)], cs', [], rfl, rfl, by rw [len_app]; omega, A2, fun c2 => ⟨fun xa xl zs e ok => (by rw [U2] at e; cases e), fun _ => ?_⟩⟩⟩
  refine ⟨by show ("- / - / " : Str).length + TL.length ≤ 1000000; omega, by show ("- / - / " ++ TL : Str).length + ("+" : Str).length ≤ 1000000; rw [len_app]; omega, by show ("- / - / " ++ TL ++ "+" : Str).length + nm.length ≤ 1000000; rw [len_app, len_app]; omega, ?_⟩
  refine ⟨_, rfl, .inl ⟨_, [poolA p a (n + 2 + 8 * 1)], c2, [], rfl, rfl, by rw [len_app, len_app, len_app]; omega, A3, fun c3 => ⟨fun xa xl zs e ok => (by rw [U3] at e; cases e), fun _ => ?_⟩⟩⟩
  refine ⟨Nat.le_of_ble_eq_true rfl, Nat.le_of_ble_eq_true rfl, ?_⟩
  have hs := same_refl (.lst [.int 0, .int 0]) (by rfl)
  refine ⟨.lst [.int 0, .int 0], .lst [.int 0, .int 0], rfl, rfl, rfl, by decide, by decide, ?_⟩
  rw [hs]
  exact fit.of (h _)
theorem words_ok {xa : List Bool} {xl : List Int} {zs : List (List Str)} (g : GoodT xa xl zs) : (∀ z ∈ xa.map yn, z.length ≤ 901) ∧ (∀ z ∈ xl.map fun i => numS i.toNat, z.length ≤ 901) ∧ ∀ z ∈ zs.map ldt, z.length ≤ 901 := by
  refine ⟨fun z hz => ?_, fun z hz => ?_, fun z hz => ?_⟩
  · obtain ⟨b, _, rfl⟩ := List.mem_map.mp hz
    have := (yn_free b).2.2
    omega
  · obtain ⟨b, hb, rfl⟩ := List.mem_map.mp hz
    have := num_len (num_lt (g.ok b hb))
    omega
  · obtain ⟨v, hv, rfl⟩ := List.mem_map.mp hz
    have := ldt_len (g.nm v hv).2
    have := (g.nm v hv).1
    omega
def ldF (d : D) : D := match d with | .tup v => .str (ldt (v.filterMap fun d => match d with | .str z => some z | _ => none)) | _ => .non
theorem ldF_eq (v : List Str) : ldF (.tup (v.map .str)) = .str (ldt v) := by
  have e : (v.map D.str).filterMap (fun d => match d with | .str z => some z | _ => none) = v := by
    induction v with
    | nil => rfl
    | cons z v ih => rw [List.map_cons, List.filterMap_cons]; dsimp only; rw [ih]
  show D.str (ldt _) = _
  rw [e]
def ynF (d : D) : D := match d with | .bl b => .str (yn b) | _ => .non
def nmF (d : D) : D := match d with | .int i => .str (numS i.toNat) | _ => .non
def txW (d : D) : D := match d with | .lst v => .str (wtx (v.filterMap fun d => match d with | .str z => some z | _ => none)) | _ => .non
theorem txW_eq (v : List Str) : txW (.lst (v.map .str)) = .str (wtx v) := by
  have e : (v.map D.str).filterMap (fun d => match d with | .str z => some z | _ => none) = v := by
    induction v with
    | nil => rfl
    | cons z v ih => rw [List.map_cons, List.filterMap_cons]; dsimp only; rw [ih]
  show D.str (wtx _) = _
  rw [e]
theorem ynF_map (xa : List Bool) : (trA xa).map ynF = (xa.map yn).map .str := by unfold trA; rw [List.map_map, List.map_map]; rfl
theorem nmF_map (xl : List Int) : (trL xl).map nmF = (xl.map fun i => numS i.toNat).map .str := by unfold trL; rw [List.map_map, List.map_map]; rfl
def spLTxt : SpX := fun ds r P _ => ∃ (xa : List Bool) (xl : List Int) (zs : List (List Str)), ds = [trD xa xl zs] ∧ GoodT xa xl zs ∧ P (.str (ctText xa xl zs)) r
abbrev N__law_text : List Str := ["_law_triple_here", "_law_words", "_law_answer", "_law_length", "_law_load", "_law_row"]
theorem sc__law_text : FnScope N__law_text ["_law_triple_here"] (defScope s__law_text) := ⟨rfl, rfl, rfl, by decide +kernel, rfl, by decide +kernel, by decide +kernel⟩
theorem c__law_text (B : Bl mg) (Dx : Dfn K mg "_law_text" s__law_text ["_law_triple_here"]) : Cl P w K mg base 1 "_law_text" ["_law_triple_here"] spLTxt := by
  have sc := sc__law_text
  refine cl_of Dx sc (fun ds r P' XR ⟨_, _, _, e, _⟩ => by rw [e]; rfl) (fun f cdv A outer s H E hr tk po => ?_)
  have hu := hr.units
  have hi := u65 hr
  refine ⟨_, (ss_cons (s_set (i := 1) sc.nd (d_lstO (dl_cons (d_lc (js := [2]) (own := [("_law_answer", 2)]) sc.nd (i_list (d_ix (dv 0) d_int)) (blkOk_by (own := [("_law_answer", 2)]) (N := N__law_text) (sc := defScope s__law_text) (by decide +kernel)) (fun _ _ _ _ _ => (g_name (i := 2) sc.nd)) (fun _ _ _ _ _ => pts_no) (fun _ _ _ _ _ => (d_if (b_tru (dv 2)) d_str d_str))) (dl_cons (d_lc (js := [3]) (own := [("_law_length", 3)]) sc.nd (i_list (d_ix (dv 0) d_int)) (blkOk_by (own := [("_law_length", 3)]) (N := N__law_text) (sc := defScope s__law_text) (by decide +kernel)) (fun _ _ _ _ _ => (g_name (i := 3) sc.nd)) (fun _ _ _ _ _ => pts_no) (fun _ _ _ _ _ => (d_ty c_strN (by rfl) B.str (dl_cons (dv 3) dl_nil)))) dl_nil))))
  (ss_cons (s_expr (d_app (dv 1) (dl_cons (d_lc (js := [4]) (own := [("_law_load", 4)]) sc.nd (i_list (d_ix (dv 0) d_int)) (blkOk_by (own := [("_law_load", 4)]) (N := N__law_text) (sc := defScope s__law_text) (by decide +kernel)) (fun _ _ _ _ _ => (g_name (i := 4) sc.nd)) (fun _ _ _ _ _ => pts_no) (fun _ _ _ _ _ => (d_if (b_tru (dv 4)) (d_join d_str (d_ty c_list (by rfl) B.list (dl_cons (dv 4) dl_nil))) d_str))) dl_nil)))
  (ss_one (s_melt 1 (s_ret (d_join d_str (d_lc (js := [5]) (own := [("_law_row", 5)]) sc.nd (i_list (dv 1)) (blkOk_by (own := [("_law_row", 5)]) (N := N__law_text) (sc := defScope s__law_text) (by decide +kernel)) (fun _ _ _ _ _ => (g_name (i := 5) sc.nd)) (fun _ _ _ _ _ => pts_no) (fun _ _ _ _ _ => (d_if (b_tru (dv 5)) (d_join d_str (dv 5)) d_str))))))))), fun ds r P' XR h => ?_⟩
  obtain ⟨xa, xl, zs, rfl, g, h⟩ := h
  obtain ⟨k1, k2, k3⟩ := words_ok g
  have l1 := g.la
  have l2 := g.ll
  have l3 := g.lz
  have bA : ∀ i ∈ xl, ∃ n : Nat, i = n ∧ n < 10 ^ 31 := fun i hi => ⟨i.toNat, by have := (g.ok i hi).1; omega, num_lt (g.ok i hi)⟩
  refine ix_l at0 (lc_map ynF (by unfold small trA; rw [List.length_map]; omega) (fun d hd r' P2 hP => ?_) ?_)
  · obtain ⟨b, _, rfl⟩ := List.mem_map.mp hd
    cases b
    · exact brF hP
    · exact brT hP
  refine ix_l at1 (lc_map nmF (by unfold small trL; rw [List.length_map]; omega) (fun d hd r' P2 hP => ?_) ?_)
  · obtain ⟨i, hi, rfl⟩ := List.mem_map.mp hd
    obtain ⟨n, rfl, hn⟩ := bA i hi
    exact ⟨n, rfl, Nat.lt_trans hn (by decide), hP⟩
  refine ⟨Nat.le_of_ble_eq_true rfl, fun pw => ⟨pw, _, rfl, ⟨r, [], rfl⟩, ?_⟩⟩
  refine ix_l at2 (lc_map ldF (by unfold small trZ; rw [List.length_map, List.length_map]; omega) (fun d hd r' P2 hP => ?_) ?_)
  · obtain ⟨w, hw, rfl⟩ := List.mem_map.mp hd
    obtain ⟨v, hv, rfl⟩ := List.mem_map.mp hw
    rw [ldF_eq] at hP
    unfold ldt at hP
    by_cases h0 : v = []
    · subst h0
      exact brF hP
    · rw [if_neg h0] at hP
      refine brt (by cases v <;> first | exact absurd rfl h0 | rfl) (join_l (strL_map v) ?_ hP)
      have := sum_le_len (l := v.map (·.length)) (m := 8) fun x hx => by
        obtain ⟨z, hz, rfl⟩ := List.mem_map.mp hx
        exact isNm_len ((g.nm v hv).2 z hz)
      rw [List.length_map] at this
      have l4 := (g.nm v hv).1
      have : (("+" : Str)).length = 1 := by decide
      rw [this]
      omega
  have e3 : ((trZ zs).map D.tup).map ldF = (zs.map ldt).map .str := by
    unfold trZ
    rw [List.map_map, List.map_map, List.map_map]
    exact List.map_congr_left fun v _ => ldF_eq v
  rw [e3]
  rw [ynF_map, nmF_map]
  refine ⟨r, _, [], _, rfl, rfl, Nat.le_of_ble_eq_true rfl, ?_⟩
  refine ⟨pw, _, r, [], rfl, rfl, ?_⟩
  have sum9 : ∀ (ws : List Str), ws.length ≤ 60 → (∀ z ∈ ws, z.length ≤ 901) → (ws.map (·.length)).sum + ws.length * (" " : Str).length ≤ 1000000 := fun ws hl hz => by
    have := sum_le_len (l := ws.map (·.length)) (m := 901) fun x hx => by
      obtain ⟨z, hz2, rfl⟩ := List.mem_map.mp hx
      exact hz z hz2
    rw [List.length_map] at this
    have : (" " : Str).length = 1 := by decide
    rw [this]
    omega
  refine lc_map txW (Nat.le_of_ble_eq_true rfl) (fun d hd r' P2 hP => ?_) ?_
  · have : ∃ ws : List Str, d = .lst (ws.map .str) ∧ ws.length ≤ 60 ∧ ∀ z ∈ ws, z.length ≤ 901 := by
      simp only [List.cons_append, List.nil_append, List.mem_cons, List.not_mem_nil, or_false] at hd
      rcases hd with rfl | rfl | rfl
      · exact ⟨_, rfl, by rw [List.length_map]; omega, k1⟩
      · exact ⟨_, rfl, by rw [List.length_map]; omega, k2⟩
      · exact ⟨_, rfl, by rw [List.length_map]; omega, k3⟩
    obtain ⟨ws, rfl, hl, hz⟩ := this
    rw [txW_eq] at hP
    unfold wtx at hP
    by_cases h0 : ws = []
    · subst h0
      exact brF hP
    · rw [if_neg h0] at hP
      exact brt (by cases ws <;> first | exact absurd rfl h0 | rfl) (join_l (strL_map ws) (sum9 ws hl hz) hP)
  · have e5 : ([D.lst ((xa.map yn).map .str), .lst ((xl.map fun i => numS i.toNat).map .str)] ++ [D.lst ((zs.map ldt).map .str)]).map txW = [wA xa, wL xl, wZ zs].map .str := by
      show [txW _, txW _, txW _] = _
      rw [txW_eq, txW_eq, txW_eq]
      rfl
    rw [e5, List.append_nil]
    obtain ⟨w1, w2, w3⟩ := w_len g
    refine join_l (strL_map _) ?_ (fit.of h)
    have : (" / " : Str).length = 3 := by decide
    rw [this]
    show (wA xa).length + ((wL xl).length + ((wZ zs).length + 0)) + 3 * 3 ≤ 1000000
    omega
theorem GoodT.of {xa : List Bool} {xl : List Int} {zs : List (List Str)} (t : Trip 7 xa xl zs) : GoodT xa xl zs := ⟨by have := t.la; omega, by have := t.ll; omega, by have := t.lz; omega, t.ok, fun v hv => ⟨by have := (t.nm v hv).1; omega, (t.nm v hv).2⟩⟩
def Six (xa : List Bool) (xl : List Int) (zs : List (List Str)) : Prop := GoodT xa xl zs ∧ xa.length ≤ 6 ∧ xl.length ≤ 6 ∧ zs.length ≤ 6
theorem odd_all (t : Str) : ∀ d ∈ [D.non, .int 0, .int (-1), .bl true, .lst [], .tup [.str "- / - / -"], .lst [.str t]], plain d = true ∧ isTy "str" d = false := by
  intro d hd
  simp only [List.mem_cons, List.not_mem_nil, or_false] at hd
  rcases hd with rfl | rfl | rfl | rfl | rfl | rfl | rfl
  · exact ⟨rfl, rfl⟩
  · exact ⟨rfl, rfl⟩
  · exact ⟨rfl, rfl⟩
  · exact ⟨rfl, rfl⟩
  · exact ⟨rfl, rfl⟩
  · exact ⟨rfl, rfl⟩
  · exact ⟨rfl, rfl⟩
abbrev N_law : List Str := ["_law_script", "_law_pool_here", "_law_turn", "_law_triple_here", "_law_k", "_law_text_here", "_law_change", "_law_due", "_law_told", "_law_odd"]
theorem sc_law : FnScope N_law ["_law_script"] (defScope s_law) := ⟨rfl, rfl, rfl, by decide +kernel, rfl, by decide +kernel, by decide +kernel⟩
set_option maxHeartbeats 1000000 in
theorem ok_law {CC TP fl fp : Addr} {fd fdp : FuncData} (F : Fun K "law" "law" s_law fl fd) (GP : FnOk P w K mg base CX0 1 fp fdp ["_law_script"] (spPoolT K [(TP, "Contents.read.<locals>.<lambda>")])) (gP : mg "_law_pool" = some (.ref fp)) (kP : PySem.W.keepIn K (.ref fp) = true) (bP : Binds K fdp ["_law_script"] [])
    (B : Bl mg) (K_Contents : KCls K mg "Contents" CC ctF)
    (C__law_draw : Cl P w K mg base 1 "_law_draw" ["_law_pool_here", "_law_many"] spDraw) (C__law_triple : Cl P w K mg base 3 "_law_triple" ["_law_pool_here", "_law_most"] spTripleO) (C__law_has : Cl P w K mg base 7 "_law_has" ["_law_contents", "_law_triple_here"] (spHas CC))
    (C__law_text : Cl P w K mg base 1 "_law_text" ["_law_triple_here"] spLTxt) (C__law_same : Cl P w K mg base 6 "_law_same" ["_law_actual", "_law_due"] (spSame 6))
    (C__law_changed : Cl P w K mg base 2 "_law_changed" ["_law_pool_here", "_law_text_here"] spChg) (C__law_understood : Cl P w K mg base 3 "_law_understood" ["_law_text_here"] spLUnd) (C__law_tried : Cl P w K mg base 8 "_law_tried" ["_law_text_here"] (spTried9 CC TP)) (C__law_bounds : Cl P w K mg base 9 "_law_bounds" ["_law_pool_here"] (spBnd TP)) :
    FnOk P w K mg base CX0 10 fl fd ["_law_script"] (spLawT K [(TP, "Contents.read.<locals>.<lambda>")]) := by
  have sc := sc_law
  refine F.ok sc (fun vs H Q E h => ?_) (fun cdv A outer s H E vs Q hr h => ?_)
  · obtain ⟨a, ns, rfl, _⟩ := h
    rfl
  obtain ⟨a, ns, rfl, hS, hl, hT, hQ⟩ := h
  have hu := hr.units
  have hi := u65 hr
  have hc1 := Nat.lt_of_le_of_lt (Nat.le_add_right _ 65) hi
  refine ⟨_, pss_cons (ps_set (i := 1) sc.nd rfl (.inl rfl) (pe_call GP (hr.mono (by decide)) (by rfl) gP kP bP .nil pass0 (pa_cons (pv 0) pa_nil))) ((ss_cons (s_for (i_r1 (by rfl) B.range (dl_cons d_int dl_nil)) (g_name (i := 2) sc.nd)
  (ss_cons (s_set (i := 3) sc.nd (d_fn C__law_triple takes0 hr (dl_cons (dv 1) (dl_cons d_int dl_nil))))
  (ss_cons (s_for (i_r1 (by rfl) B.range (dl_cons d_int dl_nil)) (g_name (i := 4) sc.nd)
  (ss_one (s_if (b_cmp (p_eq hu) (d_fn C__law_draw takes0 hr (dl_cons (dv 1) (dl_cons d_int dl_nil))) d_int)
  (ss_one (s_setO (d_lst dl_nil) (dv 3) (dv 4)))
  ss_nil)) PassesOwn.never)
  (ss_cons (s_melt 3 (s_set (i := 5) sc.nd (d_fn C__law_text takes0 hr (dl_cons (dv 3) dl_nil))))
  (ss_cons (s_for (i_r1 (by rfl) B.range (dl_cons (d_fn C__law_draw takes0 hr (dl_cons (dv 1) (dl_cons d_int dl_nil))) dl_nil)) (g_name (i := 6) sc.nd)
  (ss_one (s_set (i := 5) sc.nd (d_fn C__law_changed takes0 hr (dl_cons (dv 1) (dl_cons (dv 5) dl_nil))))) PassesOwn.never)
  (ss_cons (s_set (i := 7) sc.nd (d_fn C__law_understood takes0 hr (dl_cons (dv 5) dl_nil)))
  (ss_cons (s_set (i := 8) sc.nd (d_fn C__law_tried takes0 hr (dl_cons (dv 5) dl_nil)))
  (ss_cons (s_if (b_w (w_and (b_cmp p_is (dv 7) d_non) (w_and1 (b_not (b_tru (d_fn C__law_same takes0 hr (dl_cons (dv 8) (dl_cons d_int dl_nil))))))))
  (ss_one (s_ret d_bl))
  ss_nil)
  (ss_cons (s_if (b_w (w_and (b_cmp p_ns (dv 7) d_non) (w_and1 (b_w (w_or (b_not (b_tru (d_isC K_Contents.isk (by rfl) B.isi (dv 8) K_Contents.g))) (w_or1 (b_not (b_tru (d_fn C__law_has takes0 hr (dl_cons (dv 8) (dl_cons (dv 7) dl_nil)))))))))))
  (ss_one (s_ret d_bl))
  ss_nil)
  (ss_cons (s_set (i := 9) sc.nd (d_ix (d_lst (dl_cons d_non (dl_cons d_int (dl_cons (d_neg d_int) (dl_cons d_bl (dl_cons (d_lst dl_nil) (dl_cons (d_tup (dl_cons d_str dl_nil)) (dl_cons (d_lst (dl_cons (d_sl (dv 5) o_no (o_some d_int)) dl_nil)) dl_nil)))))))) (d_fn C__law_draw takes0 hr (dl_cons (dv 1) (dl_cons d_int dl_nil)))))
  (ss_one (s_if (b_not (b_tru (d_fn C__law_same takes0 hr (dl_cons (d_fn C__law_tried takes0 hr (dl_cons (dv 9) dl_nil)) (dl_cons (d_neg d_int) dl_nil)))))
  (ss_one (s_ret d_bl))
  ss_nil))))))))))) PassesOwn.never)
  (ss_one (s_ret (d_fn C__law_bounds takes0 hr (dl_cons (dv 1) dl_nil))))) : PBD _ W0 _ _), ?_⟩
  refine ⟨_, rfl, a, ns, rfl, hS, hl, hT, fun p a' H' ro => law_goT ro hQ ?_⟩
  obtain ⟨q, hq⟩ : ∃ q : Str, q = "Contents.read.<locals>.<lambda>" := ⟨_, rfl⟩
  have et : tabs [(TP, ("Contents.read.<locals>.<lambda>" : Str))] = [tabA TP q []] := by rw [hq]; rfl
  rw [et]
  refine ⟨⟨by decide, by decide⟩, fun i δ r' => (∃ x2 x3 x4 x5 x6 x7 x8 x9, δ = [none, some (.adr p), x2, x3, x4, x5, x6, x7, x8, x9]) ∧ ∃ (n : Nat) (tc : List Addr), n ≤ 11000 * i ∧ r' = [poolA p a' n, tabA TP q tc], ⟨⟨_, _, _, _, _, _, _, _, rfl⟩, 0, [], by omega, rfl⟩, ?_, ?_⟩
  · rintro i d δ r' hd ⟨⟨x2, x3, x4, x5, x6, x7, x8, x9, rfl⟩, n, tc, hn, rfl⟩
    have hi2 := (List.getElem?_eq_some_iff.mp hd).1
    rw [List.length_map, List.length_range] at hi2
    replace hi2 : i < 4 := hi2
    refine ⟨p, a', n, _, 7, rfl, rfl, by omega, by decide, by decide, fun xa xl zs t pt => ?_⟩
    refine ⟨⟨by decide, by decide⟩, fun j δ r' => (∃ x4, δ = [none, some (.adr p), some d, some (.adr pt), x4, x5, x6, x7, x8, x9]) ∧ ∃ (m : Nat) (xa : List Bool) (xl : List Int) (zs : List (List Str)), m ≤ n + 10000 + j ∧ Six xa xl zs ∧ r' = poolA p a' m :: [tabA TP q tc] ++ [lstA pt [.lst (trA xa), .lst (trL xl), .lst ((trZ zs).map .tup)]], ⟨⟨_, rfl⟩, _, xa, xl, zs, by omega, ⟨.of t, by have := t.la; omega, by have := t.ll; omega, by have := t.lz; omega⟩, rfl⟩, ?_, ?_⟩
    · rintro j e δ r' he ⟨⟨x4, rfl⟩, m, xa, xl, zs, hm, ⟨g, g1, g2, g3⟩, rfl⟩
      have hj := (List.getElem?_eq_some_iff.mp he).1
      rw [List.length_map, List.length_range] at hj
      replace hj : j < 3 := hj
      refine ⟨p, a', 3, m, _, rfl, rfl, ⟨by decide, by decide⟩, by omega, fun x x0 x1 => ?_⟩
      refine ⟨Nat.zero_le _, Nat.zero_le _, ?_⟩
      by_cases h3 : x = 2
      · subst h3
        refine brT ⟨Nat.zero_le _, ?_⟩
        match j, hj, he with
        | 0, _, he =>
          cases he
          exact ⟨pt, poolA p a' (m + 1) :: [tabA TP q tc], _, [], 0, rfl, rfl, rfl, by show 0 < 3; decide, ⟨_, rfl⟩, _, [], xl, zs, by omega, ⟨⟨by decide, g.ll, g.lz, g.ok, g.nm⟩, by decide, g2, g3⟩, rfl⟩
        | 1, _, he =>
          cases he
          exact ⟨pt, poolA p a' (m + 1) :: [tabA TP q tc], _, [], 1, rfl, rfl, rfl, by show 1 < 3; decide, ⟨_, rfl⟩, _, xa, [], zs, by omega, ⟨⟨g.la, by decide, g.lz, (fun _ h => by cases h), g.nm⟩, g1, by decide, g3⟩, rfl⟩
        | 2, _, he =>
          cases he
          exact ⟨pt, poolA p a' (m + 1) :: [tabA TP q tc], _, [], 2, rfl, rfl, rfl, by show 2 < 3; decide, ⟨_, rfl⟩, _, xa, xl, [], by omega, ⟨⟨g.la, g.ll, by decide, g.ok, (fun _ h => by cases h)⟩, g1, g2, by decide⟩, rfl⟩
      · refine brf (by simp [eqD, py, PyData.eqv, h3]) ?_
        exact ⟨⟨_, rfl⟩, _, xa, xl, zs, by omega, ⟨g, g1, g2, g3⟩, rfl⟩
    rintro δ r' ⟨⟨x4, rfl⟩, m, xa, xl, zs, hm, ⟨g, g1, g2, g3⟩, rfl⟩
    replace hm : m ≤ n + 10000 + 3 := hm
    refine ⟨pt, _, poolA p a' m :: [tabA TP q tc], [], rfl, rfl, ?_⟩
    rw [List.append_nil]
    obtain ⟨ta, tl⟩ := ctText_sm g g1 g2 g3
    refine ⟨xa, xl, zs, rfl, g, ?_⟩
    generalize ctText xa xl zs = t0 at ta tl
    refine ⟨p, a', 4, m, _, rfl, rfl, ⟨by decide, by decide⟩, by omega, fun c c0 c1 => ?_⟩
    obtain ⟨c, rfl⟩ : ∃ k : Nat, c = k := ⟨c.toNat, by omega⟩
    refine ⟨⟨by omega, by omega⟩, fun j δ r' => (∃ t' x6, δ = [none, some (.adr p), some d, some (.lst [.lst (trA xa), .lst (trL xl), .lst ((trZ zs).map .tup)]), x4, some (.str t'), x6, x7, x8, x9] ∧ asc t' ∧ t'.length + 5000 ≤ 11000 * 2 ^ j) ∧ ∃ n', n' ≤ m + 1 + 10 * j ∧ r' = [poolA p a' n', tabA TP q tc], ⟨⟨t0, _, rfl, ta, by omega⟩, _, by omega, rfl⟩, ?_, ?_⟩
    · rintro j e δ r' he ⟨⟨t', x6, rfl, at', lt'⟩, n', hn', rfl⟩
      have hj := (List.getElem?_eq_some_iff.mp he).1
      rw [List.length_map, List.length_range] at hj
      replace hj : j < 3 := by omega
      have p2 : 2 ^ j ≤ 2 ^ 3 := Nat.pow_le_pow_right (by decide) (by omega)
      refine ⟨p, a', n', _, t', rfl, rfl, at', by omega, by omega, fun t2 n2 a2 l2 h2 => ?_⟩
      exact ⟨⟨t2, _, rfl, a2, by rw [Nat.pow_succ]; omega⟩, n2, by omega, rfl⟩
    rintro δ r' ⟨⟨t', x6, rfl, at', lt'⟩, n', hn', rfl⟩
    rw [List.length_map, List.length_range] at lt' hn'
    have p2 : 2 ^ (Int.toNat (c : Nat)) ≤ 2 ^ 3 := Nat.pow_le_pow_right (by decide) (by omega)
    have lt2 : t'.length ≤ 100000 := by omega
    have hn2 : n' ≤ n + 10000 + 40 := by omega
    clear lt' hn' p2
    refine ⟨t', rfl, by omega, ?_⟩
    refine ⟨_, rfl, .inl ⟨t', [poolA p a' n'], tc, [], rfl, by rw [hq]; rfl, by omega, at', fun tc' => ⟨fun ya yl ys e ok => ?_, fun e => ?_⟩⟩⟩
    · have eD : undD t' = trD ya yl ys := by unfold undD; rw [e]
      rw [eD]
      refine brF (brF ?_)
      refine brT (.yes .fro (brF ?_))
      refine ⟨ya, yl, ys, rfl, ok.1, ok.2.1, ok.2.2.1, fun v hv => Nat.le_trans (ok.2.2.2 v hv) (by decide), brF ?_⟩
      refine ⟨Nat.zero_le _, Nat.le_of_ble_eq_true rfl, Nat.le_of_ble_eq_true rfl, Nat.le_of_ble_eq_true rfl, p, a', 7, n', _, rfl, rfl, ⟨by decide, by decide⟩, by omega, fun k k0 k1 => ?_⟩
      obtain ⟨k, rfl⟩ : ∃ m : Nat, k = m := ⟨k.toNat, by omega⟩
      have hk : k < [D.non, .int 0, .int (-1), .bl true, .lst [], .tup [.str "- / - / -"], .lst [.str (cutS t' none (some 9))]].length := by show k < 7; omega
      obtain ⟨z, hz⟩ : ∃ z, [D.non, .int 0, .int (-1), .bl true, .lst [], .tup [.str "- / - / -"], .lst [.str (cutS t' none (some 9))]][k]? = some z := ⟨_, List.getElem?_eq_getElem hk⟩
      obtain ⟨pz, sz⟩ := odd_all _ z (List.mem_of_getElem? hz)
      refine ix_l (L2.atI_nat hz) ?_
      refine ⟨z, rfl, .inr ⟨pz, sz, ?_⟩⟩
      refine ⟨.int (-1), .int (-1), rfl, rfl, rfl, by decide, by decide, ?_⟩
      rw [same_refl (.int (-1)) (by rfl)]
      refine brF ⟨⟨_, _, _, _, _, _, _, _, rfl⟩, n' + 1, tc', by omega, by rw [hq]; rfl⟩
    · have eD : undD t' = .non := by unfold undD; rw [e]
      rw [eD]
      refine brT ?_
      refine ⟨.int 0, .int 0, rfl, rfl, rfl, by decide, by decide, ?_⟩
      rw [same_refl (.int 0) (by rfl)]
      refine brF (brF (brF ?_))
      refine ⟨Nat.zero_le _, Nat.le_of_ble_eq_true rfl, Nat.le_of_ble_eq_true rfl, Nat.le_of_ble_eq_true rfl, p, a', 7, n', _, rfl, rfl, ⟨by decide, by decide⟩, by omega, fun k k0 k1 => ?_⟩
      obtain ⟨k, rfl⟩ : ∃ m : Nat, k = m := ⟨k.toNat, by omega⟩
      have hk : k < [D.non, .int 0, .int (-1), .bl true, .lst [], .tup [.str "- / - / -"], .lst [.str (cutS t' none (some 9))]].length := by show k < 7; omega
      obtain ⟨z, hz⟩ : ∃ z, [D.non, .int 0, .int (-1), .bl true, .lst [], .tup [.str "- / - / -"], .lst [.str (cutS t' none (some 9))]][k]? = some z := ⟨_, List.getElem?_eq_getElem hk⟩
      obtain ⟨pz, sz⟩ := odd_all _ z (List.mem_of_getElem? hz)
      refine ix_l (L2.atI_nat hz) ?_
      refine ⟨z, rfl, .inr ⟨pz, sz, ?_⟩⟩
      refine ⟨.int (-1), .int (-1), rfl, rfl, rfl, by decide, by decide, ?_⟩
      rw [same_refl (.int (-1)) (by rfl)]
      refine brF ⟨⟨_, _, _, _, _, _, _, _, rfl⟩, n' + 1, tc', by omega, by rw [hq]; rfl⟩
  rintro δ r' ⟨⟨x2, x3, x4, x5, x6, x7, x8, x9, rfl⟩, n, tc, hn, rfl⟩
  replace hn : n ≤ 11000 * 4 := hn
  exact ⟨p, a', n, tc, rfl, by rw [hq], by omega, fun r' => rfl⟩
end
set_option maxHeartbeats 0 in
def KW (P : PySem.Params) : PySem.W.Frag :=
(nat_lit 2, (@PySem.Obj.mk PySem.Value.none Option.none (@PySem.Data.dict (List.toArray []) (0 : Nat)) (List.toArray []))) ::
(nat_lit 3, (@PySem.Obj.mk (@PySem.Value.type "dict") Option.none (@PySem.Data.dict (List.toArray ((@PySem.DictEntry.mk (@PySem.PyData.keyHash P (@PySem.Str.ofString "__name__")) (@PySem.Value.str (@PySem.Str.ofString "__name__") (165 : Nat)) (@PySem.Value.str (@PySem.Str.ofString "law_quietprobes_k39_contents_read") (426 : Nat))) :: (@PySem.DictEntry.mk (@PySem.PyData.keyHash P (@PySem.Str.ofString "__doc__")) (@PySem.Value.str (@PySem.Str.ofString "__doc__") (166 : Nat)) PySem.Value.none) :: (@PySem.DictEntry.mk (@PySem.PyData.keyHash P (@PySem.Str.ofString "__package__")) (@PySem.Value.str (@PySem.Str.ofString "__package__") (167 : Nat)) PySem.Value.none) :: (@PySem.DictEntry.mk (@PySem.PyData.keyHash P (@PySem.Str.ofString "__loader__")) (@PySem.Value.str (@PySem.Str.ofString "__loader__") (168 : Nat)) (@PySem.Value.builtin "__main__.__loader__#opaque")) :: (@PySem.DictEntry.mk (@PySem.PyData.keyHash P (@PySem.Str.ofString "__spec__")) (@PySem.Value.str (@PySem.Str.ofString "__spec__") (169 : Nat)) PySem.Value.none) :: (@PySem.DictEntry.mk (@PySem.PyData.keyHash P (@PySem.Str.ofString "__annotations__")) (@PySem.Value.str (@PySem.Str.ofString "__annotations__") (170 : Nat)) (@PySem.Value.ref (6 : Nat))) :: (@PySem.DictEntry.mk (@PySem.PyData.keyHash P (@PySem.Str.ofString "__builtins__")) (@PySem.Value.str (@PySem.Str.ofString "__builtins__") (171 : Nat)) (@PySem.Value.ref (4 : Nat))) :: (@PySem.DictEntry.mk (@PySem.PyData.keyHash P (@PySem.Str.ofString "__file__")) (@PySem.Value.str (@PySem.Str.ofString "__file__") (173 : Nat)) (@PySem.Value.str (@PySem.Str.ofString "/claim/cut.py") (172 : Nat))) :: (@PySem.DictEntry.mk (@PySem.PyData.keyHash P (@PySem.Str.ofString "__cached__")) (@PySem.Value.str (@PySem.Str.ofString "__cached__") (174 : Nat)) PySem.Value.none) :: (@PySem.DictEntry.mk (@PySem.PyData.keyHash P (@PySem.Str.ofString "QuietError")) (@PySem.Value.str (@PySem.Str.ofString "QuietError") (206 : Nat)) (@PySem.Value.ref (24 : Nat))) :: (@PySem.DictEntry.mk (@PySem.PyData.keyHash P (@PySem.Str.ofString "BadContents")) (@PySem.Value.str (@PySem.Str.ofString "BadContents") (233 : Nat)) (@PySem.Value.ref (46 : Nat))) :: (@PySem.DictEntry.mk (@PySem.PyData.keyHash P (@PySem.Str.ofString "BadText")) (@PySem.Value.str (@PySem.Str.ofString "BadText") (260 : Nat)) (@PySem.Value.ref (67 : Nat))) :: (@PySem.DictEntry.mk (@PySem.PyData.keyHash P (@PySem.Str.ofString "LETTERS")) (@PySem.Value.str (@PySem.Str.ofString "LETTERS") (264 : Nat)) (@PySem.Value.str (@PySem.Str.ofString "abcdefghijklmnopqrstuvwxyz") (263 : Nat))) :: (@PySem.DictEntry.mk (@PySem.PyData.keyHash P (@PySem.Str.ofString "MOST_LETTERS")) (@PySem.Value.str (@PySem.Str.ofString "MOST_LETTERS") (266 : Nat)) (@PySem.Value.int (8 : Int) (265 : Nat))) :: (@PySem.DictEntry.mk (@PySem.PyData.keyHash P (@PySem.Str.ofString "is_name")) (@PySem.Value.str (@PySem.Str.ofString "is_name") (272 : Nat)) (@PySem.Value.ref (74 : Nat))) :: (@PySem.DictEntry.mk (@PySem.PyData.keyHash P (@PySem.Str.ofString "MOST")) (@PySem.Value.str (@PySem.Str.ofString "MOST") (276 : Nat)) (@PySem.Value.int (1000 : Int) (275 : Nat))) :: (@PySem.DictEntry.mk (@PySem.PyData.keyHash P (@PySem.Str.ofString "NAMES")) (@PySem.Value.str (@PySem.Str.ofString "NAMES") (278 : Nat)) (@PySem.Value.int (100 : Int) (277 : Nat))) :: (@PySem.DictEntry.mk (@PySem.PyData.keyHash P (@PySem.Str.ofString "LONGEST")) (@PySem.Value.str (@PySem.Str.ofString "LONGEST") (282 : Nat)) (@PySem.Value.int (1000000000000000000000000000000 : Int) (281 : Nat))) :: (@PySem.DictEntry.mk (@PySem.PyData.keyHash P (@PySem.Str.ofString "is_short")) (@PySem.Value.str (@PySem.Str.ofString "is_short") (290 : Nat)) (@PySem.Value.ref (81 : Nat))) :: (@PySem.DictEntry.mk (@PySem.PyData.keyHash P (@PySem.Str.ofString "is_length")) (@PySem.Value.str (@PySem.Str.ofString "is_length") (297 : Nat)) (@PySem.Value.ref (88 : Nat))) :: (@PySem.DictEntry.mk (@PySem.PyData.keyHash P (@PySem.Str.ofString "is_load")) (@PySem.Value.str (@PySem.Str.ofString "is_load") (303 : Nat)) (@PySem.Value.ref (93 : Nat))) :: (@PySem.DictEntry.mk (@PySem.PyData.keyHash P (@PySem.Str.ofString "wrong_part")) (@PySem.Value.str (@PySem.Str.ofString "wrong_part") (309 : Nat)) (@PySem.Value.ref (98 : Nat))) :: (@PySem.DictEntry.mk (@PySem.PyData.keyHash P (@PySem.Str.ofString "load_text")) (@PySem.Value.str (@PySem.Str.ofString "load_text") (316 : Nat)) (@PySem.Value.ref (105 : Nat))) :: (@PySem.DictEntry.mk (@PySem.PyData.keyHash P (@PySem.Str.ofString "words_text")) (@PySem.Value.str (@PySem.Str.ofString "words_text") (323 : Nat)) (@PySem.Value.ref (112 : Nat))) :: (@PySem.DictEntry.mk (@PySem.PyData.keyHash P (@PySem.Str.ofString "read_length")) (@PySem.Value.str (@PySem.Str.ofString "read_length") (330 : Nat)) (@PySem.Value.ref (119 : Nat))) :: (@PySem.DictEntry.mk (@PySem.PyData.keyHash P (@PySem.Str.ofString "read_load")) (@PySem.Value.str (@PySem.Str.ofString "read_load") (337 : Nat)) (@PySem.Value.ref (126 : Nat))) :: (@PySem.DictEntry.mk (@PySem.PyData.keyHash P (@PySem.Str.ofString "read_words")) (@PySem.Value.str (@PySem.Str.ofString "read_words") (343 : Nat)) (@PySem.Value.ref (131 : Nat))) :: (@PySem.DictEntry.mk (@PySem.PyData.keyHash P (@PySem.Str.ofString "Contents")) (@PySem.Value.str (@PySem.Str.ofString "Contents") (425 : Nat)) (@PySem.Value.ref (186 : Nat))) :: (@PySem.DictEntry.mk (@PySem.PyData.keyHash P (@PySem.Str.ofString "_law_is_name")) (@PySem.Value.str (@PySem.Str.ofString "_law_is_name") (433 : Nat)) (@PySem.Value.ref (195 : Nat))) :: (@PySem.DictEntry.mk (@PySem.PyData.keyHash P (@PySem.Str.ofString "_law_draw")) (@PySem.Value.str (@PySem.Str.ofString "_law_draw") (446 : Nat)) (@PySem.Value.ref (202 : Nat))) :: (@PySem.DictEntry.mk (@PySem.PyData.keyHash P (@PySem.Str.ofString "_law_pool")) (@PySem.Value.str (@PySem.Str.ofString "_law_pool") (453 : Nat)) (@PySem.Value.ref (209 : Nat))) :: (@PySem.DictEntry.mk (@PySem.PyData.keyHash P (@PySem.Str.ofString "_law_names")) (@PySem.Value.str (@PySem.Str.ofString "_law_names") (459 : Nat)) (@PySem.Value.ref (214 : Nat))) :: (@PySem.DictEntry.mk (@PySem.PyData.keyHash P (@PySem.Str.ofString "_law_triple")) (@PySem.Value.str (@PySem.Str.ofString "_law_triple") (465 : Nat)) (@PySem.Value.ref (219 : Nat))) :: (@PySem.DictEntry.mk (@PySem.PyData.keyHash P (@PySem.Str.ofString "_law_text")) (@PySem.Value.str (@PySem.Str.ofString "_law_text") (471 : Nat)) (@PySem.Value.ref (224 : Nat))) :: (@PySem.DictEntry.mk (@PySem.PyData.keyHash P (@PySem.Str.ofString "_law_same")) (@PySem.Value.str (@PySem.Str.ofString "_law_same") (477 : Nat)) (@PySem.Value.ref (229 : Nat))) :: (@PySem.DictEntry.mk (@PySem.PyData.keyHash P (@PySem.Str.ofString "_law_has")) (@PySem.Value.str (@PySem.Str.ofString "_law_has") (487 : Nat)) (@PySem.Value.ref (236 : Nat))) :: (@PySem.DictEntry.mk (@PySem.PyData.keyHash P (@PySem.Str.ofString "_law_number")) (@PySem.Value.str (@PySem.Str.ofString "_law_number") (493 : Nat)) (@PySem.Value.ref (241 : Nat))) :: (@PySem.DictEntry.mk (@PySem.PyData.keyHash P (@PySem.Str.ofString "_law_member")) (@PySem.Value.str (@PySem.Str.ofString "_law_member") (499 : Nat)) (@PySem.Value.ref (246 : Nat))) :: (@PySem.DictEntry.mk (@PySem.PyData.keyHash P (@PySem.Str.ofString "_law_understood")) (@PySem.Value.str (@PySem.Str.ofString "_law_understood") (505 : Nat)) (@PySem.Value.ref (251 : Nat))) :: (@PySem.DictEntry.mk (@PySem.PyData.keyHash P (@PySem.Str.ofString "_law_changed")) (@PySem.Value.str (@PySem.Str.ofString "_law_changed") (518 : Nat)) (@PySem.Value.ref (258 : Nat))) :: (@PySem.DictEntry.mk (@PySem.PyData.keyHash P (@PySem.Str.ofString "_law_tried")) (@PySem.Value.str (@PySem.Str.ofString "_law_tried") (528 : Nat)) (@PySem.Value.ref (265 : Nat))) :: (@PySem.DictEntry.mk (@PySem.PyData.keyHash P (@PySem.Str.ofString "_law_bounds")) (@PySem.Value.str (@PySem.Str.ofString "_law_bounds") (539 : Nat)) (@PySem.Value.ref (272 : Nat))) :: (@PySem.DictEntry.mk (@PySem.PyData.keyHash P (@PySem.Str.ofString "law")) (@PySem.Value.str (@PySem.Str.ofString "law") (555 : Nat)) (@PySem.Value.ref (279 : Nat))) :: [])) (43 : Nat)) (List.toArray []))) ::
(nat_lit 15, (@PySem.Obj.mk (@PySem.Value.type "tuple") Option.none (@PySem.Data.seq (List.toArray [(@PySem.Value.type "ValueError")]) (0 : Nat)) (List.toArray []))) ::
(nat_lit 22, (@PySem.Obj.mk (@PySem.Value.type "tuple") Option.none (@PySem.Data.seq (List.toArray []) (0 : Nat)) (List.toArray []))) ::
(nat_lit 23, (@PySem.Obj.mk (@PySem.Value.type "dict") Option.none (@PySem.Data.dict (List.toArray [(@PySem.DictEntry.mk (@PySem.PyData.keyHash P (@PySem.Str.ofString "__module__")) (@PySem.Value.str (@PySem.Str.ofString "__module__") (196 : Nat)) (@PySem.Value.str (@PySem.Str.ofString "quietprobes.errors") (187 : Nat))), (@PySem.DictEntry.mk (@PySem.PyData.keyHash P (@PySem.Str.ofString "__firstlineno__")) (@PySem.Value.str (@PySem.Str.ofString "__firstlineno__") (200 : Nat)) (@PySem.Value.int (2 : Int) (199 : Nat))), (@PySem.DictEntry.mk (@PySem.PyData.keyHash P (@PySem.Str.ofString "__static_attributes__")) (@PySem.Value.str (@PySem.Str.ofString "__static_attributes__") (201 : Nat)) (@PySem.Value.ref (22 : Nat))), (@PySem.DictEntry.mk (@PySem.PyData.keyHash P (@PySem.Str.ofString "__weakref__")) (@PySem.Value.str (@PySem.Str.ofString "__weakref__") (203 : Nat)) (@PySem.Value.ref (25 : Nat))), (@PySem.DictEntry.mk (@PySem.PyData.keyHash P (@PySem.Str.ofString "__doc__")) (@PySem.Value.str (@PySem.Str.ofString "__doc__") (204 : Nat)) PySem.Value.none)]) (3 : Nat)) (List.toArray []))) ::
(nat_lit 24, (@PySem.Obj.mk (@PySem.Value.type "type") Option.none (@PySem.Data.cls (@PySem.ClassData.mk (@PySem.Str.ofString "QuietError") [(@PySem.Value.type "ValueError")] [(@PySem.Value.ref (24 : Nat)), (@PySem.Value.type "ValueError"), (@PySem.Value.type "Exception"), (@PySem.Value.type "BaseException"), (@PySem.Value.type "object")] (23 : Nat) (@PySem.Str.ofString "QuietError") Bool.true [] [(@PySem.Value.ref (46 : Nat)), (@PySem.Value.ref (67 : Nat))] Bool.false Option.none Bool.false)) (List.toArray [(Option.some (@PySem.Value.ref (15 : Nat))), Option.none, (Option.some (@PySem.Value.str (@PySem.Str.ofString "QuietError") (189 : Nat))), (Option.some (@PySem.Value.str (@PySem.Str.ofString "QuietError") (197 : Nat))), (Option.some (@PySem.Value.builtin "ValueError.__new__")), (Option.some (@PySem.Value.bool Bool.true))]))) ::
(nat_lit 25, (@PySem.Obj.mk (@PySem.Value.type "getset_descriptor") Option.none (@PySem.Data.fields (List.toArray [(@PySem.Value.str (@PySem.Str.ofString "__weakref__") (202 : Nat)), (@PySem.Value.ref (24 : Nat)), (@PySem.Value.builtin "ExceptionGroup.__weakref__"), PySem.Value.none])) (List.toArray []))) ::
(nat_lit 28, (@PySem.Obj.mk (@PySem.Value.type "tuple") Option.none (@PySem.Data.seq (List.toArray [(@PySem.Value.ref (24 : Nat))]) (0 : Nat)) (List.toArray []))) ::
(nat_lit 31, (@PySem.Obj.mk (@PySem.Value.type "cell") Option.none (@PySem.Data.cell (Option.some (@PySem.Value.ref (46 : Nat)))) (List.toArray []))) ::
(nat_lit 36, (@PySem.Obj.mk (@PySem.Value.type "tuple") Option.none (@PySem.Data.seq (List.toArray [(@PySem.Value.ref (31 : Nat))]) (0 : Nat)) (List.toArray []))) ::
(nat_lit 37, (@PySem.Obj.mk (@PySem.Value.type "tuple") Option.none (@PySem.Data.seq (List.toArray [(@PySem.Value.str (@PySem.Str.ofString "__class__") (222 : Nat))]) (0 : Nat)) (List.toArray []))) ::
(nat_lit 39, (@PySem.Obj.mk (@PySem.Value.type "tuple") Option.none (@PySem.Data.seq (List.toArray [(@PySem.Value.str (@PySem.Str.ofString "self") (223 : Nat)), (@PySem.Value.str (@PySem.Str.ofString "part") (224 : Nat))]) (0 : Nat)) (List.toArray []))) ::
(nat_lit 40, (@PySem.Obj.mk (@PySem.Value.type "tuple") Option.none (@PySem.Data.seq (List.toArray []) (0 : Nat)) (List.toArray []))) ::
(nat_lit 42, (@PySem.Obj.mk (@PySem.Value.type "code") Option.none (@PySem.Data.fields (List.toArray [(@PySem.Value.str (@PySem.Str.ofString "__init__") (219 : Nat)), (@PySem.Value.str (@PySem.Str.ofString "BadContents.__init__") (220 : Nat)), (@PySem.Value.str (@PySem.Str.ofString "/claim/cut.py") (221 : Nat)), (@PySem.Value.int (6 : Int) (0 : Nat)), (@PySem.Value.int (2 : Int) (0 : Nat)), (@PySem.Value.int (0 : Int) (0 : Nat)), (@PySem.Value.int (0 : Int) (0 : Nat)), (@PySem.Value.int (3 : Int) (0 : Nat)), (@PySem.Value.ref (37 : Nat)), (@PySem.Value.bool Bool.true), (@PySem.Value.int (181 : Int) (0 : Nat)), (@PySem.Value.ref (38 : Nat)), PySem.Value.none, (@PySem.Value.ref (39 : Nat)), (@PySem.Value.ref (40 : Nat)), (@PySem.Value.ref (41 : Nat)), (@PySem.Value.int (225 : Int) (0 : Nat)), (@PySem.Value.int (6 : Int) (0 : Nat)), (@PySem.Value.str (@PySem.Str.ofString "/claim/cut.py") (226 : Nat))])) (List.toArray []))) ::
(nat_lit 43, (@PySem.Obj.mk (@PySem.Value.type "function") Option.none (@PySem.Data.func (PySem.FuncData.mk (@PySem.Str.ofString "__init__") (@PySem.Str.ofString "BadContents.__init__") (defArgs s_BadContents___init__) (PySem.FuncBody.stmts (defBody s_BadContents___init__)) (defScope s_BadContents___init__) (3 : Nat) [((@PySem.Str.ofString "__class__"), (31 : Nat))] PySem.Value.none PySem.Value.none PySem.Value.none (@PySem.Value.str (@PySem.Str.ofString "quietprobes.errors") (187 : Nat)) Option.none (@PySem.Value.ref (42 : Nat)) (@PySem.Value.ref (36 : Nat)) (0 : Nat))) (List.toArray []))) ::
(nat_lit 44, (@PySem.Obj.mk (@PySem.Value.type "tuple") Option.none (@PySem.Data.seq (List.toArray [(@PySem.Value.str (@PySem.Str.ofString "part") (228 : Nat))]) (0 : Nat)) (List.toArray []))) ::
(nat_lit 45, (@PySem.Obj.mk (@PySem.Value.type "dict") Option.none (@PySem.Data.dict (List.toArray [(@PySem.DictEntry.mk (@PySem.PyData.keyHash P (@PySem.Str.ofString "__module__")) (@PySem.Value.str (@PySem.Str.ofString "__module__") (214 : Nat)) (@PySem.Value.str (@PySem.Str.ofString "quietprobes.errors") (187 : Nat))), (@PySem.DictEntry.mk (@PySem.PyData.keyHash P (@PySem.Str.ofString "__firstlineno__")) (@PySem.Value.str (@PySem.Str.ofString "__firstlineno__") (218 : Nat)) (@PySem.Value.int (4 : Int) (217 : Nat))), (@PySem.DictEntry.mk (@PySem.PyData.keyHash P (@PySem.Str.ofString "__init__")) (@PySem.Value.str (@PySem.Str.ofString "__init__") (227 : Nat)) (@PySem.Value.ref (43 : Nat))), (@PySem.DictEntry.mk (@PySem.PyData.keyHash P (@PySem.Str.ofString "__static_attributes__")) (@PySem.Value.str (@PySem.Str.ofString "__static_attributes__") (229 : Nat)) (@PySem.Value.ref (44 : Nat))), (@PySem.DictEntry.mk (@PySem.PyData.keyHash P (@PySem.Str.ofString "__doc__")) (@PySem.Value.str (@PySem.Str.ofString "__doc__") (231 : Nat)) PySem.Value.none)]) (3 : Nat)) (List.toArray []))) ::
(nat_lit 46, (@PySem.Obj.mk (@PySem.Value.type "type") Option.none (@PySem.Data.cls (@PySem.ClassData.mk (@PySem.Str.ofString "BadContents") [(@PySem.Value.ref (24 : Nat))] [(@PySem.Value.ref (46 : Nat)), (@PySem.Value.ref (24 : Nat)), (@PySem.Value.type "ValueError"), (@PySem.Value.type "Exception"), (@PySem.Value.type "BaseException"), (@PySem.Value.type "object")] (45 : Nat) (@PySem.Str.ofString "BadContents") Bool.true [] [] Bool.false Option.none Bool.false)) (List.toArray [(Option.some (@PySem.Value.ref (28 : Nat))), Option.none, (Option.some (@PySem.Value.str (@PySem.Str.ofString "BadContents") (207 : Nat))), (Option.some (@PySem.Value.str (@PySem.Str.ofString "BadContents") (215 : Nat))), (Option.some (@PySem.Value.builtin "ValueError.__new__")), (Option.some (@PySem.Value.bool Bool.true))]))) ::
(nat_lit 49, (@PySem.Obj.mk (@PySem.Value.type "tuple") Option.none (@PySem.Data.seq (List.toArray [(@PySem.Value.ref (24 : Nat))]) (0 : Nat)) (List.toArray []))) ::
(nat_lit 52, (@PySem.Obj.mk (@PySem.Value.type "cell") Option.none (@PySem.Data.cell (Option.some (@PySem.Value.ref (67 : Nat)))) (List.toArray []))) ::
(nat_lit 57, (@PySem.Obj.mk (@PySem.Value.type "tuple") Option.none (@PySem.Data.seq (List.toArray [(@PySem.Value.ref (52 : Nat))]) (0 : Nat)) (List.toArray []))) ::
(nat_lit 58, (@PySem.Obj.mk (@PySem.Value.type "tuple") Option.none (@PySem.Data.seq (List.toArray [(@PySem.Value.str (@PySem.Str.ofString "__class__") (249 : Nat))]) (0 : Nat)) (List.toArray []))) ::
(nat_lit 60, (@PySem.Obj.mk (@PySem.Value.type "tuple") Option.none (@PySem.Data.seq (List.toArray [(@PySem.Value.str (@PySem.Str.ofString "self") (250 : Nat)), (@PySem.Value.str (@PySem.Str.ofString "line") (251 : Nat))]) (0 : Nat)) (List.toArray []))) ::
(nat_lit 61, (@PySem.Obj.mk (@PySem.Value.type "tuple") Option.none (@PySem.Data.seq (List.toArray []) (0 : Nat)) (List.toArray []))) ::
(nat_lit 63, (@PySem.Obj.mk (@PySem.Value.type "code") Option.none (@PySem.Data.fields (List.toArray [(@PySem.Value.str (@PySem.Str.ofString "__init__") (246 : Nat)), (@PySem.Value.str (@PySem.Str.ofString "BadText.__init__") (247 : Nat)), (@PySem.Value.str (@PySem.Str.ofString "/claim/cut.py") (248 : Nat)), (@PySem.Value.int (11 : Int) (0 : Nat)), (@PySem.Value.int (2 : Int) (0 : Nat)), (@PySem.Value.int (0 : Int) (0 : Nat)), (@PySem.Value.int (0 : Int) (0 : Nat)), (@PySem.Value.int (3 : Int) (0 : Nat)), (@PySem.Value.ref (58 : Nat)), (@PySem.Value.bool Bool.true), (@PySem.Value.int (181 : Int) (0 : Nat)), (@PySem.Value.ref (59 : Nat)), PySem.Value.none, (@PySem.Value.ref (60 : Nat)), (@PySem.Value.ref (61 : Nat)), (@PySem.Value.ref (62 : Nat)), (@PySem.Value.int (252 : Int) (0 : Nat)), (@PySem.Value.int (11 : Int) (0 : Nat)), (@PySem.Value.str (@PySem.Str.ofString "/claim/cut.py") (253 : Nat))])) (List.toArray []))) ::
(nat_lit 64, (@PySem.Obj.mk (@PySem.Value.type "function") Option.none (@PySem.Data.func (PySem.FuncData.mk (@PySem.Str.ofString "__init__") (@PySem.Str.ofString "BadText.__init__") (defArgs s_BadText___init__) (PySem.FuncBody.stmts (defBody s_BadText___init__)) (defScope s_BadText___init__) (3 : Nat) [((@PySem.Str.ofString "__class__"), (52 : Nat))] PySem.Value.none PySem.Value.none PySem.Value.none (@PySem.Value.str (@PySem.Str.ofString "quietprobes.errors") (187 : Nat)) Option.none (@PySem.Value.ref (63 : Nat)) (@PySem.Value.ref (57 : Nat)) (0 : Nat))) (List.toArray []))) ::
(nat_lit 65, (@PySem.Obj.mk (@PySem.Value.type "tuple") Option.none (@PySem.Data.seq (List.toArray [(@PySem.Value.str (@PySem.Str.ofString "line") (255 : Nat))]) (0 : Nat)) (List.toArray []))) ::
(nat_lit 66, (@PySem.Obj.mk (@PySem.Value.type "dict") Option.none (@PySem.Data.dict (List.toArray [(@PySem.DictEntry.mk (@PySem.PyData.keyHash P (@PySem.Str.ofString "__module__")) (@PySem.Value.str (@PySem.Str.ofString "__module__") (241 : Nat)) (@PySem.Value.str (@PySem.Str.ofString "quietprobes.errors") (187 : Nat))), (@PySem.DictEntry.mk (@PySem.PyData.keyHash P (@PySem.Str.ofString "__firstlineno__")) (@PySem.Value.str (@PySem.Str.ofString "__firstlineno__") (245 : Nat)) (@PySem.Value.int (9 : Int) (244 : Nat))), (@PySem.DictEntry.mk (@PySem.PyData.keyHash P (@PySem.Str.ofString "__init__")) (@PySem.Value.str (@PySem.Str.ofString "__init__") (254 : Nat)) (@PySem.Value.ref (64 : Nat))), (@PySem.DictEntry.mk (@PySem.PyData.keyHash P (@PySem.Str.ofString "__static_attributes__")) (@PySem.Value.str (@PySem.Str.ofString "__static_attributes__") (256 : Nat)) (@PySem.Value.ref (65 : Nat))), (@PySem.DictEntry.mk (@PySem.PyData.keyHash P (@PySem.Str.ofString "__doc__")) (@PySem.Value.str (@PySem.Str.ofString "__doc__") (258 : Nat)) PySem.Value.none)]) (3 : Nat)) (List.toArray []))) ::
(nat_lit 67, (@PySem.Obj.mk (@PySem.Value.type "type") Option.none (@PySem.Data.cls (@PySem.ClassData.mk (@PySem.Str.ofString "BadText") [(@PySem.Value.ref (24 : Nat))] [(@PySem.Value.ref (67 : Nat)), (@PySem.Value.ref (24 : Nat)), (@PySem.Value.type "ValueError"), (@PySem.Value.type "Exception"), (@PySem.Value.type "BaseException"), (@PySem.Value.type "object")] (66 : Nat) (@PySem.Str.ofString "BadText") Bool.true [] [] Bool.false Option.none Bool.false)) (List.toArray [(Option.some (@PySem.Value.ref (49 : Nat))), Option.none, (Option.some (@PySem.Value.str (@PySem.Str.ofString "BadText") (234 : Nat))), (Option.some (@PySem.Value.str (@PySem.Str.ofString "BadText") (242 : Nat))), (Option.some (@PySem.Value.builtin "ValueError.__new__")), (Option.some (@PySem.Value.bool Bool.true))]))) ::
(nat_lit 70, (@PySem.Obj.mk (@PySem.Value.type "tuple") Option.none (@PySem.Data.seq (List.toArray []) (0 : Nat)) (List.toArray []))) ::
(nat_lit 73, (@PySem.Obj.mk (@PySem.Value.type "code") Option.none (@PySem.Data.fields (List.toArray [(@PySem.Value.str (@PySem.Str.ofString "is_name") (267 : Nat)), (@PySem.Value.str (@PySem.Str.ofString "is_name") (268 : Nat)), (@PySem.Value.str (@PySem.Str.ofString "/claim/cut.py") (269 : Nat)), (@PySem.Value.int (17 : Int) (0 : Nat)), (@PySem.Value.int (1 : Int) (0 : Nat)), (@PySem.Value.int (0 : Int) (0 : Nat)), (@PySem.Value.int (0 : Int) (0 : Nat)), (@PySem.Value.int (3 : Int) (0 : Nat)), (@PySem.Value.ref (70 : Nat)), (@PySem.Value.bool Bool.true), (@PySem.Value.int (181 : Int) (0 : Nat)), (@PySem.Value.ref (71 : Nat)), PySem.Value.none, PySem.Value.none, PySem.Value.none, (@PySem.Value.ref (72 : Nat)), (@PySem.Value.int (270 : Int) (0 : Nat)), (@PySem.Value.int (17 : Int) (0 : Nat)), (@PySem.Value.str (@PySem.Str.ofString "/claim/cut.py") (271 : Nat))])) (List.toArray []))) ::
(nat_lit 74, (@PySem.Obj.mk (@PySem.Value.type "function") Option.none (@PySem.Data.func (PySem.FuncData.mk (@PySem.Str.ofString "is_name") (@PySem.Str.ofString "is_name") (defArgs s_is_name) (PySem.FuncBody.stmts (defBody s_is_name)) (defScope s_is_name) (3 : Nat) [] PySem.Value.none PySem.Value.none PySem.Value.none (@PySem.Value.str (@PySem.Str.ofString "quietprobes.things") (261 : Nat)) Option.none (@PySem.Value.ref (73 : Nat)) PySem.Value.none (0 : Nat))) (List.toArray []))) ::
(nat_lit 75, (@PySem.Obj.mk (@PySem.Value.type "tuple") Option.none (@PySem.Data.seq (List.toArray []) (0 : Nat)) (List.toArray []))) ::
(nat_lit 77, (@PySem.Obj.mk (@PySem.Value.type "tuple") Option.none (@PySem.Data.seq (List.toArray [(@PySem.Value.str (@PySem.Str.ofString "value") (286 : Nat)), (@PySem.Value.str (@PySem.Str.ofString "most") (287 : Nat))]) (0 : Nat)) (List.toArray []))) ::
(nat_lit 78, (@PySem.Obj.mk (@PySem.Value.type "tuple") Option.none (@PySem.Data.seq (List.toArray []) (0 : Nat)) (List.toArray []))) ::
(nat_lit 80, (@PySem.Obj.mk (@PySem.Value.type "code") Option.none (@PySem.Data.fields (List.toArray [(@PySem.Value.str (@PySem.Str.ofString "is_short") (283 : Nat)), (@PySem.Value.str (@PySem.Str.ofString "is_short") (284 : Nat)), (@PySem.Value.str (@PySem.Str.ofString "/claim/cut.py") (285 : Nat)), (@PySem.Value.int (25 : Int) (0 : Nat)), (@PySem.Value.int (2 : Int) (0 : Nat)), (@PySem.Value.int (0 : Int) (0 : Nat)), (@PySem.Value.int (0 : Int) (0 : Nat)), (@PySem.Value.int (3 : Int) (0 : Nat)), (@PySem.Value.ref (75 : Nat)), (@PySem.Value.bool Bool.true), (@PySem.Value.int (181 : Int) (0 : Nat)), (@PySem.Value.ref (76 : Nat)), PySem.Value.none, (@PySem.Value.ref (77 : Nat)), (@PySem.Value.ref (78 : Nat)), (@PySem.Value.ref (79 : Nat)), (@PySem.Value.int (288 : Int) (0 : Nat)), (@PySem.Value.int (25 : Int) (0 : Nat)), (@PySem.Value.str (@PySem.Str.ofString "/claim/cut.py") (289 : Nat))])) (List.toArray []))) ::
(nat_lit 81, (@PySem.Obj.mk (@PySem.Value.type "function") Option.none (@PySem.Data.func (PySem.FuncData.mk (@PySem.Str.ofString "is_short") (@PySem.Str.ofString "is_short") (defArgs s_is_short) (PySem.FuncBody.stmts (defBody s_is_short)) (defScope s_is_short) (3 : Nat) [] PySem.Value.none PySem.Value.none PySem.Value.none (@PySem.Value.str (@PySem.Str.ofString "quietprobes.contents") (273 : Nat)) Option.none (@PySem.Value.ref (80 : Nat)) PySem.Value.none (0 : Nat))) (List.toArray []))) ::
(nat_lit 82, (@PySem.Obj.mk (@PySem.Value.type "tuple") Option.none (@PySem.Data.seq (List.toArray []) (0 : Nat)) (List.toArray []))) ::
(nat_lit 84, (@PySem.Obj.mk (@PySem.Value.type "tuple") Option.none (@PySem.Data.seq (List.toArray [(@PySem.Value.str (@PySem.Str.ofString "value") (294 : Nat))]) (0 : Nat)) (List.toArray []))) ::
(nat_lit 85, (@PySem.Obj.mk (@PySem.Value.type "tuple") Option.none (@PySem.Data.seq (List.toArray []) (0 : Nat)) (List.toArray []))) ::
(nat_lit 87, (@PySem.Obj.mk (@PySem.Value.type "code") Option.none (@PySem.Data.fields (List.toArray [(@PySem.Value.str (@PySem.Str.ofString "is_length") (291 : Nat)), (@PySem.Value.str (@PySem.Str.ofString "is_length") (292 : Nat)), (@PySem.Value.str (@PySem.Str.ofString "/claim/cut.py") (293 : Nat)), (@PySem.Value.int (27 : Int) (0 : Nat)), (@PySem.Value.int (1 : Int) (0 : Nat)), (@PySem.Value.int (0 : Int) (0 : Nat)), (@PySem.Value.int (0 : Int) (0 : Nat)), (@PySem.Value.int (3 : Int) (0 : Nat)), (@PySem.Value.ref (82 : Nat)), (@PySem.Value.bool Bool.true), (@PySem.Value.int (181 : Int) (0 : Nat)), (@PySem.Value.ref (83 : Nat)), PySem.Value.none, (@PySem.Value.ref (84 : Nat)), (@PySem.Value.ref (85 : Nat)), (@PySem.Value.ref (86 : Nat)), (@PySem.Value.int (295 : Int) (0 : Nat)), (@PySem.Value.int (27 : Int) (0 : Nat)), (@PySem.Value.str (@PySem.Str.ofString "/claim/cut.py") (296 : Nat))])) (List.toArray []))) ::
(nat_lit 88, (@PySem.Obj.mk (@PySem.Value.type "function") Option.none (@PySem.Data.func (PySem.FuncData.mk (@PySem.Str.ofString "is_length") (@PySem.Str.ofString "is_length") (defArgs s_is_length) (PySem.FuncBody.stmts (defBody s_is_length)) (defScope s_is_length) (3 : Nat) [] PySem.Value.none PySem.Value.none PySem.Value.none (@PySem.Value.str (@PySem.Str.ofString "quietprobes.contents") (273 : Nat)) Option.none (@PySem.Value.ref (87 : Nat)) PySem.Value.none (0 : Nat))) (List.toArray []))) ::
(nat_lit 89, (@PySem.Obj.mk (@PySem.Value.type "tuple") Option.none (@PySem.Data.seq (List.toArray []) (0 : Nat)) (List.toArray []))) ::
(nat_lit 92, (@PySem.Obj.mk (@PySem.Value.type "code") Option.none (@PySem.Data.fields (List.toArray [(@PySem.Value.str (@PySem.Str.ofString "is_load") (298 : Nat)), (@PySem.Value.str (@PySem.Str.ofString "is_load") (299 : Nat)), (@PySem.Value.str (@PySem.Str.ofString "/claim/cut.py") (300 : Nat)), (@PySem.Value.int (29 : Int) (0 : Nat)), (@PySem.Value.int (1 : Int) (0 : Nat)), (@PySem.Value.int (0 : Int) (0 : Nat)), (@PySem.Value.int (0 : Int) (0 : Nat)), (@PySem.Value.int (3 : Int) (0 : Nat)), (@PySem.Value.ref (89 : Nat)), (@PySem.Value.bool Bool.true), (@PySem.Value.int (181 : Int) (0 : Nat)), (@PySem.Value.ref (90 : Nat)), PySem.Value.none, PySem.Value.none, PySem.Value.none, (@PySem.Value.ref (91 : Nat)), (@PySem.Value.int (301 : Int) (0 : Nat)), (@PySem.Value.int (29 : Int) (0 : Nat)), (@PySem.Value.str (@PySem.Str.ofString "/claim/cut.py") (302 : Nat))])) (List.toArray []))) ::
(nat_lit 93, (@PySem.Obj.mk (@PySem.Value.type "function") Option.none (@PySem.Data.func (PySem.FuncData.mk (@PySem.Str.ofString "is_load") (@PySem.Str.ofString "is_load") (defArgs s_is_load) (PySem.FuncBody.stmts (defBody s_is_load)) (defScope s_is_load) (3 : Nat) [] PySem.Value.none PySem.Value.none PySem.Value.none (@PySem.Value.str (@PySem.Str.ofString "quietprobes.contents") (273 : Nat)) Option.none (@PySem.Value.ref (92 : Nat)) PySem.Value.none (0 : Nat))) (List.toArray []))) ::
(nat_lit 94, (@PySem.Obj.mk (@PySem.Value.type "tuple") Option.none (@PySem.Data.seq (List.toArray []) (0 : Nat)) (List.toArray []))) ::
(nat_lit 97, (@PySem.Obj.mk (@PySem.Value.type "code") Option.none (@PySem.Data.fields (List.toArray [(@PySem.Value.str (@PySem.Str.ofString "wrong_part") (304 : Nat)), (@PySem.Value.str (@PySem.Str.ofString "wrong_part") (305 : Nat)), (@PySem.Value.str (@PySem.Str.ofString "/claim/cut.py") (306 : Nat)), (@PySem.Value.int (31 : Int) (0 : Nat)), (@PySem.Value.int (3 : Int) (0 : Nat)), (@PySem.Value.int (0 : Int) (0 : Nat)), (@PySem.Value.int (0 : Int) (0 : Nat)), (@PySem.Value.int (3 : Int) (0 : Nat)), (@PySem.Value.ref (94 : Nat)), (@PySem.Value.bool Bool.true), (@PySem.Value.int (181 : Int) (0 : Nat)), (@PySem.Value.ref (95 : Nat)), PySem.Value.none, PySem.Value.none, PySem.Value.none, (@PySem.Value.ref (96 : Nat)), (@PySem.Value.int (307 : Int) (0 : Nat)), (@PySem.Value.int (31 : Int) (0 : Nat)), (@PySem.Value.str (@PySem.Str.ofString "/claim/cut.py") (308 : Nat))])) (List.toArray []))) ::
(nat_lit 98, (@PySem.Obj.mk (@PySem.Value.type "function") Option.none (@PySem.Data.func (PySem.FuncData.mk (@PySem.Str.ofString "wrong_part") (@PySem.Str.ofString "wrong_part") (defArgs s_wrong_part) (PySem.FuncBody.stmts (defBody s_wrong_part)) (defScope s_wrong_part) (3 : Nat) [] PySem.Value.none PySem.Value.none PySem.Value.none (@PySem.Value.str (@PySem.Str.ofString "quietprobes.contents") (273 : Nat)) Option.none (@PySem.Value.ref (97 : Nat)) PySem.Value.none (0 : Nat))) (List.toArray []))) ::
(nat_lit 99, (@PySem.Obj.mk (@PySem.Value.type "tuple") Option.none (@PySem.Data.seq (List.toArray []) (0 : Nat)) (List.toArray []))) ::
(nat_lit 101, (@PySem.Obj.mk (@PySem.Value.type "tuple") Option.none (@PySem.Data.seq (List.toArray [(@PySem.Value.str (@PySem.Str.ofString "load") (313 : Nat))]) (0 : Nat)) (List.toArray []))) ::
(nat_lit 102, (@PySem.Obj.mk (@PySem.Value.type "tuple") Option.none (@PySem.Data.seq (List.toArray []) (0 : Nat)) (List.toArray []))) ::
(nat_lit 104, (@PySem.Obj.mk (@PySem.Value.type "code") Option.none (@PySem.Data.fields (List.toArray [(@PySem.Value.str (@PySem.Str.ofString "load_text") (310 : Nat)), (@PySem.Value.str (@PySem.Str.ofString "load_text") (311 : Nat)), (@PySem.Value.str (@PySem.Str.ofString "/claim/cut.py") (312 : Nat)), (@PySem.Value.int (39 : Int) (0 : Nat)), (@PySem.Value.int (1 : Int) (0 : Nat)), (@PySem.Value.int (0 : Int) (0 : Nat)), (@PySem.Value.int (0 : Int) (0 : Nat)), (@PySem.Value.int (3 : Int) (0 : Nat)), (@PySem.Value.ref (99 : Nat)), (@PySem.Value.bool Bool.true), (@PySem.Value.int (181 : Int) (0 : Nat)), (@PySem.Value.ref (100 : Nat)), PySem.Value.none, (@PySem.Value.ref (101 : Nat)), (@PySem.Value.ref (102 : Nat)), (@PySem.Value.ref (103 : Nat)), (@PySem.Value.int (314 : Int) (0 : Nat)), (@PySem.Value.int (39 : Int) (0 : Nat)), (@PySem.Value.str (@PySem.Str.ofString "/claim/cut.py") (315 : Nat))])) (List.toArray []))) ::
(nat_lit 105, (@PySem.Obj.mk (@PySem.Value.type "function") Option.none (@PySem.Data.func (PySem.FuncData.mk (@PySem.Str.ofString "load_text") (@PySem.Str.ofString "load_text") (defArgs s_load_text) (PySem.FuncBody.stmts (defBody s_load_text)) (defScope s_load_text) (3 : Nat) [] PySem.Value.none PySem.Value.none PySem.Value.none (@PySem.Value.str (@PySem.Str.ofString "quietprobes.contents") (273 : Nat)) Option.none (@PySem.Value.ref (104 : Nat)) PySem.Value.none (0 : Nat))) (List.toArray []))) ::
(nat_lit 106, (@PySem.Obj.mk (@PySem.Value.type "tuple") Option.none (@PySem.Data.seq (List.toArray []) (0 : Nat)) (List.toArray []))) ::
(nat_lit 108, (@PySem.Obj.mk (@PySem.Value.type "tuple") Option.none (@PySem.Data.seq (List.toArray [(@PySem.Value.str (@PySem.Str.ofString "words") (320 : Nat))]) (0 : Nat)) (List.toArray []))) ::
(nat_lit 109, (@PySem.Obj.mk (@PySem.Value.type "tuple") Option.none (@PySem.Data.seq (List.toArray []) (0 : Nat)) (List.toArray []))) ::
(nat_lit 111, (@PySem.Obj.mk (@PySem.Value.type "code") Option.none (@PySem.Data.fields (List.toArray [(@PySem.Value.str (@PySem.Str.ofString "words_text") (317 : Nat)), (@PySem.Value.str (@PySem.Str.ofString "words_text") (318 : Nat)), (@PySem.Value.str (@PySem.Str.ofString "/claim/cut.py") (319 : Nat)), (@PySem.Value.int (41 : Int) (0 : Nat)), (@PySem.Value.int (1 : Int) (0 : Nat)), (@PySem.Value.int (0 : Int) (0 : Nat)), (@PySem.Value.int (0 : Int) (0 : Nat)), (@PySem.Value.int (3 : Int) (0 : Nat)), (@PySem.Value.ref (106 : Nat)), (@PySem.Value.bool Bool.true), (@PySem.Value.int (181 : Int) (0 : Nat)), (@PySem.Value.ref (107 : Nat)), PySem.Value.none, (@PySem.Value.ref (108 : Nat)), (@PySem.Value.ref (109 : Nat)), (@PySem.Value.ref (110 : Nat)), (@PySem.Value.int (321 : Int) (0 : Nat)), (@PySem.Value.int (41 : Int) (0 : Nat)), (@PySem.Value.str (@PySem.Str.ofString "/claim/cut.py") (322 : Nat))])) (List.toArray []))) ::
(nat_lit 112, (@PySem.Obj.mk (@PySem.Value.type "function") Option.none (@PySem.Data.func (PySem.FuncData.mk (@PySem.Str.ofString "words_text") (@PySem.Str.ofString "words_text") (defArgs s_words_text) (PySem.FuncBody.stmts (defBody s_words_text)) (defScope s_words_text) (3 : Nat) [] PySem.Value.none PySem.Value.none PySem.Value.none (@PySem.Value.str (@PySem.Str.ofString "quietprobes.contents") (273 : Nat)) Option.none (@PySem.Value.ref (111 : Nat)) PySem.Value.none (0 : Nat))) (List.toArray []))) ::
(nat_lit 113, (@PySem.Obj.mk (@PySem.Value.type "tuple") Option.none (@PySem.Data.seq (List.toArray []) (0 : Nat)) (List.toArray []))) ::
(nat_lit 115, (@PySem.Obj.mk (@PySem.Value.type "tuple") Option.none (@PySem.Data.seq (List.toArray [(@PySem.Value.str (@PySem.Str.ofString "word") (327 : Nat))]) (0 : Nat)) (List.toArray []))) ::
(nat_lit 116, (@PySem.Obj.mk (@PySem.Value.type "tuple") Option.none (@PySem.Data.seq (List.toArray []) (0 : Nat)) (List.toArray []))) ::
(nat_lit 118, (@PySem.Obj.mk (@PySem.Value.type "code") Option.none (@PySem.Data.fields (List.toArray [(@PySem.Value.str (@PySem.Str.ofString "read_length") (324 : Nat)), (@PySem.Value.str (@PySem.Str.ofString "read_length") (325 : Nat)), (@PySem.Value.str (@PySem.Str.ofString "/claim/cut.py") (326 : Nat)), (@PySem.Value.int (43 : Int) (0 : Nat)), (@PySem.Value.int (1 : Int) (0 : Nat)), (@PySem.Value.int (0 : Int) (0 : Nat)), (@PySem.Value.int (0 : Int) (0 : Nat)), (@PySem.Value.int (3 : Int) (0 : Nat)), (@PySem.Value.ref (113 : Nat)), (@PySem.Value.bool Bool.true), (@PySem.Value.int (181 : Int) (0 : Nat)), (@PySem.Value.ref (114 : Nat)), PySem.Value.none, (@PySem.Value.ref (115 : Nat)), (@PySem.Value.ref (116 : Nat)), (@PySem.Value.ref (117 : Nat)), (@PySem.Value.int (328 : Int) (0 : Nat)), (@PySem.Value.int (43 : Int) (0 : Nat)), (@PySem.Value.str (@PySem.Str.ofString "/claim/cut.py") (329 : Nat))])) (List.toArray []))) ::
(nat_lit 119, (@PySem.Obj.mk (@PySem.Value.type "function") Option.none (@PySem.Data.func (PySem.FuncData.mk (@PySem.Str.ofString "read_length") (@PySem.Str.ofString "read_length") (defArgs s_read_length) (PySem.FuncBody.stmts (defBody s_read_length)) (defScope s_read_length) (3 : Nat) [] PySem.Value.none PySem.Value.none PySem.Value.none (@PySem.Value.str (@PySem.Str.ofString "quietprobes.contents") (273 : Nat)) Option.none (@PySem.Value.ref (118 : Nat)) PySem.Value.none (0 : Nat))) (List.toArray []))) ::
(nat_lit 120, (@PySem.Obj.mk (@PySem.Value.type "tuple") Option.none (@PySem.Data.seq (List.toArray []) (0 : Nat)) (List.toArray []))) ::
(nat_lit 122, (@PySem.Obj.mk (@PySem.Value.type "tuple") Option.none (@PySem.Data.seq (List.toArray [(@PySem.Value.str (@PySem.Str.ofString "word") (334 : Nat))]) (0 : Nat)) (List.toArray []))) ::
(nat_lit 123, (@PySem.Obj.mk (@PySem.Value.type "tuple") Option.none (@PySem.Data.seq (List.toArray []) (0 : Nat)) (List.toArray []))) ::
(nat_lit 125, (@PySem.Obj.mk (@PySem.Value.type "code") Option.none (@PySem.Data.fields (List.toArray [(@PySem.Value.str (@PySem.Str.ofString "read_load") (331 : Nat)), (@PySem.Value.str (@PySem.Str.ofString "read_load") (332 : Nat)), (@PySem.Value.str (@PySem.Str.ofString "/claim/cut.py") (333 : Nat)), (@PySem.Value.int (47 : Int) (0 : Nat)), (@PySem.Value.int (1 : Int) (0 : Nat)), (@PySem.Value.int (0 : Int) (0 : Nat)), (@PySem.Value.int (0 : Int) (0 : Nat)), (@PySem.Value.int (3 : Int) (0 : Nat)), (@PySem.Value.ref (120 : Nat)), (@PySem.Value.bool Bool.true), (@PySem.Value.int (181 : Int) (0 : Nat)), (@PySem.Value.ref (121 : Nat)), PySem.Value.none, (@PySem.Value.ref (122 : Nat)), (@PySem.Value.ref (123 : Nat)), (@PySem.Value.ref (124 : Nat)), (@PySem.Value.int (335 : Int) (0 : Nat)), (@PySem.Value.int (47 : Int) (0 : Nat)), (@PySem.Value.str (@PySem.Str.ofString "/claim/cut.py") (336 : Nat))])) (List.toArray []))) ::
(nat_lit 126, (@PySem.Obj.mk (@PySem.Value.type "function") Option.none (@PySem.Data.func (PySem.FuncData.mk (@PySem.Str.ofString "read_load") (@PySem.Str.ofString "read_load") (defArgs s_read_load) (PySem.FuncBody.stmts (defBody s_read_load)) (defScope s_read_load) (3 : Nat) [] PySem.Value.none PySem.Value.none PySem.Value.none (@PySem.Value.str (@PySem.Str.ofString "quietprobes.contents") (273 : Nat)) Option.none (@PySem.Value.ref (125 : Nat)) PySem.Value.none (0 : Nat))) (List.toArray []))) ::
(nat_lit 127, (@PySem.Obj.mk (@PySem.Value.type "tuple") Option.none (@PySem.Data.seq (List.toArray []) (0 : Nat)) (List.toArray []))) ::
(nat_lit 130, (@PySem.Obj.mk (@PySem.Value.type "code") Option.none (@PySem.Data.fields (List.toArray [(@PySem.Value.str (@PySem.Str.ofString "read_words") (338 : Nat)), (@PySem.Value.str (@PySem.Str.ofString "read_words") (339 : Nat)), (@PySem.Value.str (@PySem.Str.ofString "/claim/cut.py") (340 : Nat)), (@PySem.Value.int (49 : Int) (0 : Nat)), (@PySem.Value.int (2 : Int) (0 : Nat)), (@PySem.Value.int (0 : Int) (0 : Nat)), (@PySem.Value.int (0 : Int) (0 : Nat)), (@PySem.Value.int (3 : Int) (0 : Nat)), (@PySem.Value.ref (127 : Nat)), (@PySem.Value.bool Bool.true), (@PySem.Value.int (181 : Int) (0 : Nat)), (@PySem.Value.ref (128 : Nat)), PySem.Value.none, PySem.Value.none, PySem.Value.none, (@PySem.Value.ref (129 : Nat)), (@PySem.Value.int (341 : Int) (0 : Nat)), (@PySem.Value.int (49 : Int) (0 : Nat)), (@PySem.Value.str (@PySem.Str.ofString "/claim/cut.py") (342 : Nat))])) (List.toArray []))) ::
(nat_lit 131, (@PySem.Obj.mk (@PySem.Value.type "function") Option.none (@PySem.Data.func (PySem.FuncData.mk (@PySem.Str.ofString "read_words") (@PySem.Str.ofString "read_words") (defArgs s_read_words) (PySem.FuncBody.stmts (defBody s_read_words)) (defScope s_read_words) (3 : Nat) [] PySem.Value.none PySem.Value.none PySem.Value.none (@PySem.Value.str (@PySem.Str.ofString "quietprobes.contents") (273 : Nat)) Option.none (@PySem.Value.ref (130 : Nat)) PySem.Value.none (0 : Nat))) (List.toArray []))) ::
(nat_lit 139, (@PySem.Obj.mk (@PySem.Value.type "tuple") Option.none (@PySem.Data.seq (List.toArray []) (0 : Nat)) (List.toArray []))) ::
(nat_lit 140, (@PySem.Obj.mk (@PySem.Value.type "tuple") Option.none (@PySem.Data.seq (List.toArray []) (0 : Nat)) (List.toArray []))) ::
(nat_lit 141, (@PySem.Obj.mk (@PySem.Value.type "tuple") Option.none (@PySem.Data.seq (List.toArray []) (0 : Nat)) (List.toArray []))) ::
(nat_lit 142, (@PySem.Obj.mk (@PySem.Value.type "tuple") Option.none (@PySem.Data.seq (List.toArray [(@PySem.Value.ref (139 : Nat)), (@PySem.Value.ref (140 : Nat)), (@PySem.Value.ref (141 : Nat))]) (0 : Nat)) (List.toArray []))) ::
(nat_lit 143, (@PySem.Obj.mk (@PySem.Value.type "tuple") Option.none (@PySem.Data.seq (List.toArray []) (0 : Nat)) (List.toArray []))) ::
(nat_lit 146, (@PySem.Obj.mk (@PySem.Value.type "code") Option.none (@PySem.Data.fields (List.toArray [(@PySem.Value.str (@PySem.Str.ofString "__init__") (356 : Nat)), (@PySem.Value.str (@PySem.Str.ofString "Contents.__init__") (357 : Nat)), (@PySem.Value.str (@PySem.Str.ofString "/claim/cut.py") (358 : Nat)), (@PySem.Value.int (53 : Int) (0 : Nat)), (@PySem.Value.int (4 : Int) (0 : Nat)), (@PySem.Value.int (0 : Int) (0 : Nat)), (@PySem.Value.int (0 : Int) (0 : Nat)), (@PySem.Value.int (3 : Int) (0 : Nat)), (@PySem.Value.ref (143 : Nat)), (@PySem.Value.bool Bool.true), (@PySem.Value.int (181 : Int) (0 : Nat)), (@PySem.Value.ref (144 : Nat)), PySem.Value.none, PySem.Value.none, PySem.Value.none, (@PySem.Value.ref (145 : Nat)), (@PySem.Value.int (359 : Int) (0 : Nat)), (@PySem.Value.int (53 : Int) (0 : Nat)), (@PySem.Value.str (@PySem.Str.ofString "/claim/cut.py") (360 : Nat))])) (List.toArray []))) ::
(nat_lit 147, (@PySem.Obj.mk (@PySem.Value.type "function") Option.none (@PySem.Data.func (PySem.FuncData.mk (@PySem.Str.ofString "__init__") (@PySem.Str.ofString "Contents.__init__") (defArgs s_Contents___init__) (PySem.FuncBody.stmts (defBody s_Contents___init__)) (defScope s_Contents___init__) (3 : Nat) [] (@PySem.Value.ref (142 : Nat)) PySem.Value.none PySem.Value.none (@PySem.Value.str (@PySem.Str.ofString "quietprobes.contents") (273 : Nat)) Option.none (@PySem.Value.ref (146 : Nat)) PySem.Value.none (0 : Nat))) (List.toArray []))) ::
(nat_lit 148, (@PySem.Obj.mk (@PySem.Value.type "tuple") Option.none (@PySem.Data.seq (List.toArray []) (0 : Nat)) (List.toArray []))) ::
(nat_lit 150, (@PySem.Obj.mk (@PySem.Value.type "tuple") Option.none (@PySem.Data.seq (List.toArray [(@PySem.Value.str (@PySem.Str.ofString "self") (365 : Nat)), (@PySem.Value.str (@PySem.Str.ofString "other") (366 : Nat))]) (0 : Nat)) (List.toArray []))) ::
(nat_lit 151, (@PySem.Obj.mk (@PySem.Value.type "tuple") Option.none (@PySem.Data.seq (List.toArray []) (0 : Nat)) (List.toArray []))) ::
(nat_lit 153, (@PySem.Obj.mk (@PySem.Value.type "code") Option.none (@PySem.Data.fields (List.toArray [(@PySem.Value.str (@PySem.Str.ofString "__eq__") (362 : Nat)), (@PySem.Value.str (@PySem.Str.ofString "Contents.__eq__") (363 : Nat)), (@PySem.Value.str (@PySem.Str.ofString "/claim/cut.py") (364 : Nat)), (@PySem.Value.int (61 : Int) (0 : Nat)), (@PySem.Value.int (2 : Int) (0 : Nat)), (@PySem.Value.int (0 : Int) (0 : Nat)), (@PySem.Value.int (0 : Int) (0 : Nat)), (@PySem.Value.int (3 : Int) (0 : Nat)), (@PySem.Value.ref (148 : Nat)), (@PySem.Value.bool Bool.true), (@PySem.Value.int (181 : Int) (0 : Nat)), (@PySem.Value.ref (149 : Nat)), PySem.Value.none, (@PySem.Value.ref (150 : Nat)), (@PySem.Value.ref (151 : Nat)), (@PySem.Value.ref (152 : Nat)), (@PySem.Value.int (367 : Int) (0 : Nat)), (@PySem.Value.int (61 : Int) (0 : Nat)), (@PySem.Value.str (@PySem.Str.ofString "/claim/cut.py") (368 : Nat))])) (List.toArray []))) ::
(nat_lit 154, (@PySem.Obj.mk (@PySem.Value.type "function") Option.none (@PySem.Data.func (PySem.FuncData.mk (@PySem.Str.ofString "__eq__") (@PySem.Str.ofString "Contents.__eq__") (defArgs s_Contents___eq__) (PySem.FuncBody.stmts (defBody s_Contents___eq__)) (defScope s_Contents___eq__) (3 : Nat) [] PySem.Value.none PySem.Value.none PySem.Value.none (@PySem.Value.str (@PySem.Str.ofString "quietprobes.contents") (273 : Nat)) Option.none (@PySem.Value.ref (153 : Nat)) PySem.Value.none (0 : Nat))) (List.toArray []))) ::
(nat_lit 155, (@PySem.Obj.mk (@PySem.Value.type "tuple") Option.none (@PySem.Data.seq (List.toArray []) (0 : Nat)) (List.toArray []))) ::
(nat_lit 157, (@PySem.Obj.mk (@PySem.Value.type "tuple") Option.none (@PySem.Data.seq (List.toArray [(@PySem.Value.str (@PySem.Str.ofString "self") (373 : Nat))]) (0 : Nat)) (List.toArray []))) ::
(nat_lit 158, (@PySem.Obj.mk (@PySem.Value.type "tuple") Option.none (@PySem.Data.seq (List.toArray []) (0 : Nat)) (List.toArray []))) ::
(nat_lit 160, (@PySem.Obj.mk (@PySem.Value.type "code") Option.none (@PySem.Data.fields (List.toArray [(@PySem.Value.str (@PySem.Str.ofString "__len__") (370 : Nat)), (@PySem.Value.str (@PySem.Str.ofString "Contents.__len__") (371 : Nat)), (@PySem.Value.str (@PySem.Str.ofString "/claim/cut.py") (372 : Nat)), (@PySem.Value.int (66 : Int) (0 : Nat)), (@PySem.Value.int (1 : Int) (0 : Nat)), (@PySem.Value.int (0 : Int) (0 : Nat)), (@PySem.Value.int (0 : Int) (0 : Nat)), (@PySem.Value.int (3 : Int) (0 : Nat)), (@PySem.Value.ref (155 : Nat)), (@PySem.Value.bool Bool.true), (@PySem.Value.int (181 : Int) (0 : Nat)), (@PySem.Value.ref (156 : Nat)), PySem.Value.none, (@PySem.Value.ref (157 : Nat)), (@PySem.Value.ref (158 : Nat)), (@PySem.Value.ref (159 : Nat)), (@PySem.Value.int (374 : Int) (0 : Nat)), (@PySem.Value.int (66 : Int) (0 : Nat)), (@PySem.Value.str (@PySem.Str.ofString "/claim/cut.py") (375 : Nat))])) (List.toArray []))) ::
(nat_lit 161, (@PySem.Obj.mk (@PySem.Value.type "function") Option.none (@PySem.Data.func (PySem.FuncData.mk (@PySem.Str.ofString "__len__") (@PySem.Str.ofString "Contents.__len__") (defArgs s_Contents___len__) (PySem.FuncBody.stmts (defBody s_Contents___len__)) (defScope s_Contents___len__) (3 : Nat) [] PySem.Value.none PySem.Value.none PySem.Value.none (@PySem.Value.str (@PySem.Str.ofString "quietprobes.contents") (273 : Nat)) Option.none (@PySem.Value.ref (160 : Nat)) PySem.Value.none (0 : Nat))) (List.toArray []))) ::
(nat_lit 162, (@PySem.Obj.mk (@PySem.Value.type "tuple") Option.none (@PySem.Data.seq (List.toArray []) (0 : Nat)) (List.toArray []))) ::
(nat_lit 164, (@PySem.Obj.mk (@PySem.Value.type "tuple") Option.none (@PySem.Data.seq (List.toArray [(@PySem.Value.str (@PySem.Str.ofString "self") (380 : Nat)), (@PySem.Value.str (@PySem.Str.ofString "other") (381 : Nat))]) (0 : Nat)) (List.toArray []))) ::
(nat_lit 165, (@PySem.Obj.mk (@PySem.Value.type "tuple") Option.none (@PySem.Data.seq (List.toArray []) (0 : Nat)) (List.toArray []))) ::
(nat_lit 167, (@PySem.Obj.mk (@PySem.Value.type "code") Option.none (@PySem.Data.fields (List.toArray [(@PySem.Value.str (@PySem.Str.ofString "__add__") (377 : Nat)), (@PySem.Value.str (@PySem.Str.ofString "Contents.__add__") (378 : Nat)), (@PySem.Value.str (@PySem.Str.ofString "/claim/cut.py") (379 : Nat)), (@PySem.Value.int (69 : Int) (0 : Nat)), (@PySem.Value.int (2 : Int) (0 : Nat)), (@PySem.Value.int (0 : Int) (0 : Nat)), (@PySem.Value.int (0 : Int) (0 : Nat)), (@PySem.Value.int (3 : Int) (0 : Nat)), (@PySem.Value.ref (162 : Nat)), (@PySem.Value.bool Bool.true), (@PySem.Value.int (181 : Int) (0 : Nat)), (@PySem.Value.ref (163 : Nat)), PySem.Value.none, (@PySem.Value.ref (164 : Nat)), (@PySem.Value.ref (165 : Nat)), (@PySem.Value.ref (166 : Nat)), (@PySem.Value.int (382 : Int) (0 : Nat)), (@PySem.Value.int (69 : Int) (0 : Nat)), (@PySem.Value.str (@PySem.Str.ofString "/claim/cut.py") (383 : Nat))])) (List.toArray []))) ::
(nat_lit 168, (@PySem.Obj.mk (@PySem.Value.type "function") Option.none (@PySem.Data.func (PySem.FuncData.mk (@PySem.Str.ofString "__add__") (@PySem.Str.ofString "Contents.__add__") (defArgs s_Contents___add__) (PySem.FuncBody.stmts (defBody s_Contents___add__)) (defScope s_Contents___add__) (3 : Nat) [] PySem.Value.none PySem.Value.none PySem.Value.none (@PySem.Value.str (@PySem.Str.ofString "quietprobes.contents") (273 : Nat)) Option.none (@PySem.Value.ref (167 : Nat)) PySem.Value.none (0 : Nat))) (List.toArray []))) ::
(nat_lit 169, (@PySem.Obj.mk (@PySem.Value.type "tuple") Option.none (@PySem.Data.seq (List.toArray []) (0 : Nat)) (List.toArray []))) ::
(nat_lit 172, (@PySem.Obj.mk (@PySem.Value.type "code") Option.none (@PySem.Data.fields (List.toArray [(@PySem.Value.str (@PySem.Str.ofString "__str__") (385 : Nat)), (@PySem.Value.str (@PySem.Str.ofString "Contents.__str__") (386 : Nat)), (@PySem.Value.str (@PySem.Str.ofString "/claim/cut.py") (387 : Nat)), (@PySem.Value.int (72 : Int) (0 : Nat)), (@PySem.Value.int (1 : Int) (0 : Nat)), (@PySem.Value.int (0 : Int) (0 : Nat)), (@PySem.Value.int (0 : Int) (0 : Nat)), (@PySem.Value.int (3 : Int) (0 : Nat)), (@PySem.Value.ref (169 : Nat)), (@PySem.Value.bool Bool.true), (@PySem.Value.int (181 : Int) (0 : Nat)), (@PySem.Value.ref (170 : Nat)), PySem.Value.none, PySem.Value.none, PySem.Value.none, (@PySem.Value.ref (171 : Nat)), (@PySem.Value.int (388 : Int) (0 : Nat)), (@PySem.Value.int (72 : Int) (0 : Nat)), (@PySem.Value.str (@PySem.Str.ofString "/claim/cut.py") (389 : Nat))])) (List.toArray []))) ::
(nat_lit 173, (@PySem.Obj.mk (@PySem.Value.type "function") Option.none (@PySem.Data.func (PySem.FuncData.mk (@PySem.Str.ofString "__str__") (@PySem.Str.ofString "Contents.__str__") (defArgs s_Contents___str__) (PySem.FuncBody.stmts (defBody s_Contents___str__)) (defScope s_Contents___str__) (3 : Nat) [] PySem.Value.none PySem.Value.none PySem.Value.none (@PySem.Value.str (@PySem.Str.ofString "quietprobes.contents") (273 : Nat)) Option.none (@PySem.Value.ref (172 : Nat)) PySem.Value.none (0 : Nat))) (List.toArray []))) ::
(nat_lit 174, (@PySem.Obj.mk (@PySem.Value.type "tuple") Option.none (@PySem.Data.seq (List.toArray []) (0 : Nat)) (List.toArray []))) ::
(nat_lit 176, (@PySem.Obj.mk (@PySem.Value.type "tuple") Option.none (@PySem.Data.seq (List.toArray [(@PySem.Value.str (@PySem.Str.ofString "text") (394 : Nat)), (@PySem.Value.str (@PySem.Str.ofString "parts") (395 : Nat)), (@PySem.Value.str (@PySem.Str.ofString "answers") (396 : Nat)), (@PySem.Value.str (@PySem.Str.ofString "lengths") (397 : Nat)), (@PySem.Value.str (@PySem.Str.ofString "loads") (398 : Nat))]) (0 : Nat)) (List.toArray []))) ::
(nat_lit 177, (@PySem.Obj.mk (@PySem.Value.type "tuple") Option.none (@PySem.Data.seq (List.toArray []) (0 : Nat)) (List.toArray []))) ::
(nat_lit 179, (@PySem.Obj.mk (@PySem.Value.type "code") Option.none (@PySem.Data.fields (List.toArray [(@PySem.Value.str (@PySem.Str.ofString "read") (391 : Nat)), (@PySem.Value.str (@PySem.Str.ofString "Contents.read") (392 : Nat)), (@PySem.Value.str (@PySem.Str.ofString "/claim/cut.py") (393 : Nat)), (@PySem.Value.int (78 : Int) (0 : Nat)), (@PySem.Value.int (1 : Int) (0 : Nat)), (@PySem.Value.int (0 : Int) (0 : Nat)), (@PySem.Value.int (0 : Int) (0 : Nat)), (@PySem.Value.int (3 : Int) (0 : Nat)), (@PySem.Value.ref (174 : Nat)), (@PySem.Value.bool Bool.true), (@PySem.Value.int (181 : Int) (0 : Nat)), (@PySem.Value.ref (175 : Nat)), PySem.Value.none, (@PySem.Value.ref (176 : Nat)), (@PySem.Value.ref (177 : Nat)), (@PySem.Value.ref (178 : Nat)), (@PySem.Value.int (399 : Int) (0 : Nat)), (@PySem.Value.int (78 : Int) (0 : Nat)), (@PySem.Value.str (@PySem.Str.ofString "/claim/cut.py") (400 : Nat))])) (List.toArray []))) ::
(nat_lit 180, (@PySem.Obj.mk (@PySem.Value.type "function") Option.none (@PySem.Data.func (PySem.FuncData.mk (@PySem.Str.ofString "read") (@PySem.Str.ofString "Contents.read") (defArgs s_Contents_read) (PySem.FuncBody.stmts (defBody s_Contents_read)) (defScope s_Contents_read) (3 : Nat) [] PySem.Value.none PySem.Value.none PySem.Value.none (@PySem.Value.str (@PySem.Str.ofString "quietprobes.contents") (273 : Nat)) (Option.some (183 : Nat)) (@PySem.Value.ref (179 : Nat)) PySem.Value.none (0 : Nat))) (List.toArray []))) ::
(nat_lit 181, (@PySem.Obj.mk (@PySem.Value.type "dict") Option.none (@PySem.Data.dict (List.toArray [(@PySem.DictEntry.mk (@PySem.PyData.keyHash P (@PySem.Str.ofString "__module__")) (@PySem.Value.str (@PySem.Str.ofString "__module__") (402 : Nat)) (@PySem.Value.str (@PySem.Str.ofString "quietprobes.contents") (273 : Nat))), (@PySem.DictEntry.mk (@PySem.PyData.keyHash P (@PySem.Str.ofString "__name__")) (@PySem.Value.str (@PySem.Str.ofString "__name__") (405 : Nat)) (@PySem.Value.str (@PySem.Str.ofString "read") (404 : Nat))), (@PySem.DictEntry.mk (@PySem.PyData.keyHash P (@PySem.Str.ofString "__qualname__")) (@PySem.Value.str (@PySem.Str.ofString "__qualname__") (408 : Nat)) (@PySem.Value.str (@PySem.Str.ofString "Contents.read") (407 : Nat))), (@PySem.DictEntry.mk (@PySem.PyData.keyHash P (@PySem.Str.ofString "__doc__")) (@PySem.Value.str (@PySem.Str.ofString "__doc__") (410 : Nat)) PySem.Value.none), (@PySem.DictEntry.mk (@PySem.PyData.keyHash P (@PySem.Str.ofString "__annotations__")) (@PySem.Value.str (@PySem.Str.ofString "__annotations__") (412 : Nat)) (@PySem.Value.ref (183 : Nat)))]) (5 : Nat)) (List.toArray []))) ::
(nat_lit 182, (@PySem.Obj.mk (@PySem.Value.type "staticmethod") (Option.some (181 : Nat)) (@PySem.Data.fields (List.toArray [(@PySem.Value.ref (180 : Nat)), (@PySem.Value.bool Bool.false)])) (List.toArray []))) ::
(nat_lit 183, (@PySem.Obj.mk (@PySem.Value.type "dict") Option.none (@PySem.Data.dict (List.toArray []) (0 : Nat)) (List.toArray []))) ::
(nat_lit 184, (@PySem.Obj.mk (@PySem.Value.type "tuple") Option.none (@PySem.Data.seq (List.toArray [(@PySem.Value.str (@PySem.Str.ofString "answers") (414 : Nat)), (@PySem.Value.str (@PySem.Str.ofString "lengths") (415 : Nat)), (@PySem.Value.str (@PySem.Str.ofString "loads") (416 : Nat))]) (0 : Nat)) (List.toArray []))) ::
(nat_lit 185, (@PySem.Obj.mk (@PySem.Value.type "dict") Option.none (@PySem.Data.dict (List.toArray [(@PySem.DictEntry.mk (@PySem.PyData.keyHash P (@PySem.Str.ofString "__module__")) (@PySem.Value.str (@PySem.Str.ofString "__module__") (351 : Nat)) (@PySem.Value.str (@PySem.Str.ofString "quietprobes.contents") (273 : Nat))), (@PySem.DictEntry.mk (@PySem.PyData.keyHash P (@PySem.Str.ofString "__firstlineno__")) (@PySem.Value.str (@PySem.Str.ofString "__firstlineno__") (355 : Nat)) (@PySem.Value.int (51 : Int) (354 : Nat))), (@PySem.DictEntry.mk (@PySem.PyData.keyHash P (@PySem.Str.ofString "__init__")) (@PySem.Value.str (@PySem.Str.ofString "__init__") (361 : Nat)) (@PySem.Value.ref (147 : Nat))), (@PySem.DictEntry.mk (@PySem.PyData.keyHash P (@PySem.Str.ofString "__eq__")) (@PySem.Value.str (@PySem.Str.ofString "__eq__") (369 : Nat)) (@PySem.Value.ref (154 : Nat))), (@PySem.DictEntry.mk (@PySem.PyData.keyHash P (@PySem.Str.ofString "__len__")) (@PySem.Value.str (@PySem.Str.ofString "__len__") (376 : Nat)) (@PySem.Value.ref (161 : Nat))), (@PySem.DictEntry.mk (@PySem.PyData.keyHash P (@PySem.Str.ofString "__add__")) (@PySem.Value.str (@PySem.Str.ofString "__add__") (384 : Nat)) (@PySem.Value.ref (168 : Nat))), (@PySem.DictEntry.mk (@PySem.PyData.keyHash P (@PySem.Str.ofString "__str__")) (@PySem.Value.str (@PySem.Str.ofString "__str__") (390 : Nat)) (@PySem.Value.ref (173 : Nat))), (@PySem.DictEntry.mk (@PySem.PyData.keyHash P (@PySem.Str.ofString "read")) (@PySem.Value.str (@PySem.Str.ofString "read") (413 : Nat)) (@PySem.Value.ref (182 : Nat))), (@PySem.DictEntry.mk (@PySem.PyData.keyHash P (@PySem.Str.ofString "__static_attributes__")) (@PySem.Value.str (@PySem.Str.ofString "__static_attributes__") (417 : Nat)) (@PySem.Value.ref (184 : Nat))), (@PySem.DictEntry.mk (@PySem.PyData.keyHash P (@PySem.Str.ofString "__dict__")) (@PySem.Value.str (@PySem.Str.ofString "__dict__") (419 : Nat)) (@PySem.Value.ref (187 : Nat))), (@PySem.DictEntry.mk (@PySem.PyData.keyHash P (@PySem.Str.ofString "__weakref__")) (@PySem.Value.str (@PySem.Str.ofString "__weakref__") (421 : Nat)) (@PySem.Value.ref (188 : Nat))), (@PySem.DictEntry.mk (@PySem.PyData.keyHash P (@PySem.Str.ofString "__doc__")) (@PySem.Value.str (@PySem.Str.ofString "__doc__") (422 : Nat)) PySem.Value.none), (@PySem.DictEntry.mk (@PySem.PyData.keyHash P (@PySem.Str.ofString "__hash__")) (@PySem.Value.str (@PySem.Str.ofString "__hash__") (423 : Nat)) PySem.Value.none)]) (5 : Nat)) (List.toArray []))) ::
(nat_lit 186, (@PySem.Obj.mk (@PySem.Value.type "type") Option.none (@PySem.Data.cls (@PySem.ClassData.mk (@PySem.Str.ofString "Contents") [(@PySem.Value.type "object")] [(@PySem.Value.ref (186 : Nat)), (@PySem.Value.type "object")] (185 : Nat) (@PySem.Str.ofString "Contents") Bool.true [] [] Bool.false Option.none Bool.false)) (List.toArray [Option.none, Option.none, (Option.some (@PySem.Value.str (@PySem.Str.ofString "Contents") (344 : Nat))), (Option.some (@PySem.Value.str (@PySem.Str.ofString "Contents") (352 : Nat))), (Option.some (@PySem.Value.builtin "object.__new__")), (Option.some (@PySem.Value.bool Bool.true))]))) ::
(nat_lit 187, (@PySem.Obj.mk (@PySem.Value.type "getset_descriptor") Option.none (@PySem.Data.fields (List.toArray [(@PySem.Value.str (@PySem.Str.ofString "__dict__") (418 : Nat)), (@PySem.Value.ref (186 : Nat)), (@PySem.Value.builtin "function.__dict__"), (@PySem.Value.builtin "function.__dict__#set")])) (List.toArray []))) ::
(nat_lit 188, (@PySem.Obj.mk (@PySem.Value.type "getset_descriptor") Option.none (@PySem.Data.fields (List.toArray [(@PySem.Value.str (@PySem.Str.ofString "__weakref__") (420 : Nat)), (@PySem.Value.ref (186 : Nat)), (@PySem.Value.builtin "ExceptionGroup.__weakref__"), PySem.Value.none])) (List.toArray []))) ::
(nat_lit 191, (@PySem.Obj.mk (@PySem.Value.type "tuple") Option.none (@PySem.Data.seq (List.toArray []) (0 : Nat)) (List.toArray []))) ::
(nat_lit 194, (@PySem.Obj.mk (@PySem.Value.type "code") Option.none (@PySem.Data.fields (List.toArray [(@PySem.Value.str (@PySem.Str.ofString "_law_is_name") (428 : Nat)), (@PySem.Value.str (@PySem.Str.ofString "_law_is_name") (429 : Nat)), (@PySem.Value.str (@PySem.Str.ofString "/claim/cut.py") (430 : Nat)), (@PySem.Value.int (92 : Int) (0 : Nat)), (@PySem.Value.int (1 : Int) (0 : Nat)), (@PySem.Value.int (0 : Int) (0 : Nat)), (@PySem.Value.int (0 : Int) (0 : Nat)), (@PySem.Value.int (3 : Int) (0 : Nat)), (@PySem.Value.ref (191 : Nat)), (@PySem.Value.bool Bool.true), (@PySem.Value.int (181 : Int) (0 : Nat)), (@PySem.Value.ref (192 : Nat)), PySem.Value.none, PySem.Value.none, PySem.Value.none, (@PySem.Value.ref (193 : Nat)), (@PySem.Value.int (431 : Int) (0 : Nat)), (@PySem.Value.int (92 : Int) (0 : Nat)), (@PySem.Value.str (@PySem.Str.ofString "/claim/cut.py") (432 : Nat))])) (List.toArray []))) ::
(nat_lit 195, (@PySem.Obj.mk (@PySem.Value.type "function") Option.none (@PySem.Data.func (PySem.FuncData.mk (@PySem.Str.ofString "_law_is_name") (@PySem.Str.ofString "_law_is_name") (defArgs s__law_is_name) (PySem.FuncBody.stmts (defBody s__law_is_name)) (defScope s__law_is_name) (3 : Nat) [] PySem.Value.none PySem.Value.none PySem.Value.none (@PySem.Value.str (@PySem.Str.ofString "law_quietprobes_k39_contents_read") (426 : Nat)) Option.none (@PySem.Value.ref (194 : Nat)) PySem.Value.none (0 : Nat))) (List.toArray []))) ::
(nat_lit 196, (@PySem.Obj.mk (@PySem.Value.type "tuple") Option.none (@PySem.Data.seq (List.toArray []) (0 : Nat)) (List.toArray []))) ::
(nat_lit 198, (@PySem.Obj.mk (@PySem.Value.type "tuple") Option.none (@PySem.Data.seq (List.toArray [(@PySem.Value.str (@PySem.Str.ofString "_law_pool_here") (437 : Nat)), (@PySem.Value.str (@PySem.Str.ofString "_law_many") (438 : Nat)), (@PySem.Value.str (@PySem.Str.ofString "_law_cell") (439 : Nat)), (@PySem.Value.str (@PySem.Str.ofString "_law_code") (440 : Nat)), (@PySem.Value.str (@PySem.Str.ofString "_law_digit") (441 : Nat)), (@PySem.Value.str (@PySem.Str.ofString "_law_far") (442 : Nat)), (@PySem.Value.str (@PySem.Str.ofString "_law_mixed") (443 : Nat))]) (0 : Nat)) (List.toArray []))) ::
(nat_lit 199, (@PySem.Obj.mk (@PySem.Value.type "tuple") Option.none (@PySem.Data.seq (List.toArray []) (0 : Nat)) (List.toArray []))) ::
(nat_lit 201, (@PySem.Obj.mk (@PySem.Value.type "code") Option.none (@PySem.Data.fields (List.toArray [(@PySem.Value.str (@PySem.Str.ofString "_law_draw") (434 : Nat)), (@PySem.Value.str (@PySem.Str.ofString "_law_draw") (435 : Nat)), (@PySem.Value.str (@PySem.Str.ofString "/claim/cut.py") (436 : Nat)), (@PySem.Value.int (96 : Int) (0 : Nat)), (@PySem.Value.int (2 : Int) (0 : Nat)), (@PySem.Value.int (0 : Int) (0 : Nat)), (@PySem.Value.int (0 : Int) (0 : Nat)), (@PySem.Value.int (3 : Int) (0 : Nat)), (@PySem.Value.ref (196 : Nat)), (@PySem.Value.bool Bool.true), (@PySem.Value.int (181 : Int) (0 : Nat)), (@PySem.Value.ref (197 : Nat)), PySem.Value.none, (@PySem.Value.ref (198 : Nat)), (@PySem.Value.ref (199 : Nat)), (@PySem.Value.ref (200 : Nat)), (@PySem.Value.int (444 : Int) (0 : Nat)), (@PySem.Value.int (96 : Int) (0 : Nat)), (@PySem.Value.str (@PySem.Str.ofString "/claim/cut.py") (445 : Nat))])) (List.toArray []))) ::
(nat_lit 202, (@PySem.Obj.mk (@PySem.Value.type "function") Option.none (@PySem.Data.func (PySem.FuncData.mk (@PySem.Str.ofString "_law_draw") (@PySem.Str.ofString "_law_draw") (defArgs s__law_draw) (PySem.FuncBody.stmts (defBody s__law_draw)) (defScope s__law_draw) (3 : Nat) [] PySem.Value.none PySem.Value.none PySem.Value.none (@PySem.Value.str (@PySem.Str.ofString "law_quietprobes_k39_contents_read") (426 : Nat)) Option.none (@PySem.Value.ref (201 : Nat)) PySem.Value.none (0 : Nat))) (List.toArray []))) ::
(nat_lit 203, (@PySem.Obj.mk (@PySem.Value.type "tuple") Option.none (@PySem.Data.seq (List.toArray []) (0 : Nat)) (List.toArray []))) ::
(nat_lit 205, (@PySem.Obj.mk (@PySem.Value.type "tuple") Option.none (@PySem.Data.seq (List.toArray [(@PySem.Value.str (@PySem.Str.ofString "_law_script") (450 : Nat))]) (0 : Nat)) (List.toArray []))) ::
(nat_lit 206, (@PySem.Obj.mk (@PySem.Value.type "tuple") Option.none (@PySem.Data.seq (List.toArray []) (0 : Nat)) (List.toArray []))) ::
(nat_lit 208, (@PySem.Obj.mk (@PySem.Value.type "code") Option.none (@PySem.Data.fields (List.toArray [(@PySem.Value.str (@PySem.Str.ofString "_law_pool") (447 : Nat)), (@PySem.Value.str (@PySem.Str.ofString "_law_pool") (448 : Nat)), (@PySem.Value.str (@PySem.Str.ofString "/claim/cut.py") (449 : Nat)), (@PySem.Value.int (112 : Int) (0 : Nat)), (@PySem.Value.int (1 : Int) (0 : Nat)), (@PySem.Value.int (0 : Int) (0 : Nat)), (@PySem.Value.int (0 : Int) (0 : Nat)), (@PySem.Value.int (3 : Int) (0 : Nat)), (@PySem.Value.ref (203 : Nat)), (@PySem.Value.bool Bool.true), (@PySem.Value.int (181 : Int) (0 : Nat)), (@PySem.Value.ref (204 : Nat)), PySem.Value.none, (@PySem.Value.ref (205 : Nat)), (@PySem.Value.ref (206 : Nat)), (@PySem.Value.ref (207 : Nat)), (@PySem.Value.int (451 : Int) (0 : Nat)), (@PySem.Value.int (112 : Int) (0 : Nat)), (@PySem.Value.str (@PySem.Str.ofString "/claim/cut.py") (452 : Nat))])) (List.toArray []))) ::
(nat_lit 209, (@PySem.Obj.mk (@PySem.Value.type "function") Option.none (@PySem.Data.func (PySem.FuncData.mk (@PySem.Str.ofString "_law_pool") (@PySem.Str.ofString "_law_pool") (defArgs s__law_pool) (PySem.FuncBody.stmts (defBody s__law_pool)) (defScope s__law_pool) (3 : Nat) [] PySem.Value.none PySem.Value.none PySem.Value.none (@PySem.Value.str (@PySem.Str.ofString "law_quietprobes_k39_contents_read") (426 : Nat)) Option.none (@PySem.Value.ref (208 : Nat)) PySem.Value.none (0 : Nat))) (List.toArray []))) ::
(nat_lit 210, (@PySem.Obj.mk (@PySem.Value.type "tuple") Option.none (@PySem.Data.seq (List.toArray []) (0 : Nat)) (List.toArray []))) ::
(nat_lit 213, (@PySem.Obj.mk (@PySem.Value.type "code") Option.none (@PySem.Data.fields (List.toArray [(@PySem.Value.str (@PySem.Str.ofString "_law_names") (454 : Nat)), (@PySem.Value.str (@PySem.Str.ofString "_law_names") (455 : Nat)), (@PySem.Value.str (@PySem.Str.ofString "/claim/cut.py") (456 : Nat)), (@PySem.Value.int (114 : Int) (0 : Nat)), (@PySem.Value.int (2 : Int) (0 : Nat)), (@PySem.Value.int (0 : Int) (0 : Nat)), (@PySem.Value.int (0 : Int) (0 : Nat)), (@PySem.Value.int (3 : Int) (0 : Nat)), (@PySem.Value.ref (210 : Nat)), (@PySem.Value.bool Bool.true), (@PySem.Value.int (181 : Int) (0 : Nat)), (@PySem.Value.ref (211 : Nat)), PySem.Value.none, PySem.Value.none, PySem.Value.none, (@PySem.Value.ref (212 : Nat)), (@PySem.Value.int (457 : Int) (0 : Nat)), (@PySem.Value.int (114 : Int) (0 : Nat)), (@PySem.Value.str (@PySem.Str.ofString "/claim/cut.py") (458 : Nat))])) (List.toArray []))) ::
(nat_lit 214, (@PySem.Obj.mk (@PySem.Value.type "function") Option.none (@PySem.Data.func (PySem.FuncData.mk (@PySem.Str.ofString "_law_names") (@PySem.Str.ofString "_law_names") (defArgs s__law_names) (PySem.FuncBody.stmts (defBody s__law_names)) (defScope s__law_names) (3 : Nat) [] PySem.Value.none PySem.Value.none PySem.Value.none (@PySem.Value.str (@PySem.Str.ofString "law_quietprobes_k39_contents_read") (426 : Nat)) Option.none (@PySem.Value.ref (213 : Nat)) PySem.Value.none (0 : Nat))) (List.toArray []))) ::
(nat_lit 215, (@PySem.Obj.mk (@PySem.Value.type "tuple") Option.none (@PySem.Data.seq (List.toArray []) (0 : Nat)) (List.toArray []))) ::
(nat_lit 218, (@PySem.Obj.mk (@PySem.Value.type "code") Option.none (@PySem.Data.fields (List.toArray [(@PySem.Value.str (@PySem.Str.ofString "_law_triple") (460 : Nat)), (@PySem.Value.str (@PySem.Str.ofString "_law_triple") (461 : Nat)), (@PySem.Value.str (@PySem.Str.ofString "/claim/cut.py") (462 : Nat)), (@PySem.Value.int (123 : Int) (0 : Nat)), (@PySem.Value.int (2 : Int) (0 : Nat)), (@PySem.Value.int (0 : Int) (0 : Nat)), (@PySem.Value.int (0 : Int) (0 : Nat)), (@PySem.Value.int (3 : Int) (0 : Nat)), (@PySem.Value.ref (215 : Nat)), (@PySem.Value.bool Bool.true), (@PySem.Value.int (181 : Int) (0 : Nat)), (@PySem.Value.ref (216 : Nat)), PySem.Value.none, PySem.Value.none, PySem.Value.none, (@PySem.Value.ref (217 : Nat)), (@PySem.Value.int (463 : Int) (0 : Nat)), (@PySem.Value.int (123 : Int) (0 : Nat)), (@PySem.Value.str (@PySem.Str.ofString "/claim/cut.py") (464 : Nat))])) (List.toArray []))) ::
(nat_lit 219, (@PySem.Obj.mk (@PySem.Value.type "function") Option.none (@PySem.Data.func (PySem.FuncData.mk (@PySem.Str.ofString "_law_triple") (@PySem.Str.ofString "_law_triple") (defArgs s__law_triple) (PySem.FuncBody.stmts (defBody s__law_triple)) (defScope s__law_triple) (3 : Nat) [] PySem.Value.none PySem.Value.none PySem.Value.none (@PySem.Value.str (@PySem.Str.ofString "law_quietprobes_k39_contents_read") (426 : Nat)) Option.none (@PySem.Value.ref (218 : Nat)) PySem.Value.none (0 : Nat))) (List.toArray []))) ::
(nat_lit 220, (@PySem.Obj.mk (@PySem.Value.type "tuple") Option.none (@PySem.Data.seq (List.toArray []) (0 : Nat)) (List.toArray []))) ::
(nat_lit 223, (@PySem.Obj.mk (@PySem.Value.type "code") Option.none (@PySem.Data.fields (List.toArray [(@PySem.Value.str (@PySem.Str.ofString "_law_text") (466 : Nat)), (@PySem.Value.str (@PySem.Str.ofString "_law_text") (467 : Nat)), (@PySem.Value.str (@PySem.Str.ofString "/claim/cut.py") (468 : Nat)), (@PySem.Value.int (136 : Int) (0 : Nat)), (@PySem.Value.int (1 : Int) (0 : Nat)), (@PySem.Value.int (0 : Int) (0 : Nat)), (@PySem.Value.int (0 : Int) (0 : Nat)), (@PySem.Value.int (3 : Int) (0 : Nat)), (@PySem.Value.ref (220 : Nat)), (@PySem.Value.bool Bool.true), (@PySem.Value.int (181 : Int) (0 : Nat)), (@PySem.Value.ref (221 : Nat)), PySem.Value.none, PySem.Value.none, PySem.Value.none, (@PySem.Value.ref (222 : Nat)), (@PySem.Value.int (469 : Int) (0 : Nat)), (@PySem.Value.int (136 : Int) (0 : Nat)), (@PySem.Value.str (@PySem.Str.ofString "/claim/cut.py") (470 : Nat))])) (List.toArray []))) ::
(nat_lit 224, (@PySem.Obj.mk (@PySem.Value.type "function") Option.none (@PySem.Data.func (PySem.FuncData.mk (@PySem.Str.ofString "_law_text") (@PySem.Str.ofString "_law_text") (defArgs s__law_text) (PySem.FuncBody.stmts (defBody s__law_text)) (defScope s__law_text) (3 : Nat) [] PySem.Value.none PySem.Value.none PySem.Value.none (@PySem.Value.str (@PySem.Str.ofString "law_quietprobes_k39_contents_read") (426 : Nat)) Option.none (@PySem.Value.ref (223 : Nat)) PySem.Value.none (0 : Nat))) (List.toArray []))) ::
(nat_lit 225, (@PySem.Obj.mk (@PySem.Value.type "tuple") Option.none (@PySem.Data.seq (List.toArray []) (0 : Nat)) (List.toArray []))) ::
(nat_lit 228, (@PySem.Obj.mk (@PySem.Value.type "code") Option.none (@PySem.Data.fields (List.toArray [(@PySem.Value.str (@PySem.Str.ofString "_law_same") (472 : Nat)), (@PySem.Value.str (@PySem.Str.ofString "_law_same") (473 : Nat)), (@PySem.Value.str (@PySem.Str.ofString "/claim/cut.py") (474 : Nat)), (@PySem.Value.int (140 : Int) (0 : Nat)), (@PySem.Value.int (2 : Int) (0 : Nat)), (@PySem.Value.int (0 : Int) (0 : Nat)), (@PySem.Value.int (0 : Int) (0 : Nat)), (@PySem.Value.int (3 : Int) (0 : Nat)), (@PySem.Value.ref (225 : Nat)), (@PySem.Value.bool Bool.true), (@PySem.Value.int (181 : Int) (0 : Nat)), (@PySem.Value.ref (226 : Nat)), PySem.Value.none, PySem.Value.none, PySem.Value.none, (@PySem.Value.ref (227 : Nat)), (@PySem.Value.int (475 : Int) (0 : Nat)), (@PySem.Value.int (140 : Int) (0 : Nat)), (@PySem.Value.str (@PySem.Str.ofString "/claim/cut.py") (476 : Nat))])) (List.toArray []))) ::
(nat_lit 229, (@PySem.Obj.mk (@PySem.Value.type "function") Option.none (@PySem.Data.func (PySem.FuncData.mk (@PySem.Str.ofString "_law_same") (@PySem.Str.ofString "_law_same") (defArgs s__law_same) (PySem.FuncBody.stmts (defBody s__law_same)) (defScope s__law_same) (3 : Nat) [] PySem.Value.none PySem.Value.none PySem.Value.none (@PySem.Value.str (@PySem.Str.ofString "law_quietprobes_k39_contents_read") (426 : Nat)) Option.none (@PySem.Value.ref (228 : Nat)) PySem.Value.none (0 : Nat))) (List.toArray []))) ::
(nat_lit 230, (@PySem.Obj.mk (@PySem.Value.type "tuple") Option.none (@PySem.Data.seq (List.toArray []) (0 : Nat)) (List.toArray []))) ::
(nat_lit 232, (@PySem.Obj.mk (@PySem.Value.type "tuple") Option.none (@PySem.Data.seq (List.toArray [(@PySem.Value.str (@PySem.Str.ofString "_law_contents") (481 : Nat)), (@PySem.Value.str (@PySem.Str.ofString "_law_triple_here") (482 : Nat)), (@PySem.Value.str (@PySem.Str.ofString "_law_told") (483 : Nat)), (@PySem.Value.str (@PySem.Str.ofString "_law_many") (484 : Nat))]) (0 : Nat)) (List.toArray []))) ::
(nat_lit 233, (@PySem.Obj.mk (@PySem.Value.type "tuple") Option.none (@PySem.Data.seq (List.toArray []) (0 : Nat)) (List.toArray []))) ::
(nat_lit 235, (@PySem.Obj.mk (@PySem.Value.type "code") Option.none (@PySem.Data.fields (List.toArray [(@PySem.Value.str (@PySem.Str.ofString "_law_has") (478 : Nat)), (@PySem.Value.str (@PySem.Str.ofString "_law_has") (479 : Nat)), (@PySem.Value.str (@PySem.Str.ofString "/claim/cut.py") (480 : Nat)), (@PySem.Value.int (156 : Int) (0 : Nat)), (@PySem.Value.int (2 : Int) (0 : Nat)), (@PySem.Value.int (0 : Int) (0 : Nat)), (@PySem.Value.int (0 : Int) (0 : Nat)), (@PySem.Value.int (3 : Int) (0 : Nat)), (@PySem.Value.ref (230 : Nat)), (@PySem.Value.bool Bool.true), (@PySem.Value.int (181 : Int) (0 : Nat)), (@PySem.Value.ref (231 : Nat)), PySem.Value.none, (@PySem.Value.ref (232 : Nat)), (@PySem.Value.ref (233 : Nat)), (@PySem.Value.ref (234 : Nat)), (@PySem.Value.int (485 : Int) (0 : Nat)), (@PySem.Value.int (156 : Int) (0 : Nat)), (@PySem.Value.str (@PySem.Str.ofString "/claim/cut.py") (486 : Nat))])) (List.toArray []))) ::
(nat_lit 236, (@PySem.Obj.mk (@PySem.Value.type "function") Option.none (@PySem.Data.func (PySem.FuncData.mk (@PySem.Str.ofString "_law_has") (@PySem.Str.ofString "_law_has") (defArgs s__law_has) (PySem.FuncBody.stmts (defBody s__law_has)) (defScope s__law_has) (3 : Nat) [] PySem.Value.none PySem.Value.none PySem.Value.none (@PySem.Value.str (@PySem.Str.ofString "law_quietprobes_k39_contents_read") (426 : Nat)) Option.none (@PySem.Value.ref (235 : Nat)) PySem.Value.none (0 : Nat))) (List.toArray []))) ::
(nat_lit 237, (@PySem.Obj.mk (@PySem.Value.type "tuple") Option.none (@PySem.Data.seq (List.toArray []) (0 : Nat)) (List.toArray []))) ::
(nat_lit 240, (@PySem.Obj.mk (@PySem.Value.type "code") Option.none (@PySem.Data.fields (List.toArray [(@PySem.Value.str (@PySem.Str.ofString "_law_number") (488 : Nat)), (@PySem.Value.str (@PySem.Str.ofString "_law_number") (489 : Nat)), (@PySem.Value.str (@PySem.Str.ofString "/claim/cut.py") (490 : Nat)), (@PySem.Value.int (160 : Int) (0 : Nat)), (@PySem.Value.int (1 : Int) (0 : Nat)), (@PySem.Value.int (0 : Int) (0 : Nat)), (@PySem.Value.int (0 : Int) (0 : Nat)), (@PySem.Value.int (3 : Int) (0 : Nat)), (@PySem.Value.ref (237 : Nat)), (@PySem.Value.bool Bool.true), (@PySem.Value.int (181 : Int) (0 : Nat)), (@PySem.Value.ref (238 : Nat)), PySem.Value.none, PySem.Value.none, PySem.Value.none, (@PySem.Value.ref (239 : Nat)), (@PySem.Value.int (491 : Int) (0 : Nat)), (@PySem.Value.int (160 : Int) (0 : Nat)), (@PySem.Value.str (@PySem.Str.ofString "/claim/cut.py") (492 : Nat))])) (List.toArray []))) ::
(nat_lit 241, (@PySem.Obj.mk (@PySem.Value.type "function") Option.none (@PySem.Data.func (PySem.FuncData.mk (@PySem.Str.ofString "_law_number") (@PySem.Str.ofString "_law_number") (defArgs s__law_number) (PySem.FuncBody.stmts (defBody s__law_number)) (defScope s__law_number) (3 : Nat) [] PySem.Value.none PySem.Value.none PySem.Value.none (@PySem.Value.str (@PySem.Str.ofString "law_quietprobes_k39_contents_read") (426 : Nat)) Option.none (@PySem.Value.ref (240 : Nat)) PySem.Value.none (0 : Nat))) (List.toArray []))) ::
(nat_lit 242, (@PySem.Obj.mk (@PySem.Value.type "tuple") Option.none (@PySem.Data.seq (List.toArray []) (0 : Nat)) (List.toArray []))) ::
(nat_lit 245, (@PySem.Obj.mk (@PySem.Value.type "code") Option.none (@PySem.Data.fields (List.toArray [(@PySem.Value.str (@PySem.Str.ofString "_law_member") (494 : Nat)), (@PySem.Value.str (@PySem.Str.ofString "_law_member") (495 : Nat)), (@PySem.Value.str (@PySem.Str.ofString "/claim/cut.py") (496 : Nat)), (@PySem.Value.int (165 : Int) (0 : Nat)), (@PySem.Value.int (2 : Int) (0 : Nat)), (@PySem.Value.int (0 : Int) (0 : Nat)), (@PySem.Value.int (0 : Int) (0 : Nat)), (@PySem.Value.int (3 : Int) (0 : Nat)), (@PySem.Value.ref (242 : Nat)), (@PySem.Value.bool Bool.true), (@PySem.Value.int (181 : Int) (0 : Nat)), (@PySem.Value.ref (243 : Nat)), PySem.Value.none, PySem.Value.none, PySem.Value.none, (@PySem.Value.ref (244 : Nat)), (@PySem.Value.int (497 : Int) (0 : Nat)), (@PySem.Value.int (165 : Int) (0 : Nat)), (@PySem.Value.str (@PySem.Str.ofString "/claim/cut.py") (498 : Nat))])) (List.toArray []))) ::
(nat_lit 246, (@PySem.Obj.mk (@PySem.Value.type "function") Option.none (@PySem.Data.func (PySem.FuncData.mk (@PySem.Str.ofString "_law_member") (@PySem.Str.ofString "_law_member") (defArgs s__law_member) (PySem.FuncBody.stmts (defBody s__law_member)) (defScope s__law_member) (3 : Nat) [] PySem.Value.none PySem.Value.none PySem.Value.none (@PySem.Value.str (@PySem.Str.ofString "law_quietprobes_k39_contents_read") (426 : Nat)) Option.none (@PySem.Value.ref (245 : Nat)) PySem.Value.none (0 : Nat))) (List.toArray []))) ::
(nat_lit 247, (@PySem.Obj.mk (@PySem.Value.type "tuple") Option.none (@PySem.Data.seq (List.toArray []) (0 : Nat)) (List.toArray []))) ::
(nat_lit 250, (@PySem.Obj.mk (@PySem.Value.type "code") Option.none (@PySem.Data.fields (List.toArray [(@PySem.Value.str (@PySem.Str.ofString "_law_understood") (500 : Nat)), (@PySem.Value.str (@PySem.Str.ofString "_law_understood") (501 : Nat)), (@PySem.Value.str (@PySem.Str.ofString "/claim/cut.py") (502 : Nat)), (@PySem.Value.int (174 : Int) (0 : Nat)), (@PySem.Value.int (1 : Int) (0 : Nat)), (@PySem.Value.int (0 : Int) (0 : Nat)), (@PySem.Value.int (0 : Int) (0 : Nat)), (@PySem.Value.int (3 : Int) (0 : Nat)), (@PySem.Value.ref (247 : Nat)), (@PySem.Value.bool Bool.true), (@PySem.Value.int (181 : Int) (0 : Nat)), (@PySem.Value.ref (248 : Nat)), PySem.Value.none, PySem.Value.none, PySem.Value.none, (@PySem.Value.ref (249 : Nat)), (@PySem.Value.int (503 : Int) (0 : Nat)), (@PySem.Value.int (174 : Int) (0 : Nat)), (@PySem.Value.str (@PySem.Str.ofString "/claim/cut.py") (504 : Nat))])) (List.toArray []))) ::
(nat_lit 251, (@PySem.Obj.mk (@PySem.Value.type "function") Option.none (@PySem.Data.func (PySem.FuncData.mk (@PySem.Str.ofString "_law_understood") (@PySem.Str.ofString "_law_understood") (defArgs s__law_understood) (PySem.FuncBody.stmts (defBody s__law_understood)) (defScope s__law_understood) (3 : Nat) [] PySem.Value.none PySem.Value.none PySem.Value.none (@PySem.Value.str (@PySem.Str.ofString "law_quietprobes_k39_contents_read") (426 : Nat)) Option.none (@PySem.Value.ref (250 : Nat)) PySem.Value.none (0 : Nat))) (List.toArray []))) ::
(nat_lit 252, (@PySem.Obj.mk (@PySem.Value.type "tuple") Option.none (@PySem.Data.seq (List.toArray []) (0 : Nat)) (List.toArray []))) ::
(nat_lit 254, (@PySem.Obj.mk (@PySem.Value.type "tuple") Option.none (@PySem.Data.seq (List.toArray [(@PySem.Value.str (@PySem.Str.ofString "_law_pool_here") (509 : Nat)), (@PySem.Value.str (@PySem.Str.ofString "_law_text_here") (510 : Nat)), (@PySem.Value.str (@PySem.Str.ofString "_law_pieces") (511 : Nat)), (@PySem.Value.str (@PySem.Str.ofString "_law_piece") (512 : Nat)), (@PySem.Value.str (@PySem.Str.ofString "_law_at") (513 : Nat)), (@PySem.Value.str (@PySem.Str.ofString "_law_pick") (514 : Nat)), (@PySem.Value.str (@PySem.Str.ofString "_law_parts") (515 : Nat))]) (0 : Nat)) (List.toArray []))) ::
(nat_lit 255, (@PySem.Obj.mk (@PySem.Value.type "tuple") Option.none (@PySem.Data.seq (List.toArray []) (0 : Nat)) (List.toArray []))) ::
(nat_lit 257, (@PySem.Obj.mk (@PySem.Value.type "code") Option.none (@PySem.Data.fields (List.toArray [(@PySem.Value.str (@PySem.Str.ofString "_law_changed") (506 : Nat)), (@PySem.Value.str (@PySem.Str.ofString "_law_changed") (507 : Nat)), (@PySem.Value.str (@PySem.Str.ofString "/claim/cut.py") (508 : Nat)), (@PySem.Value.int (186 : Int) (0 : Nat)), (@PySem.Value.int (2 : Int) (0 : Nat)), (@PySem.Value.int (0 : Int) (0 : Nat)), (@PySem.Value.int (0 : Int) (0 : Nat)), (@PySem.Value.int (3 : Int) (0 : Nat)), (@PySem.Value.ref (252 : Nat)), (@PySem.Value.bool Bool.true), (@PySem.Value.int (181 : Int) (0 : Nat)), (@PySem.Value.ref (253 : Nat)), PySem.Value.none, (@PySem.Value.ref (254 : Nat)), (@PySem.Value.ref (255 : Nat)), (@PySem.Value.ref (256 : Nat)), (@PySem.Value.int (516 : Int) (0 : Nat)), (@PySem.Value.int (186 : Int) (0 : Nat)), (@PySem.Value.str (@PySem.Str.ofString "/claim/cut.py") (517 : Nat))])) (List.toArray []))) ::
(nat_lit 258, (@PySem.Obj.mk (@PySem.Value.type "function") Option.none (@PySem.Data.func (PySem.FuncData.mk (@PySem.Str.ofString "_law_changed") (@PySem.Str.ofString "_law_changed") (defArgs s__law_changed) (PySem.FuncBody.stmts (defBody s__law_changed)) (defScope s__law_changed) (3 : Nat) [] PySem.Value.none PySem.Value.none PySem.Value.none (@PySem.Value.str (@PySem.Str.ofString "law_quietprobes_k39_contents_read") (426 : Nat)) Option.none (@PySem.Value.ref (257 : Nat)) PySem.Value.none (0 : Nat))) (List.toArray []))) ::
(nat_lit 259, (@PySem.Obj.mk (@PySem.Value.type "tuple") Option.none (@PySem.Data.seq (List.toArray []) (0 : Nat)) (List.toArray []))) ::
(nat_lit 261, (@PySem.Obj.mk (@PySem.Value.type "tuple") Option.none (@PySem.Data.seq (List.toArray [(@PySem.Value.str (@PySem.Str.ofString "_law_text_here") (522 : Nat)), (@PySem.Value.str (@PySem.Str.ofString "_law_caught") (523 : Nat)), (@PySem.Value.str (@PySem.Str.ofString "_law_told") (524 : Nat)), (@PySem.Value.str (@PySem.Str.ofString "e") (525 : Nat))]) (0 : Nat)) (List.toArray []))) ::
(nat_lit 262, (@PySem.Obj.mk (@PySem.Value.type "tuple") Option.none (@PySem.Data.seq (List.toArray []) (0 : Nat)) (List.toArray []))) ::
(nat_lit 264, (@PySem.Obj.mk (@PySem.Value.type "code") Option.none (@PySem.Data.fields (List.toArray [(@PySem.Value.str (@PySem.Str.ofString "_law_tried") (519 : Nat)), (@PySem.Value.str (@PySem.Str.ofString "_law_tried") (520 : Nat)), (@PySem.Value.str (@PySem.Str.ofString "/claim/cut.py") (521 : Nat)), (@PySem.Value.int (208 : Int) (0 : Nat)), (@PySem.Value.int (1 : Int) (0 : Nat)), (@PySem.Value.int (0 : Int) (0 : Nat)), (@PySem.Value.int (0 : Int) (0 : Nat)), (@PySem.Value.int (3 : Int) (0 : Nat)), (@PySem.Value.ref (259 : Nat)), (@PySem.Value.bool Bool.true), (@PySem.Value.int (181 : Int) (0 : Nat)), (@PySem.Value.ref (260 : Nat)), PySem.Value.none, (@PySem.Value.ref (261 : Nat)), (@PySem.Value.ref (262 : Nat)), (@PySem.Value.ref (263 : Nat)), (@PySem.Value.int (526 : Int) (0 : Nat)), (@PySem.Value.int (208 : Int) (0 : Nat)), (@PySem.Value.str (@PySem.Str.ofString "/claim/cut.py") (527 : Nat))])) (List.toArray []))) ::
(nat_lit 265, (@PySem.Obj.mk (@PySem.Value.type "function") Option.none (@PySem.Data.func (PySem.FuncData.mk (@PySem.Str.ofString "_law_tried") (@PySem.Str.ofString "_law_tried") (defArgs s__law_tried) (PySem.FuncBody.stmts (defBody s__law_tried)) (defScope s__law_tried) (3 : Nat) [] PySem.Value.none PySem.Value.none PySem.Value.none (@PySem.Value.str (@PySem.Str.ofString "law_quietprobes_k39_contents_read") (426 : Nat)) Option.none (@PySem.Value.ref (264 : Nat)) PySem.Value.none (0 : Nat))) (List.toArray []))) ::
(nat_lit 266, (@PySem.Obj.mk (@PySem.Value.type "tuple") Option.none (@PySem.Data.seq (List.toArray []) (0 : Nat)) (List.toArray []))) ::
(nat_lit 268, (@PySem.Obj.mk (@PySem.Value.type "tuple") Option.none (@PySem.Data.seq (List.toArray [(@PySem.Value.str (@PySem.Str.ofString "_law_pool_here") (532 : Nat)), (@PySem.Value.str (@PySem.Str.ofString "_law_name") (533 : Nat)), (@PySem.Value.str (@PySem.Str.ofString "_law_yes") (534 : Nat)), (@PySem.Value.str (@PySem.Str.ofString "_law_load") (535 : Nat)), (@PySem.Value.str (@PySem.Str.ofString "_law_told") (536 : Nat))]) (0 : Nat)) (List.toArray []))) ::
(nat_lit 269, (@PySem.Obj.mk (@PySem.Value.type "tuple") Option.none (@PySem.Data.seq (List.toArray []) (0 : Nat)) (List.toArray []))) ::
(nat_lit 271, (@PySem.Obj.mk (@PySem.Value.type "code") Option.none (@PySem.Data.fields (List.toArray [(@PySem.Value.str (@PySem.Str.ofString "_law_bounds") (529 : Nat)), (@PySem.Value.str (@PySem.Str.ofString "_law_bounds") (530 : Nat)), (@PySem.Value.str (@PySem.Str.ofString "/claim/cut.py") (531 : Nat)), (@PySem.Value.int (216 : Int) (0 : Nat)), (@PySem.Value.int (1 : Int) (0 : Nat)), (@PySem.Value.int (0 : Int) (0 : Nat)), (@PySem.Value.int (0 : Int) (0 : Nat)), (@PySem.Value.int (3 : Int) (0 : Nat)), (@PySem.Value.ref (266 : Nat)), (@PySem.Value.bool Bool.true), (@PySem.Value.int (181 : Int) (0 : Nat)), (@PySem.Value.ref (267 : Nat)), PySem.Value.none, (@PySem.Value.ref (268 : Nat)), (@PySem.Value.ref (269 : Nat)), (@PySem.Value.ref (270 : Nat)), (@PySem.Value.int (537 : Int) (0 : Nat)), (@PySem.Value.int (216 : Int) (0 : Nat)), (@PySem.Value.str (@PySem.Str.ofString "/claim/cut.py") (538 : Nat))])) (List.toArray []))) ::
(nat_lit 272, (@PySem.Obj.mk (@PySem.Value.type "function") Option.none (@PySem.Data.func (PySem.FuncData.mk (@PySem.Str.ofString "_law_bounds") (@PySem.Str.ofString "_law_bounds") (defArgs s__law_bounds) (PySem.FuncBody.stmts (defBody s__law_bounds)) (defScope s__law_bounds) (3 : Nat) [] PySem.Value.none PySem.Value.none PySem.Value.none (@PySem.Value.str (@PySem.Str.ofString "law_quietprobes_k39_contents_read") (426 : Nat)) Option.none (@PySem.Value.ref (271 : Nat)) PySem.Value.none (0 : Nat))) (List.toArray []))) ::
(nat_lit 273, (@PySem.Obj.mk (@PySem.Value.type "tuple") Option.none (@PySem.Data.seq (List.toArray []) (0 : Nat)) (List.toArray []))) ::
(nat_lit 275, (@PySem.Obj.mk (@PySem.Value.type "tuple") Option.none (@PySem.Data.seq (List.toArray [(@PySem.Value.str (@PySem.Str.ofString "_law_script") (543 : Nat)), (@PySem.Value.str (@PySem.Str.ofString "_law_pool_here") (544 : Nat)), (@PySem.Value.str (@PySem.Str.ofString "_law_turn") (545 : Nat)), (@PySem.Value.str (@PySem.Str.ofString "_law_triple_here") (546 : Nat)), (@PySem.Value.str (@PySem.Str.ofString "_law_k") (547 : Nat)), (@PySem.Value.str (@PySem.Str.ofString "_law_text_here") (548 : Nat)), (@PySem.Value.str (@PySem.Str.ofString "_law_change") (549 : Nat)), (@PySem.Value.str (@PySem.Str.ofString "_law_due") (550 : Nat)), (@PySem.Value.str (@PySem.Str.ofString "_law_told") (551 : Nat)), (@PySem.Value.str (@PySem.Str.ofString "_law_odd") (552 : Nat))]) (0 : Nat)) (List.toArray []))) ::
(nat_lit 276, (@PySem.Obj.mk (@PySem.Value.type "tuple") Option.none (@PySem.Data.seq (List.toArray []) (0 : Nat)) (List.toArray []))) ::
(nat_lit 278, (@PySem.Obj.mk (@PySem.Value.type "code") Option.none (@PySem.Data.fields (List.toArray [(@PySem.Value.str (@PySem.Str.ofString "law") (540 : Nat)), (@PySem.Value.str (@PySem.Str.ofString "law") (541 : Nat)), (@PySem.Value.str (@PySem.Str.ofString "/claim/cut.py") (542 : Nat)), (@PySem.Value.int (224 : Int) (0 : Nat)), (@PySem.Value.int (1 : Int) (0 : Nat)), (@PySem.Value.int (0 : Int) (0 : Nat)), (@PySem.Value.int (0 : Int) (0 : Nat)), (@PySem.Value.int (3 : Int) (0 : Nat)), (@PySem.Value.ref (273 : Nat)), (@PySem.Value.bool Bool.true), (@PySem.Value.int (181 : Int) (0 : Nat)), (@PySem.Value.ref (274 : Nat)), PySem.Value.none, (@PySem.Value.ref (275 : Nat)), (@PySem.Value.ref (276 : Nat)), (@PySem.Value.ref (277 : Nat)), (@PySem.Value.int (553 : Int) (0 : Nat)), (@PySem.Value.int (224 : Int) (0 : Nat)), (@PySem.Value.str (@PySem.Str.ofString "/claim/cut.py") (554 : Nat))])) (List.toArray []))) ::
(nat_lit 279, (@PySem.Obj.mk (@PySem.Value.type "function") Option.none (@PySem.Data.func (PySem.FuncData.mk (@PySem.Str.ofString "law") (@PySem.Str.ofString "law") (defArgs s_law) (PySem.FuncBody.stmts (defBody s_law)) (defScope s_law) (3 : Nat) [] PySem.Value.none PySem.Value.none PySem.Value.none (@PySem.Value.str (@PySem.Str.ofString "law_quietprobes_k39_contents_read") (426 : Nat)) Option.none (@PySem.Value.ref (278 : Nat)) PySem.Value.none (0 : Nat))) (List.toArray []))) :: []
def KAW : List Nat := nat_lit 2 :: nat_lit 3 :: nat_lit 15 :: nat_lit 22 :: nat_lit 23 :: nat_lit 24 :: nat_lit 25 :: nat_lit 28 :: nat_lit 31 :: nat_lit 36 :: nat_lit 37 :: nat_lit 39 :: nat_lit 40 :: nat_lit 42 :: nat_lit 43 :: nat_lit 44 :: nat_lit 45 :: nat_lit 46 :: nat_lit 49 :: nat_lit 52 :: nat_lit 57 :: nat_lit 58 :: nat_lit 60 :: nat_lit 61 :: nat_lit 63 :: nat_lit 64 :: nat_lit 65 :: nat_lit 66 :: nat_lit 67 :: nat_lit 70 :: nat_lit 73 :: nat_lit 74 :: nat_lit 75 :: nat_lit 77 :: nat_lit 78 :: nat_lit 80 :: nat_lit 81 :: nat_lit 82 :: nat_lit 84 :: nat_lit 85 :: nat_lit 87 :: nat_lit 88 :: nat_lit 89 :: nat_lit 92 :: nat_lit 93 :: nat_lit 94 :: nat_lit 97 :: nat_lit 98 :: nat_lit 99 :: nat_lit 101 :: nat_lit 102 :: nat_lit 104 :: nat_lit 105 :: nat_lit 106 :: nat_lit 108 :: nat_lit 109 :: nat_lit 111 :: nat_lit 112 :: nat_lit 113 :: nat_lit 115 :: nat_lit 116 :: nat_lit 118 :: nat_lit 119 :: nat_lit 120 :: nat_lit 122 :: nat_lit 123 :: nat_lit 125 :: nat_lit 126 :: nat_lit 127 :: nat_lit 130 :: nat_lit 131 :: nat_lit 139 :: nat_lit 140 :: nat_lit 141 :: nat_lit 142 :: nat_lit 143 :: nat_lit 146 :: nat_lit 147 :: nat_lit 148 :: nat_lit 150 :: nat_lit 151 :: nat_lit 153 :: nat_lit 154 :: nat_lit 155 :: nat_lit 157 :: nat_lit 158 :: nat_lit 160 :: nat_lit 161 :: nat_lit 162 :: nat_lit 164 :: nat_lit 165 :: nat_lit 167 :: nat_lit 168 :: nat_lit 169 :: nat_lit 172 :: nat_lit 173 :: nat_lit 174 :: nat_lit 176 :: nat_lit 177 :: nat_lit 179 :: nat_lit 180 :: nat_lit 181 :: nat_lit 182 :: nat_lit 183 :: nat_lit 184 :: nat_lit 185 :: nat_lit 186 :: nat_lit 187 :: nat_lit 188 :: nat_lit 191 :: nat_lit 194 :: nat_lit 195 :: nat_lit 196 :: nat_lit 198 :: nat_lit 199 :: nat_lit 201 :: nat_lit 202 :: nat_lit 203 :: nat_lit 205 :: nat_lit 206 :: nat_lit 208 :: nat_lit 209 :: nat_lit 210 :: nat_lit 213 :: nat_lit 214 :: nat_lit 215 :: nat_lit 218 :: nat_lit 219 :: nat_lit 220 :: nat_lit 223 :: nat_lit 224 :: nat_lit 225 :: nat_lit 228 :: nat_lit 229 :: nat_lit 230 :: nat_lit 232 :: nat_lit 233 :: nat_lit 235 :: nat_lit 236 :: nat_lit 237 :: nat_lit 240 :: nat_lit 241 :: nat_lit 242 :: nat_lit 245 :: nat_lit 246 :: nat_lit 247 :: nat_lit 250 :: nat_lit 251 :: nat_lit 252 :: nat_lit 254 :: nat_lit 255 :: nat_lit 257 :: nat_lit 258 :: nat_lit 259 :: nat_lit 261 :: nat_lit 262 :: nat_lit 264 :: nat_lit 265 :: nat_lit 266 :: nat_lit 268 :: nat_lit 269 :: nat_lit 271 :: nat_lit 272 :: nat_lit 273 :: nat_lit 275 :: nat_lit 276 :: nat_lit 278 :: nat_lit 279 :: []
def KF (P : PySem.Params) : PySem.W.Frag := (nat_lit 175, (@PySem.Obj.mk PySem.Value.none Option.none (@PySem.Data.fields (List.toArray [])) (List.toArray []))) :: KW P
def KA : List Nat := nat_lit 175 :: KAW
theorem kf_in {P : PySem.Params} {h : PySem.Heap} (k : (KF P).In h) : (KW P).In h ∧ h.get? 175 = some { cls := .none, data := .fields #[] } := by
  obtain ⟨k, e0⟩ := frag_cons (K := KW P) k (by first | rfl | decide +kernel)
  exact ⟨k, e0⟩
abbrev RR : PySem.W.OpenRow := PySem.W.OpenLaw.row PySem.Challenge.rw_quietprobes_k39_contents_read
abbrev qv : Program := PySem.W.view RR.prog [37]
abbrev loo : List PySem.Str := "QuietError" :: "BadContents" :: "BadText" :: "LETTERS" :: "MOST_LETTERS" :: "is_name" :: "MOST" :: "NAMES" :: "LONGEST" :: "is_short" :: "is_length" :: "is_load" :: "wrong_part" :: "load_text" :: "words_text" :: "read_length" :: "read_load" :: "read_words" :: "Contents" :: "_law_is_name" :: "_law_draw" :: "_law_pool" :: "_law_names" :: "_law_triple" :: "_law_text" :: "_law_same" :: "_law_has" :: "_law_number" :: "_law_member" :: "_law_understood" :: "_law_changed" :: "_law_tried" :: "_law_bounds" :: []
theorem KA_eq (P : PySem.Params) : KA = (KF P).map (·.1) := by kernel_rfl
abbrev hk : PySem.W.Hook := PySem.W.kHook KF KA KA_eq
def obK (s : PySem.W.SharedT) : hk.α := KA.map (HandSHeadRun.getT s)
theorem obK_eq (s : PySem.W.SharedT) : obK s = hk.obs s.abs := by
  show KA.map (HandSHeadRun.getT s) = KA.map s.abs.heap.get?
  exact congrArg KA.map (funext fun a => HandSHeadRun.getT_eq s a)
set_option maxHeartbeats 0 in
theorem run (w : World) : HandSHeadRun.RunEq RR qv hk obK 4204 loo w := by
  intro os
  kernel_rfl
theorem run_all (w : World) : HandSHeadRun.RunEq RR qv hk obK 4204 loo w := run w
set_option maxHeartbeats 0 in
theorem all_mk {l : PySem.W.OpenLaw} {w : World} {K : PySem.W.Frag} {h : Heap} {mg : Str → Option Value} {fa : Addr} (X : K.In h) (G : h.Ns mainGlobals mg) (hfa : mg "law" = some (.ref fa))
    {f0 : Addr} {oc0 kV0 dc0 pm0 cd0 ct0 : Value} {od0 an0 : Option Addr} {sl0 : Array (Option Value)}
    {f1 : Addr} {oc1 kV1 dc1 pm1 cd1 ct1 : Value} {od1 an1 : Option Addr} {sl1 : Array (Option Value)}
    {f2 : Addr} {oc2 kV2 dc2 pm2 cd2 ct2 : Value} {od2 an2 : Option Addr} {sl2 : Array (Option Value)}
    {f3 : Addr} {oc3 kV3 dc3 pm3 cd3 ct3 : Value} {od3 an3 : Option Addr} {sl3 : Array (Option Value)}
    {f4 : Addr} {oc4 kV4 dc4 pm4 cd4 ct4 : Value} {od4 an4 : Option Addr} {sl4 : Array (Option Value)}
    {f5 : Addr} {oc5 kV5 dc5 pm5 cd5 ct5 : Value} {od5 an5 : Option Addr} {sl5 : Array (Option Value)}
    {f6 : Addr} {oc6 kV6 dc6 pm6 cd6 ct6 : Value} {od6 an6 : Option Addr} {sl6 : Array (Option Value)}
    {f7 : Addr} {oc7 kV7 dc7 pm7 cd7 ct7 : Value} {od7 an7 : Option Addr} {sl7 : Array (Option Value)}
    {f8 : Addr} {oc8 kV8 dc8 pm8 cd8 ct8 : Value} {od8 an8 : Option Addr} {sl8 : Array (Option Value)}
    {f9 : Addr} {oc9 kV9 dc9 pm9 cd9 ct9 : Value} {od9 an9 : Option Addr} {sl9 : Array (Option Value)}
    {f10 : Addr} {oc10 kV10 dc10 pm10 cd10 ct10 : Value} {od10 an10 : Option Addr} {sl10 : Array (Option Value)}
    {f11 : Addr} {oc11 kV11 dc11 pm11 cd11 ct11 : Value} {od11 an11 : Option Addr} {sl11 : Array (Option Value)}
    {f12 : Addr} {oc12 kV12 dc12 pm12 cd12 ct12 : Value} {od12 an12 : Option Addr} {sl12 : Array (Option Value)}
    {f13 : Addr} {oc13 kV13 dc13 pm13 cd13 ct13 : Value} {od13 an13 : Option Addr} {sl13 : Array (Option Value)}
    {f14 : Addr} {oc14 kV14 dc14 pm14 cd14 ct14 : Value} {od14 an14 : Option Addr} {sl14 : Array (Option Value)}
    {f15 : Addr} {oc15 kV15 dc15 pm15 cd15 ct15 : Value} {od15 an15 : Option Addr} {sl15 : Array (Option Value)}
    {f16 : Addr} {oc16 kV16 dc16 pm16 cd16 ct16 : Value} {od16 an16 : Option Addr} {sl16 : Array (Option Value)}
    {f17 : Addr} {oc17 kV17 dc17 pm17 cd17 ct17 : Value} {od17 an17 : Option Addr} {sl17 : Array (Option Value)}
    {f18 : Addr} {oc18 kV18 dc18 pm18 cd18 ct18 : Value} {od18 an18 : Option Addr} {sl18 : Array (Option Value)}
    {f19 : Addr} {oc19 kV19 dc19 pm19 cd19 ct19 : Value} {od19 an19 : Option Addr} {sl19 : Array (Option Value)}
    {f20 : Addr} {oc20 kV20 dc20 pm20 cd20 ct20 : Value} {od20 an20 : Option Addr} {sl20 : Array (Option Value)}
    {f21 : Addr} {oc21 kV21 dc21 pm21 cd21 ct21 : Value} {od21 an21 : Option Addr} {sl21 : Array (Option Value)}
    {f22 : Addr} {oc22 kV22 dc22 pm22 cd22 ct22 : Value} {od22 an22 : Option Addr} {sl22 : Array (Option Value)}
    {f23 : Addr} {oc23 kV23 dc23 pm23 cd23 ct23 : Value} {od23 an23 : Option Addr} {sl23 : Array (Option Value)}
    {f24 : Addr} {oc24 kV24 dc24 pm24 cd24 ct24 : Value} {od24 an24 : Option Addr} {sl24 : Array (Option Value)}
    {st_LETTERS : Tok}
    {it_MOST_LETTERS : Tok}
    {it_MOST : Tok}
    {it_NAMES : Tok}
    {it_LONGEST : Tok}
    {C_BadContents fI_BadContents cc_BadContents cda_BadContents N_BadContents : Addr} {kV_BadContents dc_BadContents pm_BadContents ct_BadContents oc_BadContents ccl_BadContents cl_BadContents : Value} {an_BadContents od_BadContents cdd_BadContents cld_BadContents : Option Addr} {osl_BadContents ccs_BadContents csl_BadContents : Array (Option Value)} {vs_BadContents : Array Value} {file_BadContents : Str} {tf_BadContents : Tok} {nm_BadContents q_BadContents : Str} {bs_BadContents bm_BadContents : List Value} {sn_BadContents : List Str} {sub_BadContents : List Value} {ab_BadContents : Bool} {col_BadContents : Option Bool} {dd_BadContents : Option Addr} {k0_BadContents k1_BadContents k2_BadContents k3_BadContents k5_BadContents : Option Value}
    {C_BadText fI_BadText cc_BadText cda_BadText N_BadText : Addr} {kV_BadText dc_BadText pm_BadText ct_BadText oc_BadText ccl_BadText cl_BadText : Value} {an_BadText od_BadText cdd_BadText cld_BadText : Option Addr} {osl_BadText ccs_BadText csl_BadText : Array (Option Value)} {vs_BadText : Array Value} {file_BadText : Str} {tf_BadText : Tok} {nm_BadText q_BadText : Str} {bs_BadText bm_BadText : List Value} {sn_BadText : List Str} {sub_BadText : List Value} {ab_BadText : Bool} {col_BadText : Option Bool} {dd_BadText : Option Addr} {k0_BadText k1_BadText k2_BadText k3_BadText k5_BadText : Option Value}
    {C_Contents : Addr}
    {if_Contents : Addr} {ioc_Contents idV_Contents ikV_Contents idc_Contents ipm_Contents icd_Contents ict_Contents : Value} {iod_Contents ian_Contents : Option Addr} {isl_Contents : Array (Option Value)}
    {idT_Contents : Addr} {idto_Contents : Option Addr} {idti_Contents : Array Value} {idtn_Contents : Nat} {idsl_Contents : Array (Option Value)}
    {ide0_Contents : Addr} {ideo0_Contents : Option Addr} {idei0_Contents : Array Value} {iden0_Contents : Nat} {ides0_Contents : Array (Option Value)}
    {ide1_Contents : Addr} {ideo1_Contents : Option Addr} {idei1_Contents : Array Value} {iden1_Contents : Nat} {ides1_Contents : Array (Option Value)}
    {ide2_Contents : Addr} {ideo2_Contents : Option Addr} {idei2_Contents : Array Value} {iden2_Contents : Nat} {ides2_Contents : Array (Option Value)}
    {lf_Contents : Addr} {loc_Contents lkV_Contents ldc_Contents lpm_Contents lcd_Contents lct_Contents : Value} {lod_Contents lan_Contents : Option Addr} {lsl_Contents : Array (Option Value)}
    {s0p_Contents : Addr} {s0r_Contents : List Value}
    {s0f_Contents : Addr} {s0oc_Contents s0kV_Contents s0dc_Contents s0pm_Contents s0cd_Contents s0ct_Contents : Value} {s0od_Contents s0an_Contents : Option Addr} {s0sl_Contents : Array (Option Value)}
    {cdc_0 TP_0 : Addr}
    (a0 : PySem.W.nsIn K mainGlobals "is_name" = some (some (.ref f0))) (l0 : K.lookup f0 = some ⟨oc0, od0, .func (PySem.W.fnOf "is_name" "is_name" (defArgs s_is_name) (defBody s_is_name) (defScope s_is_name) .none kV0 dc0 pm0 an0 cd0 ct0), sl0⟩) (c0 : PySem.W.codeIn K cd0 "is_name" = true) (k0 : PySem.W.keepIn K (.ref f0) = true)
    (a1 : PySem.W.nsIn K mainGlobals "is_short" = some (some (.ref f1))) (l1 : K.lookup f1 = some ⟨oc1, od1, .func (PySem.W.fnOf "is_short" "is_short" (defArgs s_is_short) (defBody s_is_short) (defScope s_is_short) .none kV1 dc1 pm1 an1 cd1 ct1), sl1⟩) (c1 : PySem.W.codeIn K cd1 "is_short" = true) (k1 : PySem.W.keepIn K (.ref f1) = true)
    (a2 : PySem.W.nsIn K mainGlobals "is_length" = some (some (.ref f2))) (l2 : K.lookup f2 = some ⟨oc2, od2, .func (PySem.W.fnOf "is_length" "is_length" (defArgs s_is_length) (defBody s_is_length) (defScope s_is_length) .none kV2 dc2 pm2 an2 cd2 ct2), sl2⟩) (c2 : PySem.W.codeIn K cd2 "is_length" = true) (k2 : PySem.W.keepIn K (.ref f2) = true)
    (a3 : PySem.W.nsIn K mainGlobals "is_load" = some (some (.ref f3))) (l3 : K.lookup f3 = some ⟨oc3, od3, .func (PySem.W.fnOf "is_load" "is_load" (defArgs s_is_load) (defBody s_is_load) (defScope s_is_load) .none kV3 dc3 pm3 an3 cd3 ct3), sl3⟩) (c3 : PySem.W.codeIn K cd3 "is_load" = true) (k3 : PySem.W.keepIn K (.ref f3) = true)
    (a4 : PySem.W.nsIn K mainGlobals "wrong_part" = some (some (.ref f4))) (l4 : K.lookup f4 = some ⟨oc4, od4, .func (PySem.W.fnOf "wrong_part" "wrong_part" (defArgs s_wrong_part) (defBody s_wrong_part) (defScope s_wrong_part) .none kV4 dc4 pm4 an4 cd4 ct4), sl4⟩) (c4 : PySem.W.codeIn K cd4 "wrong_part" = true) (k4 : PySem.W.keepIn K (.ref f4) = true)
    (a5 : PySem.W.nsIn K mainGlobals "load_text" = some (some (.ref f5))) (l5 : K.lookup f5 = some ⟨oc5, od5, .func (PySem.W.fnOf "load_text" "load_text" (defArgs s_load_text) (defBody s_load_text) (defScope s_load_text) .none kV5 dc5 pm5 an5 cd5 ct5), sl5⟩) (c5 : PySem.W.codeIn K cd5 "load_text" = true) (k5 : PySem.W.keepIn K (.ref f5) = true)
    (a6 : PySem.W.nsIn K mainGlobals "words_text" = some (some (.ref f6))) (l6 : K.lookup f6 = some ⟨oc6, od6, .func (PySem.W.fnOf "words_text" "words_text" (defArgs s_words_text) (defBody s_words_text) (defScope s_words_text) .none kV6 dc6 pm6 an6 cd6 ct6), sl6⟩) (c6 : PySem.W.codeIn K cd6 "words_text" = true) (k6 : PySem.W.keepIn K (.ref f6) = true)
    (a7 : PySem.W.nsIn K mainGlobals "read_length" = some (some (.ref f7))) (l7 : K.lookup f7 = some ⟨oc7, od7, .func (PySem.W.fnOf "read_length" "read_length" (defArgs s_read_length) (defBody s_read_length) (defScope s_read_length) .none kV7 dc7 pm7 an7 cd7 ct7), sl7⟩) (c7 : PySem.W.codeIn K cd7 "read_length" = true) (k7 : PySem.W.keepIn K (.ref f7) = true)
    (a8 : PySem.W.nsIn K mainGlobals "read_load" = some (some (.ref f8))) (l8 : K.lookup f8 = some ⟨oc8, od8, .func (PySem.W.fnOf "read_load" "read_load" (defArgs s_read_load) (defBody s_read_load) (defScope s_read_load) .none kV8 dc8 pm8 an8 cd8 ct8), sl8⟩) (c8 : PySem.W.codeIn K cd8 "read_load" = true) (k8 : PySem.W.keepIn K (.ref f8) = true)
    (a9 : PySem.W.nsIn K mainGlobals "read_words" = some (some (.ref f9))) (l9 : K.lookup f9 = some ⟨oc9, od9, .func (PySem.W.fnOf "read_words" "read_words" (defArgs s_read_words) (defBody s_read_words) (defScope s_read_words) .none kV9 dc9 pm9 an9 cd9 ct9), sl9⟩) (c9 : PySem.W.codeIn K cd9 "read_words" = true) (k9 : PySem.W.keepIn K (.ref f9) = true)
    (a10 : PySem.W.nsIn K mainGlobals "_law_is_name" = some (some (.ref f10))) (l10 : K.lookup f10 = some ⟨oc10, od10, .func (PySem.W.fnOf "_law_is_name" "_law_is_name" (defArgs s__law_is_name) (defBody s__law_is_name) (defScope s__law_is_name) .none kV10 dc10 pm10 an10 cd10 ct10), sl10⟩) (c10 : PySem.W.codeIn K cd10 "_law_is_name" = true) (k10 : PySem.W.keepIn K (.ref f10) = true)
    (a11 : PySem.W.nsIn K mainGlobals "_law_draw" = some (some (.ref f11))) (l11 : K.lookup f11 = some ⟨oc11, od11, .func (PySem.W.fnOf "_law_draw" "_law_draw" (defArgs s__law_draw) (defBody s__law_draw) (defScope s__law_draw) .none kV11 dc11 pm11 an11 cd11 ct11), sl11⟩) (c11 : PySem.W.codeIn K cd11 "_law_draw" = true) (k11 : PySem.W.keepIn K (.ref f11) = true)
    (a12 : PySem.W.nsIn K mainGlobals "_law_pool" = some (some (.ref f12))) (l12 : K.lookup f12 = some ⟨oc12, od12, .func (PySem.W.fnOf "_law_pool" "_law_pool" (defArgs s__law_pool) (defBody s__law_pool) (defScope s__law_pool) .none kV12 dc12 pm12 an12 cd12 ct12), sl12⟩) (c12 : PySem.W.codeIn K cd12 "_law_pool" = true) (k12 : PySem.W.keepIn K (.ref f12) = true)
    (a13 : PySem.W.nsIn K mainGlobals "_law_names" = some (some (.ref f13))) (l13 : K.lookup f13 = some ⟨oc13, od13, .func (PySem.W.fnOf "_law_names" "_law_names" (defArgs s__law_names) (defBody s__law_names) (defScope s__law_names) .none kV13 dc13 pm13 an13 cd13 ct13), sl13⟩) (c13 : PySem.W.codeIn K cd13 "_law_names" = true) (k13 : PySem.W.keepIn K (.ref f13) = true)
    (a14 : PySem.W.nsIn K mainGlobals "_law_triple" = some (some (.ref f14))) (l14 : K.lookup f14 = some ⟨oc14, od14, .func (PySem.W.fnOf "_law_triple" "_law_triple" (defArgs s__law_triple) (defBody s__law_triple) (defScope s__law_triple) .none kV14 dc14 pm14 an14 cd14 ct14), sl14⟩) (c14 : PySem.W.codeIn K cd14 "_law_triple" = true) (k14 : PySem.W.keepIn K (.ref f14) = true)
    (a15 : PySem.W.nsIn K mainGlobals "_law_text" = some (some (.ref f15))) (l15 : K.lookup f15 = some ⟨oc15, od15, .func (PySem.W.fnOf "_law_text" "_law_text" (defArgs s__law_text) (defBody s__law_text) (defScope s__law_text) .none kV15 dc15 pm15 an15 cd15 ct15), sl15⟩) (c15 : PySem.W.codeIn K cd15 "_law_text" = true) (k15 : PySem.W.keepIn K (.ref f15) = true)
    (a16 : PySem.W.nsIn K mainGlobals "_law_same" = some (some (.ref f16))) (l16 : K.lookup f16 = some ⟨oc16, od16, .func (PySem.W.fnOf "_law_same" "_law_same" (defArgs s__law_same) (defBody s__law_same) (defScope s__law_same) .none kV16 dc16 pm16 an16 cd16 ct16), sl16⟩) (c16 : PySem.W.codeIn K cd16 "_law_same" = true) (k16 : PySem.W.keepIn K (.ref f16) = true)
    (a17 : PySem.W.nsIn K mainGlobals "_law_has" = some (some (.ref f17))) (l17 : K.lookup f17 = some ⟨oc17, od17, .func (PySem.W.fnOf "_law_has" "_law_has" (defArgs s__law_has) (defBody s__law_has) (defScope s__law_has) .none kV17 dc17 pm17 an17 cd17 ct17), sl17⟩) (c17 : PySem.W.codeIn K cd17 "_law_has" = true) (k17 : PySem.W.keepIn K (.ref f17) = true)
    (a18 : PySem.W.nsIn K mainGlobals "_law_number" = some (some (.ref f18))) (l18 : K.lookup f18 = some ⟨oc18, od18, .func (PySem.W.fnOf "_law_number" "_law_number" (defArgs s__law_number) (defBody s__law_number) (defScope s__law_number) .none kV18 dc18 pm18 an18 cd18 ct18), sl18⟩) (c18 : PySem.W.codeIn K cd18 "_law_number" = true) (k18 : PySem.W.keepIn K (.ref f18) = true)
    (a19 : PySem.W.nsIn K mainGlobals "_law_member" = some (some (.ref f19))) (l19 : K.lookup f19 = some ⟨oc19, od19, .func (PySem.W.fnOf "_law_member" "_law_member" (defArgs s__law_member) (defBody s__law_member) (defScope s__law_member) .none kV19 dc19 pm19 an19 cd19 ct19), sl19⟩) (c19 : PySem.W.codeIn K cd19 "_law_member" = true) (k19 : PySem.W.keepIn K (.ref f19) = true)
    (a20 : PySem.W.nsIn K mainGlobals "_law_understood" = some (some (.ref f20))) (l20 : K.lookup f20 = some ⟨oc20, od20, .func (PySem.W.fnOf "_law_understood" "_law_understood" (defArgs s__law_understood) (defBody s__law_understood) (defScope s__law_understood) .none kV20 dc20 pm20 an20 cd20 ct20), sl20⟩) (c20 : PySem.W.codeIn K cd20 "_law_understood" = true) (k20 : PySem.W.keepIn K (.ref f20) = true)
    (a21 : PySem.W.nsIn K mainGlobals "_law_changed" = some (some (.ref f21))) (l21 : K.lookup f21 = some ⟨oc21, od21, .func (PySem.W.fnOf "_law_changed" "_law_changed" (defArgs s__law_changed) (defBody s__law_changed) (defScope s__law_changed) .none kV21 dc21 pm21 an21 cd21 ct21), sl21⟩) (c21 : PySem.W.codeIn K cd21 "_law_changed" = true) (k21 : PySem.W.keepIn K (.ref f21) = true)
    (a22 : PySem.W.nsIn K mainGlobals "_law_tried" = some (some (.ref f22))) (l22 : K.lookup f22 = some ⟨oc22, od22, .func (PySem.W.fnOf "_law_tried" "_law_tried" (defArgs s__law_tried) (defBody s__law_tried) (defScope s__law_tried) .none kV22 dc22 pm22 an22 cd22 ct22), sl22⟩) (c22 : PySem.W.codeIn K cd22 "_law_tried" = true) (k22 : PySem.W.keepIn K (.ref f22) = true)
    (a23 : PySem.W.nsIn K mainGlobals "_law_bounds" = some (some (.ref f23))) (l23 : K.lookup f23 = some ⟨oc23, od23, .func (PySem.W.fnOf "_law_bounds" "_law_bounds" (defArgs s__law_bounds) (defBody s__law_bounds) (defScope s__law_bounds) .none kV23 dc23 pm23 an23 cd23 ct23), sl23⟩) (c23 : PySem.W.codeIn K cd23 "_law_bounds" = true) (k23 : PySem.W.keepIn K (.ref f23) = true)
    (a24 : PySem.W.nsIn K mainGlobals "law" = some (some (.ref f24))) (l24 : K.lookup f24 = some ⟨oc24, od24, .func (PySem.W.fnOf "law" "law" (defArgs s_law) (defBody s_law) (defScope s_law) .none kV24 dc24 pm24 an24 cd24 ct24), sl24⟩) (c24 : PySem.W.codeIn K cd24 "law" = true) (k24 : PySem.W.keepIn K (.ref f24) = true)
    (z_len : PySem.W.nsIn K mainGlobals "len" = some none)
    (z_int : PySem.W.nsIn K mainGlobals "int" = some none)
    (z_list : PySem.W.nsIn K mainGlobals "list" = some none)
    (z_tuple : PySem.W.nsIn K mainGlobals "tuple" = some none)
    (z_isi : PySem.W.nsIn K mainGlobals "isinstance" = some none)
    (z_range : PySem.W.nsIn K mainGlobals "range" = some none)
    (z_all : PySem.W.nsIn K mainGlobals "all" = some none)
    (z_any : PySem.W.nsIn K mainGlobals "any" = some none)
    (z_str : PySem.W.nsIn K mainGlobals "str" = some none)
    (z_bool : PySem.W.nsIn K mainGlobals "bool" = some none)
    (z_enum : PySem.W.nsIn K mainGlobals "enumerate" = some none)
    (z_zip : PySem.W.nsIn K mainGlobals "zip" = some none)
    (z_sum : PySem.W.nsIn K mainGlobals "sum" = some none)
    (z_max : PySem.W.nsIn K mainGlobals "max" = some none)
    (z_min : PySem.W.nsIn K mainGlobals "min" = some none)
    (z_sorted : PySem.W.nsIn K mainGlobals "sorted" = some none)
    (z_set : PySem.W.nsIn K mainGlobals "set" = some none)
    (z_dict : PySem.W.nsIn K mainGlobals "dict" = some none)
    (sa_LETTERS : PySem.W.nsIn K mainGlobals "LETTERS" = some (some (.str abc st_LETTERS)))
    (ia_MOST_LETTERS : PySem.W.nsIn K mainGlobals "MOST_LETTERS" = some (some (.int 8 it_MOST_LETTERS)))
    (ia_MOST : PySem.W.nsIn K mainGlobals "MOST" = some (some (.int 1000 it_MOST)))
    (ia_NAMES : PySem.W.nsIn K mainGlobals "NAMES" = some (some (.int 100 it_NAMES)))
    (ia_LONGEST : PySem.W.nsIn K mainGlobals "LONGEST" = some (some (.int (10 ^ 30) it_LONGEST)))
    (oq : PySem.W.nsIn K cStatics "thirdparty.any" = some none) (z_super : PySem.W.nsIn K mainGlobals "super" = some none) (gtc : PySem.W.specialIn K (.builtin "object.__class__") "__get__" = some (some (.builtin "getset_descriptor.__get__"))) (tkc : PySem.W.takesIn K (.builtin "object.__class__") = some true) (tsup : (l.prog.main.scope.names.lookup ("super" : Str)).isSome = false)
    (ecg_BadContents : PySem.W.nsIn K mainGlobals "BadContents" = some (some (.ref C_BadContents)))
    (exL_BadContents : K.lookup C_BadContents = some (excClassObj nm_BadContents q_BadContents C_BadContents N_BadContents bs_BadContents bm_BadContents true sn_BadContents sub_BadContents ab_BadContents col_BadContents dd_BadContents k0_BadContents k1_BadContents k2_BadContents k3_BadContents k5_BadContents "ValueError.__new__"))
    (esa_BadContents : PySem.W.findIn K (.ref C_BadContents) "__setattr__" = some (some (.builtin "object.__setattr__")))
    (eex_BadContents : PySem.W.subIn K (.ref C_BadContents) (.type "BaseException") = some true)
    (ety_BadContents : PySem.W.typeIn K (.ref C_BadContents) = some (.type "type"))
    (ekC_BadContents : PySem.W.keepIn K (.ref C_BadContents) = true)
    (ei1_BadContents : PySem.W.findIn K (.ref C_BadContents) "__init__" = some (some (.ref fI_BadContents)))
    (ei2_BadContents : PySem.W.typeIn K (.ref fI_BadContents) = some (.type "function"))
    (emr_BadContents : PySem.W.mroIn K C_BadContents (.ref C_BadContents) = some true)
    (esv_BadContents : PySem.W.subIn K (.ref C_BadContents) (.type "ValueError") = some true)
    (esu_BadContents : PySem.W.ks_superIn K C_BadContents C_BadContents "__init__" = some (some (.builtin "ValueError.__init__")))
    (elk_BadContents : K.lookup fI_BadContents = some ⟨oc_BadContents, od_BadContents, .func (PySem.W.ksFn "__init__" "BadContents.__init__" (defArgs s_BadContents___init__) (defBody s_BadContents___init__) (defScope s_BadContents___init__) .none kV_BadContents dc_BadContents pm_BadContents an_BadContents (.ref cda_BadContents) ct_BadContents cc_BadContents), osl_BadContents⟩)
    (ehc_BadContents : PySem.W.codeIn K (.ref cda_BadContents) "BadContents.__init__" = true)
    (eno_BadContents : PySem.W.findIn K (.ref C_BadContents) "part" = some none)
    (eco_BadContents : K.lookup cda_BadContents = some ⟨ccl_BadContents, cdd_BadContents, .fields vs_BadContents, ccs_BadContents⟩)
    (ece_BadContents : K.lookup cc_BadContents = some ⟨cl_BadContents, cld_BadContents, .cell (some (.ref C_BadContents)), csl_BadContents⟩)
    (ega_BadContents : PySem.W.findIn K (.ref C_BadContents) "__getattribute__" = some (some (.builtin "BaseException.__getattribute__")))
    (egg_BadContents : PySem.W.findIn K (.ref C_BadContents) "__getattr__" = some none)
    (ehd_BadContents : PySem.W.hasDictIn K C_BadContents = true)
    (ese_BadContents : PySem.W.subIn K (.ref C_BadContents) (.ref C_BadContents) = some true)
    (ebm_BadContents : PySem.HandSPX.refsVE bm_BadContents = true)
    (evs_BadContents : vs_BadContents[2]? = some (.str file_BadContents tf_BadContents))
    (efl_BadContents : ((l.prog.main.file : Str) == file_BadContents) = true)
    (ecg_BadText : PySem.W.nsIn K mainGlobals "BadText" = some (some (.ref C_BadText)))
    (exL_BadText : K.lookup C_BadText = some (excClassObj nm_BadText q_BadText C_BadText N_BadText bs_BadText bm_BadText true sn_BadText sub_BadText ab_BadText col_BadText dd_BadText k0_BadText k1_BadText k2_BadText k3_BadText k5_BadText "ValueError.__new__"))
    (esa_BadText : PySem.W.findIn K (.ref C_BadText) "__setattr__" = some (some (.builtin "object.__setattr__")))
    (eex_BadText : PySem.W.subIn K (.ref C_BadText) (.type "BaseException") = some true)
    (ety_BadText : PySem.W.typeIn K (.ref C_BadText) = some (.type "type"))
    (ekC_BadText : PySem.W.keepIn K (.ref C_BadText) = true)
    (ei1_BadText : PySem.W.findIn K (.ref C_BadText) "__init__" = some (some (.ref fI_BadText)))
    (ei2_BadText : PySem.W.typeIn K (.ref fI_BadText) = some (.type "function"))
    (emr_BadText : PySem.W.mroIn K C_BadText (.ref C_BadText) = some true)
    (esv_BadText : PySem.W.subIn K (.ref C_BadText) (.type "ValueError") = some true)
    (esu_BadText : PySem.W.ks_superIn K C_BadText C_BadText "__init__" = some (some (.builtin "ValueError.__init__")))
    (elk_BadText : K.lookup fI_BadText = some ⟨oc_BadText, od_BadText, .func (PySem.W.ksFn "__init__" "BadText.__init__" (defArgs s_BadText___init__) (defBody s_BadText___init__) (defScope s_BadText___init__) .none kV_BadText dc_BadText pm_BadText an_BadText (.ref cda_BadText) ct_BadText cc_BadText), osl_BadText⟩)
    (ehc_BadText : PySem.W.codeIn K (.ref cda_BadText) "BadText.__init__" = true)
    (eno_BadText : PySem.W.findIn K (.ref C_BadText) "line" = some none)
    (eco_BadText : K.lookup cda_BadText = some ⟨ccl_BadText, cdd_BadText, .fields vs_BadText, ccs_BadText⟩)
    (ece_BadText : K.lookup cc_BadText = some ⟨cl_BadText, cld_BadText, .cell (some (.ref C_BadText)), csl_BadText⟩)
    (ega_BadText : PySem.W.findIn K (.ref C_BadText) "__getattribute__" = some (some (.builtin "BaseException.__getattribute__")))
    (egg_BadText : PySem.W.findIn K (.ref C_BadText) "__getattr__" = some none)
    (ehd_BadText : PySem.W.hasDictIn K C_BadText = true)
    (ese_BadText : PySem.W.subIn K (.ref C_BadText) (.ref C_BadText) = some true)
    (ebm_BadText : PySem.HandSPX.refsVE bm_BadText = true)
    (evs_BadText : vs_BadText[2]? = some (.str file_BadText tf_BadText))
    (efl_BadText : ((l.prog.main.file : Str) == file_BadText) = true)
    (ccg_Contents : PySem.W.nsIn K mainGlobals "Contents" = some (some (.ref C_Contents)))
    (cpg_Contents : PySem.W.plainGet K C_Contents Str.empty = true)
    (chd_Contents : PySem.W.hasDictIn K C_Contents = true)
    (cpo_Contents : PySem.W.plainOver K C_Contents = true)
    (csa_Contents : PySem.W.findIn K (.ref C_Contents) "__setattr__" = some (some (.builtin "object.__setattr__")))
    (ckl_Contents : PySem.W.findIn K (.ref C_Contents) "__class__" = some (some (.builtin "object.__class__")))
    (cmr_Contents : PySem.W.mroIn K C_Contents (.type "object") = some true)
    (cic_Contents : PySem.W.isClsIn K C_Contents = true)
    (cty_Contents : PySem.W.typeIn K (.ref C_Contents) = some (.type "type"))
    (csstr_Contents : PySem.W.subIn K (.ref C_Contents) (.type "str") = some false)
    (csint_Contents : PySem.W.subIn K (.ref C_Contents) (.type "int") = some false)
    (csbool_Contents : PySem.W.subIn K (.ref C_Contents) (.type "bool") = some false)
    (cslist_Contents : PySem.W.subIn K (.ref C_Contents) (.type "list") = some false)
    (cstuple_Contents : PySem.W.subIn K (.ref C_Contents) (.type "tuple") = some false)
    (ctNoneType_Contents : PySem.W.subIn K (.type "NoneType") (.ref C_Contents) = some false)
    (ctbool_Contents : PySem.W.subIn K (.type "bool") (.ref C_Contents) = some false)
    (ctint_Contents : PySem.W.subIn K (.type "int") (.ref C_Contents) = some false)
    (ctstr_Contents : PySem.W.subIn K (.type "str") (.ref C_Contents) = some false)
    (ctlist_Contents : PySem.W.subIn K (.type "list") (.ref C_Contents) = some false)
    (cttuple_Contents : PySem.W.subIn K (.type "tuple") (.ref C_Contents) = some false)
    (ctdict_Contents : PySem.W.subIn K (.type "dict") (.ref C_Contents) = some false)
    (cn0_Contents : PySem.W.findIn K (.ref C_Contents) "answers" = some none)
    (cn1_Contents : PySem.W.findIn K (.ref C_Contents) "lengths" = some none)
    (cn2_Contents : PySem.W.findIn K (.ref C_Contents) "loads" = some none)
    (cmk_Contents : PySem.W.makesIn K C_Contents = true)
    (cii_Contents : PySem.W.findIn K (.ref C_Contents) "__init__" = some (some (.ref if_Contents)))
    (cifn_Contents : PySem.W.isFn K (.ref if_Contents) = true)
    (cikc_Contents : PySem.W.keepIn K (.ref C_Contents) = true)
    (cilk_Contents : K.lookup if_Contents = some ⟨ioc_Contents, iod_Contents, .func (PySem.W.fnOf "__init__" "Contents.__init__" (defArgs s_Contents___init__) (defBody s_Contents___init__) (defScope s_Contents___init__) idV_Contents ikV_Contents idc_Contents ipm_Contents ian_Contents icd_Contents ict_Contents), isl_Contents⟩)
    (cici_Contents : PySem.W.codeIn K icd_Contents "Contents.__init__" = true)
    (cikp_Contents : PySem.W.keepIn K (.ref if_Contents) = true)
    (cidv_Contents : idV_Contents = .ref idT_Contents)
    (cidl_Contents : K.lookup idT_Contents = some ⟨.type "tuple", idto_Contents, .seq idti_Contents idtn_Contents, idsl_Contents⟩)
    (cidi_Contents : idti_Contents.toList = [.ref ide0_Contents, .ref ide1_Contents, .ref ide2_Contents])
    (cidel0_Contents : K.lookup ide0_Contents = some ⟨.type "tuple", ideo0_Contents, .seq idei0_Contents iden0_Contents, ides0_Contents⟩)
    (cidev0_Contents : strVs idei0_Contents.toList = some [])
    (cidel1_Contents : K.lookup ide1_Contents = some ⟨.type "tuple", ideo1_Contents, .seq idei1_Contents iden1_Contents, ides1_Contents⟩)
    (cidev1_Contents : strVs idei1_Contents.toList = some [])
    (cidel2_Contents : K.lookup ide2_Contents = some ⟨.type "tuple", ideo2_Contents, .seq idei2_Contents iden2_Contents, ides2_Contents⟩)
    (cidev2_Contents : strVs idei2_Contents.toList = some [])
    (cla__Contents : PySem.W.findIn K (.ref C_Contents) "__len__" = some (some (.ref lf_Contents)))
    (clfn_Contents : PySem.W.isFn K (.ref lf_Contents) = true)
    (clfi_Contents : PySem.W.fnIn K lf_Contents = true)
    (cllk_Contents : K.lookup lf_Contents = some ⟨loc_Contents, lod_Contents, .func (PySem.W.fnOf "__len__" "Contents.__len__" (defArgs s_Contents___len__) (defBody s_Contents___len__) (defScope s_Contents___len__) .none lkV_Contents ldc_Contents lpm_Contents lan_Contents lcd_Contents lct_Contents), lsl_Contents⟩)
    (clci_Contents : PySem.W.codeIn K lcd_Contents "Contents.__len__" = true)
    (clkp_Contents : PySem.W.keepIn K (.ref lf_Contents) = true)
    (crd_Contents : PySem.W.readsIn K C_Contents (.type "type") = true)
    (cga_Contents : PySem.W.specialIn K (.ref C_Contents) "__getattribute__" = some (some (.builtin "type.__getattribute__")))
    (cs0a_Contents : PySem.W.findCls K (.ref C_Contents) (.type "type") "read" = some (.get (.builtin "staticmethod.__get__") (.ref s0p_Contents) .none (.ref C_Contents)))
    (cs0c_Contents : PySem.W.recIn K s0p_Contents "staticmethod" = some (.ref s0f_Contents :: s0r_Contents))
    (cs0lk_Contents : K.lookup s0f_Contents = some ⟨s0oc_Contents, s0od_Contents, .func (PySem.W.fnOf "read" "Contents.read" (defArgs s_Contents_read) (defBody s_Contents_read) (defScope s_Contents_read) .none s0kV_Contents s0dc_Contents s0pm_Contents s0an_Contents s0cd_Contents s0ct_Contents), s0sl_Contents⟩)
    (cs0ci_Contents : PySem.W.codeIn K s0cd_Contents "Contents.read" = true)
    (cs0kp_Contents : PySem.W.keepIn K (.ref s0f_Contents) = true)
    (tcd_0 : s0cd_Contents = .ref cdc_0) (thd_0 : PySem.W.codeHdIn K cdc_0 TP_0 = true) (tnt_0 : K.lookup TP_0 = none) (tht_0 : h.get? TP_0 = some { cls := .none, data := .fields #[] }) : LamX.LawAtS l w K CX0 10 63 "_law_script" mg fa h := by
  have D_is_name : Dfn K mg "is_name" s_is_name ["value"] := dfn_mk X G a0 l0 c0 k0 fun _ _ _ _ _ _ us hl => match us, hl with | [_], _ => rfl
  have D_is_short : Dfn K mg "is_short" s_is_short ["value", "most"] := dfn_mk X G a1 l1 c1 k1 fun _ _ _ _ _ _ us hl => match us, hl with | [_, _], _ => rfl
  have D_is_length : Dfn K mg "is_length" s_is_length ["value"] := dfn_mk X G a2 l2 c2 k2 fun _ _ _ _ _ _ us hl => match us, hl with | [_], _ => rfl
  have D_is_load : Dfn K mg "is_load" s_is_load ["value"] := dfn_mk X G a3 l3 c3 k3 fun _ _ _ _ _ _ us hl => match us, hl with | [_], _ => rfl
  have D_wrong_part : Dfn K mg "wrong_part" s_wrong_part ["answers", "lengths", "loads"] := dfn_mk X G a4 l4 c4 k4 fun _ _ _ _ _ _ us hl => match us, hl with | [_, _, _], _ => rfl
  have D_load_text : Dfn K mg "load_text" s_load_text ["load"] := dfn_mk X G a5 l5 c5 k5 fun _ _ _ _ _ _ us hl => match us, hl with | [_], _ => rfl
  have D_words_text : Dfn K mg "words_text" s_words_text ["words"] := dfn_mk X G a6 l6 c6 k6 fun _ _ _ _ _ _ us hl => match us, hl with | [_], _ => rfl
  have D_read_length : Dfn K mg "read_length" s_read_length ["word"] := dfn_mk X G a7 l7 c7 k7 fun _ _ _ _ _ _ us hl => match us, hl with | [_], _ => rfl
  have D_read_load : Dfn K mg "read_load" s_read_load ["word"] := dfn_mk X G a8 l8 c8 k8 fun _ _ _ _ _ _ us hl => match us, hl with | [_], _ => rfl
  have D_read_words : Dfn K mg "read_words" s_read_words ["text", "reader"] := dfn_mk X G a9 l9 c9 k9 fun _ _ _ _ _ _ us hl => match us, hl with | [_, _], _ => rfl
  have D__law_is_name : Dfn K mg "_law_is_name" s__law_is_name ["_law_x"] := dfn_mk X G a10 l10 c10 k10 fun _ _ _ _ _ _ us hl => match us, hl with | [_], _ => rfl
  have D__law_draw : Dfn K mg "_law_draw" s__law_draw ["_law_pool_here", "_law_many"] := dfn_mk X G a11 l11 c11 k11 fun _ _ _ _ _ _ us hl => match us, hl with | [_, _], _ => rfl
  have D__law_pool : Dfn K mg "_law_pool" s__law_pool ["_law_script"] := dfn_mk X G a12 l12 c12 k12 fun _ _ _ _ _ _ us hl => match us, hl with | [_], _ => rfl
  have D__law_names : Dfn K mg "_law_names" s__law_names ["_law_pool_here", "_law_many"] := dfn_mk X G a13 l13 c13 k13 fun _ _ _ _ _ _ us hl => match us, hl with | [_, _], _ => rfl
  have D__law_triple : Dfn K mg "_law_triple" s__law_triple ["_law_pool_here", "_law_most"] := dfn_mk X G a14 l14 c14 k14 fun _ _ _ _ _ _ us hl => match us, hl with | [_, _], _ => rfl
  have D__law_text : Dfn K mg "_law_text" s__law_text ["_law_triple_here"] := dfn_mk X G a15 l15 c15 k15 fun _ _ _ _ _ _ us hl => match us, hl with | [_], _ => rfl
  have D__law_same : Dfn K mg "_law_same" s__law_same ["_law_actual", "_law_due"] := dfn_mk X G a16 l16 c16 k16 fun _ _ _ _ _ _ us hl => match us, hl with | [_, _], _ => rfl
  have D__law_has : Dfn K mg "_law_has" s__law_has ["_law_contents", "_law_triple_here"] := dfn_mk X G a17 l17 c17 k17 fun _ _ _ _ _ _ us hl => match us, hl with | [_, _], _ => rfl
  have D__law_number : Dfn K mg "_law_number" s__law_number ["_law_word"] := dfn_mk X G a18 l18 c18 k18 fun _ _ _ _ _ _ us hl => match us, hl with | [_], _ => rfl
  have D__law_member : Dfn K mg "_law_member" s__law_member ["_law_part", "_law_word"] := dfn_mk X G a19 l19 c19 k19 fun _ _ _ _ _ _ us hl => match us, hl with | [_, _], _ => rfl
  have D__law_understood : Dfn K mg "_law_understood" s__law_understood ["_law_text_here"] := dfn_mk X G a20 l20 c20 k20 fun _ _ _ _ _ _ us hl => match us, hl with | [_], _ => rfl
  have D__law_changed : Dfn K mg "_law_changed" s__law_changed ["_law_pool_here", "_law_text_here"] := dfn_mk X G a21 l21 c21 k21 fun _ _ _ _ _ _ us hl => match us, hl with | [_, _], _ => rfl
  have D__law_tried : Dfn K mg "_law_tried" s__law_tried ["_law_text_here"] := dfn_mk X G a22 l22 c22 k22 fun _ _ _ _ _ _ us hl => match us, hl with | [_], _ => rfl
  have D__law_bounds : Dfn K mg "_law_bounds" s__law_bounds ["_law_pool_here"] := dfn_mk X G a23 l23 c23 k23 fun _ _ _ _ _ _ us hl => match us, hl with | [_], _ => rfl
  have B : Bl mg := ⟨PySem.W.mg_none_of X G z_len, PySem.W.mg_none_of X G z_int, PySem.W.mg_none_of X G z_list, PySem.W.mg_none_of X G z_tuple, PySem.W.mg_none_of X G z_isi, PySem.W.mg_none_of X G z_range, PySem.W.mg_none_of X G z_all, PySem.W.mg_none_of X G z_any, PySem.W.mg_none_of X G z_str, PySem.W.mg_none_of X G z_bool, PySem.W.mg_none_of X G z_enum, PySem.W.mg_none_of X G z_zip, PySem.W.mg_none_of X G z_sum, PySem.W.mg_none_of X G z_max, PySem.W.mg_none_of X G z_min, PySem.W.mg_none_of X G z_sorted, PySem.W.mg_none_of X G z_set, PySem.W.mg_none_of X G z_dict⟩
  have G_LETTERS : GS mg "LETTERS" abc := ⟨_, PySem.W.mg_of X G sa_LETTERS⟩
  have G_MOST_LETTERS : GI mg "MOST_LETTERS" 8 := ⟨_, PySem.W.mg_of X G ia_MOST_LETTERS⟩
  have G_MOST : GI mg "MOST" 1000 := ⟨_, PySem.W.mg_of X G ia_MOST⟩
  have G_NAMES : GI mg "NAMES" 100 := ⟨_, PySem.W.mg_of X G ia_NAMES⟩
  have G_LONGEST : GI mg "LONGEST" (10 ^ 30) := ⟨_, PySem.W.mg_of X G ia_LONGEST⟩
  have X_BadContents : ∀ base, ErrX l.prog w K mg base "BadContents" C_BadContents "part" := fun base => errX_mk (st := s_BadContents___init__) X G ecg_BadContents exL_BadContents esa_BadContents eex_BadContents ety_BadContents ekC_BadContents ei1_BadContents ei2_BadContents emr_BadContents esv_BadContents esu_BadContents oq z_super elk_BadContents ehc_BadContents eno_BadContents eco_BadContents ece_BadContents ega_BadContents egg_BadContents ehd_BadContents ese_BadContents ebm_BadContents evs_BadContents efl_BadContents tsup rfl ⟨_, rfl, rfl⟩ ⟨rfl, rfl, rfl, rfl⟩ (by decide +kernel) ⟨rfl, rfl, rfl⟩ (by decide) ⟨by decide, by decide⟩ (fun L => rfl) (fun L => rfl) (fun L => ⟨_, rfl⟩) (fun L => rfl) (fun us hl => match us, hl with | [_, _], _ => rfl)
  have X_BadText : ∀ base, ErrX l.prog w K mg base "BadText" C_BadText "line" := fun base => errX_mk (st := s_BadText___init__) X G ecg_BadText exL_BadText esa_BadText eex_BadText ety_BadText ekC_BadText ei1_BadText ei2_BadText emr_BadText esv_BadText esu_BadText oq z_super elk_BadText ehc_BadText eno_BadText eco_BadText ece_BadText ega_BadText egg_BadText ehd_BadText ese_BadText ebm_BadText evs_BadText efl_BadText tsup rfl ⟨_, rfl, rfl⟩ ⟨rfl, rfl, rfl, rfl⟩ (by decide +kernel) ⟨rfl, rfl, rfl⟩ (by decide) ⟨by decide, by decide⟩ (fun L => rfl) (fun L => rfl) (fun L => ⟨_, rfl⟩) (fun L => rfl) (fun us hl => match us, hl with | [_, _], _ => rfl)
  have K_Contents : KCls K mg "Contents" C_Contents ["answers", "lengths", "loads"] := ⟨PySem.W.mg_of X G ccg_Contents, ⟨⟨cpg_Contents, chd_Contents, cpo_Contents, csa_Contents⟩, ckl_Contents, gtc, tkc, cmr_Contents, ((fm_cons csstr_Contents (fm_cons csint_Contents (fm_cons csbool_Contents (fm_cons cslist_Contents (fm_cons cstuple_Contents fm_nil))))))⟩, ((fm_cons cn0_Contents (fm_cons cn1_Contents (fm_cons cn2_Contents fm_nil)))), ⟨cic_Contents, cty_Contents, ((fm_cons ctNoneType_Contents (fm_cons ctbool_Contents (fm_cons ctint_Contents (fm_cons ctstr_Contents (fm_cons ctlist_Contents (fm_cons cttuple_Contents (fm_cons ctdict_Contents fm_nil))))))))⟩⟩
  subst cidv_Contents
  have D_Contents___init__ : DfN K C_Contents "Contents.__init__" s_Contents___init__ ["self", "answers", "lengths", "loads"] [.tup [], .tup [], .tup []] := ⟨_, _, ⟨⟨_, _, _, _, _, _, _, _, _, _, rfl, cilk_Contents, cici_Contents⟩⟩, ⟨cmk_Contents, cii_Contents, cifn_Contents, cikc_Contents⟩, fun j hj => match j, hj with | 0, _ => by exact dflt_one (dvs := [.ref ide0_Contents, .ref ide1_Contents, .ref ide2_Contents]) cidl_Contents cidi_Contents (.cons rfl (.cons rfl (.cons rfl (.nil)))) (fun M H => .cons (isK_tup cidel0_Contents cidev0_Contents (by decide +kernel) (by decide) _ _) (.cons (isK_tup cidel1_Contents cidev1_Contents (by decide +kernel) (by decide) _ _) (.cons (isK_tup cidel2_Contents cidev2_Contents (by decide +kernel) (by decide) _ _) (.nil)))) 0 (fun us its h1 h2 => match us, its, h1, h2 with | [_], [_, _, _], _, _ => ⟨_, rfl, rfl⟩) | 1, _ => by exact dflt_one (dvs := [.ref ide0_Contents, .ref ide1_Contents, .ref ide2_Contents]) cidl_Contents cidi_Contents (.cons rfl (.cons rfl (.cons rfl (.nil)))) (fun M H => .cons (isK_tup cidel0_Contents cidev0_Contents (by decide +kernel) (by decide) _ _) (.cons (isK_tup cidel1_Contents cidev1_Contents (by decide +kernel) (by decide) _ _) (.cons (isK_tup cidel2_Contents cidev2_Contents (by decide +kernel) (by decide) _ _) (.nil)))) 1 (fun us its h1 h2 => match us, its, h1, h2 with | [_, _], [_, _, _], _, _ => ⟨_, rfl, rfl⟩) | 2, _ => by exact dflt_one (dvs := [.ref ide0_Contents, .ref ide1_Contents, .ref ide2_Contents]) cidl_Contents cidi_Contents (.cons rfl (.cons rfl (.cons rfl (.nil)))) (fun M H => .cons (isK_tup cidel0_Contents cidev0_Contents (by decide +kernel) (by decide) _ _) (.cons (isK_tup cidel1_Contents cidev1_Contents (by decide +kernel) (by decide) _ _) (.cons (isK_tup cidel2_Contents cidev2_Contents (by decide +kernel) (by decide) _ _) (.nil)))) 2 (fun us its h1 h2 => match us, its, h1, h2 with | [_, _, _], [_, _, _], _, _ => ⟨_, rfl, rfl⟩) | 3, _ => by exact dflt_one (dvs := [.ref ide0_Contents, .ref ide1_Contents, .ref ide2_Contents]) cidl_Contents cidi_Contents (.cons rfl (.cons rfl (.cons rfl (.nil)))) (fun M H => .cons (isK_tup cidel0_Contents cidev0_Contents (by decide +kernel) (by decide) _ _) (.cons (isK_tup cidel1_Contents cidev1_Contents (by decide +kernel) (by decide) _ _) (.cons (isK_tup cidel2_Contents cidev2_Contents (by decide +kernel) (by decide) _ _) (.nil)))) 3 (fun us its h1 h2 => match us, its, h1, h2 with | [_, _, _, _], [_, _, _], _, _ => ⟨_, rfl, rfl⟩)⟩
  have D_Contents___len__ : DfG K C_Contents "__len__" "Contents.__len__" s_Contents___len__ ["self"] := ⟨_, _, ⟨⟨_, _, _, _, _, _, _, _, _, _, rfl, cllk_Contents, clci_Contents⟩⟩, ⟨cla__Contents, clfi_Contents, clfn_Contents⟩, (.all fun us hl => match us, hl with | [_], _ => rfl)⟩
  have D_Contents_read : DfSC K C_Contents "read" "Contents.read" s_Contents_read ["text"] cdc_0 := ⟨_, _, _, _, ⟨⟨_, _, _, _, _, _, _, _, _, _, rfl, cs0lk_Contents, cs0ci_Contents⟩⟩, (fun oc od fd osl e => by rw [cs0lk_Contents] at e; cases e; exact tcd_0), ⟨⟨crd_Contents, cga_Contents⟩, cs0a_Contents, ⟨_, cs0c_Contents⟩, cs0kp_Contents⟩, (.all fun us hl => match us, hl with | [_], _ => rfl)⟩
  have key : ∀ (base : Heap) (fd : FuncData), (∀ p ∈ ([(cdc_0, TP_0)] : List (Addr × Addr)), LamX.TabB base mg p.1 p.2) → Fun K "law" "law" s_law f24 fd → FnOk l.prog w K mg base CX0 10 f24 fd ["_law_script"] (spLawT K [(TP_0, "Contents.read.<locals>.<lambda>")]) := by
    intro base fd tb F
    have TB_0 : LamX.TabB base mg cdc_0 TP_0 := tb (cdc_0, TP_0) (by simp)
    have c_draw := c__law_draw (P := l.prog) (w := w) (base := base) B D__law_draw
    obtain ⟨fp, fdp, GP, gP, kP, bP⟩ := c__law_poolT (P := l.prog) (w := w) (base := base) (T := [(TP_0, "Contents.read.<locals>.<lambda>")]) B D__law_pool
    have c_isname := c_is_name (P := l.prog) (w := w) (base := base) B G_LETTERS G_MOST_LETTERS D_is_name
    have c_short := cd_is_short (P := l.prog) (w := w) (base := base) B D_is_short
    have c_wrong := cd_wrong_part B G_MOST c_short (c_is_length (P := l.prog) (w := w) (base := base) B G_LONGEST D_is_length) (cd_is_load B G_NAMES c_short c_isname D_is_load) D_wrong_part
    have n_ct := cd_Contents_init B (X_BadContents base) c_wrong K_Contents D_Contents___init__
    have l_ct := c_Contents_len (P := l.prog) (w := w) (mg := mg) (base := base) B K_Contents D_Contents___len__
    have s_read := c_Contents_read B TB_0 (X_BadText base) K_Contents n_ct c_wrong (c_read_words B D_read_words) (c_read_length (P := l.prog) (w := w) (base := base) B D_read_length) (c_read_load (P := l.prog) (w := w) (base := base) B D_read_load) D_Contents_read
    have c_same := c__law_same (P := l.prog) (w := w) (base := base) B D__law_same 6
    have c_names := c__law_names B c_draw D__law_names
    have c_has := c__law_has B K_Contents l_ct c_same D__law_has
    have c_tried := c__law_tried B K_Contents s_read (X_BadText base) D__law_tried
    exact ok_law F GP gP kP bP B K_Contents c_draw (c__law_triple B c_draw c_names D__law_triple) c_has (c__law_text (P := l.prog) (w := w) (base := base) B D__law_text) c_same (c__law_changed B D__law_changed c_draw) (c__law_understood B D__law_understood (c__law_member B D__law_member (c__law_is_name (P := l.prog) (w := w) (base := base) B D__law_is_name) (c__law_number (P := l.prog) (w := w) (base := base) B D__law_number))) c_tried (c__law_bounds B K_Contents c_names c_has c_same c_tried D__law_bounds)
  obtain ⟨fd, hb, hF⟩ := law_endT (P := l.prog) (w := w) (n := 10) (T := [(TP_0, "Contents.read.<locals>.<lambda>")]) (TB := fun base => ∀ p ∈ ([(cdc_0, TP_0)] : List (Addr × Addr)), LamX.TabB base mg p.1 p.2) (st := s_law) X G hfa a24 l24 c24 k24 (fun _ => rfl) key
  have tcc_0 := PySem.W.codeHd_of_K X thd_0
  exact ⟨fd, [(cdc_0, TP_0)], spLawT K [(TP_0, "Contents.read.<locals>.<lambda>")], (by intro p hp; simp only [List.mem_cons, List.not_mem_nil, or_false] at hp; rcases hp with rfl <;> first | exact tht_0), (by intro p hp; simp only [List.mem_cons, List.not_mem_nil, or_false] at hp; rcases hp with rfl <;> first | exact tnt_0), (by intro p hp; simp only [List.mem_cons, List.not_mem_nil, or_false] at hp; rcases hp with rfl <;> first | exact tcc_0), hb, (fun H a ns hl _ hT hS => ⟨a, ns, rfl, hS, hl, ⟨List.nodup_cons.mpr ⟨List.not_mem_nil, List.nodup_nil⟩, fun e he => by simp only [List.mem_cons, List.not_mem_nil, or_false] at he; rcases he with rfl <;> first | exact hT (cdc_0, TP_0) (by simp)⟩, fun _ => rfl⟩), hF⟩
theorem walk {l : PySem.W.OpenLaw} {q : Program} {loose : List Str} {XP : (Str → Option Value) → Heap → Prop} {YP : World → Heap → Prop} {d : DefRec} (hn : l.most = some 63) (hdf : d.params.defaults = [])
    (hY : ∀ (w : World) (h : Heap), YP w h → (KF w.params).In h)
    (F : ∀ (w : World) (mg : Str → Option Value) (fa : Addr) (h : Heap), YP w h → (KW w.params).In h → h.Ns mainGlobals mg → mg d.name = some (.ref fa) → LamX.LawAtS l w (KW w.params) CX0 10 63 "_law_script" mg fa h) :
    PySem.W.WalkO q loose XP YP l.row.toRowW d [] (fun f vs => PySem.call f vs) :=
  LamX.walk_ofTs (n := 63) (k := 10) (x := "_law_script") (K := KW) (CX := fun _ => CX0) hn (by decide) hdf ⟨rfl, by decide, by decide⟩ (fun w h Y => (kf_in (hY w h Y)).1) F fun _ _ _ _ _ z => z
end Q
open PySem PySem.W PyProof.Rows
set_option maxRecDepth 100000 in
set_option maxHeartbeats 0 in
theorem PySem.Challenge.cw_quietprobes_k39_contents_read_holds : PySem.Challenge.rw_quietprobes_k39_contents_read.Holds := by
  w_on; o_law
  refine HandSHeadRun.head_any (r := OpenLaw.row PySem.Challenge.rw_quietprobes_k39_contents_read) (q := Q.qv) (H := PySem.W.kHook Q.KF Q.KA Q.KA_eq) (ob := Q.obK) (M := 4204) (loose := Q.loo) (d := HandSHeadRun.topDef (OpenLaw.row PySem.Challenge.rw_quietprobes_k39_contents_read).prog 37) (kwd := []) Q.obK_eq (by kernel_rfl) (fun s => by kernel_rfl) Q.run_all (by kernel_rfl) (by kernel_rfl) (by kernel_rfl) (by rfl) (by first | assumption | decide +kernel) (by decide +kernel) ⟨rfl, rfl, rfl, rfl, rfl, by decide +kernel⟩ ?hw ?hc
  case hw => w_witness2
  k_fill
  refine Q.walk (l := PySem.Challenge.rw_quietprobes_k39_contents_read) rfl (by kernel_rfl) (fun w h Y => PySem.W.kIn_of Y) ?F
  case F =>
    intro w mg fa h Y KX G hmg0
    have ee := Q.kf_in (PySem.W.kIn_of Y)
    have hmg : mg ("law" : PySem.Str) = some (.ref fa) := by
      have e : (HandSHeadRun.topDef (OpenLaw.row PySem.Challenge.rw_quietprobes_k39_contents_read).prog 37).name = ("law" : PySem.Str) := by kernel_rfl
      rw [← e]
      exact hmg0
    have kdummy : Q.KW = Q.KW ∧ PySem.Challenge.rw_quietprobes_k39_contents_read = PySem.Challenge.rw_quietprobes_k39_contents_read := by
      k_fill
      exact ⟨rfl, rfl⟩
    clear kdummy
    refine' Q.all_mk KX G hmg ?a0 ?l0 ?c0 ?k0 ?a1 ?l1 ?c1 ?k1 ?a2 ?l2 ?c2 ?k2 ?a3 ?l3 ?c3 ?k3 ?a4 ?l4 ?c4 ?k4 ?a5 ?l5 ?c5 ?k5 ?a6 ?l6 ?c6 ?k6 ?a7 ?l7 ?c7 ?k7 ?a8 ?l8 ?c8 ?k8 ?a9 ?l9 ?c9 ?k9 ?a10 ?l10 ?c10 ?k10 ?a11 ?l11 ?c11 ?k11 ?a12 ?l12 ?c12 ?k12 ?a13 ?l13 ?c13 ?k13 ?a14 ?l14 ?c14 ?k14 ?a15 ?l15 ?c15 ?k15 ?a16 ?l16 ?c16 ?k16 ?a17 ?l17 ?c17 ?k17 ?a18 ?l18 ?c18 ?k18 ?a19 ?l19 ?c19 ?k19 ?a20 ?l20 ?c20 ?k20 ?a21 ?l21 ?c21 ?k21 ?a22 ?l22 ?c22 ?k22 ?a23 ?l23 ?c23 ?k23 ?a24 ?l24 ?c24 ?k24 ?z_len ?z_int ?z_list ?z_tuple ?z_isi ?z_range ?z_all ?z_any ?z_str ?z_bool ?z_enum ?z_zip ?z_sum ?z_max ?z_min ?z_sorted ?z_set ?z_dict ?sa_LETTERS ?ia_MOST_LETTERS ?ia_MOST ?ia_NAMES ?ia_LONGEST ?oq ?z_super ?gtc ?tkc ?tsup ?ecg_BadContents ?exL_BadContents ?esa_BadContents ?eex_BadContents ?ety_BadContents ?ekC_BadContents ?ei1_BadContents ?ei2_BadContents ?emr_BadContents ?esv_BadContents ?esu_BadContents ?elk_BadContents ?ehc_BadContents ?eno_BadContents ?eco_BadContents ?ece_BadContents ?ega_BadContents ?egg_BadContents ?ehd_BadContents ?ese_BadContents ?ebm_BadContents ?evs_BadContents ?efl_BadContents ?ecg_BadText ?exL_BadText ?esa_BadText ?eex_BadText ?ety_BadText ?ekC_BadText ?ei1_BadText ?ei2_BadText ?emr_BadText ?esv_BadText ?esu_BadText ?elk_BadText ?ehc_BadText ?eno_BadText ?eco_BadText ?ece_BadText ?ega_BadText ?egg_BadText ?ehd_BadText ?ese_BadText ?ebm_BadText ?evs_BadText ?efl_BadText ?ccg_Contents ?cpg_Contents ?chd_Contents ?cpo_Contents ?csa_Contents ?ckl_Contents ?cmr_Contents ?cic_Contents ?cty_Contents ?csstr_Contents ?csint_Contents ?csbool_Contents ?cslist_Contents ?cstuple_Contents ?ctNoneType_Contents ?ctbool_Contents ?ctint_Contents ?ctstr_Contents ?ctlist_Contents ?cttuple_Contents ?ctdict_Contents ?cn0_Contents ?cn1_Contents ?cn2_Contents ?cmk_Contents ?cii_Contents ?cifn_Contents ?cikc_Contents ?cilk_Contents ?cici_Contents ?cikp_Contents ?cidv_Contents ?cidl_Contents ?cidi_Contents ?cidel0_Contents ?cidev0_Contents ?cidel1_Contents ?cidev1_Contents ?cidel2_Contents ?cidev2_Contents ?cla__Contents ?clfn_Contents ?clfi_Contents ?cllk_Contents ?clci_Contents ?clkp_Contents ?crd_Contents ?cga_Contents ?cs0a_Contents ?cs0c_Contents ?cs0lk_Contents ?cs0ci_Contents ?cs0kp_Contents ?tcd_0 ?thd_0 ?tnt_0 ee.2
    case a0 => k_is
    case l0 => k_is
    case c0 => k_is
    case k0 => k_is
    case a1 => k_is
    case l1 => k_is
    case c1 => k_is
    case k1 => k_is
    case a2 => k_is
    case l2 => k_is
    case c2 => k_is
    case k2 => k_is
    case a3 => k_is
    case l3 => k_is
    case c3 => k_is
    case k3 => k_is
    case a4 => k_is
    case l4 => k_is
    case c4 => k_is
    case k4 => k_is
    case a5 => k_is
    case l5 => k_is
    case c5 => k_is
    case k5 => k_is
    case a6 => k_is
    case l6 => k_is
    case c6 => k_is
    case k6 => k_is
    case a7 => k_is
    case l7 => k_is
    case c7 => k_is
    case k7 => k_is
    case a8 => k_is
    case l8 => k_is
    case c8 => k_is
    case k8 => k_is
    case a9 => k_is
    case l9 => k_is
    case c9 => k_is
    case k9 => k_is
    case a10 => k_is
    case l10 => k_is
    case c10 => k_is
    case k10 => k_is
    case a11 => k_is
    case l11 => k_is
    case c11 => k_is
    case k11 => k_is
    case a12 => k_is
    case l12 => k_is
    case c12 => k_is
    case k12 => k_is
    case a13 => k_is
    case l13 => k_is
    case c13 => k_is
    case k13 => k_is
    case a14 => k_is
    case l14 => k_is
    case c14 => k_is
    case k14 => k_is
    case a15 => k_is
    case l15 => k_is
    case c15 => k_is
    case k15 => k_is
    case a16 => k_is
    case l16 => k_is
    case c16 => k_is
    case k16 => k_is
    case a17 => k_is
    case l17 => k_is
    case c17 => k_is
    case k17 => k_is
    case a18 => k_is
    case l18 => k_is
    case c18 => k_is
    case k18 => k_is
    case a19 => k_is
    case l19 => k_is
    case c19 => k_is
    case k19 => k_is
    case a20 => k_is
    case l20 => k_is
    case c20 => k_is
    case k20 => k_is
    case a21 => k_is
    case l21 => k_is
    case c21 => k_is
    case k21 => k_is
    case a22 => k_is
    case l22 => k_is
    case c22 => k_is
    case k22 => k_is
    case a23 => k_is
    case l23 => k_is
    case c23 => k_is
    case k23 => k_is
    case a24 => k_is
    case l24 => k_is
    case c24 => k_is
    case k24 => k_is
    case z_len => k_is
    case z_int => k_is
    case z_list => k_is
    case z_tuple => k_is
    case z_isi => k_is
    case z_range => k_is
    case z_all => k_is
    case z_any => k_is
    case z_str => k_is
    case z_bool => k_is
    case z_enum => k_is
    case z_zip => k_is
    case z_sum => k_is
    case z_max => k_is
    case z_min => k_is
    case z_sorted => k_is
    case z_set => k_is
    case z_dict => k_is
    case sa_LETTERS => k_is
    case ia_MOST_LETTERS => k_is
    case ia_MOST => k_is
    case ia_NAMES => k_is
    case ia_LONGEST => k_is
    case oq => k_is
    case z_super => k_is
    case gtc => k_is
    case tkc => k_is
    case tsup => first | rfl | decide +kernel
    case ecg_BadContents => k_is
    case exL_BadContents => k_is
    case esa_BadContents => k_is
    case eex_BadContents => k_is
    case ety_BadContents => k_is
    case ekC_BadContents => k_is
    case ei1_BadContents => k_is
    case ei2_BadContents => k_is
    case emr_BadContents => k_is
    case esv_BadContents => k_is
    case esu_BadContents => ks_is
    case elk_BadContents => k_is
    case ehc_BadContents => k_is
    case eno_BadContents => k_is
    case eco_BadContents => k_is
    case ece_BadContents => k_is
    case ega_BadContents => k_is
    case egg_BadContents => k_is
    case ehd_BadContents => k_is
    case ese_BadContents => k_is
    case ebm_BadContents => first | rfl | decide +kernel
    case evs_BadContents => rfl
    case efl_BadContents => first | rfl | decide +kernel
    case ecg_BadText => k_is
    case exL_BadText => k_is
    case esa_BadText => k_is
    case eex_BadText => k_is
    case ety_BadText => k_is
    case ekC_BadText => k_is
    case ei1_BadText => k_is
    case ei2_BadText => k_is
    case emr_BadText => k_is
    case esv_BadText => k_is
    case esu_BadText => ks_is
    case elk_BadText => k_is
    case ehc_BadText => k_is
    case eno_BadText => k_is
    case eco_BadText => k_is
    case ece_BadText => k_is
    case ega_BadText => k_is
    case egg_BadText => k_is
    case ehd_BadText => k_is
    case ese_BadText => k_is
    case ebm_BadText => first | rfl | decide +kernel
    case evs_BadText => rfl
    case efl_BadText => first | rfl | decide +kernel
    case ccg_Contents => k_is
    case cpg_Contents => k_is
    case chd_Contents => k_is
    case cpo_Contents => k_is
    case csa_Contents => k_is
    case ckl_Contents => k_is
    case cmr_Contents => k_is
    case cic_Contents => k_is
    case cty_Contents => k_is
    case csstr_Contents => k_is
    case csint_Contents => k_is
    case csbool_Contents => k_is
    case cslist_Contents => k_is
    case cstuple_Contents => k_is
    case ctNoneType_Contents => k_is
    case ctbool_Contents => k_is
    case ctint_Contents => k_is
    case ctstr_Contents => k_is
    case ctlist_Contents => k_is
    case cttuple_Contents => k_is
    case ctdict_Contents => k_is
    case cn0_Contents => k_is
    case cn1_Contents => k_is
    case cn2_Contents => k_is
    case cmk_Contents => k_is
    case cii_Contents => k_is
    case cifn_Contents => k_is
    case cikc_Contents => k_is
    case cilk_Contents => k_is
    case cici_Contents => k_is
    case cikp_Contents => k_is
    case cidv_Contents => rfl
    case cidl_Contents => k_is
    case cidi_Contents => rfl
    case cidel0_Contents => k_is
    case cidev0_Contents => rfl
    case cidel1_Contents => k_is
    case cidev1_Contents => rfl
    case cidel2_Contents => k_is
    case cidev2_Contents => rfl
    case cla__Contents => k_is
    case clfn_Contents => k_is
    case clfi_Contents => k_is
    case cllk_Contents => k_is
    case clci_Contents => k_is
    case clkp_Contents => k_is
    case crd_Contents => k_is
    case cga_Contents => k_is
    case cs0a_Contents => k_is
    case cs0c_Contents => k_is
    case cs0lk_Contents => k_is
    case cs0ci_Contents => k_is
    case cs0kp_Contents => k_is
    case tcd_0 => rfl
    case thd_0 => first | rfl | decide +kernel
    case tnt_0 => first | rfl | decide +kernel
