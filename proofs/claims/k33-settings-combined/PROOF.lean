import PyProof.Rows.All
import Wide.All
import OpenK.AllK
import Wide.FinOn
import HandS.Base
import HandS.Call
import HandS.List
import HandS.Comp
import HandS.Ends
import HandS.Dict
import HandS.Iter
import HandS.Text
import HandS.Deep
import HandS.IsInst
import HandS.Star
import HandS.Words
import HandS.Wide
import HandS.Exc
import HandS.More
import HandS.TupAny
import KE.KUnpackStar
import HandS.ForMost
import HandS.ForExc
import HandS.Zip
import PyProof.RulesMatch
import KE.KExcSuper
import HandS.ExcInit
import HandS.ClsMeth
import HandS.SlotsOwn
import HandS.TryMany
import HandS.WordsExc
import HandS.ExcField
import PyProof.InstNe
import HandS.Defaults
import HandS.ExcIs
import KE.RegKSuper
import KE.KCallOwn
import HandS.DictComp
import KE.GoesEnum
import OpenK.KMeth
import HandS.Flow
import HandS.Small
import HandS.Style
import HandS.Zip0
import HandS.TryOnly
import HandS.SetKeys
import HandS.WordsDict
import HandS.OwnEq
import KE.KOpsOwn
import OpenK.KOps
import HandS.Records
import PyProof.StrOps2
import HandS.Property
import PyProof.NeKinds
import HandS.Strs
import HandS.FStr
import HandS.Nested
import HandS.NestedK
import KE.IntTextText
import HandS.EndTab
import HandS.SetBool
import HandS.SetTxt0
import HandS.Head0
import HandS.Head1
import HandS.Head2
import HandS.Evl
import PySem.Challenge.RW_quietprobes_k33_settings_combined
set_option Elab.async false
set_option linter.all false
set_option maxRecDepth 100000
set_option autoImplicit false
namespace G
open PySem PySem.Spec L2
/-- a value told as data; adr: an address of which the assertion speaks -/
inductive D where
  | non | bl (b : Bool) | int (i : Int) | str (x : Str) | adr (a : Addr) | lst (ds : List D) | tup (ds : List D)
  /-- an instance that stays as it is: its class, its fields' names, what they hold -/
  | ins (C : Addr) (fs : List Str) (ds : List D)
  /-- a dict that stays as it is -/
  | dct (ks : List Key) (ds : List D)
/-- a text whose signs are signs, and that isn't long -/
def sok (x : Str) : Prop := PyData.strOk x = true ∧ x.length ≤ 1000000
def ks6 : List String := ["NoneType", "bool", "int", "str", "list", "tuple", "dict"]
def ks5 : List String := ["str", "int", "bool", "list", "tuple"]
/-- a class whose fields are plainly read and stored, none of these names being the class's own -/
structure Plain (K : PySem.W.Frag) (C : Addr) : Prop where
  cls : Cls K C
  kls : PySem.W.findIn K (.ref C) "__class__" = some (some (.builtin "object.__class__"))
  get : PySem.W.specialIn K (.builtin "object.__class__") "__get__" = some (some (.builtin "getset_descriptor.__get__"))
  tak : PySem.W.takesIn K (.builtin "object.__class__") = some true
  mro : PySem.W.mroIn K C (.type "object") = some true
  sub : ∀ T ∈ ks5, PySem.W.subIn K (.ref C) (.type T) = some false
structure Good (K : PySem.W.Frag) (C : Addr) (fs : List Str) : Prop where
  p : Plain K C
  no : ∀ f ∈ fs, NoAttr K C f
theorem Good.cls {K : PySem.W.Frag} {C : Addr} {fs : List Str} (g : Good K C fs) : Cls K C := g.p.cls
/-- what may be changed, and is data while nobody owns it -/
def Dat : HO → Prop
  | .lst _ => True
  | .ins _ _ _ => True
  | .dK _ => True
  | _ => False
mutual
/-- v is d in the heap H; no list, dict, instance of it is among M -/
inductive Is (K : PySem.W.Frag) (M : Addr → Prop) (H : Hp) : V → D → Prop
  | non : Is K M H .non .non
  | bl (b : Bool) : Is K M H (.bl b) (.bl b)
  | int (i : Int) : Is K M H (.int i) (.int i)
  | str {x : Str} : sok x → Is K M H (.str x) (.str x)
  | adr (a : Addr) : Is K M H (.ref a) (.adr a)
  | lst {a : Addr} {xs : List V} {ds : List D} : ¬ M a → H a = some (.lst xs) → IsAll K M H xs ds → Is K M H (.ref a) (.lst ds)
  | tup {a : Addr} {xs : List V} {ds : List D} : SqT K H a xs → IsAll K M H xs ds → Is K M H (.ref a) (.tup ds)
  | ins {a C dx : Addr} {kvs : List (Str × V)} {fs : List Str} {ds : List D} : ¬ M a → H a = some (.ins C dx kvs) → kvs.map (·.1) = fs → Good K C fs → IsAll K M H (kvs.map (·.2)) ds → Is K M H (.ref a) (.ins C fs ds)
  | dct {a : Addr} {kvs : List (Key × V)} {ks : List Key} {ds : List D} : ¬ M a → H a = some (.dK kvs) → kvs.map (·.1) = ks → IsAll K M H (kvs.map (·.2)) ds → Is K M H (.ref a) (.dct ks ds)
inductive IsAll (K : PySem.W.Frag) (M : Addr → Prop) (H : Hp) : List V → List D → Prop
  | nil : IsAll K M H [] []
  | cons {v : V} {vs : List V} {d : D} {ds : List D} : Is K M H v d → IsAll K M H vs ds → IsAll K M H (v :: vs) (d :: ds)
end
section
variable {K : PySem.W.Frag} {M M' : Addr → Prop} {H H' : Hp}
mutual
theorem Is.go (hl : ∀ a o, Dat o → ¬ M a → H a = some o → ¬ M' a ∧ H' a = some o) (ht : ∀ a xs, SqT K H a xs → SqT K H' a xs) : ∀ (d : D) (v : V), Is K M H v d → Is K M' H' v d
  | .non, _, h => by cases h; exact .non
  | .bl b, _, h => by cases h; exact .bl b
  | .int i, _, h => by cases h; exact .int i
  | .str x, _, h => by cases h with | str o => exact .str o
  | .adr a, _, h => by cases h; exact .adr a
  | .lst ds, _, h => by
    cases h with
    | lst n s h => exact .lst (hl _ (.lst _) True.intro n s).1 (hl _ (.lst _) True.intro n s).2 (IsAll.go hl ht ds _ h)
  | .tup ds, _, h => by
    cases h with
    | tup s h => exact .tup (ht _ _ s) (IsAll.go hl ht ds _ h)
  | .ins C fs ds, _, h => by
    cases h with
    | ins n s e g h => exact .ins (hl _ (.ins _ _ _) True.intro n s).1 (hl _ (.ins _ _ _) True.intro n s).2 e g (IsAll.go hl ht ds _ h)
  | .dct ks ds, _, h => by
    cases h with
    | dct n s e h => exact .dct (hl _ (.dK _) True.intro n s).1 (hl _ (.dK _) True.intro n s).2 e (IsAll.go hl ht ds _ h)
theorem IsAll.go (hl : ∀ a o, Dat o → ¬ M a → H a = some o → ¬ M' a ∧ H' a = some o) (ht : ∀ a xs, SqT K H a xs → SqT K H' a xs) : ∀ (ds : List D) (vs : List V), IsAll K M H vs ds → IsAll K M' H' vs ds
  | [], _, h => by cases h; exact .nil
  | d :: ds, _, h => by
    cases h with
    | cons h1 h2 => exact .cons (Is.go hl ht d _ h1) (IsAll.go hl ht ds _ h2)
end
theorem IsAll.length : ∀ {vs : List V} {ds : List D}, IsAll K M H vs ds → vs.length = ds.length
  | _, _, .nil => rfl
  | _, _, .cons _ h => by rw [List.length_cons, List.length_cons, IsAll.length h]
theorem IsAll.get : ∀ {vs : List V} {ds : List D} {i : Nat} {v : V}, IsAll K M H vs ds → vs[i]? = some v → ∃ d, ds[i]? = some d ∧ Is K M H v d
  | _, _, i, v, .nil, e => by simp at e
  | _, _, 0, v, .cons h _, e => by simp at e; subst e; exact ⟨_, rfl, h⟩
  | _, _, i + 1, v, .cons _ t, e => by
    obtain ⟨d, h1, h2⟩ := IsAll.get (i := i) (v := v) t (by simpa using e)
    exact ⟨d, by simpa using h1, h2⟩
theorem IsAll.getD : ∀ {vs : List V} {ds : List D} {i : Nat} {d : D}, IsAll K M H vs ds → ds[i]? = some d → ∃ v, vs[i]? = some v ∧ Is K M H v d
  | _, _, i, v, .nil, e => by simp at e
  | _, _, 0, v, .cons h _, e => by simp at e; subst e; exact ⟨_, rfl, h⟩
  | _, _, i + 1, d, .cons _ t, e => by
    obtain ⟨v, h1, h2⟩ := IsAll.getD (i := i) (d := d) t (by simpa using e)
    exact ⟨v, by simpa using h1, h2⟩
theorem IsAll.append : ∀ {vs ws : List V} {ds es : List D}, IsAll K M H vs ds → IsAll K M H ws es → IsAll K M H (vs ++ ws) (ds ++ es)
  | _, _, _, _, .nil, s => s
  | _, _, _, _, .cons r t, s => .cons r (IsAll.append t s)
theorem IsAll.take : ∀ {vs : List V} {ds : List D} (n : Nat), IsAll K M H vs ds → IsAll K M H (vs.take n) (ds.take n)
  | _, _, 0, _ => .nil
  | _, _, _ + 1, .nil => .nil
  | _, _, n + 1, .cons r t => .cons r (IsAll.take n t)
theorem IsAll.drop : ∀ {vs : List V} {ds : List D} (n : Nat), IsAll K M H vs ds → IsAll K M H (vs.drop n) (ds.drop n)
  | _, _, 0, r => r
  | _, _, _ + 1, .nil => .nil
  | _, _, n + 1, .cons r t => IsAll.drop n t
end
def Ext (H H' : Hp) : Prop := ∀ b o, H b = some o → H' b = some o
theorem Ext.refl (H : Hp) : Ext H H := fun _ _ h => h
theorem Ext.new {H : Hp} {p : Addr} {o : HO} (h : H p = none) : Ext H (upd H p o) := fun a u e => by
  rw [upd_ne (ne_of_none e h)]
  exact e
theorem Ext.sqt {K : PySem.W.Frag} {H H' : Hp} (e : Ext H H') {a : Addr} {xs : List V} (h : SqT K H a xs) : SqT K H' a xs := by
  rcases h with (h | ⟨o, h⟩) | h
  · exact .inl (.inl (e _ _ h))
  · exact .inl (.inr ⟨o, e _ _ h⟩)
  · exact .inr h
theorem is_ext {K : PySem.W.Frag} {N : Addr → Prop} {H H' : Hp} (e : Ext H H') (v : V) (d : D) (h : Is K N H v d) : Is K N H' v d := Is.go (fun a o _ n s => ⟨n, e _ _ s⟩) (fun a xs s => e.sqt s) d v h
theorem is_anti {K : PySem.W.Frag} {N N' : Addr → Prop} {H : Hp} (e : ∀ a, N' a → N a) {v : V} {d : D} (h : Is K N H v d) : Is K N' H v d := Is.go (fun a o _ n s => ⟨fun z => n (e a z), s⟩) (fun a xs s => s) d v h
/-- nothing that may be changed stands there -/
def NoDat (H : Hp) (p : Addr) : Prop := ∀ o, H p = some o → ¬ Dat o
theorem nodat {H : Hp} {p : Addr} (hp : H p = none) : NoDat H p := fun o e => by rw [hp] at e; cases e
theorem is_growD {K : PySem.W.Frag} {N : Addr → Prop} {H : Hp} {p : Addr} (hp : NoDat H p) {v : V} {d : D} (h : Is K N H v d) : Is K (fun a => N a ∨ a = p) H v d :=
  Is.go (fun a o dt n s => ⟨fun z => z.elim n fun e => (by rw [e] at s; exact hp o s dt), s⟩) (fun a xs s => s) d v h
theorem is_grow {K : PySem.W.Frag} {N : Addr → Prop} {H : Hp} {p : Addr} (hp : H p = none) {v : V} {d : D} (h : Is K N H v d) : Is K (fun a => N a ∨ a = p) H v d := is_growD (nodat hp) h
theorem all_of {K : PySem.W.Frag} {N N' : Addr → Prop} {H H' : Hp} (f : ∀ v d, Is K N H v d → Is K N' H' v d) : ∀ {vs : List V} {ds : List D}, IsAll K N H vs ds → IsAll K N' H' vs ds
  | _, _, .nil => .nil
  | _, _, .cons h t => .cons (f _ _ h) (all_of f t)
/-- a piece of what the heap is known to hold: it owns the objects at M, and speaks besides of data alone -/
structure At where
  M : Addr → Prop
  R : PySem.W.Frag → (Addr → Prop) → Hp → Prop
  loc : ∀ {K : PySem.W.Frag} {N : Addr → Prop} {H H' : Hp}, (∀ b o, M b → H b = some o → H' b = some o) → (∀ v d, Is K N H v d → Is K N H' v d) → R K N H → R K N H'
  anti : ∀ {K : PySem.W.Frag} {N N' : Addr → Prop} {H : Hp}, (∀ a, N' a → N a) → R K N H → R K N' H
  grow : ∀ {K : PySem.W.Frag} {N : Addr → Prop} {H : Hp} {p : Addr}, NoDat H p → R K N H → R K (fun a => N a ∨ a = p) H
  al : ∀ {K : PySem.W.Frag} {N : Addr → Prop} {H : Hp}, R K N H → ∀ a, M a → ∃ o, H a = some o
abbrev Rs := List (At)
section
variable {K : PySem.W.Frag}
def mem : Rs → Addr → Prop
  | [], _ => False
  | t :: r, a => t.M a ∨ mem r a
def hold (K : PySem.W.Frag) (N : Addr → Prop) : Rs → Hp → Prop
  | [], _ => True
  | t :: r, H => t.R K N H ∧ (∀ a, t.M a → ¬ mem r a) ∧ hold K N r H
theorem hold_ext {N : Addr → Prop} {H H' : Hp} (e : Ext H H') : ∀ {r : Rs}, hold K N r H → hold K N r H'
  | [], _ => True.intro
  | t :: r, h => ⟨t.loc (fun b o _ q => e b o q) (is_ext e) h.1, h.2.1, hold_ext e h.2.2⟩
theorem hold_loc {N : Addr → Prop} {H H' : Hp} : ∀ {r : Rs}, (∀ b o, mem r b → H b = some o → H' b = some o) → (∀ v d, Is K N H v d → Is K N H' v d) → hold K N r H → hold K N r H'
  | [], _, _, _ => True.intro
  | t :: r, f, g, h => ⟨t.loc (fun b o z q => f b o (.inl z) q) g h.1, h.2.1, hold_loc (fun b o z q => f b o (.inr z) q) g h.2.2⟩
theorem hold_anti {N N' : Addr → Prop} {H : Hp} (e : ∀ a, N' a → N a) : ∀ {r : Rs}, hold K N r H → hold K N' r H
  | [], _ => True.intro
  | t :: r, h => ⟨t.anti e h.1, h.2.1, hold_anti e h.2.2⟩
theorem hold_growD {N : Addr → Prop} {H : Hp} {p : Addr} (hp : NoDat H p) : ∀ {r : Rs}, hold K N r H → hold K (fun a => N a ∨ a = p) r H
  | [], _ => True.intro
  | t :: r, h => ⟨t.grow hp h.1, h.2.1, hold_growD hp h.2.2⟩
theorem hold_grow {N : Addr → Prop} {H : Hp} {p : Addr} (hp : H p = none) {r : Rs} (h : hold K N r H) : hold K (fun a => N a ∨ a = p) r H := hold_growD (nodat hp) h
theorem hold_al {N : Addr → Prop} {H : Hp} : ∀ {r : Rs}, hold K N r H → ∀ a, mem r a → ∃ o, H a = some o
  | [], _, _, z => z.elim
  | t :: r, h, a, .inl z => t.al h.1 a z
  | t :: r, h, a, .inr z => hold_al h.2.2 a z
theorem mem_append {r r' : Rs} {a : Addr} : mem (r ++ r') a ↔ mem r a ∨ mem r' a := by
  induction r with
  | nil => exact ⟨.inr, fun z => z.elim False.elim id⟩
  | cons t r ih =>
    show (t.M a ∨ mem (r ++ r') a) ↔ ((t.M a ∨ mem r a) ∨ mem r' a)
    rw [ih, or_assoc]
theorem hold_append {N : Addr → Prop} {r r' : Rs} {H : Hp} : hold K N (r ++ r') H ↔ hold K N r H ∧ hold K N r' H ∧ ∀ a, mem r a → ¬ mem r' a := by
  induction r with
  | nil => exact ⟨fun h => ⟨True.intro, h, fun _ z => z.elim⟩, fun h => h.2.1⟩
  | cons t r ih =>
    constructor
    · rintro ⟨h1, h2, h3⟩
      obtain ⟨i1, i2, i3⟩ := ih.mp h3
      exact ⟨⟨h1, fun a z y => h2 a z (mem_append.mpr (.inl y)), i1⟩, i2, fun a z => z.elim (fun z y => h2 a z (mem_append.mpr (.inr y))) (i3 a)⟩
    · rintro ⟨⟨h1, h2, h3⟩, h4, h5⟩
      exact ⟨h1, fun a z y => (mem_append.mp y).elim (h2 a z) (h5 a (.inl z)), ih.mpr ⟨h3, h4, fun a z => h5 a (.inr z)⟩⟩
/-- a list of our own at l that is being filled -/
def lstA (l : Addr) (ds : List D) : At where
  M := fun a => a = l
  R := fun K N H => ∃ vs, H l = some (.lst vs) ∧ IsAll K N H vs ds
  loc := fun f g ⟨vs, h, i⟩ => ⟨vs, f _ _ rfl h, all_of g i⟩
  anti := fun e ⟨vs, h, i⟩ => ⟨vs, h, all_of (fun _ _ => is_anti e) i⟩
  grow := fun hp ⟨vs, h, i⟩ => ⟨vs, h, all_of (fun _ _ => is_growD hp) i⟩
  al := fun ⟨vs, h, _⟩ a z => ⟨.lst vs, by rw [show a = l from z]; exact h⟩
end
/-- what r tells is so -/
def Rok (K : PySem.W.Frag) (r : Rs) (H : Hp) : Prop := hold K (mem r) r H
theorem Rok.ext {K : PySem.W.Frag} {r : Rs} {H H' : Hp} (h : Rok K r H) (e : Ext H H') : Rok K r H' := hold_ext e h
/-- all data stand as they stood -/
def Kp (K : PySem.W.Frag) (r : Rs) (H : Hp) (r' : Rs) (H' : Hp) : Prop := ∀ v d, Is K (mem r) H v d → Is K (mem r') H' v d
section
variable {K : PySem.W.Frag} {r r' r1 r2 : Rs} {H H' H1 H2 : Hp}
theorem Kp.refl : Kp K r H r H := fun _ _ h => h
theorem Kp.trans (a : Kp K r H r1 H1) (b : Kp K r1 H1 r2 H2) : Kp K r H r2 H2 := fun v d h => b v d (a v d h)
theorem Kp.ext (e : Ext H H') : Kp K r H r H' := is_ext e
theorem Kp.all (k : Kp K r H r' H') {vs : List V} {ds : List D} (h : IsAll K (mem r) H vs ds) : IsAll K (mem r') H' vs ds := all_of k h
/-- r knows more than r' -/
structure le (r r' : Rs) : Prop where
  m : ∀ a, mem r' a → mem r a
  r : ∀ K H, Rok K r H → Rok K r' H
theorem le.refl : le r r := ⟨fun _ h => h, fun _ _ h => h⟩
theorem le.trans (a : le r r1) (b : le r1 r2) : le r r2 := ⟨fun x h => a.m x (b.m x h), fun K H h => b.r K H (a.r K H h)⟩
theorem le.kp (l : le r r') : Kp K r H r' H := fun _ _ h => is_anti l.m h
theorem le.drop {t : Rs} : le (r ++ t) r := ⟨fun a h => mem_append.mpr (.inl h), fun K H h => hold_anti (fun a z => mem_append.mpr (.inl z)) (hold_append.mp h).1⟩
end
abbrev Dl := List (Option D)
def lk : Dl → Nat → Option D
  | [], _ => none
  | x :: _, 0 => x
  | _ :: l, n + 1 => lk l n
theorem lk_get : ∀ {δ : Dl} {i : Nat} {d : D}, lk δ i = some d → δ[i]? = some (some d)
  | [], i, d, h => by simp [lk] at h
  | x :: l, 0, d, h => by simp only [lk] at h; simp [h]
  | x :: l, n + 1, d, h => by
    simp only [lk] at h
    have := lk_get h
    simpa using this
/-- the names' slots hold the data -/
structure Okb (K : PySem.W.Frag) (r : Rs) (δ : Dl) (σ : St) (H : Hp) : Prop where
  env : ∀ (i : Nat) (d : D), δ[i]? = some (some d) → ∃ v, σ[i]? = some (some v) ∧ Is K (mem r) H v d
  r : Rok K r H
  len : δ.length = σ.length
theorem Okb.step {K : PySem.W.Frag} {r r' : Rs} {δ : Dl} {σ : St} {H H' : Hp} (o : Okb K r δ σ H) (k : Kp K r H r' H') (hr : Rok K r' H') : Okb K r' δ σ H' :=
  ⟨fun i d e => let ⟨v, h1, h2⟩ := o.env i d e; ⟨v, h1, k v d h2⟩, hr, o.len⟩
theorem Okb.set {K : PySem.W.Frag} {r : Rs} {δ : Dl} {σ : St} {H : Hp} (o : Okb K r δ σ H) {i : Nat} {v : V} {d : D} (h : Is K (mem r) H v d) : Okb K r (δ.set i (some d)) (σ.set i (some v)) H := by
  refine ⟨fun j e he => ?_, o.r, by rw [List.length_set, List.length_set]; exact o.len⟩
  by_cases hj : j = i
  · subst hj
    have hl : j < δ.length := by
      have := (List.getElem?_eq_some_iff.mp he).1
      rwa [List.length_set] at this
    rw [List.getElem?_set_self hl] at he
    cases he
    exact ⟨v, List.getElem?_set_self (o.len ▸ hl), h⟩
  · rw [List.getElem?_set_ne (Ne.symm hj)] at he ⊢
    exact o.env j e he
theorem Okb.drop {K : PySem.W.Frag} {r : Rs} {δ : Dl} {σ : St} {H : Hp} (o : Okb K r δ σ H) {i : Nat} : Okb K r (δ.set i none) (σ.set i none) H := by
  refine ⟨fun j e he => ?_, o.r, by rw [List.length_set, List.length_set]; exact o.len⟩
  by_cases hj : j = i
  · subst hj
    have hl : j < δ.length := by
      have := (List.getElem?_eq_some_iff.mp he).1
      rwa [List.length_set] at this
    rw [List.getElem?_set_self hl] at he
    cases he
  · rw [List.getElem?_set_ne (Ne.symm hj)] at he ⊢
    exact o.env j e he
/-- what is told of an exception: its class, its fields' names, what they hold; the slots, the pieces -/
abbrev XT := Addr → List Str → List D → Dl → Rs → Prop
/-- an exception's own dict -/
def ExAt (K : PySem.W.Frag) (r : Rs) (H : Hp) (a : Option Addr) (fs : List Str) (ds : List D) : Prop := match a with
  | some a => ¬ mem r a ∧ ∃ kvs : List (Str × V), H a = some (.xd kvs) ∧ kvs.map Prod.fst = fs ∧ IsAll K (mem r) H (kvs.map Prod.snd) ds
  | none => fs = [] ∧ ds = []
/-- what is wanted where an exception leaves -/
def Xc (K : PySem.W.Frag) (W : WX) (XR : XT) (r : Rs) (H : Hp) : Prop := ∀ C fs ds δ' r' σ' a H', XR C fs ds δ' r' → Okb K r' δ' σ' H' → Kp K r H r' H' → ExAt K r' H' a fs ds → W (.ref C) a σ' H'
theorem Xc.step {K : PySem.W.Frag} {W : WX} {XR : XT} {r r' : Rs} {H H' : Hp} (x : Xc K W XR r H) (k : Kp K r H r' H') : Xc K W XR r' H' := fun C fs ds δ' r2 σ' a H2 q o k2 e => x C fs ds δ' r2 σ' a H2 q o (k.trans k2) e
structure Ok (K : PySem.W.Frag) (W : WX) (XR : XT) (r : Rs) (δ : Dl) (σ : St) (H : Hp) : Prop where
  b : Okb K r δ σ H
  x : Xc K W XR r H
theorem Ok.r {K : PySem.W.Frag} {W : WX} {XR : XT} {p : Rs} {δ : Dl} {σ : St} {H : Hp} (o : Ok K W XR p δ σ H) : Rok K p H := o.b.r
section
variable {K : PySem.W.Frag} {W : WX} {XR : XT} {r r' : Rs} {δ : Dl} {σ : St} {H H' : Hp}
theorem Ok.env (o : Ok K W XR r δ σ H) : ∀ (i : Nat) (d : D), δ[i]? = some (some d) → ∃ v, σ[i]? = some (some v) ∧ Is K (mem r) H v d := o.b.env
theorem Ok.len (o : Ok K W XR r δ σ H) : δ.length = σ.length := o.b.len
theorem Ok.step (o : Ok K W XR r δ σ H) (k : Kp K r H r' H') (hr : Rok K r' H') : Ok K W XR r' δ σ H' := ⟨o.b.step k hr, o.x.step k⟩
theorem Ok.set (o : Ok K W XR r δ σ H) {i : Nat} {v : V} {d : D} (h : Is K (mem r) H v d) : Ok K W XR r (δ.set i (some d)) (σ.set i (some v)) H := ⟨o.b.set h, o.x⟩
theorem Ok.drop (o : Ok K W XR r δ σ H) {i : Nat} : Ok K W XR r (δ.set i none) (σ.set i none) H := ⟨o.b.drop, o.x⟩
end
abbrev PK1 := D → Rs → Prop
/-- readings over data: of an expression, of arguments, of a test -/
abbrev AT := XT → Dl → Rs → PK1 → Prop
abbrev AL := XT → Dl → Rs → (List D → Rs → Prop) → Prop
abbrev AB := XT → Dl → Rs → (Bool → Rs → Prop) → Prop
def TD (K : PySem.W.Frag) (W : WX) (t : AT) : TE := fun σ H Q => ∃ XR δ r P, Ok K W XR r δ σ H ∧ t XR δ r P ∧ ∀ d r' v H', P d r' → Ok K W XR r' δ σ H' → Kp K r H r' H' → Is K (mem r') H' v d → Q v H'
def TDL (K : PySem.W.Frag) (W : WX) (t : AL) : TA := fun σ H Q => ∃ XR δ r P, Ok K W XR r δ σ H ∧ t XR δ r P ∧ ∀ ds r' vs H', P ds r' → Ok K W XR r' δ σ H' → Kp K r H r' H' → IsAll K (mem r') H' vs ds → Q vs H'
def TDB (K : PySem.W.Frag) (W : WX) (t : AB) : TT := fun σ H Q => ∃ XR δ r P, Ok K W XR r δ σ H ∧ t XR δ r P ∧ ∀ b r' H', P b r' → Ok K W XR r' δ σ H' → Kp K r H r' H' → Q b H'
def PD (X : Cx) (W : WX) (e : Expr) (t : AT) : Prop := PE X e (TD X.K W t)
def PDL (X : Cx) (W : WX) (es : List Expr) (t : AL) : Prop := PA X es (TDL X.K W t)
def PDB (X : Cx) (W : WX) (e : Expr) (t : AB) : Prop := PT X e (TDB X.K W t)
def PDW (X : Cx) (W : WX) (e : Expr) (t : AB) : Prop := PW X e (TDB X.K W t)
theorem imE {X : Cx} {e : Expr} {t t' : TE} (h : PE X e t) (i : ∀ σ H Q, t' σ H Q → t σ H Q) : PE X e t' := ⟨fun pins s σ H Q I q => h.run pins s σ H Q I (i σ H Q q)⟩
theorem imA {X : Cx} {e : List Expr} {t t' : TA} (h : PA X e t) (i : ∀ σ H Q, t' σ H Q → t σ H Q) : PA X e t' := ⟨fun pos pins s σ H Q I q => h.run pos pins s σ H Q I (i σ H Q q)⟩
theorem imT {X : Cx} {e : Expr} {t t' : TT} (h : PT X e t) (i : ∀ σ H Q, t' σ H Q → t σ H Q) : PT X e t' := ⟨fun pins s σ H Q I q => h.run pins s σ H Q I (i σ H Q q)⟩
theorem imW {X : Cx} {e : Expr} {t t' : TT} (h : PW X e t) (i : ∀ σ H Q, t' σ H Q → t σ H Q) : PW X e t' := ⟨fun wh pins s σ H Q I q => h.run wh pins s σ H Q I (i σ H Q q)⟩
theorem imS {X : Cx} {e : Stmt} {t t' : TS} (h : PS X e t) (i : ∀ D σ H, t' D σ H → t D σ H) : PS X e t' := ⟨fun pins s σ H D I q => h.run pins s σ H D I (i D σ H q)⟩
theorem imSs {X : Cx} {e : List Stmt} {t t' : TS} (h : PSs X e t) (i : ∀ D σ H, t' D σ H → t D σ H) : PSs X e t' := ⟨fun pins s σ H D I q => h.run pins s σ H D I (i D σ H q)⟩
def aVar (i : Nat) : AT := fun x δ r P => match lk δ i with | some d => P d r | none => False
def aC (d : D) : AT := fun x _ r P => P d r
section
variable {X : Cx} {W : WX}
theorem td_var {K : PySem.W.Frag} {W : WX} {i : Nat} {σ : St} {H : Hp} {Q : VK} (q : TD K W (aVar i) σ H Q) : tVar i σ H Q := by
  obtain ⟨XR, δ, r, P, o, h, k⟩ := q
  unfold aVar at h
  split at h
  · rename_i d hd
    obtain ⟨v, h1, h2⟩ := o.env i d (lk_get hd)
    exact ⟨v, h1, k d r v H h o Kp.refl h2⟩
  · exact h.elim
theorem dv (i : Nat) {x : Str} {pos : Pos} (hN : X.N[i]? = some x := by rfl) (hv : Vis X.env.scope x := by first | exact Or.inl rfl | exact Or.inr (Or.inl rfl) | exact Or.inr (Or.inr rfl)) (hd : (x == ("__debug__" : Str)) = false := by decide)
    (hcd : (x == ("__classdict__" : Str)) = false := by decide) : PD X W (.Name x pos) (aVar i) := imE (pe_var hN hv hd hcd) fun _ _ _ q => td_var q
theorem td_c {K : PySem.W.Frag} {W : WX} {d : D} {v : V} {σ : St} {H : Hp} {Q : VK} (hv : ∀ M H, Is K M H v d) (q : TD K W (aC d) σ H Q) : tC v σ H Q := by
  obtain ⟨XR, δ, r, P, o, h, k⟩ := q
  exact k d r v H h o Kp.refl (hv _ _)
theorem d_int {i j pos} : PD X W (.Constant (.int i) j pos) (aC (.int i)) := imE pe_int fun _ _ _ q => td_c (fun _ _ => .int i) q
theorem d_bl {i j pos} : PD X W (.Constant (.bool i) j pos) (aC (.bl i)) := imE pe_bl fun _ _ _ q => td_c (fun _ _ => .bl i) q
theorem d_non {j pos} : PD X W (.Constant .none j pos) (aC .non) := imE pe_non fun _ _ _ q => td_c (fun _ _ => .non) q
def sokB (x : Str) : Bool := PyData.strOk x && decide (x.length ≤ 1000000)
theorem sok_of {x : Str} (h : sokB x = true) : sok x := by
  unfold sokB at h
  rw [Bool.and_eq_true, decide_eq_true_eq] at h
  exact h
theorem d_str {x j pos} (h : sokB x = true := by decide +kernel) : PD X W (.Constant (.str x) j pos) (aC (.str x)) := imE pe_str fun _ _ _ q => td_c (fun _ _ => .str (sok_of h)) q
/-- a constant of the module: a text, a number -/
theorem d_glob {x : Str} {v : V} {d : D} {u : Value} {pos : Pos} (hg : Gl X x) (hm : X.mg x = some u) (r : RelV v u) (hd : ∀ M H, Is X.K M H v d) (hdb : (x == ("__debug__" : Str)) = false := by decide) : PD X W (.Name x pos) (aC d) :=
  imE (pe_glob hg hm r hdb) fun _ _ _ q => td_c hd q
def aNil : AL := fun x _ r P => P [] r
def aCons (t : AT) (l : AL) : AL := fun x δ r P => t x δ r fun d r1 => l x δ r1 fun ds r2 => P (d :: ds) r2
theorem dl_nil : PDL X W [] aNil := imA pa_nil fun σ H Q q => by
  obtain ⟨XR, δ, r, P, o, h, k⟩ := q
  exact k [] r [] H h o Kp.refl .nil
theorem td_bind {K : PySem.W.Frag} {W : WX} {XR : XT} {σ : St} {H : Hp} {δ : Dl} {r : Rs} {t : AT} {P : PK1} {Q : VK} (o : Ok K W XR r δ σ H) (h : t XR δ r P) (k : ∀ d r' v H', P d r' → Ok K W XR r' δ σ H' → Kp K r H r' H' → Is K (mem r') H' v d → Q v H') : TD K W t σ H Q := ⟨XR, δ, r, P, o, h, k⟩
theorem tdl_bind {K : PySem.W.Frag} {W : WX} {XR : XT} {σ : St} {H : Hp} {δ : Dl} {r : Rs} {t : AL} {P : List D → Rs → Prop} {Q : List V → Hp → Prop} (o : Ok K W XR r δ σ H) (h : t XR δ r P) (k : ∀ d r' v H', P d r' → Ok K W XR r' δ σ H' → Kp K r H r' H' → IsAll K (mem r') H' v d → Q v H') : TDL K W t σ H Q := ⟨XR, δ, r, P, o, h, k⟩
theorem dl_cons {e : Expr} {es : List Expr} {t : AT} {l : AL} (ha : PD X W e t) (hr : PDL X W es l) (hs : starEach (e :: es) X.env = (false, eval e X.env) :: starEach es X.env := by rfl) : PDL X W (e :: es) (aCons t l) := imA (pa_cons ha hr hs) fun σ H Q q => by
  obtain ⟨XR, δ, r, P, o, h, k⟩ := q
  refine td_bind o h fun d r1 v H1 h1 o1 k1 i1 => tdl_bind o1 h1 fun ds r2 vs H2 h2 o2 k2 i2 => ?_
  exact k (d :: ds) r2 _ H2 h2 o2 (k1.trans k2) (.cons (k2 _ _ i1) i2)
/-- *e in an argument list -/
def aStar (t : AT) (l : AL) : AL := fun x δ r P => t x δ r fun d r1 => match d with
  | .lst xs => l x δ r1 fun ds r2 => P (xs ++ ds) r2
  | .tup xs => l x δ r1 fun ds r2 => P (xs ++ ds) r2
  | _ => False
theorem dl_star {e : Expr} {es : List Expr} {p : Pos} {t : AT} {l : AL} (ha : PD X W e t) (hr : PDL X W es l) (hs : starEach (.Starred e p :: es) X.env = (true, eval e X.env) :: starEach es X.env := by rfl) : PDL X W (.Starred e p :: es) (aStar t l) := imA (StX.pa_star ha hr hs) fun σ H Q q => by
  obtain ⟨XR, δ, r, P, o, h, k⟩ := q
  refine td_bind o h fun d r1 v H1 h1 o1 k1 i1 => ?_
  cases i1 with
  | lst n s a => exact ⟨_, _, rfl, .inr (SqL.of s), tdl_bind o1 h1 fun ds r2 vs H2 h2 o2 k2 i2 => k _ r2 _ H2 h2 o2 (k1.trans k2) ((k2.all a).append i2)⟩
  | tup s a => exact ⟨_, _, rfl, .inl s, tdl_bind o1 h1 fun ds r2 vs H2 h2 o2 k2 i2 => k _ r2 _ H2 h2 o2 (k1.trans k2) ((k2.all a).append i2)⟩
  | _ => exact h1.elim
def small (n : Nat) : Prop := n ≤ 1000000
theorem small.sz {n : Nat} (h : small n) : n ≤ sizeLine := Nat.le_trans h (by decide)
theorem not_al {K : PySem.W.Frag} {r : Rs} {H : Hp} {p : Addr} (h : Rok K r H) (hp : H p = none) : ¬ mem r p := fun z => by
  obtain ⟨o, e⟩ := hold_al h p z
  rw [hp] at e
  cases e
def aLst (l : AL) : AT := fun x δ r P => l x δ r fun ds r1 => small ds.length ∧ P (.lst ds) r1
theorem new_tup {K : PySem.W.Frag} {r : Rs} {H : Hp} {p : Addr} {vs : List V} {ds : List D} (hp : H p = none) (i : IsAll K (mem r) H vs ds) : Is K (mem r) (upd H p (.tup vs)) (.ref p) (.tup ds) :=
  .tup (SqT.of upd_same) (Kp.all (r := r) (r' := r) (Kp.ext (Ext.new hp)) i)
theorem new_lst {K : PySem.W.Frag} {r : Rs} {H : Hp} {p : Addr} {vs : List V} {ds : List D} (hr : Rok K r H) (hp : H p = none) (i : IsAll K (mem r) H vs ds) : Is K (mem r) (upd H p (.lst vs)) (.ref p) (.lst ds) :=
  .lst (not_al hr hp) upd_same (Kp.all (r := r) (r' := r) (Kp.ext (Ext.new hp)) i)
theorem Ok.new {K : PySem.W.Frag} {W : WX} {XR : XT} {r : Rs} {δ : Dl} {σ : St} {H : Hp} {p : Addr} {u : HO} (o : Ok K W XR r δ σ H) (hp : H p = none) : Ok K W XR r δ σ (upd H p u) := o.step (Kp.ext (Ext.new hp)) (o.r.ext (Ext.new hp))
theorem d_lst {es : List Expr} {pos : Pos} {l : AL} (ha : PDL X W es l) : PD X W (.List es pos) (aLst l) := imE (pe_lst ha) fun σ H Q q => by
  obtain ⟨XR, δ, r, P, o, h, k⟩ := q
  refine tdl_bind o h fun ds r1 vs H1 h1 o1 k1 i1 => ⟨by rw [i1.length]; exact h1.1.sz, fun p hp => ?_⟩
  exact k _ r1 _ _ h1.2 (o1.new hp) (k1.trans (Kp.ext (Ext.new hp))) (new_lst o1.r hp i1)
end
end G
namespace G
open PySem PySem.Spec L2
abbrev O2 := D → D → (D → Prop) → Prop
def rD (K : PySem.W.Frag) (o : O2) : R2 := fun x y H Q => ∃ (r : Rs) (d1 d2 : D) (P : D → Prop), Rok K r H ∧ Is K (mem r) H x d1 ∧ Is K (mem r) H y d2 ∧ o d1 d2 P ∧ ∀ d v H', P d → Ext H H' → Is K (mem r) H' v d → Q v H'
def aOp (o : O2) (ta tb : AT) : AT := fun x δ r P => ta x δ r fun d1 r1 => tb x δ r1 fun d2 r2 => o d1 d2 fun d => P d r2
section
variable {X : Cx} {W : WX} {a b c : Expr} {ta tb tc : AT} {pos : Pos}
theorem Ok.ext {K : PySem.W.Frag} {W : WX} {XR : XT} {r : Rs} {δ : Dl} {σ : L2.St} {H H' : Hp} (o : Ok K W XR r δ σ H) (e : Ext H H') : Ok K W XR r δ σ H' := o.step (Kp.ext e) (o.r.ext e)
theorem td_op {K : PySem.W.Frag} {W : WX} {o : O2} {ta tb : AT} {σ : L2.St} {H : Hp} {Q : VK} (q : TD K W (aOp o ta tb) σ H Q) : tOp (rD K o) (TD K W ta) (TD K W tb) σ H Q := by
  obtain ⟨XR, δ, r, P, ok, h, k⟩ := q
  refine td_bind ok h fun d1 r1 v1 H1 h1 o1 k1 i1 => td_bind o1 h1 fun d2 r2 v2 H2 h2 o2 k2 i2 => ?_
  exact ⟨r2, d1, d2, fun d => P d r2, o2.r, k2 _ _ i1, i2, h2, fun d v H' p e i => k d r2 v H' p (o2.ext e) ((k1.trans k2).trans (Kp.ext e)) i⟩
theorem d_bin {op : Operator} {o : O2} (ho : OpR X (binaryOp op) (rD X.K o)) (ha : PD X W a ta) (hb : PD X W b tb) : PD X W (.BinOp a op b pos) (aOp o ta tb) := imE (pe_op ho ha hb) fun _ _ _ q => td_op q
theorem d_cmp {op : CmpOp} {o : O2} (ho : OpR X (compareOp op) (rD X.K o)) (ha : PD X W a ta) (hb : PD X W b tb) (hm : behindInMarks op b = false := by first | exact nomark _ | with_unfolding_all rfl) : PD X W (.Compare a [op] [b] pos) (aOp o ta tb) :=
  imE (pe_cmpR ho ha hb hm) fun _ _ _ q => td_op q
/-- a value as a test: True or False -/
def aTest (t : AT) : AB := fun x δ r P => t x δ r fun d r1 => match d with | .bl b => P b r1 | _ => False
theorem tdb_test {K : PySem.W.Frag} {W : WX} {t : AT} {t0 : TE} {σ : L2.St} {H : Hp} {Q : Bool → Hp → Prop} (im : ∀ Q, TD K W t σ H Q → t0 σ H Q) (q : TDB K W (aTest t) σ H Q) : t0 σ H fun x H' => ∃ k, x = .bl k ∧ Q k H' := by
  obtain ⟨XR, δ, r, P, ok, h, k⟩ := q
  refine im _ (td_bind ok h fun d r1 v H1 h1 o1 k1 i1 => ?_)
  cases i1 with
  | bl b => exact ⟨b, rfl, k b r1 H1 h1 o1 k1⟩
  | _ => exact h1.elim
theorem b_cmp {op : CmpOp} {o : O2} (ho : OpR X (compareOp op) (rD X.K o)) (ha : PD X W a ta) (hb : PD X W b tb) (hm : behindInMarks op b = false := by first | exact nomark _ | with_unfolding_all rfl) : PDB X W (.Compare a [op] [b] pos) (aTest (aOp o ta tb)) :=
  imT (pt_cmpR ho ha hb hm) fun _ _ _ q => tdb_test (fun _ q => td_op q) q
/-- a value as a test: its truth -/
def truD : D → Option Bool
  | .non => some false | .bl b => some b | .int i => some (i != 0) | .str x => some ((x.length : Int) != 0) | .lst xs => some (!xs.isEmpty) | .tup xs => some (!xs.isEmpty) | _ => none
def aTru (t : AT) : AB := fun x δ r P => t x δ r fun d r1 => match truD d with | some b => P b r1 | none => False
theorem isEmpty_all {K : PySem.W.Frag} {N : Addr → Prop} {H : Hp} {xs : List V} {ds : List D} (h : IsAll K N H xs ds) : xs.isEmpty = ds.isEmpty := by cases h <;> rfl
theorem b_tru (ha : PD X W a ta) (he : ∀ whole, isTrue a X.env whole = (do let v ← whole; standAt a.pos; holding [v] (truthy v)) := by intro _; rfl) : PDB X W a (aTru ta) :=
  imT (pt_truth ha he) fun σ H Q q => by
    obtain ⟨XR, δ, r, P, ok, h, k⟩ := q
    refine td_bind ok h fun d r1 v H1 h1 o1 k1 i1 => ?_
    cases i1 with
    | non => exact ⟨false, rfl, k _ r1 H1 h1 o1 k1⟩
    | bl b => exact ⟨b, rfl, k _ r1 H1 h1 o1 k1⟩
    | int i => exact ⟨i != 0, rfl, k _ r1 H1 h1 o1 k1⟩
    | str s => exact ⟨_, ⟨Nat.le_trans s.2 (by decide), rfl⟩, k _ r1 H1 h1 o1 k1⟩
    | adr a => exact h1.elim
    | ins _ _ _ _ _ => exact h1.elim
    | dct _ _ _ _ => exact h1.elim
    | lst n s i => exact ⟨_, Or.inl ⟨_, SqL.of s, rfl⟩, k _ r1 H1 (by rw [isEmpty_all i]; exact h1) o1 k1⟩
    | tup s i => exact ⟨_, Or.inr (Or.inl ⟨_, s, rfl⟩), k _ r1 H1 (by rw [isEmpty_all i]; exact h1) o1 k1⟩
def oAdd : O2 := fun x y k => match x, y with
  | .int i, .int j => k (.int (i + j))
  | .str i, .str j => small (i.length + j.length) ∧ k (.str (i ++ j))
  | .lst i, .lst j => small (i.length + j.length) ∧ k (.lst (i ++ j))
  | .tup i, .tup j => small (i.length + j.length) ∧ k (.tup (i ++ j))
  | _, _ => False
theorem sok_append {i j : Str} (hi : sok i) (hj : sok j) (h : small (i.length + j.length)) : sok (i ++ j) := by
  obtain ⟨a, b⟩ := hi
  obtain ⟨c, d⟩ := hj
  refine ⟨?_, ?_⟩
  · show (i.cps ++ j.cps).all _ = true
    rw [Array.all_append]
    exact Bool.and_eq_true_iff.mpr ⟨a, c⟩
  · show (i.cps ++ j.cps).size ≤ _
    rw [Array.size_append]
    exact h
theorem all_nil {K : PySem.W.Frag} {N : Addr → Prop} {H : Hp} {xs : List V} {ds : List D} (h : IsAll K N H xs ds) : xs = [] ↔ ds = [] := by cases h <;> simp
theorem p_add : OpR X (binaryOp .Add) (rD X.K oAdd) := by
  rintro pins s σ H x y v u Q I rx ry ⟨r, d1, d2, P, hr, i1, i2, ho, k⟩
  cases i1 <;> cases i2 <;> try exact ho.elim
  · exact op_add pins s σ H _ _ v u Q I rx ry ⟨_, _, rfl, rfl, k _ _ H ho (Ext.refl H) (.int _)⟩
  · rename_i s1 _ s2
    exact op_add_str pins s σ H _ _ v u Q I rx ry ⟨_, _, rfl, rfl, ho.1.sz, k _ _ H ho.2 (Ext.refl H) (.str (sok_append s1 s2 ho.1))⟩
  · rename_i n1 h1 a1 _ _ _ n2 h2 a2
    exact op_cat pins s σ H _ _ v u Q I rx ry ⟨_, _, _, _, rfl, rfl, h1, h2, by rw [a1.length, a2.length]; exact ho.1.sz, fun p hp => k _ _ _ ho.2 (Ext.new hp) (new_lst hr hp (a1.append a2))⟩
  · rename_i h1 a1 _ _ _ h2 a2
    refine op_catA pins s σ H _ _ v u Q I rx ry ⟨_, _, _, _, rfl, rfl, h1, h2, by rw [a1.length, a2.length]; exact ho.1.sz, fun z => ?_, fun _ z => ?_, fun _ z p hp => k _ _ _ ho.2 (Ext.new hp) (new_tup hp (a1.append a2))⟩
    · have e := (all_nil a1).mp z
      subst e
      exact k _ _ H ho.2 (Ext.refl H) (.tup h2 a2)
    · have e := (all_nil a2).mp z
      subst e
      have q := ho.2
      rw [List.append_nil] at q
      exact k _ _ H q (Ext.refl H) (.tup h1 a1)
def oCmp (f : Int → Int → Bool) (g : Str → Str → Bool) : O2 := fun x y k => match x, y with | .int i, .int j => k (.bl (f i j)) | .str i, .str j => k (.bl (g i j)) | _, _ => False
abbrev oLe : O2 := oCmp (fun i j => decide (i ≤ j)) (fun i j => !decide (j.cps.toList < i.cps.toList))
abbrev oGt : O2 := oCmp (fun i j => decide (j < i)) (fun i j => decide (j.cps.toList < i.cps.toList))
theorem p_le : OpR X (compareOp .LtE) (rD X.K oLe) := by
  rintro pins s σ H x y v u Q I rx ry ⟨r, d1, d2, P, hr, i1, i2, ho, k⟩
  cases i1 <;> cases i2 <;> try exact ho.elim
  · exact op_le pins s σ H _ _ v u Q I rx ry ⟨_, _, rfl, rfl, k _ _ H ho (Ext.refl H) (.bl _)⟩
  · exact op_le_str pins s σ H _ _ v u Q I rx ry ⟨_, _, rfl, rfl, k _ _ H ho (Ext.refl H) (.bl _)⟩
theorem p_gt : OpR X (compareOp .Gt) (rD X.K oGt) := by
  rintro pins s σ H x y v u Q I rx ry ⟨r, d1, d2, P, hr, i1, i2, ho, k⟩
  cases i1 <;> cases i2 <;> try exact ho.elim
  · exact op_gt pins s σ H _ _ v u Q I rx ry ⟨_, _, rfl, rfl, k _ _ H ho (Ext.refl H) (.bl _)⟩
  · exact op_gt_str pins s σ H _ _ v u Q I rx ry ⟨_, _, rfl, rfl, k _ _ H ho (Ext.refl H) (.bl _)⟩
def isNonD : D → Bool | .non => true | _ => false
def oIs : O2 := fun x y k => match y with | .non => k (.bl (isNonD x)) | _ => False
theorem dec_non {K : PySem.W.Frag} {N : Addr → Prop} {H : Hp} {v : V} {d : D} (h : Is K N H v d) : decide (v = V.non) = isNonD d := by cases h <;> rfl
theorem p_is : OpR X (compareOp .Is) (rD X.K oIs) := by
  rintro pins s σ H x y v u Q I rx ry ⟨r, d1, d2, P, hr, i1, i2, ho, k⟩
  cases i2 <;> try exact ho.elim
  exact op_isN pins s σ H _ _ v u Q I rx ry ⟨rfl, by rw [dec_non i1]; exact k _ _ H ho (Ext.refl H) (.bl _)⟩
mutual
def py : D → PyData
  | .non => .none | .bl b => .bool b | .int i => .int i | .str x => .str x | .adr _ => .dict [] | .ins _ _ _ => .dict [] | .dct _ _ => .dict [] | .lst ds => .list (pys ds) | .tup ds => .tuple (pys ds)
def pys : List D → List PyData
  | [] => []
  | d :: ds => py d :: pys ds
end
mutual
def dep : D → Nat
  | .adr _ => 1000 | .ins _ _ _ => 1000 | .dct _ _ => 1000 | .lst ds => deps ds + 1 | .tup ds => deps ds + 1 | _ => 0
def deps : List D → Nat
  | [] => 0
  | d :: ds => max (dep d) (deps ds)
end
mutual
theorem dep_py {K : PySem.W.Frag} {N : Addr → Prop} {H : Hp} : ∀ (d : D) (v : V), Is K N H v d → dep d ≤ 64 → Dp K H v (py d) ∧ (py d).canLay0 = true ∧ (py d).depth ≤ dep d
  | .non, _, h, _ => by cases h; exact ⟨.non, rfl, by simp [py, PyData.depth]⟩
  | .bl b, _, h, _ => by cases h; exact ⟨.bl b, rfl, by simp [py, PyData.depth]⟩
  | .int i, _, h, _ => by cases h; exact ⟨.int i, rfl, by simp [py, PyData.depth]⟩
  | .str x, _, h, _ => by cases h with | str o => exact ⟨.str x, by simp only [py, PyData.canLay0]; exact o.1, by simp [py, PyData.depth]⟩
  | .adr a, _, h, l => by simp [dep] at l
  | .ins _ _ _, _, h, l => by simp [dep] at l
  | .dct _ _, _, h, l => by simp [dep] at l
  | .lst ds, _, h, l => by
    cases h with
    | lst n s i =>
      have l' : deps ds ≤ 64 := by simp only [dep] at l; omega
      obtain ⟨a, b, c⟩ := deps_py ds _ i l'
      exact ⟨by simp only [py]; exact .lst (SqL.of s) a, by simp only [py, PyData.canLay0]; exact b, by simp only [py, PyData.depth, dep]; omega⟩
  | .tup ds, _, h, l => by
    cases h with
    | tup s i =>
      have l' : deps ds ≤ 64 := by simp only [dep] at l; omega
      obtain ⟨a, b, c⟩ := deps_py ds _ i l'
      exact ⟨by simp only [py]; exact .tup s a, by simp only [py, PyData.canLay0]; exact b, by simp only [py, PyData.depth, dep]; omega⟩
theorem deps_py {K : PySem.W.Frag} {N : Addr → Prop} {H : Hp} : ∀ (ds : List D) (vs : List V), IsAll K N H vs ds → deps ds ≤ 64 → DpAll K H vs (pys ds) ∧ PyData.canLayAll0 (pys ds) = true ∧ PyData.depthAll (pys ds) ≤ deps ds
  | [], _, h, _ => by cases h; exact ⟨by simp only [pys]; exact .nil, rfl, by simp [pys, PyData.depthAll]⟩
  | d :: ds, _, h, l => by
    cases h with
    | cons h1 h2 =>
      have l1 : dep d ≤ 64 := by simp only [deps] at l; omega
      have l2 : deps ds ≤ 64 := by simp only [deps] at l; omega
      obtain ⟨a, b, c⟩ := dep_py d _ h1 l1
      obtain ⟨a', b', c'⟩ := deps_py ds _ h2 l2
      exact ⟨by simp only [pys]; exact .cons a a', by simp only [pys, PyData.canLayAll0]; rw [b, b']; rfl, by simp only [pys, PyData.depthAll, deps]; omega⟩
end
theorem shaped_py {K : PySem.W.Frag} {N : Addr → Prop} {H : Hp} {d : D} {v : V} (h : Is K N H v d) (l : dep d ≤ 64) : Dp K H v (py d) ∧ SeqAt.shaped (py d) = true := by
  obtain ⟨a, b, c⟩ := dep_py d v h l
  exact ⟨a, by unfold SeqAt.shaped; rw [b]; exact decide_eq_true (by omega)⟩
def eqD (a b : D) : Bool := PyData.eqv (py a) (py b)
def oEq : O2 := fun x y k => dep x ≤ 64 ∧ dep y ≤ 64 ∧ k (.bl (eqD x y))
def oNe : O2 := fun x y k => dep x ≤ 64 ∧ dep y ≤ 64 ∧ k (.bl (!eqD x y))
theorem p_eq (hu : X.A.units + 64 < cLine) : OpR X (compareOp .Eq) (rD X.K oEq) := by
  rintro pins s σ H x y v u Q I rx ry ⟨r, d1, d2, P, hr, i1, i2, ho, k⟩
  obtain ⟨a1, b1⟩ := shaped_py i1 ho.1
  obtain ⟨a2, b2⟩ := shaped_py i2 ho.2.1
  exact op_eqD hu pins s σ H _ _ v u Q I rx ry ⟨_, _, a1, a2, b1, b2, k _ _ H ho.2.2 (Ext.refl H) (.bl _)⟩
theorem p_ne (hu : X.A.units + 64 < cLine) : OpR X (compareOp .NotEq) (rD X.K oNe) := by
  rintro pins s σ H x y v u Q I rx ry ⟨r, d1, d2, P, hr, i1, i2, ho, k⟩
  obtain ⟨a1, b1⟩ := shaped_py i1 ho.1
  obtain ⟨a2, b2⟩ := shaped_py i2 ho.2.1
  exact op_neD hu pins s σ H _ _ v u Q I rx ry ⟨_, _, a1, a2, b1, b2, k _ _ H ho.2.2 (Ext.refl H) (.bl _)⟩
def flat : D → Bool | .non => true | .bl _ => true | .int _ => true | .str _ => true | _ => false
theorem flat_V {K : PySem.W.Frag} {N : Addr → Prop} {H : Hp} {v : V} {d : D} (h : Is K N H v d) (f : flat d = true) : flatV v = true := by cases h <;> first | rfl | cases f
theorem flat_all {K : PySem.W.Frag} {N : Addr → Prop} {H : Hp} : ∀ {vs : List V} {ds : List D}, IsAll K N H vs ds → ds.all flat = true → vs.all flatV = true
  | _, _, .nil, _ => rfl
  | _, _, .cons h t, f => by
    rw [List.all_cons, Bool.and_eq_true] at f ⊢
    exact ⟨flat_V h f.1, flat_all t f.2⟩
theorem eqV_D {K : PySem.W.Frag} {N : Addr → Prop} {H : Hp} {v w : V} {d e : D} (h : Is K N H v d) (g : Is K N H w e) (f : flat d = true) (f' : flat e = true) : eqV v w = eqD d e := by
  cases h <;> cases g <;> first | rfl | cases f | cases f' | (simp [eqV, eqD, py, PyData.eqv])
theorem any_D {K : PySem.W.Frag} {N : Addr → Prop} {H : Hp} {v : V} {d : D} (h : Is K N H v d) (f : flat d = true) : ∀ {vs : List V} {ds : List D}, IsAll K N H vs ds → ds.all flat = true → inV v vs = ds.any fun z => eqD z d
  | _, _, .nil, _ => rfl
  | _, _, .cons g t, q => by
    rw [List.all_cons, Bool.and_eq_true] at q
    have ih := any_D h f t q.2
    unfold inV at ih ⊢
    rw [List.any_cons, List.any_cons, ih, eqV_D g h q.1 f]
theorem any_pys (d : D) : ∀ ds : List D, ((pys ds).any fun z => PyData.eqv z (py d)) = ds.any fun z => eqD z d
  | [] => rfl
  | e :: ds => by simp only [pys, List.any_cons]; rw [any_pys d ds]; rfl
def memD (d : D) (ds : List D) : Bool := ds.any fun z => eqD z d
def sub1 : Str → Option Nat | ⟨⟨[c]⟩⟩ => some c | _ => none
/-- in: flat things in a tuple or list; anything in a list; one sign in a text -/
def oInP (neg : Bool) : O2 := fun x y k => match y with
  | .lst ds => dep x ≤ 64 ∧ deps ds ≤ 63 ∧ k (.bl (cond neg (!memD x ds) (memD x ds)))
  | .tup ds => flat x = true ∧ ds.all flat = true ∧ k (.bl (cond neg (!memD x ds) (memD x ds)))
  | .str z => match x with
    | .str w => match sub1 w with
      | some c => k (.bl (cond neg (!decide (c ∈ z.cps.toList)) (decide (c ∈ z.cps.toList))))
      | none => k (.bl (cond neg (!(!(Builtin.Str.occurrences z w 0 z.length 1).isEmpty)) (!(Builtin.Str.occurrences z w 0 z.length 1).isEmpty)))
    | _ => False
  | _ => False
structure oIn (neg : Bool) (x y : D) (k : D → Prop) : Prop where
  ex : oInP neg x y k
theorem sub1_some {w : Str} {c : Nat} (h : sub1 w = some c) : w = ⟨#[c]⟩ := by
  obtain ⟨⟨l⟩⟩ := w
  match l, h with
  | [x], h => simp only [sub1] at h; cases h; rfl
theorem p_in (hu : X.A.units + 65 < cLine) : OpR X (compareOp .In) (rD X.K (oIn false)) := by
  rintro pins s σ H x y v u Q I rx ry ⟨r, d1, d2, P, hr, i1, i2, ho, k⟩
  obtain ⟨ho⟩ := ho
  cases i2 <;> try exact ho.elim
  · rename_i z hz
    cases i1 <;> try exact ho.elim
    rename_i w hw
    simp only [oInP] at ho
    split at ho
    · rename_i c hc
      have e := sub1_some hc
      subst e
      exact op_in_sign pins s σ H _ _ v u Q I rx ry ⟨_, _, rfl, rfl, k _ _ H ho (Ext.refl H) (.bl _)⟩
    · exact op_in_str pins s σ H _ _ v u Q I rx ry ⟨_, _, rfl, rfl, k _ _ H ho (Ext.refl H) (.bl _)⟩
  · rename_i n h a
    obtain ⟨a1, b1⟩ := shaped_py i1 ho.1
    obtain ⟨a2, b2⟩ := shaped_py (N := mem r) (.lst n h a) (by simp only [dep]; have := ho.2.1; omega)
    simp only [py] at a2 b2
    refine op_inD hu pins s σ H _ _ v u Q I rx ry ⟨_, _, a1, a2, b1, b2, ?_⟩
    rw [any_pys]
    exact k _ _ H ho.2.2 (Ext.refl H) (.bl _)
  · rename_i h a
    refine op_in_seq pins s σ H _ _ v u Q I rx ry ⟨_, _, rfl, .inr h, flat_V i1 ho.1, flat_all a ho.2.1, ?_⟩
    rw [if_neg Bool.false_ne_true, any_D i1 ho.1 a ho.2.1]
    exact k _ _ H ho.2.2 (Ext.refl H) (.bl _)
end
end G
namespace G
open PySem PySem.Spec L2
section
variable {X : Cx} {W : WX} {a b c : Expr} {ta tb tc : AT} {pos : Pos}
theorem tdb_bind {K : PySem.W.Frag} {W : WX} {XR : XT} {σ : L2.St} {H : Hp} {δ : Dl} {r : Rs} {t : AB} {P : Bool → Rs → Prop} {Q : Bool → Hp → Prop} (o : Ok K W XR r δ σ H) (h : t XR δ r P) (k : ∀ d r' H', P d r' → Ok K W XR r' δ σ H' → Kp K r H r' H' → Q d H') : TDB K W t σ H Q := ⟨XR, δ, r, P, o, h, k⟩
section
variable {K : PySem.W.Frag}
def bOr (t u : AB) : AB := fun x δ r P => t x δ r fun b r1 => (b = true → P true r1) ∧ (b = false → u x δ r1 P)
def bNot (t : AB) : AB := fun x δ r P => t x δ r fun b r1 => P (!b) r1
def aAnd (t u : AT) : AT := fun x δ r P => t x δ r fun d r1 => match d with | .bl b => (b = true → u x δ r1 P) ∧ (b = false → P (.bl false) r1) | _ => False
def aIf (t : AB) (u w : AT) : AT := fun x δ r P => t x δ r fun b r1 => (b = true → u x δ r1 P) ∧ (b = false → w x δ r1 P)
end
variable {bA bB : AB} {rest : List Expr}
theorem w_or1 (ha : PDB X W a bA) : PDW X W (.BoolOp .Or [a] pos) bA := pw_or1 ha
theorem w_or (ha : PDB X W a bA) (hb : PDW X W (.BoolOp .Or (b :: rest) pos) bB) : PDW X W (.BoolOp .Or (a :: b :: rest) pos) (bOr bA bB) := imW (pw_or ha hb) fun σ H Q q => by
  obtain ⟨XR, δ, r, P, ok, h, k⟩ := q
  refine tdb_bind ok h fun d r1 H1 h1 o1 k1 => ?_
  cases d with
  | false => exact tdb_bind o1 (h1.2 rfl) fun d r2 H2 h2 o2 k2 => k d r2 H2 h2 o2 (k1.trans k2)
  | true => exact k _ r1 H1 (h1.1 rfl) o1 k1
theorem b_w (h : PDW X W a bA) : PDB X W a bA := PW.pt h
theorem b_not (ha : PDB X W a bA) : PDB X W (.UnaryOp .Not a pos) (bNot bA) := imT (pt_not ha) fun σ H Q q => by
  obtain ⟨XR, δ, r, P, ok, h, k⟩ := q
  exact tdb_bind ok h fun d r1 H1 h1 o1 k1 => k _ r1 H1 h1 o1 k1
theorem d_one {op} (h : PD X W a ta) : PD X W (.BoolOp op [a] pos) ta := pe_one h
theorem d_and (ha : PD X W a ta) (hb : PD X W (.BoolOp .And (b :: rest) pos) tb) : PD X W (.BoolOp .And (a :: b :: rest) pos) (aAnd ta tb) := imE (pe_and ha hb) fun σ H Q q => by
  obtain ⟨XR, δ, r, P, ok, h, k⟩ := q
  refine td_bind ok h fun d r1 v H1 h1 o1 k1 i1 => ?_
  cases i1 <;> try exact h1.elim
  rename_i d
  refine ⟨d, rfl, ?_⟩
  cases d with
  | true => exact td_bind o1 (h1.1 rfl) fun d r2 v H2 h2 o2 k2 i2 => k d r2 v H2 h2 o2 (k1.trans k2) i2
  | false => exact k _ r1 _ H1 (h1.2 rfl) o1 k1 (.bl _)
theorem d_if (hc : PDB X W c bA) (ha : PD X W a ta) (hb : PD X W b tb) : PD X W (.IfExp c a b pos) (aIf bA ta tb) := imE (pe_ifExp hc ha hb) fun σ H Q q => by
  obtain ⟨XR, δ, r, P, ok, h, k⟩ := q
  refine tdb_bind ok h fun d r1 H1 h1 o1 k1 => ?_
  cases d with
  | true => exact td_bind o1 (h1.1 rfl) fun d r2 v H2 h2 o2 k2 i2 => k d r2 v H2 h2 o2 (k1.trans k2) i2
  | false => exact td_bind o1 (h1.2 rfl) fun d r2 v H2 h2 o2 k2 i2 => k d r2 v H2 h2 o2 (k1.trans k2) i2
/-- a < b <= c -/
def aChain (o o' : O2) (ta tb tc : AT) : AT := fun x δ r P => ta x δ r fun d1 r1 => tb x δ r1 fun d2 r2 => o d1 d2 fun d => match d with
  | .bl b => (b = true → tc x δ r2 fun d3 r3 => o' d2 d3 fun d => P d r3) ∧ (b = false → P (.bl false) r2)
  | _ => False
theorem td_chain {K : PySem.W.Frag} {W : WX} {o o' : O2} {ta tb tc : AT} {σ : L2.St} {H : Hp} {Q : VK} (q : TD K W (aChain o o' ta tb tc) σ H Q) : tChain (rD K o) (rD K o') (TD K W ta) (TD K W tb) (TD K W tc) σ H Q := by
  obtain ⟨XR, δ, r, P, ok, h, k⟩ := q
  refine td_bind ok h fun d1 r1 v1 H1 h1 o1 k1 i1 => td_bind o1 h1 fun d2 r2 v2 H2 h2 o2 k2 i2 => ?_
  refine ⟨r2, d1, d2, _, o2.r, k2 _ _ i1, i2, h2, fun d v H' p e i => ?_⟩
  cases i <;> try exact p.elim
  rename_i d
  refine ⟨d, rfl, ?_⟩
  cases d with
  | true =>
    show TD K W tc σ H' _
    refine td_bind (o2.ext e) (p.1 rfl) fun d3 r3 v3 H3 h3 o3 k3 i3 => ?_
    exact ⟨r3, d2, d3, fun d => P d r3, o3.r, k3 _ _ (is_ext e _ _ i2), i3, h3, fun d v H' p e' i => k d r3 v H' p (o3.ext e') ((((k1.trans k2).trans (Kp.ext e)).trans k3).trans (Kp.ext e')) i⟩
  | false => exact k _ r2 _ H' (p.2 rfl) (o2.ext e) ((k1.trans k2).trans (Kp.ext e)) (.bl _)
theorem b_chain {op op' : CmpOp} {o o' : O2} (ho : OpR X (compareOp op) (rD X.K o)) (ho' : OpR X (compareOp op') (rD X.K o')) (ha : PD X W a ta) (hb : PD X W b tb) (hc : PD X W c tc)
    (hm : lastMarks [op, op'] [b, c] = false := by with_unfolding_all rfl) : PDB X W (.Compare a [op, op'] [b, c] pos) (aTest (aChain o o' ta tb tc)) := imT (pt_chain ho ho' ha hb hc hm) fun _ _ _ q => tdb_test (fun _ q => td_chain q) q
def oIxP : O2 := fun x y k => match x, y with
  | .lst ds, .int i => match atI ds i with | some d => k d | none => False
  | .tup ds, .int i => match atI ds i with | some d => k d | none => False
  | .str z, .int i => match atI z.cps.toList i with | some c => k (.str ⟨#[c]⟩) | none => False
  | _, _ => False
structure oIx (x y : D) (k : D → Prop) : Prop where
  ex : oIxP x y k
theorem at_all {K : PySem.W.Frag} {N : Addr → Prop} {H : Hp} {vs : List V} {ds : List D} {i : Int} {d : D} (h : IsAll K N H vs ds) (e : atI ds i = some d) : ∃ v, atI vs i = some v ∧ Is K N H v d := by
  unfold atI at e ⊢
  rw [h.length]
  cases q : ixN ds.length i with
  | none => rw [q] at e; cases e
  | some j =>
    rw [q] at e
    exact h.getD e
theorem sok_sign {z : Str} {i : Int} {c : Nat} (h : sok z) (e : atI z.cps.toList i = some c) : sok ⟨#[c]⟩ := by
  refine ⟨?_, by show 1 ≤ 1000000; decide⟩
  unfold atI at e
  cases q : ixN z.cps.toList.length i with
  | none => rw [q] at e; cases e
  | some j =>
    rw [q] at e
    have hm := List.mem_of_getElem? e
    have h1 : z.cps.all (fun c => decide (c < 0x110000)) = true := h.1
    rw [← Array.all_toList, List.all_eq_true] at h1
    show (#[c] : Array Nat).all _ = true
    simpa using h1 c hm
theorem p_ix : IxR X (rD X.K oIx) := by
  rintro value slice pins s σ H x y v u Q I rx ry ⟨r, d1, d2, P, hr, i1, i2, ho, k⟩ hs
  obtain ⟨ho⟩ := ho
  cases i1 <;> cases i2 <;> try exact ho.elim
  · rename_i z hz i
    simp only [oIxP] at ho
    split at ho
    · rename_i c hc
      exact ix_str value slice pins s σ H _ _ v u Q I rx ry ⟨_, _, _, rfl, rfl, Nat.le_trans hz.2 (by decide), hc, k _ _ H ho (Ext.refl H) (.str (sok_sign hz hc))⟩ hs
    · exact ho.elim
  · rename_i n h a i
    simp only [oIxP] at ho
    split at ho
    · rename_i d hd
      obtain ⟨w, hw, iw⟩ := at_all a hd
      exact ix_list value slice pins s σ H _ _ v u Q I rx ry ⟨_, _, _, _, rfl, rfl, SqL.of h, hw, k _ _ H ho (Ext.refl H) iw⟩ hs
    · exact ho.elim
  · rename_i h a i
    simp only [oIxP] at ho
    split at ho
    · rename_i d hd
      obtain ⟨w, hw, iw⟩ := at_all a hd
      exact ix_tup value slice pins s σ H _ _ v u Q I rx ry ⟨_, _, _, _, rfl, rfl, h, hw, k _ _ H ho (Ext.refl H) iw⟩ hs
    · exact ho.elim
theorem d_ix (ha : PD X W a ta) (hb : PD X W b tb) (hs : PlainIx b := by exact fun _ _ => rfl) : PD X W (.Subscript a b pos) (aOp oIx ta tb) := imE (pe_ix p_ix ha hb hs) fun _ _ _ q => td_op q
abbrev AO := XT → Dl → Rs → (Option Int → Rs → Prop) → Prop
section
variable {K : PySem.W.Frag}
def aNo : AO := fun x _ r P => P none r
def aPart (t : AT) : AO := fun x δ r P => t x δ r fun d r1 => match d with | .int i => P (some i) r1 | _ => False
def TDO (K : PySem.W.Frag) (W : WX) (t : AO) : TO := fun σ H Q => ∃ XR δ r P, Ok K W XR r δ σ H ∧ t XR δ r P ∧ ∀ o r' H', P o r' → Ok K W XR r' δ σ H' → Kp K r H r' H' → Q o H'
end
def PDO (X : Cx) (W : WX) (e : Option Expr) (t : AO) : Prop := PO X e (TDO X.K W t)
theorem imO {X : Cx} {e : Option Expr} {t t' : TO} (h : PO X e t) (i : ∀ σ H Q, t' σ H Q → t σ H Q) : PO X e t' := ⟨fun pins s σ H Q I q => h.run pins s σ H Q I (i σ H Q q)⟩
theorem o_no : PDO X W none aNo := imO po_none fun σ H Q q => by
  obtain ⟨XR, δ, r, P, ok, h, k⟩ := q
  exact k _ r H h ok Kp.refl
theorem o_some (h : PD X W a ta) : PDO X W (some a) (aPart ta) := imO (po_some h) fun σ H Q q => by
  obtain ⟨XR, δ, r, P, ok, h, k⟩ := q
  refine td_bind ok h fun d r1 v H1 h1 o1 k1 i1 => ?_
  cases i1 <;> try exact h1.elim
  exact ⟨_, rfl, k _ r1 H1 h1 o1 k1⟩
def cutD (xs : List D) (lo hi : Option Int) : List D := (xs.drop (HT.sIx xs.length 0 lo)).take (HT.sIx xs.length xs.length hi - HT.sIx xs.length 0 lo)
/-- x[lo:hi] -/
def oSlP (x : D) (lo hi : Option Int) (k : D → Prop) : Prop := match x with
  | .lst ds => k (.lst (cutD ds lo hi))
  | .tup ds => k (.tup (cutD ds lo hi))
  | .str z => k (.str (cutS z lo hi))
  | _ => False
structure oSl (x : D) (lo hi : Option Int) (k : D → Prop) : Prop where
  ex : oSlP x lo hi k
def aSl (t : AT) (lo hi : AO) : AT := fun x δ r P => t x δ r fun d r1 => lo x δ r1 fun l r2 => hi x δ r2 fun u r3 => oSl d l u fun d => P d r3
def rSlD (K : PySem.W.Frag) : V → Option Int → Option Int → Hp → VK → Prop := fun x lo hi H Q => ∃ (r : Rs) (d : D) (P : D → Prop), Rok K r H ∧ Is K (mem r) H x d ∧ oSl d lo hi P ∧ ∀ d v H', P d → Ext H H' → Is K (mem r) H' v d → Q v H'
theorem cut_all {K : PySem.W.Frag} {N : Addr → Prop} {H : Hp} {vs : List V} {ds : List D} (lo hi : Option Int) (h : IsAll K N H vs ds) : IsAll K N H (cutV vs lo hi) (cutD ds lo hi) := by
  unfold cutV cutD
  rw [h.length]
  exact (h.drop _).take _
theorem sok_cut {z : Str} (h : sok z) (lo hi : Option Int) : sok (cutS z lo hi) := by
  refine ⟨?_, ?_⟩
  · have h1 : z.cps.all (fun c => decide (c < 0x110000)) = true := h.1
    rw [← Array.all_toList, List.all_eq_true] at h1
    show (cutS z lo hi).cps.all (fun c => decide (c < 0x110000)) = true
    rw [← Array.all_toList, List.all_eq_true]
    intro c hc
    unfold cutS at hc
    exact h1 c (List.mem_of_mem_drop (List.mem_of_mem_take (by simpa using hc)))
  · have := h.2
    unfold cutS Str.length at *
    simp only [List.size_toArray, List.length_take, List.length_drop, Array.length_toList]
    omega
theorem p_sl : SlR X (rSlD X.K) := by
  rintro pins s σ H x v vl vu lo hi sl Q I rx hs pl pu ⟨r, d, P, hr, i, ho, k⟩
  obtain ⟨ho⟩ := ho
  cases i <;> try exact ho.elim
  · rename_i hz
    exact sl_str pins s σ H _ v vl vu lo hi sl Q I rx hs pl pu ⟨_, rfl, Nat.le_trans hz.2 (by decide), k _ _ H ho (Ext.refl H) (.str (sok_cut hz lo hi))⟩
  · rename_i n h a
    exact sl_list pins s σ H _ v vl vu lo hi sl Q I rx hs pl pu ⟨_, _, rfl, SqL.of h, fun p hp => k _ _ _ ho (Ext.new hp) (new_lst hr hp (cut_all lo hi a))⟩
  · rename_i h a
    refine sl_tupA pins s σ H _ v vl vu lo hi sl Q I rx hs pl pu ⟨_, _, rfl, h, fun z => ?_, fun _ p hp => k _ _ _ ho (Ext.new hp) (new_tup hp (cut_all lo hi a))⟩
    have e : ∀ ds : List D, HT.sIx ds.length 0 lo = 0 ∧ HT.sIx ds.length ds.length hi = ds.length → cutD ds lo hi = ds := fun ds ⟨z1, z2⟩ => by
      unfold cutD
      rw [z1, z2]
      simp
    rw [a.length] at z
    have ho : P (.tup (cutD _ lo hi)) := ho
    rw [e _ z] at ho
    exact k _ _ H ho (Ext.refl H) (.tup h a)
theorem d_sl {lo hi : Option Expr} {tl th : AO} {p2 : Pos} (ha : PD X W a ta) (hl : PDO X W lo tl) (hh : PDO X W hi th) : PD X W (.Subscript a (.Slice lo hi none p2) pos) (aSl ta tl th) := imE (pe_slice p_sl ha hl hh) fun σ H Q q => by
  obtain ⟨XR, δ, r, P, ok, h, k⟩ := q
  refine td_bind ok h fun d r1 v H1 h1 o1 k1 i1 => ⟨_, δ, r1, _, o1, h1, fun l r2 H2 h2 o2 k2 => ⟨_, δ, r2, _, o2, h2, fun u r3 H3 h3 o3 k3 => ?_⟩⟩
  exact ⟨r3, d, fun d => P d r3, o3.r, k3 _ _ (k2 _ _ i1), h3, fun d v H' p e i => k d r3 v H' p (o3.ext e) (((k1.trans k2).trans k3).trans (Kp.ext e)) i⟩
abbrev OC := List D → (D → Prop) → Prop
def rC (K : PySem.W.Frag) (o : OC) : List V → Hp → VK → Prop := fun vs H Q => ∃ (r : Rs) (ds : List D) (P : D → Prop), Rok K r H ∧ IsAll K (mem r) H vs ds ∧ o ds P ∧ ∀ d v H', P d → Ext H H' → Is K (mem r) H' v d → Q v H'
def aBlt (o : OC) (l : AL) : AT := fun x δ r P => l x δ r fun ds r1 => o ds fun d => P d r1
variable {e : Expr} {es : List Expr} {x : Str} {p : Pos} {l : AL} {o : OC} {bid T : String}
theorem tcb {K : PySem.W.Frag} {W : WX} {o : OC} {l : AL} {σ : L2.St} {H : Hp} {Q : VK} (q : TD K W (aBlt o l) σ H Q) : tCB (rC K o) (TDL K W l) σ H Q := by
  obtain ⟨XR, δ, r, P, ok, h, k⟩ := q
  refine tdl_bind ok h fun ds r1 vs H1 h1 o1 k1 i1 => ⟨r1, ds, fun d => P d r1, o1.r, i1, h1, fun d v H' p e i => k d r1 v H' p (o1.ext e) (k1.trans (Kp.ext e)) i⟩
theorem d_blt (hc : CallR X (.builtin bid) (rC X.K o)) (hg : Gl X x) (hm : X.mg x = none) (ha : PDL X W (e :: es) l) (hv : bootBuiltins x = some (.builtin bid) := by decide +kernel) (hn : x ≠ "__name__" := by decide) (hdb : (x == ("__debug__" : Str)) = false := by decide)
    (he : starEach (e :: es) X.env = (false, eval e X.env) :: starEach es X.env := by rfl) (hpl : (backTo pos (starEach es X.env)).any (·.1) = false := by rfl) : PD X W (.Call (.Name x p) (e :: es) [] pos) (aBlt o l) :=
  imE (pe_callB hc hg hm hv ha hn hdb he hpl) fun _ _ _ q => tcb q
def oLen : OC := fun ds k => match ds with
  | [.lst xs] => xs.length ≤ sizeLine → k (.int xs.length) | [.tup xs] => xs.length ≤ sizeLine → k (.int xs.length) | [.str z] => k (.int z.length) | _ => False
theorem c_len : CallR X (.builtin "len") (rC X.K oLen) := by
  rintro pins s σ H vs us Q I rv ⟨r, ds, P, hr, i, ho, k⟩
  cases i with
  | nil => exact ho.elim
  | cons i t =>
    cases t with
    | cons _ _ => cases i <;> exact ho.elim
    | nil =>
      cases i <;> try exact ho.elim
      · rename_i hz
        exact call_len pins s σ H _ us Q I rv ⟨_, _, rfl, ⟨Nat.le_trans hz.2 (by decide), rfl⟩, k _ _ H ho (Ext.refl H) (.int _)⟩
      · rename_i n h a
        obtain ⟨_, _, _, hz⟩ := I.list (SqL.of h)
        exact call_len pins s σ H _ us Q I rv ⟨_, _, rfl, .inl ⟨_, SqL.of h, rfl⟩, by rw [a.length] at hz ⊢; exact k _ _ H (ho hz) (Ext.refl H) (.int _)⟩
      · rename_i h a
        obtain ⟨_, _, _, hz⟩ := I.tuple h
        exact call_len pins s σ H _ us Q I rv ⟨_, _, rfl, .inr ⟨_, h, rfl⟩, by rw [a.length] at hz ⊢; exact k _ _ H (ho hz) (Ext.refl H) (.int _)⟩
def bls : List D → Option (List Bool)
  | [] => some []
  | .bl b :: r => (bls r).map (b :: ·)
  | _ :: _ => none
theorem bls_map : ∀ (bs : List Bool), bls (bs.map .bl) = some bs
  | [] => rfl
  | b :: bs => by simp [bls, bls_map bs]
theorem bls_all {K : PySem.W.Frag} {N : Addr → Prop} {H : Hp} : ∀ {vs : List V} {ds : List D} {bs : List Bool}, IsAll K N H vs ds → bls ds = some bs → vs = bs.map V.bl
  | _, _, _, .nil, e => by cases e; rfl
  | _, d :: ds, bs, .cons i t, e => by
    cases i <;> try (simp [bls] at e; done)
    simp only [bls] at e
    cases q : bls ds with
    | none => rw [q] at e; cases e
    | some cs =>
      rw [q] at e
      cases e
      rw [bls_all t q]
      rfl
def oAllP (f : List Bool → Bool) : OC := fun ds k => match ds with | [.lst xs] => (match bls xs with | some bs => k (.bl (f bs)) | none => False) | _ => False
structure oAll (f : List Bool → Bool) (ds : List D) (k : D → Prop) : Prop where
  ex : oAllP f ds k
theorem c_all (hc : X.calm = true := by rfl) : CallR X (.builtin "all") (rC X.K (oAll fun bs => bs.all id)) := by
  rintro pins s σ H vs us Q I rv ⟨r, ds, P, hr, i, ho, k⟩
  obtain ⟨ho⟩ := ho
  cases i with
  | nil => exact ho.elim
  | cons i t =>
    cases t with
    | cons _ _ => cases i <;> exact ho.elim
    | nil =>
      cases i <;> try exact ho.elim
      rename_i n h a
      simp only [oAllP] at ho
      split at ho
      · rename_i bs hb
        have e := bls_all a hb
        subst e
        exact cr_all hc pins s σ H _ us Q I rv ⟨_, _, rfl, SqL.of h, k _ _ H ho (Ext.refl H) (.bl _)⟩
      · exact ho.elim
def tyD : D → String
  | .non => "NoneType" | .bl _ => "bool" | .int _ => "int" | .str _ => "str" | .lst _ => "list" | .tup _ => "tuple" | .dct _ _ => "dict" | _ => ""
def nad : D → Bool | .adr _ => false | .ins _ _ _ => false | _ => true
theorem tyX {K : PySem.W.Frag} {N : Addr → Prop} {H : Hp} {v : V} {d : D} (h : Is K N H v d) (n : nad d = true) : TyX K H v (.type (tyD d)) := by
  cases h with
  | non => exact .base .non
  | bl b => exact .base (.bl b)
  | int i => exact .base (.int i)
  | str _ => exact .base (.str _)
  | adr a => cases n
  | ins _ _ _ _ _ => cases n
  | dct n0 s e a => exact .base (.dK s)
  | lst _ h _ => exact .base (.lst h)
  | tup h _ =>
    rcases h with (h | ⟨o, h⟩) | ⟨o, its, k, h1, h2, _⟩
    · exact .base (.tup h)
    · exact .fTuple h
    · exact .kTuple h1 h2
inductive Ty5 : String → Prop | str : Ty5 "str" | int : Ty5 "int" | bool : Ty5 "bool" | list : Ty5 "list" | tuple : Ty5 "tuple"
def tyB (T n : String) : Bool := T == n || (T == "int" && n == "bool")
def isTy (T : String) (d : D) : Bool := tyB T (tyD d)
theorem kk6 : (ks6.all fun n => ks5.all fun T => decide (kitB n T = some (tyB T n))) = true := by decide +kernel
theorem kk {n T : String} (h : n ∈ ks6) (g : T ∈ ks5) : kitB n T = some (tyB T n) := by
  have q := List.all_eq_true.mp (List.all_eq_true.mp kk6 n h) T g
  exact of_decide_eq_true q
theorem kit5 {K : PySem.W.Frag} {T : String} (t : Ty5 T) (d : D) (n : nad d = true) : PySem.W.kitOne K (.type (tyD d)) (.type T) = some (isTy T d) := by
  refine kit_ty (kk ?_ ?_)
  · cases d <;> first | (cases n; done) | simp [tyD, ks6]
  · cases t <;> simp [ks5]
def noAdr : D → Bool | .adr _ => false | _ => true
theorem kit_own {K : PySem.W.Frag} {C : Addr} {T : String} (t : Ty5 T) (h : ∀ T ∈ ks5, PySem.W.subIn K (.ref C) (.type T) = some false) : PySem.W.kitOne K (.ref C) (.type T) = some false := by
  have hm : T ∈ ks5 := by cases t <;> simp [ks5]
  have km : PySem.W.kitMeta T = true := by cases t <;> decide +kernel
  unfold PySem.W.kitOne
  rw [if_neg (show ¬ ((Value.ref C == Value.type T) = true) by intro e; cases (beq_iff_eq.mp e))]
  show (if PySem.W.kitMeta T = true then PySem.W.subIn K (.ref C) (.type T) else none) = some false
  rw [if_pos km]
  exact h T hm
theorem tyX2 {K : PySem.W.Frag} {N : Addr → Prop} {H : Hp} {v : V} {d : D} (h : Is K N H v d) (n : noAdr d = true) : ∃ t, TyX K H v t ∧ ∀ T, Ty5 T → PySem.W.kitOne K t (.type T) = some (isTy T d) := by
  cases d with
  | adr a => cases n
  | ins C fs ds =>
    cases h with
    | ins n s e g a =>
      refine ⟨_, .base (.ins s g.cls g.p.kls g.p.get g.p.tak g.p.mro), fun T t => ?_⟩
      rw [kit_own t g.p.sub]
      cases t <;> rfl
  | non => exact ⟨_, tyX h rfl, fun T t => kit5 t _ rfl⟩
  | bl b => exact ⟨_, tyX h rfl, fun T t => kit5 t _ rfl⟩
  | int i => exact ⟨_, tyX h rfl, fun T t => kit5 t _ rfl⟩
  | str x => exact ⟨_, tyX h rfl, fun T t => kit5 t _ rfl⟩
  | lst ds => exact ⟨_, tyX h rfl, fun T t => kit5 t _ rfl⟩
  | tup ds => exact ⟨_, tyX h rfl, fun T t => kit5 t _ rfl⟩
  | dct ks ds => exact ⟨_, tyX h rfl, fun T t => kit5 t _ rfl⟩
/-- isinstance(x, T) -/
def aIsi (T : String) (t : AT) : AT := fun x δ r P => t x δ r fun d r1 => match d with | .adr _ => False | d => P (.bl (isTy T d)) r1
theorem d_isi {q : Pos} {y : Str} (ht : Ty5 T) (hg : Gl X "isinstance") (hm : X.mg "isinstance" = none) (ha : PD X W a ta) (gy : Gl X y) (my : X.mg y = none) (by_ : bootBuiltins y = some (.type T) := by decide +kernel) (hny : y ≠ "__name__" := by decide) (hdy : (y == ("__debug__" : Str)) = false := by decide)
    (he : starEach [a, .Name y q] X.env = (false, eval a X.env) :: starEach [.Name y q] X.env := by rfl) (hpl : (backTo pos (starEach [.Name y q] X.env)).any (·.1) = false := by rfl) (he2 : starEach [.Name y q] X.env = (false, eval (.Name y q) X.env) :: starEach [] X.env := by rfl) :
    PD X W (.Call (.Name "isinstance" p) [a, .Name y q] [] pos) (aIsi T ta) := imE (pe_callB call_isi hg hm (by decide +kernel) (pa_cons ha (pa_cons (pe_bltn (v := .ty T) gy my by_ rfl hny hdy) pa_nil he2) he) (by decide) (by decide) he hpl) fun σ H Q q => by
  obtain ⟨XR, δ, r, P, ok, h, k⟩ := q
  refine td_bind ok h fun d r1 v H1 h1 o1 k1 i1 => ?_
  have n : noAdr d = true := by cases d <;> first | exact h1.elim | rfl
  obtain ⟨t0, ty0, kt0⟩ := tyX2 i1 n
  have h2 : P (.bl (isTy T d)) r1 := by cases d <;> first | exact h1.elim | exact h1
  exact ⟨v, .ty T, _, _, _, rfl, .ty T, ty0, kt0 T ht, k _ r1 _ H1 h2 o1 k1 (.bl _)⟩
/-- isinstance(x, (T, U)) -/
def aIsi2 (T U : String) (t : AT) : AT := fun x δ r P => t x δ r fun d r1 => match d with | .adr _ => False | d => P (.bl (isTy T d || isTy U d)) r1
theorem d_isi2 {U : String} {q q2 q3 : Pos} {kk} {y z : Str} (ht : Ty5 T) (hu : Ty5 U) (hg : Gl X "isinstance") (hm : X.mg "isinstance" = none) (ha : PD X W a ta) (gy : Gl X y) (my : X.mg y = none) (gz : Gl X z) (mz : X.mg z = none) (by_ : bootBuiltins y = some (.type T) := by decide +kernel) (bz : bootBuiltins z = some (.type U) := by decide +kernel)
    (hny : y ≠ "__name__" := by decide) (hdy : (y == ("__debug__" : Str)) = false := by decide) (hnz : z ≠ "__name__" := by decide) (hdz : (z == ("__debug__" : Str)) = false := by decide)
    (he : starEach [a, .Tuple [.Name y q, .Name z q2] kk q3] X.env = (false, eval a X.env) :: starEach [.Tuple [.Name y q, .Name z q2] kk q3] X.env := by rfl) (hpl : (backTo pos (starEach [.Tuple [.Name y q, .Name z q2] kk q3] X.env)).any (·.1) = false := by rfl)
    (he2 : starEach [.Tuple [.Name y q, .Name z q2] kk q3] X.env = (false, eval (.Tuple [.Name y q, .Name z q2] kk q3) X.env) :: starEach [] X.env := by rfl)
    (he3 : starEach [.Name y q, .Name z q2] X.env = (false, eval (.Name y q) X.env) :: starEach [.Name z q2] X.env := by rfl) (he4 : starEach [.Name z q2] X.env = (false, eval (.Name z q2) X.env) :: starEach [] X.env := by rfl) :
    PD X W (.Call (.Name "isinstance" p) [a, .Tuple [.Name y q, .Name z q2] kk q3] [] pos) (aIsi2 T U ta) :=
  imE (pe_callB call_isiT hg hm (by decide +kernel) (pa_cons ha (pa_cons (pe_tup (pa_cons (pe_bltn (v := .ty T) gy my by_ rfl hny hdy) (pa_cons (pe_bltn (v := .ty U) gz mz bz rfl hnz hdz) pa_nil he4) he3)) pa_nil he2) he) (by decide) (by decide) he hpl) fun σ H Q q => by
  obtain ⟨XR, δ, r, P, ok, h, k⟩ := q
  refine td_bind ok h fun d r1 v H1 h1 o1 k1 i1 => ⟨(by decide : 2 ≤ sizeLine), fun tp htp => ?_⟩
  have n : noAdr d = true := by cases d <;> first | exact h1.elim | rfl
  obtain ⟨t0, ty0, kt0⟩ := tyX2 (is_ext (Ext.new htp (o := .tup [.ty T, .ty U])) _ _ i1) n
  have h2 : P (.bl (isTy T d || isTy U d)) r1 := by cases d <;> first | exact h1.elim | exact h1
  refine ⟨v, tp, _, _, [.type T, .type U], isTy T d || isTy U d, rfl, upd_same, .cons (.ty T) (.cons (.ty U) .nil), ty0, ?_, k _ r1 _ _ h2 (o1.new htp) (k1.trans (Kp.ext (Ext.new htp))) (.bl _)⟩
  exact kitAny_cons (kt0 T ht) (fun e => by rw [e, Bool.false_or]; exact kitAny_cons (kt0 U hu) (fun e => by rw [e]; exact kitAny_nil) (fun e => e)) (fun e => by rw [e]; rfl)
end
end G
namespace G
open PySem PySem.Spec L2
/-- what follows a statement -/
structure An where
  nx : Dl → Rs → Prop
  rt : D → Rs → Prop := fun _ _ => False
  bk : Dl → Rs → Prop := fun _ _ => False
  ct : Dl → Rs → Prop := fun _ _ => False
  xr : XT := fun _ _ _ _ _ => False
abbrev AS := An → Dl → Rs → Prop
structure Fin (K : PySem.W.Frag) (W : WX) (A : An) (r : Rs) (H : Hp) (D : Ends) : Prop where
  nx : ∀ δ' r' σ' H', A.nx δ' r' → Ok K W A.xr r' δ' σ' H' → Kp K r H r' H' → D.nx σ' H'
  rt : ∀ d r' v H', A.rt d r' → Rok K r' H' → Kp K r H r' H' → Is K (mem r') H' v d → D.rt v H'
  bk : ∀ δ' r' σ' H', A.bk δ' r' → Ok K W A.xr r' δ' σ' H' → Kp K r H r' H' → D.bk σ' H'
  ct : ∀ δ' r' σ' H', A.ct δ' r' → Ok K W A.xr r' δ' σ' H' → Kp K r H r' H' → D.ct σ' H'
theorem Fin.step {K : PySem.W.Frag} {W : WX} {A : An} {r r1 : Rs} {H H1 : Hp} {D : Ends} (f : Fin K W A r H D) (k : Kp K r H r1 H1) : Fin K W A r1 H1 D :=
  ⟨fun δ r' σ H' a o q => f.nx δ r' σ H' a o (k.trans q), fun d r' v H' a o q i => f.rt d r' v H' a o (k.trans q) i, fun δ r' σ H' a o q => f.bk δ r' σ H' a o (k.trans q), fun δ r' σ H' a o q => f.ct δ r' σ H' a o (k.trans q)⟩
def TSD (K : PySem.W.Frag) (W : WX) (t : AS) : TS := fun D σ H => ∃ δ r A, Ok K W A.xr r δ σ H ∧ t A δ r ∧ Fin K W A r H D
def PSD (X : Cx) (W : WX) (st : Stmt) (t : AS) : Prop := PS X st (TSD X.K W t)
def PBD (X : Cx) (W : WX) (st : List Stmt) (t : AS) : Prop := PSs X st (TSD X.K W t)
section
variable {K : PySem.W.Frag}
def sNext : AS := fun A δ r => A.nx δ r
def sSeq (t u : AS) : AS := fun A δ r => t { A with nx := fun δ' r' => u A δ' r' } δ r
def sExpr (t : AT) : AS := fun A δ r => t A.xr δ r fun _ r1 => A.nx δ r1
def sRet (t : AT) : AS := fun A δ r => t A.xr δ r A.rt
def sIf (c : AB) (t u : AS) : AS := fun A δ r => c A.xr δ r fun b r1 => (b = true → t A δ r1) ∧ (b = false → u A δ r1)
def sAsg (i : Nat) (t : AT) : AS := fun A δ r => t A.xr δ r fun d r1 => A.nx (δ.set i (some d)) r1
def setAll : Dl → List Nat → List D → Dl
  | δ, i :: is, d :: ds => setAll (δ.set i (some d)) is ds
  | δ, _, _ => δ
end
section
variable {X : Cx} {W : WX} {st : Stmt} {rest : List Stmt} {t u : AS} {e c : Expr} {te : AT} {tc : AB} {pos : Pos}
theorem ss_nil : PBD X W [] sNext := imSs pss_nil fun D σ H ⟨δ, r, A, o, h, f⟩ => f.nx _ _ _ _ h o Kp.refl
theorem ss_one (h : PSD X W st t) : PBD X W [st] t := pss_one h
theorem ss_cons (h1 : PSD X W st t) (h2 : PBD X W rest u) : PBD X W (st :: rest) (sSeq t u) := imSs (pss_cons h1 h2) fun D σ H ⟨δ, r, A, o, h, f⟩ =>
  ⟨δ, r, { A with nx := fun δ' r' => u A δ' r' }, o, h, ⟨fun δ' r' σ' H' a o' k => ⟨δ', r', A, o', a, f.step k⟩, f.rt, f.bk, f.ct⟩⟩
theorem s_expr (he : PD X W e te) (hs : swapsWith e none pos.line X.env = pure false := by rfl) : PSD X W (.Expr e pos) (sExpr te) := imS (ps_expr he hs) fun D σ H ⟨δ, r, A, o, h, f⟩ =>
  td_bind o h fun d r1 v H1 h1 o1 k1 i1 => f.nx _ _ _ _ h1 o1 k1
theorem s_ret (he : PD X W e te) : PSD X W (.Return (some e) pos) (sRet te) := imS (ps_ret he) fun D σ H ⟨δ, r, A, o, h, f⟩ =>
  td_bind o h fun d r1 v H1 h1 o1 k1 i1 => f.rt _ _ _ _ h1 o1.r k1 i1
theorem s_if {a b : List Stmt} (hc : PDB X W c tc) (ha : PBD X W a t) (hb : PBD X W b u) : PSD X W (.If c a b pos) (sIf tc t u) := imS (ps_if hc ha hb) fun D σ H ⟨δ, r, A, o, h, f⟩ =>
  tdb_bind o h fun d r1 H1 h1 o1 k1 => by
    cases d with
    | true => exact ⟨δ, r1, A, o1, h1.1 rfl, f.step k1⟩
    | false => exact ⟨δ, r1, A, o1, h1.2 rfl, f.step k1⟩
theorem s_set {i : Nat} {x : Str} {pos' : Pos} (hN : X.N.Nodup) (he : PD X W e te) (hi : X.N[i]? = some x := by rfl) (hx : Loc X.env.scope x := by first | exact Or.inl rfl | exact Or.inr rfl) (hs : swapsWith e (some (.Name x pos')) pos.line X.env = pure false := by rfl)
    (hf : X.fn x = true ∨ X.env.scope.names.lookup x = some .local := by first | exact .inl rfl | exact .inr rfl | assumption) : PSD X W (.Assign [.Name x pos'] e pos) (sAsg i te) := imS (ps_set hN hi hx he hs hf) fun D σ H ⟨δ, r, A, o, h, f⟩ =>
  td_bind o h fun d r1 v H1 h1 o1 k1 i1 => f.nx _ _ _ _ h1 (o1.set i1) k1
def gNames : List Nat → TGs
  | [] => gNil
  | i :: is => gCons (gName i) (gNames is)
end
/-- the turns of J yield the data ds, whatever else happens -/
def Walks (K : PySem.W.Frag) (J : It) (ds : List D) (r : Rs) (H : Hp) : Prop := ∀ i r1 H1, Kp K r H r1 H1 → Rok K r1 H1 →
  (i < ds.length → J.go i H1 ∧ ∀ x H2, J.yld i H1 x H2 → Ext H1 H2 ∧ ∃ d, ds[i]? = some d ∧ Is K (mem r1) H2 x d) ∧ (i = ds.length → J.stop i H1)
abbrev AI := XT → Dl → Rs → (List D → Rs → Prop) → Prop
def TDI (K : PySem.W.Frag) (W : WX) (t : AI) : TI := fun σ H R => ∃ XR δ r P, Ok K W XR r δ σ H ∧ t XR δ r P ∧ ∀ ds r' J H', P ds r' → Ok K W XR r' δ σ H' → Kp K r H r' H' → Walks K J ds r' H' → R J H'
def PDI (X : Cx) (W : WX) (tg iter : Expr) (t : AI) : Prop := PI X tg iter (TDI X.K W t)
theorem imI {X : Cx} {tg e : Expr} {t t' : TI} (h : PI X tg e t) (i : ∀ σ H Q, t' σ H Q → t σ H Q) : PI X tg e t' := ⟨fun pins s σ H Q I q => h.run pins s σ H Q I (i σ H Q q)⟩
section
variable {X : Cx} {W : WX} {tg e : Expr} {te : AT} {pos : Pos}
def iSeqL (t : AT) : AI := fun x δ r P => t x δ r fun d r1 => match d with | .lst ds => P ds r1 | _ => False
theorem walks_l {K : PySem.W.Frag} {r : Rs} {H : Hp} {a : Addr} {ds : List D} (h : Is K (mem r) H (.ref a) (.lst ds)) : Walks K (Itl K a) ds r H := by
  intro i r1 H1 k _
  cases k _ _ h with
  | lst n s al =>
    rename_i xs
    refine ⟨fun hi => ⟨⟨xs, xs[i]'(by rw [al.length]; exact hi), SqL.of s, by simp⟩, ?_⟩, fun hi => ⟨xs, SqL.of s, by rw [al.length, hi] <;> exact Nat.le_refl _⟩⟩
    rintro x H2 ⟨rfl, hx⟩
    obtain ⟨d, h1, h2⟩ := al.get (hx xs (SqL.of s))
    exact ⟨Ext.refl _, d, h1, h2⟩
theorem i_list (h : PD X W e te) : PDI X W tg e (iSeqL te) := imI (pi_list h) fun σ H Q ⟨XR, δ, r, P, o, q, k⟩ => td_bind o q fun d r1 v H1 h1 o1 k1 i1 => by
  cases i1 with
  | lst n s al => exact ⟨_, rfl, ⟨_, SqL.of s⟩, k _ _ _ _ h1 o1 k1 (walks_l (.lst n s al))⟩
  | _ => exact h1.elim
def iStrD (t : AT) : AI := fun x δ r P => t x δ r fun d r1 => match d with | .str z => P (z.cps.toList.map fun c => .str ⟨#[c]⟩) r1 | _ => False
theorem sok_mem {z : Str} {c : Nat} (h : sok z) (e : c ∈ z.cps.toList) : sok ⟨#[c]⟩ := by
  refine ⟨?_, by show 1 ≤ 1000000; decide⟩
  have h1 : z.cps.all (fun c => decide (c < 0x110000)) = true := h.1
  rw [← Array.all_toList, List.all_eq_true] at h1
  show (#[c] : Array Nat).all _ = true
  simpa using h1 c e
theorem i_str (h : PD X W e te) : PDI X W tg e (iStrD te) := imI (pi_str h) fun σ H Q ⟨XR, δ, r, P, o, q, k⟩ => td_bind o q fun d r1 v H1 h1 o1 k1 i1 => by
  cases i1 with
  | str s =>
    rename_i z
    refine ⟨_, rfl, k _ _ _ _ h1 o1 k1 ?_⟩
    intro i r2 H2 _ _
    refine ⟨fun hi => ⟨(show i < z.cps.size by simpa using hi), ?_⟩, fun hi => ?_⟩
    · rintro x H3 ⟨rfl, c, hc, rfl⟩
      have hm : c ∈ z.cps.toList := by
        have := Array.mem_of_getElem? hc
        simpa using this
      refine ⟨Ext.refl _, .str ⟨#[c]⟩, ?_, .str (sok_mem s hm)⟩
      rw [List.getElem?_map, Array.getElem?_toList, hc]
      rfl
    · show z.cps.size ≤ i
      rw [hi]
      simp
  | _ => exact h1.elim
def iR1 (l : AL) : AI := fun x δ r P => l x δ r fun ds r1 => match ds with | [.int n] => (-(2 ^ 62) ≤ n ∧ n < 2 ^ 62) ∧ P ((List.range n.toNat).map fun i => .int (i : Nat)) r1 | _ => False
theorem walks_r {K : PySem.W.Frag} {r : Rs} {H : Hp} {lo : Int} {n : Nat} : Walks K (Itr lo n) ((List.range n).map fun i => .int (lo + (i : Nat))) r H := by
  intro i r1 H1 _ _
  refine ⟨fun hi => ⟨(show i < n by simpa using hi), ?_⟩, fun hi => ?_⟩
  · rintro x H2 ⟨rfl, rfl⟩
    have hi' : i < n := by simpa using hi
    refine ⟨Ext.refl _, .int (lo + i), ?_, .int _⟩
    rw [List.getElem?_map, List.getElem?_range hi']
    rfl
  · show n ≤ i
    rw [hi]
    simp
theorem i_r1 {p : Pos} {l : AL} (hg : Gl X "range") (hm : X.mg "range" = none) (ha : PDL X W [e] l) (hs : starEach [e] X.env = [(false, eval e X.env)] := by rfl) : PDI X W tg (.Call (.Name "range" p) [e] [] pos) (iR1 l) :=
  imI (pi_range1 hg hm ha hs) fun σ H Q ⟨XR, δ, r, P, o, q, k⟩ => tdl_bind o q fun ds r1 vs H1 h1 o1 k1 i1 => by
    match ds, h1, i1 with
    | [.int n], h1, .cons (.int _) .nil =>
      refine ⟨_, rfl, h1.1.1, h1.1.2, k _ _ _ _ h1.2 o1 k1 ?_⟩
      have w := walks_r (K := X.K) (r := r1) (H := H1) (lo := 0) (n := n.toNat)
      simp only [Int.zero_add] at w
      exact w
def iEn (l : AL) : AI := fun x δ r P => l x δ r fun ds r1 => match ds with | [.lst xs] => P ((List.range xs.length).map fun i => .tup [.int (i : Nat), xs.getD i .non]) r1 | _ => False
theorem walks_e {K : PySem.W.Frag} {r : Rs} {H : Hp} {a : Addr} {ds : List D} (h : Is K (mem r) H (.ref a) (.lst ds)) : Walks K (Ite K a) ((List.range ds.length).map fun i => .tup [.int (i : Nat), ds.getD i .non]) r H := by
  intro i r1 H1 k _
  cases k _ _ h with
  | lst n s al =>
    rename_i xs
    refine ⟨fun hi => ?_, fun hi => ⟨xs, SqL.of s, by rw [al.length, hi]; simp⟩⟩
    have hi' : i < ds.length := by simpa using hi
    refine ⟨⟨xs, xs[i]'(by rw [al.length]; exact hi'), SqL.of s, by simp⟩, ?_⟩
    rintro x H2 ⟨T, y, rfl, hT, rfl, hy⟩
    obtain ⟨d, h1, h2⟩ := al.get (hy xs (SqL.of s))
    refine ⟨Ext.new hT, .tup [.int (i : Nat), ds.getD i .non], ?_, new_tup hT (.cons (.int _) (.cons ?_ .nil))⟩
    · rw [List.getElem?_map, List.getElem?_range hi']
      rfl
    · rw [List.getD_eq_getElem?_getD, h1]
      exact h2
theorem i_enum {elts : List Expr} {kk : Nat} {p tpos : Pos} {l : AL} (hg : Gl X "enumerate") (hm : X.mg "enumerate" = none) (ha : PDL X W [e] l) (hs : starEach [e] X.env = [(false, eval e X.env)] := by rfl) : PDI X W (.Tuple elts kk tpos) (.Call (.Name "enumerate" p) [e] [] pos) (iEn l) :=
  imI (pi_enum hg hm ha hs) fun σ H Q ⟨XR, δ, r, P, o, q, k⟩ => tdl_bind o q fun ds r1 vs H1 h1 o1 k1 i1 => by
    match ds, h1, i1 with
    | [.lst xs], h1, .cons (.lst n s al) .nil => exact ⟨_, _, rfl, SqL.of s, k _ _ _ _ h1 o1 k1 (walks_e (.lst n s al))⟩
abbrev AG := D → Dl → (Dl → Prop) → Prop
def gN (i : Nat) : AG := fun d δ Q => Q (δ.set i (some d))
def gT (is : List Nat) : AG := fun d δ Q => match d with | .tup ds => ds.length = is.length ∧ Q (setAll δ is ds) | _ => False
def Agree (js : List Nat) (σ σ' : L2.St) : Prop := σ'.length = σ.length ∧ ∀ k : Nat, k ∉ js → σ'[k]? = σ[k]?
theorem Agree.refl {js : List Nat} {σ : L2.St} : Agree js σ σ := ⟨rfl, fun _ _ => rfl⟩
theorem Agree.trans {js : List Nat} {σ σ1 σ2 : L2.St} (a : Agree js σ σ1) (b : Agree js σ1 σ2) : Agree js σ σ2 := ⟨b.1.trans a.1, fun k h => (b.2 k h).trans (a.2 k h)⟩
theorem Agree.set {js : List Nat} {σ : L2.St} {i : Nat} {x : Option V} (h : i ∈ js) : Agree js σ (σ.set i x) := ⟨List.length_set, fun k hk => List.getElem?_set_ne (fun (e : i = k) => hk (e ▸ h))⟩
theorem names_agree {K : PySem.W.Frag} {W : WX} {XR : XT} {r : Rs} {H : Hp} {Q : L2.St → Hp → Prop} {js : List Nat} : ∀ {is : List Nat} {vs : List V} {ds : List D} {δ : Dl} {σ : L2.St}, (∀ i ∈ is, i ∈ js) → Ok K W XR r δ σ H → IsAll K (mem r) H vs ds → ds.length = is.length → (∀ σ', Ok K W XR r (setAll δ is ds) σ' H → Agree js σ σ' → Q σ' H) → gNames is vs σ H Q
  | [], _, _, δ, σ, _, o, .nil, _, k => ⟨rfl, k σ o Agree.refl⟩
  | [], _, _, δ, σ, _, o, .cons _ _, l, k => by cases l
  | i :: is, _, _, δ, σ, _, o, .nil, l, k => by cases l
  | i :: is, _, _, δ, σ, hj, o, .cons h t, l, k => ⟨_, _, rfl, names_agree (is := is) (fun i h => hj i (List.mem_cons_of_mem _ h)) (o.set h) t (by simpa using l) fun σ' o' a => k σ' o' ((Agree.set (hj i List.mem_cons_self)).trans a)⟩
def TDG (K : PySem.W.Frag) (js : List Nat) (g : AG) : TG := fun v σ H Q => ∃ (W : WX) (XR : XT) (δ : Dl) (r : Rs) (d : D) (P : Dl → Prop), Ok K W XR r δ σ H ∧ Is K (mem r) H v d ∧ g d δ P ∧ ∀ δ' σ', P δ' → Ok K W XR r δ' σ' H → Agree js σ σ' → Q σ' H
def PDG (X : Cx) (target : Expr) (js : List Nat) (g : AG) : Prop := PG X target (TDG X.K js g)
theorem imG {X : Cx} {e : Expr} {t t' : TG} (h : PG X e t) (i : ∀ v σ H Q, t' v σ H Q → t v σ H Q) : PG X e t' := ⟨fun pins s σ H v u Q I rv q => h.run pins s σ H v u Q I rv (i v σ H Q q)⟩
theorem g_name {i : Nat} {x : Str} (hN : X.N.Nodup) (hi : X.N[i]? = some x := by rfl) (hx : Loc X.env.scope x := by first | exact Or.inl rfl | exact Or.inr rfl) (hf : X.fn x = true ∨ X.env.scope.names.lookup x = some .local := by first | exact .inl rfl | exact .inr rfl | assumption) : PDG X (.Name x pos) [i] (gN i) :=
  imG (pg_name hN hi hx hf) fun v σ H Q ⟨_, _, δ, r, d, P, o, i, g, k⟩ => k _ _ g (o.set i) (Agree.set List.mem_cons_self)
theorem g_tup {is : List Nat} {ts : List Expr} {kk : Nat} (hg : PGs X ts (gNames is)) (hc : X.calm = true := by rfl) (hn : (assignEach ts X.env).length = is.length := by rfl) (hst : (assignEach ts X.env).findIdx? (·.1) = none := by rfl) : PDG X (.Tuple ts kk pos) is (gT is) :=
  imG (pg_tup hc hg hn hst) fun v σ H Q ⟨_, _, δ, r, d, P, o, i, g, k⟩ => by
    cases i with
    | tup s al => exact ⟨_, _, rfl, s, by rw [al.length]; exact g.1, names_agree (fun _ h => h) o al g.1 fun σ' o' a => k _ _ g.2 o' a⟩
    | _ => exact g.elim
theorem pgs_n {i : Nat} {is : List Nat} {x : Str} {ts : List Expr} (hN : X.N.Nodup) (hr : PGs X ts (gNames is)) (hi : X.N[i]? = some x := by rfl) (hx : Loc X.env.scope x := by first | exact Or.inl rfl | exact Or.inr rfl) (hf : X.fn x = true ∨ X.env.scope.names.lookup x = some .local := by first | exact .inl rfl | exact .inr rfl | assumption)
    (hs : (assignEach (.Name x pos :: ts) X.env).map (·.2) = assign (.Name x pos) X.env :: (assignEach ts X.env).map (·.2) := by rfl) : PGs X (.Name x pos :: ts) (gNames (i :: is)) := pgs_cons (pg_name hN hi hx hf) hr hs
def sForK (g : AG) (tb : AS) (A : An) (ds : List D) (δ : Dl) (r1 : Rs) : Prop := ∃ I : Nat → Dl → Rs → Prop, I 0 δ r1 ∧
  (∀ i d δ' r', ds[i]? = some d → I i δ' r' → g d δ' fun δ2 => tb { A with nx := I (i + 1), ct := I (i + 1), bk := A.nx } δ2 r') ∧ ∀ δ' r', I ds.length δ' r' → A.nx δ' r'
def sFor (ti : AI) (g : AG) (tb : AS) : AS := fun A δ r => ti A.xr δ r fun ds r1 => sForK g tb A ds δ r1
theorem s_for {body : List Stmt} {js : List Nat} {wi : AI} {g : AG} {tb : AS} (hi : PDI X W tg e wi) (hg : PDG X tg js g) (hb : PBD X W body tb) (hp : PassesOwn (model X.prog X.w) X.A X.env X.xe) (hc : X.calm = true := by rfl)
    (hs : ∀ x, foldedSetIterable e X.env x = pure x := by intro _; rfl) : PSD X W (.For tg e body [] pos) (sFor wi g tb) := imS (ps_for hp hc hi hg hb hs) fun D σ H ⟨δ, r, A, o, h, f⟩ =>
  ⟨A.xr, δ, r, _, o, h, fun ds r1 J H1 ⟨I, h0, hst, hd⟩ o1 k1 w => by
    refine ⟨fun i m σ' H' => m = ds.length - i ∧ i ≤ ds.length ∧ ∃ δ' r', I i δ' r' ∧ Ok X.K W A.xr r' δ' σ' H' ∧ Kp X.K r1 H1 r' H', ⟨ds.length, by simp, Nat.zero_le _, δ, r1, h0, o1, Kp.refl⟩, ?_⟩
    rintro i m σ' H' ⟨rfl, hi, δ', r', hI, o', k'⟩
    by_cases hlt : i < ds.length
    · obtain ⟨hgo, hy⟩ := (w i r' H' k' o'.r).1 hlt
      refine .inr ⟨hgo, fun σ2 H2 => ∃ δ2 r2, I (i + 1) δ2 r2 ∧ Ok X.K W A.xr r2 δ2 σ2 H2 ∧ Kp X.K r1 H1 r2 H2, fun σ2 H2 ⟨δ2, r2, q1, q2, q3⟩ => ⟨ds.length - (i + 1), by omega, rfl, hlt, δ2, r2, q1, q2, q3⟩, fun x H2 y => ?_⟩
      obtain ⟨ex, d, hd', ix⟩ := hy x H2 y
      refine ⟨W, A.xr, δ', r', d, _, o'.ext ex, ix, hst i d δ' r' hd' hI, fun δ2 σ2 q o2 _ => ⟨δ2, r', { A with nx := I (i + 1), ct := I (i + 1), bk := A.nx }, o2, q, ?_⟩⟩
      have kk := k'.trans (Kp.ext ex)
      have fk := f.step (k1.trans kk)
      exact ⟨fun δ3 r3 σ3 H3 a o3 k3 => ⟨δ3, r3, a, o3, kk.trans k3⟩, fk.rt, fun δ3 r3 σ3 H3 a o3 k3 => fk.nx δ3 r3 σ3 H3 a o3 k3, fun δ3 r3 σ3 H3 a o3 k3 => ⟨δ3, r3, a, o3, kk.trans k3⟩⟩
    · have e : i = ds.length := by omega
      exact .inl ⟨(w i r' H' k' o'.r).2 e, f.nx _ _ _ _ (hd δ' r' (e ▸ hI)) o' (k1.trans k')⟩⟩
end
end G
namespace G
open PySem PySem.Spec L2
def wipeD (δ : Dl) : List Nat → Dl
  | [] => δ
  | v :: vs => (wipeD δ vs).set v none
theorem Ok.wipe {K : PySem.W.Frag} {W : WX} {XR : XT} {r : Rs} {δ : Dl} {σ : L2.St} {H : Hp} (o : Ok K W XR r δ σ H) : ∀ vs : List Nat, Ok K W XR r (wipeD δ vs) (wipe σ vs) H
  | [] => o
  | v :: vs => (Ok.wipe o vs).drop
theorem wipe_get (σ : L2.St) : ∀ (vs : List Nat) (k : Nat), (wipe σ vs)[k]? = if k ∈ vs ∧ k < σ.length then some none else σ[k]?
  | [], k => by simp [wipe]
  | v :: vs, k => by
    unfold wipe
    rw [List.getElem?_set]
    by_cases e : v = k
    · subst e
      rw [if_pos rfl, wipe_length]
      by_cases h : v < σ.length
      · rw [if_pos h, if_pos ⟨List.mem_cons_self, h⟩]
      · rw [if_neg h, if_neg (fun z => h z.2), List.getElem?_eq_none (by omega)]
    · rw [if_neg e, wipe_get σ vs k]
      have : (k ∈ v :: vs) ↔ k ∈ vs := ⟨fun z => (List.mem_cons.mp z).elim (fun q => absurd q.symm e) id, List.mem_cons_of_mem _⟩
      simp only [this]
theorem wipe_agree {σ σ' : L2.St} {js vs : List Nat} (a : Agree js (wipe σ vs) σ') (h : ∀ j ∈ js, j ∈ vs) : wipe σ' vs = wipe σ vs := by
  apply List.ext_getElem?
  intro k
  rw [wipe_get, wipe_get]
  have hl : σ'.length = σ.length := by rw [a.1, wipe_length]
  rw [hl]
  by_cases c : k ∈ vs ∧ k < σ.length
  · rw [if_pos c, if_pos c]
  · rw [if_neg c, if_neg c]
    by_cases hk : k ∈ vs
    · have h1 : σ.length ≤ k := Nat.le_of_not_lt fun z => c ⟨hk, z⟩
      rw [List.getElem?_eq_none (by omega), List.getElem?_eq_none h1]
    · rw [a.2 k (fun z => hk (h k z)), wipe_get, if_neg c]
section
variable {K : PySem.W.Frag}
theorem rok_plus {r : Rs} {H : Hp} {p : Addr} (h : Rok K r H) (hp : H p = none) : Rok K (r ++ [lstA p []]) (upd H p (.lst [])) ∧ Kp K r H (r ++ [lstA p []]) (upd H p (.lst [])) := by
  have e : ∀ a, mem (r ++ [lstA p []]) a → mem r a ∨ a = p := fun a z => (mem_append.mp z).elim .inl fun z => z.elim .inr False.elim
  refine ⟨hold_append.mpr ⟨hold_anti e (hold_ext (Ext.new hp) (hold_grow hp h)), ⟨⟨[], upd_same, .nil⟩, fun _ _ z => z, True.intro⟩, fun a m z => ?_⟩, fun v d i => is_anti e (is_ext (Ext.new hp) _ _ (is_grow hp i))⟩
  have : a = p := z.elim (fun z => z) False.elim
  subst this
  exact not_al h hp m
theorem is_otherO {N : Addr → Prop} {H : Hp} {q : Addr} {u u' : HO} (hN : N q) (hD : H q = some u) (nt : ∀ xs, u ≠ .tup xs ∧ ∀ o : Obj, u ≠ .frz o (.tup xs)) {v : V} {d : D} (h : Is K N H v d) : Is K N (upd H q u') v d := by
  refine Is.go (fun a o _ n s => ⟨n, by rw [upd_ne (fun (e : a = q) => n (e ▸ hN))]; exact s⟩) (fun a xs s => ?_) d v h
  rcases s with (s | ⟨o, s⟩) | s
  · exact .inl (.inl (by rw [upd_ne (fun e => by subst e; rw [hD] at s; exact (nt xs).1 (Option.some.inj s))]; exact s))
  · exact .inl (.inr ⟨o, by rw [upd_ne (fun e => by subst e; rw [hD] at s; exact (nt xs).2 o (Option.some.inj s))]; exact s⟩)
  · exact .inr s
theorem is_other {N : Addr → Prop} {H : Hp} {q : Addr} {ys : List V} (hN : N q) {xs : List V} (hD : H q = some (.lst xs)) {v : V} {d : D} (h : Is K N H v d) : Is K N (upd H q (.lst ys)) v d := is_otherO hN hD (fun _ => ⟨(fun e => by cases e), (fun _ e => by cases e)⟩) h
theorem rok_more {r : Rs} {H : Hp} {p : Addr} {acc : List D} {v : V} {d : D} (h : Rok K (r ++ [lstA p acc]) H) (i : Is K (mem (r ++ [lstA p acc])) H v d) : ∃ vs, H p = some (.lst vs) ∧ vs.length = acc.length ∧
    Rok K (r ++ [lstA p (acc ++ [d])]) (upd H p (.lst (vs ++ [v]))) ∧ ∀ w e, Is K (mem (r ++ [lstA p acc])) H w e → Is K (mem (r ++ [lstA p (acc ++ [d])])) (upd H p (.lst (vs ++ [v]))) w e := by
  obtain ⟨h1, ⟨⟨vs, h2, h3⟩, _, _⟩, h5⟩ := hold_append.mp h
  have me : mem (r ++ [lstA p acc]) = mem (r ++ [lstA p (acc ++ [d])]) := by
    funext a
    exact propext ((mem_append).trans (mem_append (r := r) (r' := [lstA p (acc ++ [d])])).symm)
  have hN : mem (r ++ [lstA p acc]) p := mem_append.mpr (.inr (.inl rfl))
  have go : ∀ w e, Is K (mem (r ++ [lstA p acc])) H w e → Is K (mem (r ++ [lstA p acc])) (upd H p (.lst (vs ++ [v]))) w e := fun w e q => is_other hN h2 q
  refine ⟨vs, h2, h3.length, ?_, fun w e q => me ▸ go w e q⟩
  refine hold_append.mpr ⟨?_, ⟨⟨vs ++ [v], upd_same, ?_⟩, fun _ _ z => z, True.intro⟩, h5⟩
  · rw [← me]
    refine hold_loc (fun b o m q => ?_) go h1
    rw [upd_ne (fun e => h5 b m (.inl e))]
    exact q
  · rw [← me]
    exact (all_of go h3).append (.cons (go _ _ i) .nil)
theorem le_rok {r r' : Rs} (l : le r r') {H : Hp} (h : Rok K r H) : Rok K r' H := l.r _ H h
/-- our own list is a list like others -/
theorem rok_done {r : Rs} {H : Hp} {p : Addr} {acc : List D} (h : Rok K (r ++ [lstA p acc]) H) : Rok K r H ∧ Is K (mem r) H (.ref p) (.lst acc) ∧ Kp K (r ++ [lstA p acc]) H r H := by
  obtain ⟨h1, ⟨⟨vs, h2, h3⟩, _, _⟩, h5⟩ := hold_append.mp h
  have an : ∀ a, mem r a → mem (r ++ [lstA p acc]) a := fun a z => mem_append.mpr (.inl z)
  exact ⟨hold_anti an h1, .lst (fun z => h5 p z (.inl rfl)) h2 (all_of (fun _ _ => is_anti an) h3), fun _ _ => is_anti an⟩
def bYes : AB := fun x _ r P => P true r
structure aLcK (x : XT) (g : AG) (tt : AB) (te : AT) (δw : Dl) (ds : List D) (r1 : Rs) (P : PK1) : Prop where
  ex : ∃ I : Nat → List D → Rs → Prop, I 0 [] r1 ∧
  (∀ (p : Addr) i d acc r', ds[i]? = some d → I i acc r' → g d δw fun δ2 => tt x δ2 (r' ++ [lstA p acc]) fun b r2 =>
    (b = true → te x δ2 r2 fun y r3 => small (acc.length + 1) ∧ ∃ r4, le r3 (r4 ++ [lstA p acc]) ∧ I (i + 1) (acc ++ [y]) r4) ∧ (b = false → ∃ r4, le r2 (r4 ++ [lstA p acc]) ∧ I (i + 1) acc r4)) ∧
  ∀ acc r', I ds.length acc r' → P (.lst acc) r'
def aLc (ti : AI) (g : AG) (tt : AB) (te : AT) (vs : List Nat) : AT := fun x δ r P => ti x δ r fun ds r1 => aLcK x g tt te (wipeD δ vs) ds r1 P
theorem td_lc {W : WX} {ti : AI} {g : AG} {tt : AB} {te : AT} {vs js : List Nat} (hj : ∀ j ∈ js, j ∈ vs) {σ : L2.St} {H : Hp} {Q : VK} (q : TD K W (aLc ti g tt te vs) σ H Q) : tLc (TDI K W ti) (TDG K js g) (TDB K W tt) (TD K W te) vs σ H Q := by
  obtain ⟨XR, δ, r, P, o, h, k⟩ := q
  refine ⟨XR, δ, r, _, o, h, fun ds r1 J H1 ⟨⟨I, h0, hst, hd⟩⟩ o1 k1 w p hp => ?_⟩
  obtain ⟨s1, s2⟩ := rok_plus o1.r hp
  refine ⟨fun i m H' => m = ds.length - i ∧ i ≤ ds.length ∧ ∃ acc r', I i acc r' ∧ Rok K (r' ++ [lstA p acc]) H' ∧ Kp K r1 H1 (r' ++ [lstA p acc]) H', ⟨ds.length, by simp, Nat.zero_le _, [], r1, h0, s1, s2⟩, ?_⟩
  rintro i m H' ⟨rfl, hi, acc, r', hI, ro, kp⟩
  by_cases hlt : i < ds.length
  · obtain ⟨hgo, hy⟩ := (w i _ H' kp ro).1 hlt
    refine .inr ⟨hgo, fun H2 => ∃ acc r2, I (i + 1) acc r2 ∧ Rok K (r2 ++ [lstA p acc]) H2 ∧ Kp K r1 H1 (r2 ++ [lstA p acc]) H2, fun H2 ⟨acc, r2, q1, q2, q3⟩ => ⟨ds.length - (i + 1), by omega, rfl, hlt, acc, r2, q1, q2, q3⟩, fun x H2 y => ?_⟩
    obtain ⟨ex, d, hd', ix⟩ := hy x H2 y
    have k2 := kp.trans (Kp.ext ex)
    have o2 : Ok K W XR (r' ++ [lstA p acc]) (wipeD δ vs) (wipe σ vs) H2 := (o1.step k2 (ro.ext ex)).wipe vs
    refine ⟨W, XR, wipeD δ vs, _, d, _, o2, ix, hst p i d acc r' hd' hI, fun δ2 σ2 q o3 ag => ⟨wipe_agree ag hj, XR, δ2, _, _, o3, q, fun b r3 H3 q3 o4 k4 => ?_⟩⟩
    cases b with
    | true =>
      show TD K W te σ2 H3 _
      refine td_bind o4 (q3.1 rfl) fun y r5 v H5 ⟨sz, r6, l6, h5⟩ o5 k5 i5 => ?_
      obtain ⟨ws, e1, e2, e3, e4⟩ := rok_more (le_rok l6 o5.r) (is_anti l6.m i5)
      refine ⟨ws, e1, by rw [e2]; exact Nat.lt_of_lt_of_le (Nat.lt_succ_self _) sz.sz, acc ++ [y], r6, h5, e3, fun v' d' z => e4 _ _ (is_anti l6.m (k5 _ _ (k4 _ _ (k2 _ _ z))))⟩
    | false =>
      show ∃ acc r2, _
      obtain ⟨r6, l6, h5⟩ := q3.2 rfl
      exact ⟨acc, r6, h5, le_rok l6 o4.r, fun v' d' z => is_anti l6.m (k4 _ _ (k2 _ _ z))⟩
  · have e : i = ds.length := by omega
    obtain ⟨d1, d2, d3⟩ := rok_done ro
    exact .inl ⟨(w i _ H' kp ro).2 e, k _ r' _ H' (hd acc r' (e ▸ hI)) (o1.step (kp.trans d3) d1) ((k1.trans kp).trans d3) d2⟩
end
section
variable {X : Cx} {W : WX}
theorem pts_no : PTs X [] (TDB X.K W bYes) := ⟨fun pins s σ H Q I ⟨XR, δ, r, P, o, h, k⟩ => pts_nil.run pins s σ H Q I (k true r H h o Kp.refl)⟩
theorem pts_1 {c : Expr} {t : AB} (h : PDB X W c t) : PTs X [c] (TDB X.K W t) := pts_one h
theorem d_lc {elt tg iter : Expr} {ifs : List Expr} {scope : Scope} {own : List (Str × Nat)} {pos : Pos} {js : List Nat} {wi : AI} {g : AG} {tt : AB} {te : AT} (hN : X.N.Nodup) (hi : PDI X W tg iter wi) (ok : BlkOk X.N X.env.scope scope own)
    (hg : ∀ (s : Shared) (H : Hp) (C : Addr) (cl : List (Str × Addr)) (fp : List Addr), PDG (X.blk s H scope (compEnvC scope cl C X.env) fp) tg js g) (ht : ∀ (s : Shared) (H : Hp) (C : Addr) (cl : List (Str × Addr)) (fp : List Addr), PTs (X.blk s H scope (compEnvC scope cl C X.env) fp) ifs (TDB X.K W tt))
    (he : ∀ (s : Shared) (H : Hp) (C : Addr) (cl : List (Str × Addr)) (fp : List Addr), PD (X.blk s H scope (compEnvC scope cl C X.env) fp) W elt te) (hj : ∀ j ∈ js, j ∈ own.map (·.2) := by decide) (hc : X.calm = true := by rfl) (hs : ∀ x, foldedSetIterable iter X.env x = pure x := by intro _; rfl) :
    PD X W (.ListComp elt [⟨tg, iter, ifs, 0⟩] scope pos) (aLc wi g tt te (own.map (·.2))) :=
  imE (pe_lc (g := TDG X.K js g) (tt := TDB X.K W tt) (te := TD X.K W te) hc hN hi ok hg ht he hs) fun _ _ _ q => td_lc hj q
theorem s_setLc {i : Nat} {y : Str} {py : Pos} {elt tg iter : Expr} {ifs : List Expr} {scope : Scope} {own : List (Str × Nat)} {pos spos : Pos} {js : List Nat} {wi : AI} {g : AG} {tt : AB} {te : AT} (hN : X.N.Nodup) (hi : PDI X W tg iter wi) (ok : BlkOk X.N X.env.scope scope own)
    (hg : ∀ (s : Shared) (H : Hp) (C : Addr) (cl : List (Str × Addr)) (fp : List Addr), PDG (X.blk s H scope (compEnvC scope cl C X.env) fp) tg js g) (ht : ∀ (s : Shared) (H : Hp) (C : Addr) (cl : List (Str × Addr)) (fp : List Addr), PTs (X.blk s H scope (compEnvC scope cl C X.env) fp) ifs (TDB X.K W tt))
    (he : ∀ (s : Shared) (H : Hp) (C : Addr) (cl : List (Str × Addr)) (fp : List Addr), PD (X.blk s H scope (compEnvC scope cl C X.env) fp) W elt te) (hsw : swapsWith (.ListComp elt [⟨tg, iter, ifs, 0⟩] scope pos) (some (.Name y py)) spos.line X.env = pure true) (hj : ∀ j ∈ js, j ∈ own.map (·.2) := by decide)
    (hc : X.calm = true := by rfl) (hy : X.N[i]? = some y := by rfl) (hyl : X.env.scope.names.lookup y = some .local := by rfl) (hs : ∀ x, foldedSetIterable iter X.env x = pure x := by intro _; rfl) :
    PSD X W (.Assign [.Name y py] (.ListComp elt [⟨tg, iter, ifs, 0⟩] scope pos) spos) (sAsg i (aLc wi g tt te (own.map (·.2)))) :=
  imS (ps_setLc (g := TDG X.K js g) (tt := TDB X.K W tt) (te := TD X.K W te) hc hN hy hyl hsw hi ok hg ht he hs) fun D σ H ⟨δ, r, A, o, h, f⟩ => td_lc hj (td_bind o h fun d r1 v H1 h1 o1 k1 i1 => f.nx _ _ _ _ h1 (o1.set i1) k1)
end
section
variable {K : PySem.W.Frag} {x : XT} {g : AG} {te : AT} {tt : AB} {δw : Dl} {ds : List D} {r1 : Rs} {P : PK1}
theorem lc_map (f : D → D) (hz : small ds.length) (he : ∀ d ∈ ds, ∀ (r' : Rs) (P' : PK1), P' (f d) r' → g d δw fun δ2 => te x δ2 r' P') (hP : P (.lst (ds.map f)) r1) : aLcK x g bYes te δw ds r1 P := by
  refine ⟨fun i acc r' => acc = (ds.take i).map f ∧ r' = r1, ⟨rfl, rfl⟩, ?_, ?_⟩
  · rintro p i d acc r' hd ⟨rfl, rfl⟩
    have hi := (List.getElem?_eq_some_iff.mp hd).1
    refine Eq.mp ?_ (he d (List.mem_of_getElem? hd) (r' ++ [lstA p ((ds.take i).map f)]) (fun y r3 => small (((ds.take i).map f).length + 1) ∧ ∃ r4, le r3 (r4 ++ [lstA p ((ds.take i).map f)]) ∧ ((ds.take i).map f ++ [y] = (ds.take (i + 1)).map f ∧ r4 = r')) ?_)
    · congr 1
      funext δ2
      unfold bYes
      simp
    · refine ⟨?_, r', le.refl, ?_, rfl⟩
      · rw [List.length_map, List.length_take]
        have : small ds.length := hz
        unfold small at *
        omega
      · rw [List.take_add_one, hd, List.map_append]
        rfl
  · rintro acc r' ⟨rfl, rfl⟩
    rw [List.take_length]
    exact hP
end
end G
namespace G
open PySem PySem.Spec L2
open PyProof.Rows (envOfC)
abbrev XD := Addr → List Str → List D → Rs → Prop
abbrev SpX := List D → Rs → PK1 → XD → Prop
/-- a promise over data as a promise of the hand layer -/
def lift (K : PySem.W.Frag) (sd : SpX) : Sp := fun vs H Q E => ∃ (r : Rs) (ds : List D) (P : PK1) (XR : XD), Rok K r H ∧ IsAll K (mem r) H vs ds ∧ sd ds r P XR ∧
  (∀ d r' v H', P d r' → Rok K r' H' → Kp K r H r' H' → Is K (mem r') H' v d → Q v H') ∧
  (∀ C fs es r' a H', XR C fs es r' → Rok K r' H' → Kp K r H r' H' → ExAt K r' H' a fs es → E (.ref C) a H')
def noX : XD := fun _ _ _ _ => False
/-- the def at f keeps the promise sd -/
abbrev FO (P : Program) (w : World) (K : PySem.W.Frag) (mg : Str → Option Value) (base : Heap) (k : Nat) (f : Addr) (fd : FuncData) (ps : List Str) (sd : SpX) : Prop := FnOk P w K mg base (L2.CX P w) k f fd ps (lift K sd)
abbrev FR (P : Program) (w : World) (K : PySem.W.Frag) (mg : Str → Option Value) (base : Heap) (k : Nat) (f : Addr) (sd : SpX) : Prop := FnR P w K mg base (L2.CX P w) k f (lift K sd)
theorem lift_imp {K : PySem.W.Frag} {sd sd' : SpX} (h : ∀ ds r P XR, sd' ds r P XR → sd ds r P XR) : ∀ vs H Q E, lift K sd' vs H Q E → lift K sd vs H Q E := fun vs H Q E ⟨r, ds, P, XR, h1, h2, h3, h4⟩ => ⟨r, ds, P, XR, h1, h2, h _ _ _ _ h3, h4⟩
theorem fr_of {P : Program} {w : World} {K : PySem.W.Frag} {mg : Str → Option Value} {base : Heap} {k : Nat} {f : Addr} {fd : FuncData} {ps : List Str} {sd : SpX} (F : FO P w K mg base k f fd ps sd) (hb : Binds K fd ps []) : FR P w K mg base k f sd := by
  have q := F.raw hb .nil
  exact q.imp fun vs H Q E h => by rw [List.append_nil]; exact h
section
variable {X : Cx} {W : WX} {k : Nat} {f : Addr} {sd : SpX} {pins : List (Addr × Obj)} {σ : L2.St} {H : Hp} {s : Shared} {us : List Value} {vs : List V}
theorem run_at {sp : Sp} {E : XK} {Q : VK} (F : FnR X.prog X.w X.K X.mg X.base (L2.CX X.prog X.w) k f sp) (hr : Room k X.A) (hx : PassesAt (L2.CX X.prog X.w) X σ E) (I : L2.Inv X pins σ H s) (r : Vals vs us) (h : sp vs H Q E) :
    codeAny (model X.prog X.w) X.A (.call (.ref f) ⟨us, []⟩) (fun r s' => match r with | .ok (.ret v) => EP X pins σ Q v s' | .ok _ => False | .error e => X.xe e s') s := by
  refine codeAny_mono (F X.A X.stack s H us vs Q E hr I.env0 r h) fun r s' hq => ?_
  cases r with
  | error e => exact hx pins H s e s' I hq
  | ok fl =>
    cases fl with
    | ret u => exact I.after hq
    | next => exact False.elim hq
    | brk => exact False.elim hq
    | cont => exact False.elim hq
/-- nothing is let out -/
theorem passN {E : XK} (h : ∀ c d H, ¬ E c d H) : PassesAt (L2.CX X.prog X.w) X σ E := fun _ _ _ _ _ _ hh => by
  obtain ⟨_, _, _, _, _, _, _, _, _, _, _, _, z⟩ := hh
  exact (h _ _ _ z).elim
theorem lift_at {XR : XT} {r : Rs} {δ : Dl} {P : PK1} {ds : List D} {Q : VK} (o : Ok X.K W XR r δ σ H) (i : IsAll X.K (mem r) H vs ds) (h : sd ds r P fun C fs es r' => XR C fs es δ r')
    (k : ∀ d r' v H', P d r' → Ok X.K W XR r' δ σ H' → Kp X.K r H r' H' → Is X.K (mem r') H' v d → Q v H') : lift X.K sd vs H Q (WE W σ) :=
  ⟨r, ds, P, _, o.r, i, h, fun d r' v H' a b c i => k d r' v H' a (o.step c b) c i, fun C fs es r' a H' x ro kk e => o.x C fs es δ r' σ a H' x (o.b.step kk ro) kk e⟩
theorem lift_n {XR : XT} {r : Rs} {δ : Dl} {P : PK1} {ds : List D} {Q : VK} (o : Ok X.K W XR r δ σ H) (i : IsAll X.K (mem r) H vs ds) (h : sd ds r P noX)
    (k : ∀ d r' v H', P d r' → Ok X.K W XR r' δ σ H' → Kp X.K r H r' H' → Is X.K (mem r') H' v d → Q v H') : lift X.K sd vs H Q E0 :=
  ⟨r, ds, P, _, o.r, i, h, fun d r' v H' a b c i => k d r' v H' a (o.step c b) c i, fun _ _ _ _ _ _ x => x.elim⟩
theorem passE : PassesAt (L2.CX X.prog X.w) X σ E0 := passN fun _ _ _ z => z
end
/-- a call's reading: what is raised goes on; nothing is raised -/
def aCall (sd : SpX) (l : AL) : AT := fun x δ r P => l x δ r fun ds r1 => sd ds r1 P fun C fs es r' => x C fs es δ r'
def aCallN (sd : SpX) (l : AL) : AT := fun x δ r P => l x δ r fun ds r1 => sd ds r1 P noX
section
variable {X : Cx} {W : WX} {k : Nat} {f : Addr} {sd : SpX} {x : Str} {p pos : Pos} {e : Expr} {es : List Expr} {l : AL}
theorem call_P {sp : Sp} {E : XK} {Q : VK} {pins : List (Addr × Obj)} {σ : L2.St} {H : Hp} {s : Shared} {us : List Value} {vs : List V} (F : FnR X.prog X.w X.K X.mg X.base (L2.CX X.prog X.w) k f sp) (hr : Room k X.A) (hx : PassesAt (L2.CX X.prog X.w) X σ E) (I : L2.Inv X pins σ H s) (r : Vals vs us) (h : sp vs H Q E) :
    wpAny (model X.prog X.w) X.A (call (.ref f) us) (EP X pins σ Q) X.xe s := wpAny_call (run_at F hr hx I r h)
/-- x(e, ..) -/
theorem call_any (F : FR X.prog X.w X.K X.mg X.base k f sd) (hr : Room k X.A) (hk : PySem.W.keepIn X.K (.ref f) = true) (hm : X.mg x = some (.ref f)) (tr : AT) (ha : PDL X W (e :: es) l)
    (im : ∀ {pins : List (Addr × Obj)} {σ : L2.St} {H : Hp} {s : Shared} {Q : VK}, TD X.K W tr σ H Q → L2.Inv X pins σ H s → TDL X.K W l σ H fun vs H1 => ∃ E : XK, PassesAt (L2.CX X.prog X.w) X σ E ∧ lift X.K sd vs H1 Q E)
    (hg : Gl X x) (hdb : (x == ("__debug__" : Str)) = false) (he : starEach (e :: es) X.env = (false, eval e X.env) :: starEach es X.env) (hpl : (backTo pos (starEach es X.env)).any (·.1) = false) : PD X W (.Call (.Name x p) (e :: es) [] pos) tr := by
  refine ⟨fun pins s σ H Q I h => ?_⟩
  refine wpAny_Call_Name_kw (ld_glob I hg hm ?_ hdb)
  refine PySem.W.callWith_K (h₀ := X.base) I.ok.mod.kin hk (thn (ha.run pos pins s σ H _ I (im h I)) fun us s1 ⟨vs, H1, I1, r, E, hx, q⟩ => ⟨I1.kIn, ?_⟩) he hpl
  exact call_P F hr hx I1 r q
theorem d_call (F : FR X.prog X.w X.K X.mg X.base k f sd) (tk : Takes X W) (hr : Room k X.A) (hm : X.mg x = some (.ref f)) (hk : PySem.W.keepIn X.K (.ref f) = true)
    (ha : PDL X W (e :: es) l) (hg : Gl X x := by rfl) (hdb : (x == ("__debug__" : Str)) = false := by decide) (he : starEach (e :: es) X.env = (false, eval e X.env) :: starEach es X.env := by rfl) (hpl : (backTo pos (starEach es X.env)).any (·.1) = false := by rfl) :
    PD X W (.Call (.Name x p) (e :: es) [] pos) (aCall sd l) := call_any F hr hk hm _ ha (fun q I => by
  obtain ⟨XR, δ, r, P, ok, h, kk⟩ := q
  exact tdl_bind ok h fun ds r1 vs H1 h1 o1 k1 i1 => ⟨_, passAt tk _, lift_at o1 i1 h1 fun d r' v H' a b c i => kk d r' v H' a b (k1.trans c) i⟩) hg hdb he hpl
theorem d_callN (F : FR X.prog X.w X.K X.mg X.base k f sd) (hr : Room k X.A) (hm : X.mg x = some (.ref f)) (hk : PySem.W.keepIn X.K (.ref f) = true)
    (ha : PDL X W (e :: es) l) (hg : Gl X x := by rfl) (hdb : (x == ("__debug__" : Str)) = false := by decide) (he : starEach (e :: es) X.env = (false, eval e X.env) :: starEach es X.env := by rfl) (hpl : (backTo pos (starEach es X.env)).any (·.1) = false := by rfl) :
    PD X W (.Call (.Name x p) (e :: es) [] pos) (aCallN sd l) := call_any F hr hk hm _ ha (fun q I => by
  obtain ⟨XR, δ, r, P, ok, h, kk⟩ := q
  exact tdl_bind ok h fun ds r1 vs H1 h1 o1 k1 i1 => ⟨_, passE, lift_n o1 i1 h1 fun d r' v H' a b c i => kk d r' v H' a b (k1.trans c) i⟩) hg hdb he hpl
end
def startD (N : List Str) (ds : List D) : Dl := ds.map some ++ List.replicate (N.length - ds.length) none
/-- a promise that any heap is told by, kept -/
def fit (P : PK1) : PK1 := fun d r' => ∃ r0, le r' r0 ∧ P d r0
theorem fit.of {P : PK1} {d : D} {r : Rs} (h : P d r) : fit P d r := ⟨r, le.refl, h⟩
def fitX (XR : XD) : XT := fun C fs es _ r' => ∃ r0, le r' r0 ∧ XR C fs es r0
theorem fitX.of {XR : XD} {C : Addr} {fs : List Str} {es : List D} {δ : Dl} {r : Rs} (h : XR C fs es r) : fitX XR C fs es δ r := ⟨r, le.refl, h⟩
theorem ExAt.anti {K : PySem.W.Frag} {r r' : Rs} {H : Hp} {a : Option Addr} {fs : List Str} {ds : List D} (h : ∀ a, mem r' a → mem r a) (e : ExAt K r H a fs ds) : ExAt K r' H a fs ds := by
  cases a with
  | none => exact e
  | some a =>
    obtain ⟨h0, kvs, h1, h2, h3⟩ := e
    exact ⟨fun z => h0 (h _ z), kvs, h1, h2, all_of (fun _ _ => is_anti h) h3⟩
abbrev WK (E : XK) : WX := fun cls d _ H => E cls d H
abbrev W0 : WX := fun _ _ _ _ => False
section
variable {P : Program} {w : World} {K : PySem.W.Frag} {mg : Str → Option Value} {base : Heap}
theorem start_ok {W : WX} {XR : XT} {N : List Str} {vs : List V} {ds : List D} {r : Rs} {H : Hp} (ro : Rok K r H) (hi : IsAll K (mem r) H vs ds) (x : Xc K W XR r H) : Ok K W XR r (startD N ds) (L2.start N vs) H := by
  refine ⟨⟨fun i d e => ?_, ro, ?_⟩, x⟩
  · unfold startD at e
    unfold L2.start
    rcases Nat.lt_or_ge i ds.length with hlt | hge
    · rw [List.getElem?_append_left (by simpa using hlt), List.getElem?_map] at e
      cases q : ds[i]? with
      | none => rw [q] at e; cases e
      | some d0 =>
        rw [q] at e
        cases e
        obtain ⟨v, h1, h2⟩ := hi.getD q
        exact ⟨v, by rw [List.getElem?_append_left (by rw [List.length_map, hi.length]; exact hlt), List.getElem?_map, h1] <;> rfl, h2⟩
    · rw [List.getElem?_append_right (by simpa using hge), List.getElem?_replicate] at e
      split at e <;> cases e
  · unfold startD L2.start
    rw [List.length_append, List.length_append, List.length_map, List.length_map, List.length_replicate, List.length_replicate, hi.length]
/-- THE RULE for a def -/
theorem fn_d {x qual : Str} {st : Stmt} {f : Addr} {fd : FuncData} {N ps : List Str} {k : Nat} {sd : SpX} (F : Fun K x qual st f fd) (S : FnScope N ps (defScope st)) (len : ∀ ds r P' XR, sd ds r P' XR → ds.length = ps.length)
    (hbody : ∀ (cdv : Value) (A : Around) (outer : List Env) (s : Shared) (H : Hp) (E : XK), Room k (A.deeper (envOfC qual (defScope st) s.heap.objs.size f cdv)) → Takes (cxOf (L2.CX P w) P w K mg base N qual (defScope st) f cdv A outer s H E) (WK E) →
      PassesOwn (model P w) (cxOf (L2.CX P w) P w K mg base N qual (defScope st) f cdv A outer s H E).A (cxOf (L2.CX P w) P w K mg base N qual (defScope st) f cdv A outer s H E).env (cxOf (L2.CX P w) P w K mg base N qual (defScope st) f cdv A outer s H E).xe →
      ∃ t : AS, PBD (cxOf (L2.CX P w) P w K mg base N qual (defScope st) f cdv A outer s H E) (WK E) (defBody st) t ∧
      ∀ ds r P' XR, sd ds r P' XR → t { nx := fun _ r' => fit P' .non r', rt := fit P', xr := fitX XR } (startD N ds) r) : FO P w K mg base (k + 1) f fd ps sd := by
  refine F.okX S (fun vs H Q E h => ?_) (fun cdv A outer s H vs Q E hr h => ?_)
  · obtain ⟨r, ds, P', XR, hr, hi, hs, _, _⟩ := h
    rw [hi.length]
    exact len _ _ _ _ hs
  · obtain ⟨r, ds, P', XR, ro, hi, hs, hq, hx⟩ := h
    obtain ⟨t, ht, hread⟩ := hbody cdv A outer s H E hr (takes_of rfl rfl rfl rfl) (passes_of rfl)
    refine ⟨_, ht, startD N ds, r, { nx := fun _ r' => fit P' .non r', rt := fit P', xr := fitX XR }, start_ok ro hi ?_, hread ds r P' XR hs, ⟨fun δ' r' σ' H' a o k => ?_, fun d r' v H' a o k i => ?_, fun _ _ _ _ z => z.elim, fun _ _ _ _ z => z.elim⟩⟩
    · rintro C fs es δ' r' σ' a H' ⟨r0, l, q⟩ o k e
      exact hx C fs es r0 a H' q (l.r _ _ o.r) (k.trans l.kp) (e.anti l.m)
    · obtain ⟨r0, l, a⟩ := a
      exact hq _ r0 _ H' a (l.r _ _ o.r) (k.trans l.kp) .non
    · obtain ⟨r0, l, a⟩ := a
      exact hq _ r0 _ H' a (l.r _ _ o) (k.trans l.kp) (is_anti l.m i)
end
end G
namespace G
open PySem PySem.Spec L2
open PyProof.Rows (envOfC)
/-- the def st stands under the module's name x -/
def Dfn (K : PySem.W.Frag) (mg : Str → Option Value) (x : Str) (st : Stmt) (ps : List Str) : Prop := ∃ f fd, Fun K x x st f fd ∧ mg x = some (.ref f) ∧ Binds K fd ps []
/-- the module's name x may be called by the promise sd -/
def Cl (P : Program) (w : World) (K : PySem.W.Frag) (mg : Str → Option Value) (base : Heap) (k : Nat) (x : Str) (ps : List Str) (sd : SpX) : Prop :=
  ∃ f fd, FO P w K mg base k f fd ps sd ∧ mg x = some (.ref f) ∧ PySem.W.keepIn K (.ref f) = true ∧ Binds K fd ps []
theorem cl_of {P : Program} {w : World} {K : PySem.W.Frag} {mg : Str → Option Value} {base : Heap} {x : Str} {st : Stmt} {N ps : List Str} {k : Nat} {sd : SpX} (Dx : Dfn K mg x st ps) (S : FnScope N ps (defScope st)) (len : ∀ ds r P' XR, sd ds r P' XR → ds.length = ps.length)
    (hbody : ∀ (f : Addr) (cdv : Value) (A : Around) (outer : List Env) (s : Shared) (H : Hp) (E : XK), Room k (A.deeper (envOfC x (defScope st) s.heap.objs.size f cdv)) → Takes (cxOf (L2.CX P w) P w K mg base N x (defScope st) f cdv A outer s H E) (WK E) →
      PassesOwn (model P w) (cxOf (L2.CX P w) P w K mg base N x (defScope st) f cdv A outer s H E).A (cxOf (L2.CX P w) P w K mg base N x (defScope st) f cdv A outer s H E).env (cxOf (L2.CX P w) P w K mg base N x (defScope st) f cdv A outer s H E).xe →
      ∃ t : AS, PBD (cxOf (L2.CX P w) P w K mg base N x (defScope st) f cdv A outer s H E) (WK E) (defBody st) t ∧
      ∀ ds r P' XR, sd ds r P' XR → t { nx := fun _ r' => fit P' .non r', rt := fit P', xr := fitX XR } (startD N ds) r) : Cl P w K mg base (k + 1) x ps sd := by
  obtain ⟨f, fd, F, g, b⟩ := Dx
  exact ⟨f, fd, fn_d F S len (hbody f), g, F.kp, b⟩
/-- a promise that is never asked -/
theorem cl_never {P : Program} {w : World} {K : PySem.W.Frag} {mg : Str → Option Value} {base : Heap} {x : Str} {st : Stmt} {ps : List Str} {k : Nat} {sd : SpX} (Dx : Dfn K mg x st ps) (h : ∀ ds r P' XR, ¬ sd ds r P' XR) : Cl P w K mg base k x ps sd := by
  obtain ⟨f, fd, F, g, b⟩ := Dx
  exact ⟨f, fd, ⟨fun vs H Q E ⟨r, ds, P', XR, _, _, z, _⟩ => (h _ _ _ _ z).elim, fun A outer s H args us vs Q E _ _ _ _ ⟨r, ds, P', XR, _, _, z, _⟩ => (h _ _ _ _ z).elim⟩, g, F.kp, b⟩
theorem Cl.imp {P : Program} {w : World} {K : PySem.W.Frag} {mg : Str → Option Value} {base : Heap} {x : Str} {ps : List Str} {k : Nat} {sd sd' : SpX} (c : Cl P w K mg base k x ps sd) (h : ∀ ds r P XR, sd' ds r P XR → sd ds r P XR) : Cl P w K mg base k x ps sd' := by
  obtain ⟨f, fd, F, g, kp, b⟩ := c
  exact ⟨f, fd, FnOk.imp F (lift_imp h), g, kp, b⟩
theorem Cl.mono {P : Program} {w : World} {K : PySem.W.Frag} {mg : Str → Option Value} {base : Heap} {x : Str} {ps : List Str} {j k : Nat} {sd : SpX} (c : Cl P w K mg base j x ps sd) (h : j ≤ k) : Cl P w K mg base k x ps sd := by
  obtain ⟨f, fd, F, g, kp, b⟩ := c
  exact ⟨f, fd, FnOk.mono F h, g, kp, b⟩
/-- a def that was walked as one that lets nothing out -/
theorem cl_cx0 {P : Program} {w : World} {K : PySem.W.Frag} {mg : Str → Option Value} {base : Heap} {x : Str} {ps : List Str} {k : Nat} {sd : SpX} {f : Addr} {fd : FuncData} (F : FnOk P w K mg base CX0 k f fd ps (lift K sd)) (g : mg x = some (.ref f)) (kp : PySem.W.keepIn K (.ref f) = true) (b : Binds K fd ps []) : Cl P w K mg base k x ps sd := by
  refine ⟨f, fd, ⟨F.len, fun A outer s H args us vs Q E hr he hb hv hs => codeAny_mono (F.run A outer s H args us vs Q E hr he hb hv hs) fun r s' h => ?_⟩, g, kp, b⟩
  cases r with
  | ok fl => cases fl <;> exact h
  | error e => exact h.elim
section
variable {X : Cx} {W : WX} {k j : Nat} {ps : List Str} {sd : SpX} {x : Str} {p pos : Pos} {e : Expr} {es : List Expr} {l : AL}
theorem d_fn (C : Cl X.prog X.w X.K X.mg X.base k x ps sd) (tk : Takes X W) (hr : Room j X.A) (ha : PDL X W (e :: es) l) (hj : k ≤ j := by first | decide | exact Nat.le_refl _ | omega) (hg : Gl X x := by rfl) (hdb : (x == ("__debug__" : Str)) = false := by decide)
    (he : starEach (e :: es) X.env = (false, eval e X.env) :: starEach es X.env := by rfl) (hpl : (backTo pos (starEach es X.env)).any (·.1) = false := by rfl) : PD X W (.Call (.Name x p) (e :: es) [] pos) (aCall sd l) := by
  obtain ⟨f, fd, F, g, kp, b⟩ := C
  exact d_call (fr_of F b) tk (hr.mono hj) g kp ha hg hdb he hpl
theorem d_fnN (C : Cl X.prog X.w X.K X.mg X.base k x ps sd) (hr : Room j X.A) (ha : PDL X W (e :: es) l) (hj : k ≤ j := by first | decide | exact Nat.le_refl _ | omega) (hg : Gl X x := by rfl) (hdb : (x == ("__debug__" : Str)) = false := by decide)
    (he : starEach (e :: es) X.env = (false, eval e X.env) :: starEach es X.env := by rfl) (hpl : (backTo pos (starEach es X.env)).any (·.1) = false := by rfl) : PD X W (.Call (.Name x p) (e :: es) [] pos) (aCallN sd l) := by
  obtain ⟨f, fd, F, g, kp, b⟩ := C
  exact d_callN (fr_of F b) (hr.mono hj) g kp ha hg hdb he hpl
end
/-- names that the module does not bind -/
structure Bl (mg : Str → Option Value) : Prop where
  len : mg "len" = none
  int : mg "int" = none
  list : mg "list" = none
  tuple : mg "tuple" = none
  isi : mg "isinstance" = none
  range : mg "range" = none
  all : mg "all" = none
  any : mg "any" = none
  str : mg "str" = none
  bool : mg "bool" = none
  enum : mg "enumerate" = none
  zip : mg "zip" = none
  sum : mg "sum" = none
  max : mg "max" = none
  min : mg "min" = none
  sorted : mg "sorted" = none
  set : mg "set" = none
  dict : mg "dict" = none
theorem own_step {K : PySem.W.Frag} {t t' : At} {X : Rs} {H H' : Hp} (h : Rok K (t :: X) H) (hm : t'.M = t.M) (hk : ∀ b o, ¬ t.M b → H b = some o → H' b = some o) (hT : ∀ b, t.M b → ∀ u, Rd H b u → ∀ xs, u ≠ .tup xs) (ht : t'.R K (mem (t' :: X)) H') : Rok K (t' :: X) H' ∧ Kp K (t :: X) H (t' :: X) H' := by
  have me : mem (t' :: X) = mem (t :: X) := by
    show (fun a => t'.M a ∨ mem X a) = (fun a => t.M a ∨ mem X a)
    rw [hm]
  have go : Kp K (t :: X) H (t' :: X) H' := fun v d q => by
    rw [me]
    refine Is.go (fun a o _ n s => ⟨n, hk a _ (fun z => n (.inl z)) s⟩) (fun a xs s => ?_) _ _ q
    rcases s with s | s
    · have na : ¬ t.M a := fun z => hT a z _ s xs rfl
      rcases s with s | ⟨o, s⟩
      · exact .inl (.inl (hk a _ na s))
      · exact .inl (.inr ⟨o, hk a _ na s⟩)
    · exact .inr s
  obtain ⟨h1, h2, h3⟩ := h
  have go' : ∀ v d, Is K (mem (t :: X)) H v d → Is K (mem (t :: X)) H' v d := by
    have g := go
    unfold Kp at g
    rw [me] at g
    exact g
  refine ⟨⟨ht, by rw [hm]; exact h2, ?_⟩, go⟩
  rw [me]
  exact hold_loc (fun b o m q => hk b o (fun z => h2 b z m) q) go' h3
/-- the pool of draws at p, its script's rest at a; fewer than N draws so far -/
def poolA (p a : Addr) (N : Nat) : At where
  M := fun b => b = p ∨ b = a
  R := fun _ _ H => p ≠ a ∧ ∃ (ns : List Int) (c1 c2 c3 : Int), H p = some (.lst [.ref a, .int c1, .int c2, .int c3]) ∧ H a = some (.lst (ns.map V.int)) ∧ 0 ≤ c1 ∧ 0 ≤ c2 ∧ c2 ≤ N ∧ 0 ≤ c3 ∧ c3 < 2147483629 ∧ ns.length ≤ 63
  loc := fun f _ ⟨ne, ns, c1, c2, c3, h1, h2, h⟩ => ⟨ne, ns, c1, c2, c3, f _ _ (.inl rfl) h1, f _ _ (.inr rfl) h2, h⟩
  anti := fun _ h => h
  grow := fun _ h => h
  al := fun ⟨ne, ns, c1, c2, c3, h1, h2, h⟩ b z => z.elim (fun e => ⟨_, e.symm ▸ h1⟩) fun e => ⟨_, e.symm ▸ h2⟩
theorem pool_mono {p a : Addr} {N N' : Nat} (h : N ≤ N') {X : Rs} : le (poolA p a N :: X) (poolA p a N' :: X) :=
  ⟨fun b z => z, fun K H ⟨⟨ne, ns, c1, c2, c3, h1, h2, h3, h4, h5, h6⟩, q, q2⟩ => ⟨⟨ne, ns, c1, c2, c3, h1, h2, h3, h4, by omega, h6⟩, q, q2⟩⟩
/-- a draw below m -/
def spDraw : SpX := fun ds r P _ => ∃ p a m N X, ds = [.adr p, .int m] ∧ r = poolA p a N :: X ∧ (0 < m ∧ m ≤ 10000000000000000000000000000000000000000) ∧ N < 1000000000000 ∧ ∀ k, 0 ≤ k → k < m → P (.int k) (poolA p a (N + 1) :: X)
theorem pool_step {K : PySem.W.Frag} {p a : Addr} {N N' : Nat} {X : Rs} {H H' : Hp} (h : Rok K (poolA p a N :: X) H) (hk : ∀ b o, b ≠ p → b ≠ a → H b = some o → H' b = some o) (ht : (poolA p a N').R K (mem (poolA p a N' :: X)) H') : Rok K (poolA p a N' :: X) H' ∧ Kp K (poolA p a N :: X) H (poolA p a N' :: X) H' := by
  obtain ⟨⟨ne, ns, c1, c2, c3, h1, h2, _⟩, _, _⟩ := id h
  refine own_step h rfl (fun b o n q => hk b o (fun e => n (.inl e)) (fun e => n (.inr e)) q) (fun b z u q xs e => ?_) ht
  subst e
  rcases z with rfl | rfl
  · rcases q with q | ⟨o, q⟩
    · rw [h1] at q; cases q
    · rw [h1] at q; cases q
  · rcases q with q | ⟨o, q⟩
    · rw [h2] at q; cases q
    · rw [h2] at q; cases q
theorem pget_list {X : Cx} : PGet X (fun o i H Q => ∃ (p : Addr) (xs : List V) (j : Nat) (v : V), o = .ref p ∧ i = .int (j : Nat) ∧ j < 1000000 ∧ SqL X.K H p xs ∧ xs[j]? = some v ∧ Q v H) := by
  rintro pins s σ H o i ov iv Q I ro ri ⟨p, xs, j, v, rfl, rfl, hj, hq, hv, q⟩
  cases ro
  obtain ⟨t, rfl⟩ := ri
  obtain ⟨its, r, pl, hz⟩ := I.list hq
  obtain ⟨u, hu, ru⟩ := r.get hv
  exact wpAny_getItem_list pl.isList (by omega) (by omega) (by simpa using hu) ⟨v, H, I, ru, q⟩
theorem brT {A B : Prop} (h : A) : (true = true → A) ∧ (true = false → B) := ⟨fun _ => h, fun e => (by cases e)⟩
theorem brF {A B : Prop} (h : B) : (false = true → A) ∧ (false = false → B) := ⟨fun e => (by cases e), fun _ => h⟩
theorem brt {b : Bool} {A B : Prop} (e : b = true) (h : A) : (b = true → A) ∧ (b = false → B) := ⟨fun _ => h, fun q => by rw [e] at q; cases q⟩
theorem brf {b : Bool} {A B : Prop} (e : b = false) (h : B) : (b = true → A) ∧ (b = false → B) := ⟨fun q => (by rw [e] at q; cases q), fun _ => h⟩
end G
namespace G
open PySem PySem.Spec L2
open PyProof.Rows (envOfC)
abbrev tl (x : Str) : List Nat := x.cps.toList
def strL : List D → Option (List Str)
  | [] => some []
  | .str z :: r => (strL r).map (z :: ·)
  | _ :: _ => none
theorem strL_map : ∀ (l : List Str), strL (l.map .str) = some l
  | [] => rfl
  | b :: bs => by simp [strL, strL_map bs]
theorem strL_all {K : PySem.W.Frag} {N : Addr → Prop} {H : Hp} : ∀ {vs : List V} {ds : List D} {ys : List Str}, IsAll K N H vs ds → strL ds = some ys → vs = ys.map V.str ∧ ∀ y ∈ ys, sok y
  | _, _, _, .nil, e => by cases e; exact ⟨rfl, fun _ h => by cases h⟩
  | _, d :: ds, bs, .cons i t, e => by
    cases i <;> try (simp [strL] at e; done)
    rename_i z hz
    simp only [strL] at e
    cases q : strL ds with
    | none => rw [q] at e; cases e
    | some cs =>
      rw [q] at e
      cases e
      obtain ⟨h1, h2⟩ := strL_all t q
      rw [h1]
      exact ⟨rfl, fun y hy => (List.mem_cons.mp hy).elim (fun e => e ▸ hz) (h2 y)⟩
theorem sok_iff {z : Str} : sok z ↔ (∀ c ∈ tl z, c < 1114112) ∧ (tl z).length ≤ 1000000 := by
  unfold sok PyData.strOk Str.length
  rw [← Array.all_toList, List.all_eq_true, Array.length_toList]
  simp only [decide_eq_true_eq]
theorem joinL_mem {S : List Nat} {c : Nat} : ∀ {ps : List (List Nat)}, c ∈ TL.joinL S ps → c ∈ S ∨ ∃ p ∈ ps, c ∈ p
  | [], h => by cases h
  | [p], h => .inr ⟨p, List.mem_cons_self, h⟩
  | p :: q :: r, h => by
    rcases List.mem_append.mp h with h | h
    · exact .inr ⟨p, List.mem_cons_self, h⟩
    · rcases List.mem_append.mp h with h | h
      · exact .inl h
      · rcases joinL_mem (ps := q :: r) h with h | ⟨x, h1, h2⟩
        · exact .inl h
        · exact .inr ⟨x, List.mem_cons_of_mem _ h1, h2⟩
theorem joinL_len {S : List Nat} : ∀ {ps : List (List Nat)}, (TL.joinL S ps).length ≤ (ps.map List.length).sum + ps.length * S.length
  | [] => by simp [TL.joinL]
  | [p] => by simp [TL.joinL]
  | p :: q :: r => by
    have ih := joinL_len (S := S) (ps := q :: r)
    simp only [TL.joinL, List.length_append, List.map_cons, List.sum_cons, List.length_cons, Nat.add_mul, Nat.one_mul] at ih ⊢
    omega
def tJoin (a : Str) (ys : List Str) : Str := Txt.join a ys
theorem tl_tJoin (a : Str) (ys : List Str) : tl (tJoin a ys) = TL.joinL (tl a) (ys.map tl) := by
  unfold tJoin
  rw [TL.join_eq]
  exact TL.tl_join a ys
theorem tl_len (ys : List Str) : (ys.map tl).map List.length = ys.map (·.length) := by
  rw [List.map_map]
  rfl
def oJoinP (x y : D) (k : D → Prop) : Prop := match x with
  | .str a => match y with
    | .lst ds => (match strL ds with | some ys => (ys.map (·.length)).sum + ys.length * a.length ≤ 1000000 ∧ k (.str (tJoin a ys)) | none => False)
    | .tup ds => (match strL ds with | some ys => (ys.map (·.length)).sum + ys.length * a.length ≤ 1000000 ∧ k (.str (tJoin a ys)) | none => False)
    | _ => False
  | _ => False
structure oJoin (x y : D) (k : D → Prop) : Prop where
  ex : oJoinP x y k
def aM1 (o : O2) (ta tb : AT) : AT := fun x δ r P => ta x δ r fun d1 r1 => match d1 with | .str z => tb x δ r1 fun d2 r2 => o (.str z) d2 fun d => P d r2 | _ => False
theorem sok_join {a : Str} {ys : List Str} (ha : sok a) (hy : ∀ y ∈ ys, sok y) (hz : (ys.map (·.length)).sum + ys.length * a.length ≤ 1000000) : sok (tJoin a ys) := by
  rw [sok_iff, tl_tJoin]
  refine ⟨fun c hc => ?_, ?_⟩
  · rcases joinL_mem hc with h | ⟨p, hp, h⟩
    · exact (sok_iff.mp ha).1 c h
    · obtain ⟨y, h1, rfl⟩ := List.mem_map.mp hp
      exact (sok_iff.mp (hy y h1)).1 c h
  · have := joinL_len (S := tl a) (ps := ys.map tl)
    rw [tl_len, List.length_map] at this
    exact Nat.le_trans this hz
section
variable {X : Cx} {W : WX} {o e : Expr} {ta tb : AT} {apos pos : Pos}
theorem d_join (ho : PD X W o ta) (he : PD X W e tb) (hs : starEach [e] X.env = [(false, eval e X.env)] := by rfl) (hbase : attributeBase o "join" X.env (eval o X.env) = eval o X.env := by rfl) (hline : (apos.endLine == pos.line) = true := by rfl) :
    PD X W (.Call (.Attribute o "join" apos) [e] [] pos) (aM1 oJoin ta tb) := imE (pe_join ho he hs hbase hline) fun σ H Q q => by
  obtain ⟨XR, δ, r, P, ok, h, k⟩ := q
  refine td_bind ok h fun d1 r1 v1 H1 h1 o1 k1 i1 => ?_
  cases i1 <;> try exact h1.elim
  rename_i z hz
  refine ⟨⟨z, rfl⟩, td_bind o1 h1 fun d2 r2 v2 H2 h2 o2 k2 i2 => ?_⟩
  obtain ⟨h2⟩ := h2
  cases i2 <;> try exact h2.elim
  · rename_i n hl al
    simp only [oJoinP] at h2
    split at h2
    · rename_i ys hys
      obtain ⟨e1, e2⟩ := strL_all al hys
      subst e1
      exact ⟨z, _, ys, rfl, rfl, .inl (SqL.of hl), Nat.le_trans h2.1 (by decide), k _ r2 _ H2 h2.2 o2 (k1.trans k2) (.str (sok_join hz e2 h2.1))⟩
    · exact h2.elim
  · rename_i hl al
    simp only [oJoinP] at h2
    split at h2
    · rename_i ys hys
      obtain ⟨e1, e2⟩ := strL_all al hys
      subst e1
      exact ⟨z, _, ys, rfl, rfl, .inr hl, Nat.le_trans h2.1 (by decide), k _ r2 _ H2 h2.2 o2 (k1.trans k2) (.str (sok_join hz e2 h2.1))⟩
    · exact h2.elim
end
def isLet (c : Nat) : Bool := decide (97 ≤ c) && decide (c ≤ 122)
/-- 1 to 8 letters a to z -/
def isNm (z : Str) : Bool := decide (1 ≤ z.length) && decide (z.length ≤ 8) && (tl z).all isLet
theorem isNm_sok {z : Str} (h : isNm z = true) : sok z := by
  unfold isNm isLet at h
  simp only [Bool.and_eq_true, decide_eq_true_eq, List.all_eq_true] at h
  rw [sok_iff]
  refine ⟨fun c hc => ?_, ?_⟩
  · have := (h.2 c hc).2
    omega
  · have : z.length = (tl z).length := by unfold Str.length tl; simp
    omega
/-- the pool is made of a script -/
def spPool (K : PySem.W.Frag) : Sp := fun vs H Q _ => ∃ (s : Addr) (ns : List Int), vs = [.ref s] ∧ SqL K H s (ns.map V.int) ∧ ns.length ≤ 63 ∧ ∀ p a H', Rok K [poolA p a 0] H' → Q (.ref p) H'
/-- a law: a list of at most 63 ints is handed in, True comes out -/
def spLaw (K : PySem.W.Frag) : Sp := fun vs H Q _ => ∃ (a : Addr) (ns : List Int), vs = [.ref a] ∧ SqL K H a (ns.map V.int) ∧ ns.length ≤ 63 ∧ ∀ H', Q (.bl true) H'
end G
namespace G
open PySem PySem.Spec L2
theorem ix_s {z : Str} {i : Int} {c : Nat} {k : D → Prop} (h : atI (tl z) i = some c) (q : k (.str ⟨#[c]⟩)) : oIx (.str z) (.int i) k := by
  refine ⟨?_⟩
  show (match atI (tl z) i with | some c => k (.str ⟨#[c]⟩) | none => False)
  rw [h]
  exact q
theorem ix_l {z : List D} {i : Int} {c : D} {k : D → Prop} (h : atI z i = some c) (q : k c) : oIx (.lst z) (.int i) k := by
  refine ⟨?_⟩
  show (match atI z i with | some c => k c | none => False)
  rw [h]
  exact q
theorem ix_t {z : List D} {i : Int} {c : D} {k : D → Prop} (h : atI z i = some c) (q : k c) : oIx (.tup z) (.int i) k := by
  refine ⟨?_⟩
  show (match atI z i with | some c => k c | none => False)
  rw [h]
  exact q
theorem join_l {a : Str} {ds : List D} {ys : List Str} {k : D → Prop} (h : strL ds = some ys) (hz : (ys.map (·.length)).sum + ys.length * a.length ≤ 1000000) (q : k (.str (tJoin a ys))) : oJoin (.str a) (.lst ds) k := by
  refine ⟨?_⟩
  show (match strL ds with | some ys => (ys.map (·.length)).sum + ys.length * a.length ≤ 1000000 ∧ k (.str (tJoin a ys)) | none => False)
  rw [h]
  exact ⟨hz, q⟩
def sg (c : Nat) : Str := ⟨#[c]⟩
theorem joinL_sg : ∀ cs : List Nat, TL.joinL [] (cs.map fun c => [c]) = cs
  | [] => rfl
  | [c] => rfl
  | c :: d :: r => by
    have ih := joinL_sg (d :: r)
    show [c] ++ ([] ++ TL.joinL [] ((d :: r).map fun c => [c])) = _
    rw [ih]
    rfl
theorem tl_signs (cs : List Nat) : tl (tJoin ⟨#[]⟩ (cs.map sg)) = cs := by
  rw [tl_tJoin, List.map_map]
  exact joinL_sg cs
theorem len_tl (z : Str) : z.length = (tl z).length := by unfold Str.length tl; simp
theorem sum_ones : ∀ cs : List Nat, ((cs.map sg).map (·.length)).sum = cs.length
  | [] => rfl
  | c :: cs => by
    rw [List.map_cons, List.map_cons, List.sum_cons, sum_ones cs, List.length_cons]
    show 1 + cs.length = _
    omega
theorem strL_sg (cs : List Nat) : strL (cs.map fun c => D.str (sg c)) = some (cs.map sg) := by
  have h := strL_map (cs.map sg)
  rw [List.map_map] at h
  exact h
def abc : Str := "abcdefghijklmnopqrstuvwxyz"
theorem abc_all : ((List.range 26).all fun n => match atI (tl abc) ((n : Nat) : Int) with | some c => isLet c | none => false) = true := by decide +kernel
theorem abc_at {k : Int} (h0 : 0 ≤ k) (h1 : k < 26) : ∃ c, atI (tl abc) k = some c ∧ isLet c = true := by
  have h := List.all_eq_true.mp abc_all k.toNat (List.mem_range.mpr (by omega))
  rw [Int.toNat_of_nonneg h0] at h
  cases e : atI (tl abc) k with
  | none => rw [e] at h; cases h
  | some c => rw [e] at h; exact ⟨c, rfl, h⟩
mutual
/-- no address in it, nothing long -/
def plain : D → Bool
  | .adr _ => false | .ins _ _ _ => false | .dct _ _ => false | .lst ds => decide (ds.length ≤ 1000000) && plains ds | .tup ds => decide (ds.length ≤ 1000000) && plains ds | _ => true
def plains : List D → Bool
  | [] => true
  | d :: ds => plain d && plains ds
end
mutual
/-- the same, True no 1 -/
def same : D → D → Bool
  | .non, .non => true
  | .bl a, .bl b => a == b
  | .int a, .int b => a == b
  | .str a, .str b => a == b
  | .lst a, .lst b => sames a b
  | .tup a, .tup b => sames a b
  | _, _ => false
def sames : List D → List D → Bool
  | [], [] => true
  | a :: as, b :: bs => same a b && sames as bs
  | _, _ => false
end
mutual
theorem same_refl : ∀ d : D, plain d = true → same d d = true
  | .non, _ => rfl
  | .bl b, _ => by simp [same]
  | .int b, _ => by simp [same]
  | .str b, _ => by simp [same]
  | .adr _, h => by cases h
  | .ins _ _ _, h => by cases h
  | .dct _ _, h => by cases h
  | .lst ds, h => by simp only [same]; exact sames_refl ds (by simp only [plain, Bool.and_eq_true] at h; exact h.2)
  | .tup ds, h => by simp only [same]; exact sames_refl ds (by simp only [plain, Bool.and_eq_true] at h; exact h.2)
theorem sames_refl : ∀ ds : List D, plains ds = true → sames ds ds = true
  | [], _ => rfl
  | d :: ds, h => by
    simp only [plains, Bool.and_eq_true] at h
    simp only [sames, same_refl d h.1, sames_refl ds h.2]
    rfl
end
theorem plain_tup {ds : List D} (h : plain (.tup ds) = true) : ds.length ≤ 1000000 ∧ plains ds = true := by
  simp only [plain, Bool.and_eq_true, decide_eq_true_eq] at h
  exact h
theorem plain_lst {ds : List D} (h : plain (.lst ds) = true) : ds.length ≤ 1000000 ∧ plains ds = true := by
  simp only [plain, Bool.and_eq_true, decide_eq_true_eq] at h
  exact h
theorem plain_of_lst {ds : List D} (h : ds.length ≤ 1000000) (g : plains ds = true) : plain (.lst ds) = true := by
  simp only [plain, Bool.and_eq_true, decide_eq_true_eq]
  exact ⟨h, g⟩
theorem plains_of : ∀ {ds : List D}, (∀ d ∈ ds, plain d = true) → plains ds = true
  | [], _ => rfl
  | a :: as, h => by
    simp only [plains, Bool.and_eq_true]
    exact ⟨h a List.mem_cons_self, plains_of fun d m => h d (List.mem_cons_of_mem _ m)⟩
theorem sames_len : ∀ {a b : List D}, sames a b = true → a.length = b.length
  | [], [], _ => rfl
  | _ :: _, _ :: _, h => by
    simp only [sames, Bool.and_eq_true] at h
    rw [List.length_cons, List.length_cons, sames_len h.2]
  | [], _ :: _, h => by simp [sames] at h
  | _ :: _, [], h => by simp [sames] at h
theorem eqD_int (a b : Int) : eqD (.int a) (.int b) = (a == b) := rfl
theorem eqD_str (a b : Str) : eqD (.str a) (.str b) = (a == b) := rfl
theorem ne_len {m n : Nat} (h : m ≠ n) : (!eqD (.int m) (.int n)) = true := by
  rw [eqD_int]
  simp
  omega
theorem eq_len {m n : Nat} (h : m = n) : (!eqD (.int m) (.int n)) = false := by
  rw [eqD_int, h]
  simp
theorem sames_at : ∀ {xs ys : List D} {j : Nat} {x y : D}, sames xs ys = true → xs[j]? = some x → ys[j]? = some y → same x y = true
  | [], _, j, x, y, _, e, _ => by simp at e
  | _ :: _, [], j, x, y, h, _, _ => by simp [sames] at h
  | a :: as, b :: bs, 0, x, y, h, e, f => by
    simp only [sames, Bool.and_eq_true] at h
    simp at e f
    rw [← e, ← f]
    exact h.1
  | a :: as, b :: bs, j + 1, x, y, h, e, f => by
    simp only [sames, Bool.and_eq_true] at h
    exact sames_at (j := j) h.2 (by simpa using e) (by simpa using f)
theorem sames_of : ∀ {xs ys : List D}, xs.length = ys.length → (∀ (j : Nat) (x y : D), xs[j]? = some x → ys[j]? = some y → same x y = true) → sames xs ys = true
  | [], [], _, _ => rfl
  | [], _ :: _, h, _ => by cases h
  | _ :: _, [], h, _ => by cases h
  | a :: as, b :: bs, h, f => by
    simp only [sames, Bool.and_eq_true]
    exact ⟨f 0 a b rfl rfl, sames_of (by simpa using h) fun j x y e g => f (j + 1) x y (by simpa using e) (by simpa using g)⟩
theorem plains_at : ∀ {xs : List D} {j : Nat} {x : D}, plains xs = true → xs[j]? = some x → plain x = true
  | [], j, x, _, e => by simp at e
  | a :: as, 0, x, h, e => by
    simp only [plains, Bool.and_eq_true] at h
    simp at e
    rw [← e]
    exact h.1
  | a :: as, j + 1, x, h, e => by
    simp only [plains, Bool.and_eq_true] at h
    exact plains_at (j := j) h.2 (by simpa using e)
theorem deps_at : ∀ {xs : List D} {j : Nat} {x : D}, xs[j]? = some x → dep x ≤ deps xs
  | [], j, x, e => by simp at e
  | a :: as, 0, x, e => by
    simp at e
    rw [← e]
    simp only [deps]
    omega
  | a :: as, j + 1, x, e => by
    have := deps_at (xs := as) (j := j) (x := x) (by simpa using e)
    simp only [deps]
    omega
/-- _law_same: two data, depth below n -/
def spSame (n : Nat) : SpX := fun ds r P _ => ∃ a b, ds = [a, b] ∧ plain a = true ∧ plain b = true ∧ dep a ≤ 64 ∧ dep b < n ∧ P (.bl (same a b)) r
end G
namespace G
open PySem PySem.Spec L2
open PyProof.Rows (envOfC)
theorem law_go {K : PySem.W.Frag} {W : WX} {t : AS} {N : List Str} {Dd : Ends} {s p a : Addr} {H' : Hp} (ro : Rok K [poolA p a 0] H') (hD : ∀ H', Dd.rt (.bl true) H')
    (h : t { nx := fun _ _ => False, rt := fun d _ => d = .bl true } (none :: some (.adr p) :: List.replicate (N.length - 2) none) [poolA p a 0]) (hN : 2 ≤ N.length := by decide) : TSD K W t Dd ((L2.start N [.ref s]).set 1 (some (.ref p))) H' := by
  refine ⟨_, _, { nx := fun _ _ => False, rt := fun d _ => d = .bl true }, ⟨⟨fun i d e => ?_, ro, ?_⟩, fun _ _ _ _ _ _ _ _ z => z.elim⟩, h, ⟨fun _ _ _ _ z => z.elim, fun d r' v H2 e _ _ i => ?_, fun _ _ _ _ z => z.elim, fun _ _ _ _ z => z.elim⟩⟩
  · match i with
    | 0 => cases e
    | 1 =>
      cases e
      refine ⟨.ref p, ?_, .adr p⟩
      rw [List.getElem?_set_self]
      unfold L2.start
      simp
      omega
    | i + 2 =>
      have e : (List.replicate (N.length - 2) (none : Option D))[i]? = some (some d) := e
      rw [List.getElem?_replicate] at e
      split at e <;> cases e
  · unfold L2.start
    simp
    omega
  · subst e
    cases i
    exact hD _
theorem dfn_mk {K : PySem.W.Frag} {h : Heap} {mg : Str → Option Value} (X : K.In h) (G : h.Ns mainGlobals mg) {x : Str} {st : Stmt} {ps : List Str} {f : Addr} {oc : Value} {od an : Option Addr} {osl : Array (Option Value)} {kV doc pm cdv ct : Value}
    (a : PySem.W.nsIn K mainGlobals x = some (some (.ref f))) (l : K.lookup f = some ⟨oc, od, .func (PySem.W.fnOf x x (defArgs st) (defBody st) (defScope st) .none kV doc pm an cdv ct), osl⟩) (c : PySem.W.codeIn K cdv x = true) (k : PySem.W.keepIn K (.ref f) = true)
    (b : ∀ (kV doc pm : Value) (an : Option Addr) (cdv ct : Value) (us : List Value), us.length = ps.length → bindArgs (PySem.W.fnOf x x (defArgs st) (defBody st) (defScope st) .none kV doc pm an cdv ct) ⟨us, []⟩ = pure (ps.zip us)) : Dfn K mg x st ps :=
  have F := fun_mk (st := st) l c k
  ⟨f, _, F, PySem.W.mg_of X G a, F.binds b⟩
theorem law_end {P : Program} {w : World} {K : PySem.W.Frag} {h : Heap} {mg : Str → Option Value} (X : K.In h) (G : h.Ns mainGlobals mg) {fa f : Addr} {st : Stmt} {n : Nat} (hfa : mg "law" = some (.ref fa)) {oc : Value} {od an : Option Addr} {osl : Array (Option Value)} {kV doc pm cdv ct : Value}
    (a : PySem.W.nsIn K mainGlobals "law" = some (some (.ref f))) (l : K.lookup f = some ⟨oc, od, .func (PySem.W.fnOf "law" "law" (defArgs st) (defBody st) (defScope st) .none kV doc pm an cdv ct), osl⟩) (c : PySem.W.codeIn K cdv "law" = true) (k : PySem.W.keepIn K (.ref f) = true)
    (b : ∀ v : Value, bindArgs (PySem.W.fnOf "law" "law" (defArgs st) (defBody st) (defScope st) .none kV doc pm an cdv ct) ⟨[v], []⟩ = pure [(("_law_script" : Str), v)])
    (ok : ∀ (base : Heap) (fd : FuncData), Fun K "law" "law" st f fd → FnOk P w K mg base CX0 n f fd ["_law_script"] (spLaw K)) :
    ∃ fd : FuncData, (∀ (s : Shared) (v : Value), BindsTo s fd ⟨[v], []⟩ [("_law_script", v)]) ∧ ∀ base : Heap, K.In base → base.Ns mainGlobals mg → FnOk P w K mg base CX0 n fa fd ["_law_script"] (spLaw K) := by
  have e := hfa.symm.trans (PySem.W.mg_of X G a)
  cases e
  exact ⟨_, fun s v => .of_eq (b v), fun base _ _ => ok base _ (fun_mk (st := st) l c k)⟩
theorem at1 {α : Type} {z y : α} {l : List α} : atI (z :: y :: l) 1 = some y := L2.atI_nat (j := 1) rfl
theorem at2 {α : Type} {z y x : α} {l : List α} : atI (z :: y :: x :: l) 2 = some x := L2.atI_nat (j := 2) rfl
theorem sl_l {xs : List D} {lo hi : Option Int} {k : D → Prop} (h : k (.lst (cutD xs lo hi))) : oSl (.lst xs) lo hi k := ⟨h⟩
theorem sl_s {z : Str} {lo hi : Option Int} {k : D → Prop} (h : k (.str (cutS z lo hi))) : oSl (.str z) lo hi k := ⟨h⟩
end G
namespace G
open PySem PySem.Spec L2
open PyProof.Rows (envOfC)
end G
namespace G
open PySem PySem.Spec L2
def GS (mg : Str → Option Value) (x z : Str) : Prop := ∃ t, mg x = some (.str z t)
def GI (mg : Str → Option Value) (x : Str) (n : Int) : Prop := ∃ t, mg x = some (.int n t)
def GT (K : PySem.W.Frag) (mg : Str → Option Value) (x : Str) (xs : List Str) : Prop := ∃ a, mg x = some (.ref a) ∧ ∀ M H, Is K M H (.ref a) (.tup (xs.map .str))
section
variable {X : Cx} {W : WX} {x : Str} {pos : Pos}
theorem d_gS {z : Str} (h : GS X.mg x z) (hz : sokB z = true := by decide +kernel) (hg : Gl X x := by rfl) (hdb : (x == ("__debug__" : Str)) = false := by decide) : PD X W (.Name x pos) (aC (.str z)) := by
  obtain ⟨t, h⟩ := h
  exact d_glob (v := .str z) hg h ⟨t, rfl⟩ (fun _ _ => .str (sok_of hz)) hdb
theorem d_gI {n : Int} (h : GI X.mg x n) (hg : Gl X x := by rfl) (hdb : (x == ("__debug__" : Str)) = false := by decide) : PD X W (.Name x pos) (aC (.int n)) := by
  obtain ⟨t, h⟩ := h
  exact d_glob (v := .int n) hg h ⟨t, rfl⟩ (fun _ _ => .int n) hdb
theorem d_gT {xs : List Str} (h : GT X.K X.mg x xs) (hg : Gl X x := by rfl) (hdb : (x == ("__debug__" : Str)) = false := by decide) : PD X W (.Name x pos) (aC (.tup (xs.map .str))) := by
  obtain ⟨a, h, i⟩ := h
  exact d_glob (v := .ref a) hg h rfl i hdb
end
/-- the texts of a written tuple -/
def strVs : List Value → Option (List Str)
  | [] => some []
  | .str x _ :: r => (strVs r).map (x :: ·)
  | _ :: _ => none
theorem strVs_vals : ∀ {l : List Value} {xs : List Str}, strVs l = some xs → Vals (xs.map V.str) l
  | [], _, e => by cases e; exact .nil
  | .str x t :: r, xs, e => by
    simp only [strVs] at e
    cases q : strVs r with
    | none => rw [q] at e; cases e
    | some ys =>
      rw [q] at e
      cases e
      exact .cons ⟨t, rfl⟩ (strVs_vals q)
theorem all_strs {K : PySem.W.Frag} {M : Addr → Prop} {H : Hp} : ∀ {xs : List Str}, xs.all sokB = true → IsAll K M H (xs.map V.str) (xs.map D.str)
  | [], _ => .nil
  | x :: xs, h => by
    rw [List.all_cons, Bool.and_eq_true] at h
    exact .cons (.str (sok_of h.1)) (all_strs h.2)
theorem isK_tup {K : PySem.W.Frag} {a : Addr} {od : Option Addr} {its : Array Value} {n : Nat} {sl : Array (Option Value)} {xs : List Str} (hl : K.lookup a = some ⟨.type "tuple", od, .seq its n, sl⟩) (h : strVs its.toList = some xs) (hs : xs.all sokB = true) (hn : xs.length ≤ 1000000) (M : Addr → Prop) (H : Hp) : Is K M H (.ref a) (.tup (xs.map .str)) := by
  have v := strVs_vals h
  refine .tup (xs := xs.map V.str) (.inr ⟨_, its, n, hl, rfl, rfl, ?_, v⟩) (all_strs hs)
  have e := v.length
  rw [List.length_map] at e
  have e2 : its.size = xs.length := by rw [← Array.length_toList]; exact e.symm
  rw [e2, sizeLine_eq]
  omega
theorem u65 {k : Nat} {A : Around} (r : Room k A) : A.units + 65 < cLine := by have := r.un; omega
theorem memD_str (z : Str) (xs : List Str) : memD (.str z) (xs.map .str) = xs.any fun y => y == z := by
  unfold memD
  rw [List.any_map]
  congr 1
theorem flat_strs (xs : List Str) : (xs.map D.str).all flat = true := by
  rw [List.all_map, List.all_eq_true]
  exact fun _ _ => rfl
theorem oIn_t {z : Str} {xs : List Str} {k : D → Prop} (h : k (.bl (xs.any fun y => y == z))) : oIn false (.str z) (.tup (xs.map .str)) k := ⟨⟨rfl, flat_strs xs, by rw [cond_false, memD_str]; exact h⟩⟩
theorem oAll_of {f : List Bool → Bool} {xs : List D} {bs : List Bool} {k : D → Prop} (h : bls xs = some bs) (q : k (.bl (f bs))) : oAll f [.lst xs] k := by
  refine ⟨?_⟩
  show (match bls xs with | some bs => k (.bl (f bs)) | none => False)
  rw [h]
  exact q
theorem bls_of {α : Type} (f : α → Bool) (xs : List α) : bls (xs.map fun x => D.bl (f x)) = some (xs.map f) := by
  have := bls_map (xs.map f)
  rw [List.map_map] at this
  exact this
theorem abc_in : ((List.range 123).all fun c => isLet c == decide (c ∈ tl abc)) = true := by decide +kernel
theorem abc_max : ((tl abc).all fun c => decide (c < 123)) = true := by decide +kernel
theorem isLet_abc (c : Nat) : decide (c ∈ tl abc) = isLet c := by
  by_cases h : c < 123
  · exact (eq_of_beq (List.all_eq_true.mp abc_in c (List.mem_range.mpr h))).symm
  · have h1 : c ∉ tl abc := fun m => h (of_decide_eq_true (List.all_eq_true.mp abc_max c m))
    rw [decide_eq_false h1]
    unfold isLet
    have : ¬ c ≤ 122 := by omega
    simp [this]
def isNameD : D → Bool | .str z => isNm z | _ => false
def spIsName : SpX := fun ds r P _ => ∃ d, ds = [d] ∧ plain d = true ∧ P (.bl (isNameD d)) r
end G
namespace G
open PySem PySem.Spec L2
open PyProof.Rows (envOfC)
def Own (r : Rs) (l : Addr) (ds : List D) : Prop := ∃ pre post, r = pre ++ lstA l ds :: post
theorem Own.hd {r : Rs} {l : Addr} {ds : List D} : Own (lstA l ds :: r) l ds := ⟨[], r, rfl⟩
theorem Own.last {r : Rs} {l : Addr} {ds : List D} : Own (r ++ [lstA l ds]) l ds := ⟨r, [], rfl⟩
section
variable {K : PySem.W.Frag} {r pre post : Rs} {H : Hp} {l p : Addr} {ds es : List D} {vs ws : List V}
theorem mem_mid {x y : At} (h : x.M = y.M) : mem (pre ++ x :: post) = mem (pre ++ y :: post) := by
  funext a
  refine propext ((mem_append (r := pre) (r' := x :: post)).trans (Iff.trans ?_ (mem_append (r := pre) (r' := y :: post)).symm))
  show (mem pre a ∨ (x.M a ∨ mem post a)) ↔ (mem pre a ∨ (y.M a ∨ mem post a))
  rw [h]
theorem own_mid (h : Rok K (pre ++ lstA l ds :: post) H) : ∃ vs, H l = some (.lst vs) ∧ IsAll K (mem (pre ++ lstA l ds :: post)) H vs ds := by
  obtain ⟨_, ⟨h2, _⟩, _⟩ := hold_append.mp h
  exact h2
theorem own_get (h : Rok K r H) (o : Own r l ds) : ∃ vs, H l = some (.lst vs) ∧ IsAll K (mem r) H vs ds := by
  obtain ⟨pre, post, rfl⟩ := o
  exact own_mid h
theorem own_mem : mem (pre ++ lstA l ds :: post) l := mem_append.mpr (.inr (.inl rfl))
theorem own_put (h : Rok K (pre ++ lstA l ds :: post) H) (i : IsAll K (mem (pre ++ lstA l ds :: post)) H ws es) : Rok K (pre ++ lstA l es :: post) (upd H l (.lst ws)) ∧ Kp K (pre ++ lstA l ds :: post) H (pre ++ lstA l es :: post) (upd H l (.lst ws)) := by
  obtain ⟨vs, e1, _⟩ := own_mid h
  obtain ⟨h1, ⟨h2, h3, h4⟩, h5⟩ := hold_append.mp h
  have me : mem (pre ++ lstA l ds :: post) = mem (pre ++ lstA l es :: post) := mem_mid rfl
  have go : ∀ w e, Is K (mem (pre ++ lstA l ds :: post)) H w e → Is K (mem (pre ++ lstA l ds :: post)) (upd H l (.lst ws)) w e := fun w e q => is_other own_mem e1 q
  refine ⟨hold_append.mpr ⟨?_, ⟨⟨ws, upd_same, ?_⟩, h3, ?_⟩, h5⟩, fun w e q => me ▸ go w e q⟩
  · rw [← me]
    exact hold_loc (fun b o m q => by rw [upd_ne (fun e => h5 b m (.inl e))]; exact q) go h1
  · rw [← me]
    exact all_of go i
  · rw [← me]
    exact hold_loc (fun b o m q => by rw [upd_ne (fun e => h3 b e m)]; exact q) go h4
theorem own_drop (h : Rok K (pre ++ lstA l ds :: post) H) : Rok K (pre ++ post) H ∧ Is K (mem (pre ++ post)) H (.ref l) (.lst ds) ∧ Kp K (pre ++ lstA l ds :: post) H (pre ++ post) H := by
  obtain ⟨h1, ⟨h2, h3, h4⟩, h5⟩ := hold_append.mp h
  have an : ∀ a, mem (pre ++ post) a → mem (pre ++ lstA l ds :: post) a := fun a z => (mem_append.mp z).elim (fun z => mem_append.mpr (.inl z)) fun z => mem_append.mpr (.inr (.inr z))
  obtain ⟨vs, e1, e2⟩ := h2
  refine ⟨hold_append.mpr ⟨hold_anti an h1, hold_anti an h4, fun a m z => h5 a m (.inr z)⟩, .lst (fun z => ?_) e1 (all_of (fun _ _ => is_anti an) e2), fun _ _ => is_anti an⟩
  rcases mem_append.mp z with z | z
  · exact h5 l z (.inl rfl)
  · exact h3 l rfl z
theorem rok_new (h : Rok K r H) (hp : H p = none) (i : IsAll K (mem r) H vs ds) : Rok K (r ++ [lstA p ds]) (upd H p (.lst vs)) ∧ Kp K r H (r ++ [lstA p ds]) (upd H p (.lst vs)) := by
  have e : ∀ a, mem (r ++ [lstA p ds]) a → mem r a ∨ a = p := fun a z => (mem_append.mp z).elim .inl fun z => z.elim .inr False.elim
  have go : Kp K r H (r ++ [lstA p ds]) (upd H p (.lst vs)) := fun v d q => is_anti e (is_ext (Ext.new hp) _ _ (is_grow hp q))
  refine ⟨hold_append.mpr ⟨hold_anti e (hold_ext (Ext.new hp) (hold_grow hp h)), ⟨⟨vs, upd_same, all_of go i⟩, fun _ _ z => z, True.intro⟩, fun a m z => ?_⟩, go⟩
  have : a = p := z.elim (fun z => z) False.elim
  subst this
  exact not_al h hp m
end
def aLstO (l : AL) : AT := fun x δ r P => l x δ r fun ds r1 => small ds.length ∧ ∀ p, P (.adr p) (r1 ++ [lstA p ds])
section
variable {X : Cx} {W : WX} {e : Expr} {es : List Expr} {pos : Pos} {l : AL} {te : AT}
theorem d_lstO (ha : PDL X W es l) : PD X W (.List es pos) (aLstO l) := imE (pe_lst ha) fun σ H Q q => by
  obtain ⟨XR, δ, r, P, o, h, k⟩ := q
  refine tdl_bind o h fun ds r1 vs H1 h1 o1 k1 i1 => ⟨by rw [i1.length]; exact h1.1.sz, fun p hp => ?_⟩
  obtain ⟨q1, q2⟩ := rok_new o1.r hp i1
  exact k _ _ _ _ (h1.2 p) (o1.step q2 q1) (k1.trans q2) (.adr p)
/-- a name's own list handed on as data -/
def aMove (te : AT) : AT := fun x δ r P => te x δ r fun d r1 => ∃ l ds pre post, d = .adr l ∧ r1 = pre ++ lstA l ds :: post ∧ P (.lst ds) (pre ++ post)
theorem d_move (h : PD X W e te) : PD X W e (aMove te) := imE h fun σ H Q q => by
  obtain ⟨XR, δ, r, P, o, h, k⟩ := q
  refine td_bind o h fun d r1 v H1 h1 o1 k1 i1 => ?_
  obtain ⟨l, ds, pre, post, rfl, rfl, h1⟩ := h1
  cases i1
  obtain ⟨q1, q2, q3⟩ := own_drop o1.r
  exact k _ _ _ _ h1 (o1.step q3 q1) (k1.trans q3) q2
def rC2 (K : PySem.W.Frag) (o : Rs → OC) : List V → Hp → VK → Prop := fun vs H Q => ∃ (r : Rs) (ds : List D) (P : D → Prop), Rok K r H ∧ IsAll K (mem r) H vs ds ∧ o r ds P ∧ ∀ d v H', P d → Ext H H' → Is K (mem r) H' v d → Q v H'
def aBlt2 (o : Rs → OC) (l : AL) : AT := fun x δ r P => l x δ r fun ds r1 => o r1 ds fun d => P d r1
theorem tcb2 {K : PySem.W.Frag} {W : WX} {o : Rs → OC} {l : AL} {σ : L2.St} {H : Hp} {Q : VK} (q : TD K W (aBlt2 o l) σ H Q) : tCB (rC2 K o) (TDL K W l) σ H Q := by
  obtain ⟨XR, δ, r, P, ok, h, k⟩ := q
  refine tdl_bind ok h fun ds r1 vs H1 h1 o1 k1 i1 => ⟨r1, ds, fun d => P d r1, o1.r, i1, h1, fun d v H' p e i => k d r1 v H' p (o1.ext e) (k1.trans (Kp.ext e)) i⟩
theorem d_blt2 {bid : String} {o : Rs → OC} {x : Str} {p : Pos} (hc : CallR X (.builtin bid) (rC2 X.K o)) (hg : Gl X x) (hm : X.mg x = none) (ha : PDL X W (e :: es) l) (hv : bootBuiltins x = some (.builtin bid) := by decide +kernel) (hn : x ≠ "__name__" := by decide) (hdb : (x == ("__debug__" : Str)) = false := by decide)
    (he : starEach (e :: es) X.env = (false, eval e X.env) :: starEach es X.env := by rfl) (hpl : (backTo pos (starEach es X.env)).any (·.1) = false := by rfl) : PD X W (.Call (.Name x p) (e :: es) [] pos) (aBlt2 o l) :=
  imE (pe_callB hc hg hm hv ha hn hdb he hpl) fun _ _ _ q => tcb2 q
structure oLenO (r : Rs) (ds : List D) (k : D → Prop) : Prop where
  ex : ∃ l xs, ds = [.adr l] ∧ Own r l xs ∧ (xs.length ≤ sizeLine → k (.int xs.length))
theorem c_lenO : CallR X (.builtin "len") (rC2 X.K oLenO) := by
  rintro pins s σ H vs us Q I rv ⟨r, ds, P, hr, i, ⟨l, xs, rfl, ow, ho⟩, k⟩
  obtain ⟨ws, h1, h2⟩ := own_get hr ow
  cases i with
  | cons i t =>
    cases t
    cases i
    obtain ⟨_, _, _, hz⟩ := I.list (SqL.of h1)
    exact call_len pins s σ H _ us Q I rv ⟨_, _, rfl, .inl ⟨_, SqL.of h1, rfl⟩, by rw [h2.length] at hz ⊢; exact k _ _ H (ho hz) (Ext.refl H) (.int _)⟩
def rD2 (K : PySem.W.Frag) (o : Rs → O2) : R2 := fun x y H Q => ∃ (r : Rs) (d1 d2 : D) (P : D → Prop), Rok K r H ∧ Is K (mem r) H x d1 ∧ Is K (mem r) H y d2 ∧ o r d1 d2 P ∧ ∀ d v H', P d → Ext H H' → Is K (mem r) H' v d → Q v H'
def aOp2 (o : Rs → O2) (ta tb : AT) : AT := fun x δ r P => ta x δ r fun d1 r1 => tb x δ r1 fun d2 r2 => o r2 d1 d2 fun d => P d r2
theorem td_op2 {K : PySem.W.Frag} {W : WX} {o : Rs → O2} {ta tb : AT} {σ : L2.St} {H : Hp} {Q : VK} (q : TD K W (aOp2 o ta tb) σ H Q) : tOp (rD2 K o) (TD K W ta) (TD K W tb) σ H Q := by
  obtain ⟨XR, δ, r, P, ok, h, k⟩ := q
  refine td_bind ok h fun d1 r1 v1 H1 h1 o1 k1 i1 => td_bind o1 h1 fun d2 r2 v2 H2 h2 o2 k2 i2 => ?_
  exact ⟨r2, d1, d2, fun d => P d r2, o2.r, k2 _ _ i1, i2, h2, fun d v H' p e i => k d r2 v H' p (o2.ext e) ((k1.trans k2).trans (Kp.ext e)) i⟩
structure oIxO (r : Rs) (x y : D) (k : D → Prop) : Prop where
  ex : ∃ l xs i d, x = .adr l ∧ y = .int i ∧ Own r l xs ∧ atI xs i = some d ∧ k d
theorem p_ixO : IxR X (rD2 X.K oIxO) := by
  rintro value slice pins s σ H x y v u Q I rx ry ⟨r, d1, d2, P, hr, i1, i2, ⟨l, xs, i, d, rfl, rfl, ow, hd, ho⟩, k⟩ hs
  cases i1
  cases i2
  obtain ⟨ws, h1, h2⟩ := own_get hr ow
  obtain ⟨w, hw, iw⟩ := at_all h2 hd
  exact ix_list value slice pins s σ H _ _ v u Q I rx ry ⟨_, _, _, _, rfl, rfl, SqL.of h1, hw, k _ _ H ho (Ext.refl H) iw⟩ hs
theorem d_ixO {a b : Expr} {ta tb : AT} (ha : PD X W a ta) (hb : PD X W b tb) (hs : PlainIx b := by exact fun _ _ => rfl) : PD X W (.Subscript a b pos) (aOp2 oIxO ta tb) := imE (pe_ix p_ixO ha hb hs) fun _ _ _ q => td_op2 q
abbrev OM := Rs → Addr → List D → (D → Rs → Prop) → Prop
def aMth (om : OM) (to : AT) (l : AL) : AT := fun x δ r P => to x δ r fun d r1 => ∃ a xs, d = .adr a ∧ Own r1 a xs ∧ l x δ r1 fun ds r2 => om r2 a ds P
def OMok (K : PySem.W.Frag) (om : OM) (rr : V → List V → Hp → VK → Prop) : Prop := ∀ r a ds P H vs Q, Rok K r H → IsAll K (mem r) H vs ds → om r a ds P → (∀ d r' v H', P d r' → Rok K r' H' → Kp K r H r' H' → Is K (mem r') H' v d → Q v H') → rr (.ref a) vs H Q
theorem d_mth {om : OM} {rr : V → List V → Hp → VK → Prop} {o : Expr} {to : AT} {name : Str} {id : String} {apos cpos : Pos} (slot : Slot "list" name id) (hty : typeOf (.builtin id) = pure (.type "method_descriptor")) (hm : MtR X id rr) (hom : OMok X.K om rr) (ho : PD X W o to) (ha : PDL X W (e :: es) l)
    (hbase : attributeBase o name X.env (eval o X.env) = eval o X.env := by rfl)
    (hfew : ((backTo cpos (starEach (e :: es) X.env)).all (fun x => !x.1) && (backToKw cpos (keywordEach [] X.env)).all (fun x => x.1.isSome)
      && decide ((e :: es).length + ([] : List Keyword).length + (if ([] : List Keyword).isEmpty then 0 else 1) < 30)) = true := by rfl)
    (hline : (apos.endLine == cpos.line) = true := by rfl) (hs : starEach (e :: es) X.env = (false, eval e X.env) :: starEach es X.env := by rfl) (hplain : (backTo cpos (starEach es X.env)).any (·.1) = false := by rfl) :
    PD X W (.Call (.Attribute o name apos) (e :: es) [] cpos) (aMth om to l) := imE (pe_bm PySem.F.plainAttrs_list slot hty hm ho ha hbase hfew hline hs hplain) fun σ H Q q => by
  obtain ⟨XR, δ, r, P, ok, h, k⟩ := q
  refine td_bind ok h fun d r1 v H1 h1 o1 k1 i1 => ?_
  obtain ⟨a, xs, rfl, ow, h1⟩ := h1
  cases i1
  obtain ⟨ws, g1, g2⟩ := own_get o1.r ow
  refine ⟨.inl ⟨rfl, ws, SqL.of g1⟩, tdl_bind o1 h1 fun ds r2 vs H2 h2 o2 k2 i2 => ?_⟩
  exact hom r2 a ds P H2 vs Q o2.r i2 h2 fun d r' v H' p ro kk i => k d r' v H' p (o2.step kk ro) ((k1.trans k2).trans kk) i
structure oApp (r : Rs) (a : Addr) (ds : List D) (P : D → Rs → Prop) : Prop where
  ex : ∃ pre xs post y, ds = [y] ∧ r = pre ++ lstA a xs :: post ∧ small (xs.length + 1) ∧ P .non (pre ++ lstA a (xs ++ [y]) :: post)
theorem om_app {K : PySem.W.Frag} : OMok K oApp rAppend := by
  rintro r a ds P H vs Q ro i ⟨pre, xs, post, y, rfl, rfl, hz, hp⟩ k
  cases i with
  | cons i t =>
    cases t
    obtain ⟨ws, e1, e2⟩ := own_mid ro
    obtain ⟨q1, q2⟩ := own_put ro (e2.append (.cons i .nil))
    exact ⟨a, ws, _, rfl, rfl, e1, by rw [e2.length]; exact Nat.lt_of_lt_of_le (Nat.lt_succ_self _) hz.sz, k _ _ _ _ hp q1 q2 .non⟩
theorem d_app {o : Expr} {to : AT} {apos cpos : Pos} (ho : PD X W o to) (ha : PDL X W [e] l) (hbase : attributeBase o "append" X.env (eval o X.env) = eval o X.env := by rfl)
    (hfew : ((backTo cpos (starEach [e] X.env)).all (fun x => !x.1) && (backToKw cpos (keywordEach [] X.env)).all (fun x => x.1.isSome)
      && decide (([e] : List Expr).length + ([] : List Keyword).length + (if ([] : List Keyword).isEmpty then 0 else 1) < 30)) = true := by rfl)
    (hline : (apos.endLine == cpos.line) = true := by rfl) (hs : starEach [e] X.env = (false, eval e X.env) :: starEach [] X.env := by rfl) (hplain : (backTo cpos (starEach [] X.env)).any (·.1) = false := by rfl) : PD X W (.Call (.Attribute o "append" apos) [e] [] cpos) (aMth oApp to l) :=
  d_mth PySem.F.slot_list_append PySem.F.type_list_append mt_append om_app ho ha hbase hfew hline hs hplain
theorem set_all {K : PySem.W.Frag} {N : Addr → Prop} {H : Hp} {v : V} {d : D} (i : Is K N H v d) : ∀ {vs : List V} {ds : List D} (n : Nat), IsAll K N H vs ds → IsAll K N H (vs.set n v) (ds.set n d)
  | _, _, _, .nil => .nil
  | _, _, 0, .cons _ t => .cons i t
  | _, _, n + 1, .cons h t => .cons h (set_all i n t)
end
end G
namespace G
open PySem PySem.Spec L2
def gd (n : Nat) : Nat → D → Bool
  | _, .adr _ => false
  | _, .ins _ _ _ => false
  | _, .dct _ _ => false
  | 0, .lst _ => false
  | 0, .tup _ => false
  | m + 1, .lst ds => decide (ds.length ≤ n) && ds.all (gd n m)
  | m + 1, .tup ds => decide (ds.length ≤ n) && ds.all (gd n m)
  | _, _ => true
theorem deps_le {k : Nat} : ∀ {ds : List D}, (∀ d ∈ ds, dep d ≤ k) → deps ds ≤ k
  | [], _ => Nat.zero_le _
  | d :: ds, h => by
    simp only [deps]
    have h1 := h d List.mem_cons_self
    have h2 := deps_le (ds := ds) fun d m => h d (List.mem_cons_of_mem _ m)
    omega
end G
namespace G
open PySem PySem.Spec L2
/-- [e(x) for x in ds if f(x)] -/
theorem lc_fm {x : XT} {g : AG} {te : AT} {tt : AB} {δw : Dl} {ds : List D} {r1 : Rs} {P : PK1} (f : D → Bool) (e : D → D) (hz : small ds.length)
    (he : ∀ d ∈ ds, ∀ (r' : Rs) (Q1 : PK1) (Q2 : Rs → Prop), (f d = true → Q1 (e d) r') → (f d = false → Q2 r') → g d δw fun δ2 => tt x δ2 r' fun b r2 => (b = true → te x δ2 r2 Q1) ∧ (b = false → Q2 r2)) (hP : P (.lst ((ds.filter f).map e)) r1) : aLcK x g tt te δw ds r1 P := by
  refine ⟨fun i acc r' => acc = ((ds.take i).filter f).map e ∧ r' = r1, ⟨rfl, rfl⟩, ?_, ?_⟩
  · rintro p i d acc r' hd ⟨rfl, rfl⟩
    have hi := (List.getElem?_eq_some_iff.mp hd).1
    refine he d (List.mem_of_getElem? hd) _ _ _ (fun q => ⟨?_, r', le.refl, ?_, rfl⟩) (fun q => ⟨r', le.refl, ?_, rfl⟩)
    · rw [List.length_map]
      have h1 := List.length_filter_le f (ds.take i)
      rw [List.length_take] at h1
      have : small ds.length := hz
      unfold small at *
      omega
    · rw [List.take_add_one, hd, List.filter_append, List.map_append]
      show _ = _ ++ List.map e (List.filter f [d])
      rw [List.filter_cons, q]
      rfl
    · rw [List.take_add_one, hd, List.filter_append, List.map_append]
      show _ = _ ++ List.map e (List.filter f [d])
      rw [List.filter_cons, q]
      simp
  · rintro acc r' ⟨rfl, rfl⟩
    rw [List.take_length]
    exact hP
theorem eq_nil (xs : List D) : eqD (.lst xs) (.lst []) = xs.isEmpty := by
  cases xs <;> rfl
end G
namespace G
open PySem PySem.Spec L2
end G
namespace G
open PySem PySem.Spec L2
end G
namespace G
open PySem PySem.Spec L2
section
variable {X : Cx} {W : WX} {o e : Expr} {ta tb : AT} {apos pos : Pos}
def aLm (om : List D → OC) (to : AT) (l : AL) : AT := fun x δ r P => to x δ r fun d r1 => match d with | .lst xs => l x δ r1 fun ds r2 => om xs ds fun d => P d r2 | _ => False
def LMok (K : PySem.W.Frag) (om : List D → OC) (rr : V → List V → Hp → VK → Prop) : Prop := ∀ (N : Addr → Prop) a xs ds (P : D → Prop) H vs Q, Is K N H (.ref a) (.lst xs) → IsAll K N H vs ds → om xs ds P → (∀ d v, P d → Is K N H v d → Q v H) → rr (.ref a) vs H Q
theorem d_lm {om : List D → OC} {rr : V → List V → Hp → VK → Prop} {es : List Expr} {to : AT} {l : AL} {name : Str} {id : String} {cpos : Pos} (slot : Slot "list" name id) (hty : typeOf (.builtin id) = pure (.type "method_descriptor")) (hm : MtR X id rr) (hom : LMok X.K om rr) (ho : PD X W o to) (ha : PDL X W (e :: es) l)
    (hbase : attributeBase o name X.env (eval o X.env) = eval o X.env := by rfl)
    (hfew : ((backTo cpos (starEach (e :: es) X.env)).all (fun x => !x.1) && (backToKw cpos (keywordEach [] X.env)).all (fun x => x.1.isSome)
      && decide ((e :: es).length + ([] : List Keyword).length + (if ([] : List Keyword).isEmpty then 0 else 1) < 30)) = true := by rfl)
    (hline : (apos.endLine == cpos.line) = true := by rfl) (hs : starEach (e :: es) X.env = (false, eval e X.env) :: starEach es X.env := by rfl) (hplain : (backTo cpos (starEach es X.env)).any (·.1) = false := by rfl) :
    PD X W (.Call (.Attribute o name apos) (e :: es) [] cpos) (aLm om to l) := imE (pe_bm PySem.F.plainAttrs_list slot hty hm ho ha hbase hfew hline hs hplain) fun σ H Q q => by
  obtain ⟨XR, δ, r, P, ok, h, k⟩ := q
  refine td_bind ok h fun d r1 v H1 h1 o1 k1 i1 => ?_
  cases i1 <;> try exact h1.elim
  rename_i n s al
  refine ⟨.inl ⟨rfl, _, SqL.of s⟩, tdl_bind o1 h1 fun ds r2 vs H2 h2 o2 k2 i2 => ?_⟩
  exact hom _ _ _ ds (fun d => P d r2) H2 vs Q (k2 _ _ (.lst n s al)) i2 h2 fun d v p i => k d r2 v H2 p o2 (k1.trans k2) i
theorem strs_all {K : PySem.W.Frag} {N : Addr → Prop} {H : Hp} : ∀ {zs : List Str} {vs : List V}, IsAll K N H vs (zs.map D.str) → vs = zs.map V.str
  | [], _, h => by cases h; rfl
  | z :: zs, _, h => by
    cases h with
    | cons i t => cases i; rw [strs_all t]; rfl
theorem flat_strV (zs : List Str) : (zs.map V.str).all flatV = true := by
  rw [List.all_map, List.all_eq_true]
  exact fun _ _ => rfl
structure oIdx (xs ds : List D) (k : D → Prop) : Prop where
  ex : ∃ (zs : List Str) (z : Str) (j : Nat), xs = zs.map D.str ∧ ds = [.str z] ∧ zs[j]? = some z ∧ z ∉ zs.take j ∧ k (.int (j : Nat))
theorem lm_idx {K : PySem.W.Frag} : LMok K oIdx (rIndex K) := by
  rintro N a xs ds P H vs Q i1 i2 ⟨zs, z, j, rfl, rfl, hj, hno, hp⟩ k
  cases i1 with
  | lst n s al =>
    have e := strs_all al
    subst e
    cases i2 with
    | cons i t =>
      cases t
      cases i
      refine ⟨a, _, _, j, .str z, rfl, rfl, SqL.of s, rfl, flat_strV zs, by rw [List.getElem?_map, hj]; rfl, by show (z == z) = true; simp, fun m z' hm hz' => ?_, k _ _ hp (.int _)⟩
      rw [List.getElem?_map] at hz'
      cases q : zs[m]? with
      | none => rw [q] at hz'; cases hz'
      | some y =>
        rw [q] at hz'
        cases hz'
        show (y == z) = false
        have : ¬ y = z := fun e => hno (e ▸ List.mem_take_iff_getElem.mpr ⟨m, by have := (List.getElem?_eq_some_iff.mp q).1; omega, (List.getElem?_eq_some_iff.mp q).2⟩)
        simpa using this
theorem d_index {to : AT} {l : AL} {cpos : Pos} (ho : PD X W o to) (ha : PDL X W [e] l) (hbase : attributeBase o "index" X.env (eval o X.env) = eval o X.env := by rfl)
    (hfew : ((backTo cpos (starEach [e] X.env)).all (fun x => !x.1) && (backToKw cpos (keywordEach [] X.env)).all (fun x => x.1.isSome)
      && decide (([e] : List Expr).length + ([] : List Keyword).length + (if ([] : List Keyword).isEmpty then 0 else 1) < 30)) = true := by rfl)
    (hline : (apos.endLine == cpos.line) = true := by rfl) (hs : starEach [e] X.env = (false, eval e X.env) :: starEach [] X.env := by rfl) (hplain : (backTo cpos (starEach [] X.env)).any (·.1) = false := by rfl) : PD X W (.Call (.Attribute o "index" apos) [e] [] cpos) (aLm oIdx to l) :=
  d_lm PySem.F.slot_list_index PySem.F.type_list_index mt_index lm_idx ho ha hbase hfew hline hs hplain
theorem d_ty2 {T : String} {oo : Rs → OC} {es : List Expr} {l : AL} {x : Str} {p : Pos} (hc : CallR X (.type T) (rC2 X.K oo)) (hg : Gl X x) (hm : X.mg x = none) (ha : PDL X W (e :: es) l) (hv : bootBuiltins x = some (.type T) := by decide +kernel) (hn : x ≠ "__name__" := by decide) (hdb : (x == ("__debug__" : Str)) = false := by decide)
    (he : starEach (e :: es) X.env = (false, eval e X.env) :: starEach es X.env := by rfl) (hpl : (backTo pos (starEach es X.env)).any (·.1) = false := by rfl) : PD X W (.Call (.Name x p) (e :: es) [] pos) (aBlt2 oo l) :=
  imE (pe_callTy hc hg hm hv ha hn hdb he hpl) fun _ _ _ q => tcb2 q
end
end G
namespace G
open PySem PySem.Spec L2
end G
namespace G
open PySem PySem.Spec L2 PySem.W PyProof.Rows
/-- what the written part says of such a class at C: its __init__ at f stores under fld -/
structure ErrK (P : Program) (K : Frag) (mg : Str → Option Value) (C : Addr) : Prop where
  cls : OexC K C
  mro : mroIn K C (.ref C) = some true
  sub : subIn K (.ref C) (.type "ValueError") = some true
  sup : ks_superIn K C C "__init__" = some (some (.builtin "ValueError.__init__"))
  opq : nsIn K cStatics "thirdparty.any" = some none
  mgs : mg "super" = none
  top : (P.main.scope.names.lookup ("super" : Str)).isSome = false
def spEI (C : Addr) (fld : Str) : Sp := fun vs H Q _ => ∃ (a : Addr) (v : V), vs = [.ref a, v] ∧ H a = some (exo a C none) ∧ ∀ dx, H dx = none → dx ≠ a → Q .non (upd (upd H dx (exd dx [(fld, v)])) a (exo a C (some dx)))
def cxE (P : Program) (w : World) (K : Frag) (mg : Str → Option Value) (base : Heap) (N : List Str) (qual : Str) (scope : Scope) (f : Addr) (cda cc : Addr) (A : Around) (outer : List Env) (s : Shared) (H : Hp) (xe : Value → Shared → Prop) : Cx where
  prog := P
  w := w
  K := K
  mg := mg
  base := base
  A := A.deeper (ksEnv qual scope s.heap.objs.size f (.ref cda) cc)
  N := N
  s_0 := s
  H_0 := H
  env := ksEnv qual scope s.heap.objs.size f (.ref cda) cc
  outer := outer
  stack := ksEnv qual scope s.heap.objs.size f (.ref cda) cc :: outer
  ex := []
  calm := true
  fn := fun _ => false
  pn := []
  xe := xe
section
variable {P : Program} {w : World} {K : Frag} {mg : Str → Option Value} {base : Heap}
theorem exinit {C fI cc cda : Addr} {cd0 : ClassData} {prm fld : Str} {qual name : Str} {params : Arguments} {scope : Scope} {dV kV doc pm cdv ct oc ccl cl : Value} {an od cdd cld : Option Addr} {osl ccs csl : Array (Option Value)} {vs0 : Array Value} {file : Str} {tf : Tok}
    {p0 p1 p2 p3 p4 p5 p6 p7 p8 p9 : Pos} {txt : Str} {j : Nat} {jj : _}
    (T : ErrK P K mg C)
    (lk : K.lookup fI = some ⟨oc, od, .func (ksFn name qual params [.Expr (.Call (.Attribute (.Call (.Name "super" p0) [] [] p1) "__init__" p2) [.Constant (.str txt) jj p3] [] p4) p5, .Assign [.Attribute (.Name "self" p6) fld p7] (.Name prm p8) p9] scope dV kV doc pm an (.ref cda) ct cc), osl⟩)
    (hcd : codeIn K (.ref cda) qual = true) (hD : clsIn K C = some cd0) (hno : findIn K (.ref C) fld = some none)
    (hcode : K.lookup cda = some ⟨ccl, cdd, .fields vs0, ccs⟩) (hvs : vs0[2]? = some (.str file tf)) (hfile : ((P.main.file : Str) == file) = true)
    (hcell : K.lookup cc = some ⟨cl, cld, .cell (some (.ref C)), csl⟩)
    (hp : ∃ ar : Arg, (params.posonlyargs ++ params.args).head? = some ar ∧ ar.arg = "self")
    (hnm : scope.names.lookup ("self" : Str) = some .local ∧ scope.names.lookup prm = some .local ∧ scope.names.lookup ("super" : Str) = some .globalImplicit ∧ scope.names.lookup ("__class__" : Str) = some .free)
    (hfree : ∀ x, scope.names.lookup x = some .cell ∨ scope.names.lookup x = some .free → x = "__class__") (hcl : ∀ x ∈ scope.names, x.2 ≠ .cell)
    (hsc : scope.isCoroutine = false ∧ scope.isGenerator = false ∧ scope.kind = .function) (hps : ("self" : Str) ≠ prm) (hcdbg : (prm == ("__debug__" : Str)) = false ∧ (prm == ("__classdict__" : Str)) = false)
    (hin : ∀ L, interactive (ksEnv qual scope L fI (.ref cda) cc) = false)
    (hpl1 : ∀ L, swapsWith (.Call (.Attribute (.Call (.Name "super" p0) [] [] p1) "__init__" p2) [.Constant (.str txt) jj p3] [] p4) none p5.line (ksEnv qual scope L fI (.ref cda) cc) = pure false)
    (hev : ∀ L, ∃ pl : Sem Bool, eval (.Call (.Attribute (.Call (.Name "super" p0) [] [] p1) "__init__" p2) [.Constant (.str txt) jj p3] [] p4) (ksEnv qual scope L fI (.ref cda) cc) = (do
      let ov ← attributeBase (.Call (.Name "super" p0) [] [] p1) "__init__" (ksEnv qual scope L fI (.ref cda) cc) (eval (.Call (.Name "super" p0) [] [] p1) (ksEnv qual scope L fI (.ref cda) cc))
      standAt p2.atName
      let (f, first) ← holding [ov] (getMethod ov "__init__" pl)
      callWith p4 f first (backTo p4 (starEach [.Constant (.str txt) jj p3] (ksEnv qual scope L fI (.ref cda) cc))) []))
    (hpl2 : ∀ L, swapsWith (.Name prm p8) (some (.Attribute (.Name "self" p6) fld p7)) p9.line (ksEnv qual scope L fI (.ref cda) cc) = pure false) :
    FnOk P w K mg base CX0 1 fI (ksFn name qual params [.Expr (.Call (.Attribute (.Call (.Name "super" p0) [] [] p1) "__init__" p2) [.Constant (.str txt) jj p3] [] p4) p5, .Assign [.Attribute (.Name "self" p6) fld p7] (.Name prm p8) p9] scope dV kV doc pm an (.ref cda) ct cc) ["self", prm] (spEI C fld) := by
  refine ⟨fun vs H Q E ⟨a, v, e, _⟩ => by rw [e]; rfl, fun A outer s H args us vs Q E hr e0 hb r hsp => ?_⟩
  obtain ⟨a, v, rfl, hea, hq⟩ := hsp
  obtain ⟨u, rfl, rv⟩ : ∃ u, us = [.ref a, u] ∧ RelV v u := by
    match us, r with
    | [_, u], .cons ra (.cons rv .nil) => exact ⟨u, by rw [show _ = Value.ref a from ra], rv⟩
  have KX : K.In s.heap := e0.mod.kin.keeps fun b o e => (e0.bs b o e).1
  have lim : s.heap.NoLimit := e0.mod.nolimit.keeps fun b o e => (e0.bs b o e).1
  refine ks_codeAny_call_defAt hr.depth (KX _ _ lk) rfl lim (codeRec_of KX hcd) rfl hb hcl (fun x hx => ?_) (fun h₀ hns hk => ?_) hsc.1 hsc.2.1 hsc.2.2
  · simp only [List.zip_cons_cons, List.zip_nil_right, List.mem_cons, List.not_mem_nil, or_false] at hx
    rcases hx with rfl | rfl
    · exact hnm.1
    · exact hnm.2.1
  have kX : K.In h₀ := KX.keeps hk
  have hcc : H cc = none := (e0.bs _ _ (e0.mod.kin _ _ hcell)).2
  have lkc : ∀ {x : Str} {c : Addr}, List.lookup x [(("__class__" : Str), cc)] = some c → x = "__class__" ∧ c = cc := fun {x c} h => by
    by_cases e : x = "__class__"
    · subst e
      simp at h
      exact ⟨rfl, h.symm⟩
    · have e2 : (x == ("__class__" : Str)) = false := by simpa using e
      simp [List.lookup, e2] at h
  have hm1 : ((("self" : Str), Value.ref a) :: (prm, u) :: []).reverse.lookup ("self" : Str) = some (.ref a) := by
    have : (("self" : Str) == prm) = false := by simpa using hps
    simp [List.lookup, this]
  have hm2 : ((("self" : Str), Value.ref a) :: (prm, u) :: []).reverse.lookup prm = some u := by
    simp [List.lookup]
  have hns' : h₀.Ns s.heap.objs.size fun x => ((("self" : Str), Value.ref a) :: (prm, u) :: []).reverse.lookup x := hns
  have I : L2.Inv (cxE P w K mg base ["self", prm] qual scope fI cda cc A outer s H fun _ _ => False) [] [some (.ref a), some v] H { s with heap := h₀, toks := s.toks + 2 } := by
    refine ⟨⟨e0.mod, hsc.2.2, rfl, rfl, Nat.le_refl _, fun x y c h1 h2 => ?_, fun x hx => ?_, fun x c z _ => (by cases z), fun _ => hr.hd, Around.frames_deeper e0.frames, .inr ⟨rfl, rfl⟩, fun b z => (by cases z), e0.bs, e0.bsz, fun b o _ z => (by cases z), fun b z => (by cases z), e0.funs, e0.frf⟩,
      rfl, e0.bare, Un.kept hk, ⟨_, hns', fun i x v' h1 h2 h3 => ?_⟩, fun x c h => ?_, e0.hok.fresh (Nat.le_refl _), fun x c h => ?_, fun p z => (by cases z), e0.hok.kept hk, rfl⟩
    · rw [(lkc h1).1, (lkc h2).1]
    · have := hfree x hx
      subst this
      exact ⟨cc, by simp [cxE, ksEnv, envX]⟩
    · match i, h1, h2 with
      | 0, h1, h2 =>
        cases h1
        cases h2
        exact ⟨_, rfl, .inl ⟨hnm.1, hm1⟩⟩
      | 1, h1, h2 =>
        cases h1
        cases h2
        exact ⟨u, rv, .inl ⟨hnm.2.1, hm2⟩⟩
    · rw [(lkc h).2]
      exact ⟨_, _, kX _ _ hcell, rfl⟩
    · rw [(lkc h).2]
      exact hcc
  obtain ⟨ar, hp1, hp2⟩ := hp
  obtain ⟨pl, hev⟩ := hev s.heap.objs.size
  -- super().__init__(text)
  refine ks_wpAt_execs_cons (ks_wpAt_Expr_any (ks_wpAt_MethodCall (c := _) (ks_wpAt_super_base (env := ksEnv qual scope s.heap.objs.size fI (.ref cda) cc) hnm.2.2.1 hnm.2.2.2 rfl rfl (kX _ _ lk) rfl hp1 rfl (kX _ _ hcode) rfl hvs hfile T.top ?_) hev) (hin _) (hpl1 _))
  obtain ⟨mb, hmb, hmb2⟩ := e0.mod.blt
  have kb : ∀ b o, base.get? b = some o → h₀.get? b = some o := fun b o e => hk _ _ (e0.bs b o e).1
  refine ks_loadName_global hsc.2.2 hnm.2.2.1 (PySem.Calls.loadGlobal_builtin (env := ksEnv qual scope s.heap.objs.size fI (.ref cda) cc) (e0.mod.glob.keeps kb) T.mgs (hmb.keeps kb) ((hmb2 _ (by decide +kernel)).trans PyProof.Rows.Boot.super) ⟨rfl, ?_⟩)
  refine wpAny_loadName_free hsc.2.2 hnm.2.2.2 rfl ⟨_, kX _ _ hcell, rfl⟩ ?_
  rw [hp2]
  refine wpAny_loadName_local hsc.2.2 hnm.1 hns' hm1 ?_
  obtain ⟨t1, ho⟩ := exo_at I.hok hea
  obtain ⟨oD, hD1, hD2⟩ : ∃ oD, h₀.get? C = some oD ∧ oD.data = .cls cd0 := by
    unfold clsIn at hD
    split at hD
    · rename_i c d cd' sl ho
      cases hD
      exact ⟨_, kX _ _ ho, rfl⟩
    · cases hD
  refine ks_wpAny_isType_cls hD1 hD2 ⟨rfl, ?_⟩
  replace ho : h₀.get? a = _ := ho
  refine ks_wpAny_call_super hD1 hD2 ho rfl (fun c e => by cases e) (looks_mroIn kX T.mro) (fun h2 hso k2 => ?_)
  have kX2 : K.In h2 := kX.keeps k2
  have hne : a ≠ C := fun e => by
    subst e
    rw [hD1] at ho
    cases ho
    cases hD2
  have hmro : ∃ l, alongIn K "__init__" l = some (some (.builtin "ValueError.__init__")) ∧ (cd0.mro.dropWhile (· != .ref C)).drop 1 = l := by
    have q := T.sup
    unfold ks_superIn at q
    rw [hD] at q
    exact ⟨_, q, rfl⟩
  obtain ⟨ml, hml, hdl⟩ := hmro
  have ho2 := k2 _ _ ho
  have hI2 : Looks (model P w) h2 (isInstance (.ref a) (.type "ValueError")) true := (InstAt.type (show InstAt h2 a _ C none from ⟨ho2, rfl, rfl, trivial⟩)).andThen (looks_subIn kX2 T.sub)
  refine kxs_getMethod kxs_ValueError hso (looks_opaque kX2 T.opq) (l₀ := cd0.mro) (fun A Q E s k q => wpAny_bind ((looks_clsIn kX2 hD) A _ E s k (wpAny_pure q))) hdl kX2 hml hI2 hne rfl ?_
  have hlt : h₀.objs.size < h2.objs.size := Heap.lt_size hso
  have hsz : h₀.objs.size ≤ h2.objs.size := Nat.le_of_lt hlt
  have k3 : ∀ b o, h₀.get? b = some o → (h2.push (kxs_mw "ValueError.__init__" a)).get? b = some o := fun b o e => Heap.get?_push_of_some _ (k2 b o e)
  have hu3 : (h2.push (kxs_mw "ValueError.__init__" a)).get? h2.objs.size = some (kxs_mw "ValueError.__init__" a) := Heap.get?_push_size h2 rfl
  have J3 := ClX.pin_new (t' := s.toks + 2 + 1) I k3 hsz hu3 (fun v e => by cases e)
  dsimp only
  refine kxs_callWith (i := "ValueError.__init__") (x := a) rfl ?_
  refine PySem.Calls.evalArgs_plain ?_
  refine wpAny_mono (((pa_cons (X := cxE P w K mg base ["self", prm] qual scope fI cda cc A outer s H fun _ _ => False) (e := .Constant (.str txt) jj p3) (es := []) pe_str pa_nil).run p4 _ _ _ H (fun vs H' => vs = [.str txt] ∧ H' = H) J3 ⟨rfl, rfl⟩)) (fun vs s4 ⟨ws, H4, I4, r4, e4, e5⟩ => ?_) (fun _ _ z => False.elim z)
  subst e4
  have e5' := e5.symm
  subst e5'
  have hu4 : s4.heap.get? h2.objs.size = some (kxs_mw "ValueError.__init__" a) := ClX.pin_at I4
  have J4 := ClX.unpin I4
  refine ⟨hu4, ?_⟩
  obtain ⟨t4, ho4⟩ := exo_at J4.hok hea
  obtain ⟨hp4, g4, d4, tk4, os4⟩ := s4
  have hl4 : vs.length ≤ sizeLine := by
    rw [← r4.length]
    show 1 ≤ sizeLine
    rw [sizeLine_eq]
    omega
  obtain ⟨nm, q, N, bs, bm, sn, sub, ab, col, dd, k0, k1, k2', k3', k5, hC, hbm⟩ := T.cls.cls
  refine wpAny_call (codeAny_of_tree ?_)
  show wpAny _ _ (callAny (.ref h2.objs.size) ⟨vs, []⟩) _ _ _
  simp only [callAny]
  refine wpAny_bind (wpAny_load hu4 ?_)
  simp only [kxs_mw, show (Value.type "method-wrapper" == Value.type "method" || Value.type "method-wrapper" == Value.type "builtin_function_or_method" || Value.type "method-wrapper" == Value.type "method-wrapper") = true by decide, if_true]
  refine KFB.if_so (by decide) ?_
  refine wpAny_bind (check_bound_init F.excBase_ValueError.toExcCallFacts (J4.kIn _ _ hC) ho4 rfl ?_)
  refine wpAny_bind (wpAny_pure (wpAny_pure ?_))
  refine ⟨plainId_quiet F.excBase_ValueError.init.plain _, codeAny_builtin F.excBase_ValueError.initEntry ?_⟩
  refine exc_init_tree (cls := .ref C) (t0 := t4) (dv := none) (c2 := .none) (c3 := .none) (b4 := .bool false) ho4 hl4 fun h5 kk5 ho5 _ => ?_
  have J5 := J4.write (t' := tk4) (x := a) (e := a) (o := exo a C none) (by rw [hea]; exact True.intro) (.inl rfl) kk5 ⟨_, ho5⟩ (exo_ok ho5)
  have eu : upd H a (exo a C none) = H := by
    funext b
    by_cases hb : b = a
    · rw [hb, upd_same, hea]
    · rw [upd_ne hb]
  rw [eu] at J5
  dsimp only
  refine wpAt_of_wpAny (wpAny_mono ((pss_one (ps_ost (X := cxE P w K mg base ["self", prm] qual scope fI cda cc A outer s H fun _ _ => False) (pe_var (i := 0) rfl (.inl hnm.1)) (pe_var (i := 1) rfl (.inl hnm.2.1) hcdbg.1 hcdbg.2) (hpl2 _))).run [] _ _ H { nx := fun _ H' => Q .non H', rt := Q } J5 ⟨v, rfl, .ref a, rfl, a, C, rfl, T.cls, hno, .inl ⟨hea, fun dx n1 n2 => hq dx n1 n2⟩⟩) (fun fl s' hs => ?_) fun _ _ z => False.elim z)
  cases fl with
  | next =>
    obtain ⟨σ', H', J, q⟩ := hs
    exact ⟨.non, H', J.os, J.bare, J.base, J.hok, rfl, q⟩
  | ret u =>
    obtain ⟨v, σ', H', J, rv, q⟩ := hs
    exact ⟨v, H', J.os, J.bare, J.base, J.hok, rv, q⟩
  | brk =>
    obtain ⟨_, _, _, q⟩ := hs
    exact False.elim q
  | cont =>
    obtain ⟨_, _, _, q⟩ := hs
    exact False.elim q
end
end G
namespace L2
open PySem PySem.Spec PyProof.Rows
end L2
namespace G
open PySem PySem.Spec L2
/-- the module's name x is an own error at C; its one argument is its field fld -/
structure ErrC (P : Program) (w : World) (K : PySem.W.Frag) (mg : Str → Option Value) (base : Heap) (x : Str) (C : Addr) (fld : Str) : Prop where
  g : mg x = some (.ref C)
  cls : OexC K C
  init : ∃ fI fd prm, PySem.W.findIn K (.ref C) "__init__" = some (some (.ref fI)) ∧ PySem.W.typeIn K (.ref fI) = some (.type "function") ∧ FnOk P w K mg base CX0 1 fI fd ["self", prm] (spEI C fld) ∧ Binds K fd ["self", prm] []
def sRaise (C : Addr) (fld : Str) (l : AL) : AS := fun A δ r => l A.xr δ r fun ds r1 => ∃ d, ds = [d] ∧ A.xr C [fld] [d] δ r1
section
variable {X : Cx} {W : WX} {x fld : Str} {C : Addr} {e : Expr} {l : AL} {p pos pos2 : Pos} {k : Nat}
theorem s_raise (T : ErrC X.prog X.w X.K X.mg X.base x C fld) (tk : Takes X W) (hr : Room k X.A) (ha : PDL X W [e] l) (hk : 2 ≤ k := by first | decide | omega) (hc : X.calm = true := by rfl) (hg : Gl X x := by rfl) (hdb : (x == ("__debug__" : Str)) = false := by decide)
    (he : starEach [e] X.env = (false, eval e X.env) :: starEach [] X.env := by rfl) (hpl : (backTo pos (starEach [] X.env)).any (·.1) = false := by rfl) : PSD X W (.Raise (some (.Call (.Name x p) [e] [] pos)) none pos2) (sRaise C fld l) := by
  obtain ⟨fI, fd, prm, i1, i2, F, hb⟩ := T.init
  refine imS (ps_raise hc tk (pmk_oex (CX := CX0) T.cls i1 i2 F (hr.mono hk) hb .nil (fun _ _ _ _ _ _ _ z => z.elim) hg T.g ha hdb he hpl)) fun D σ H ⟨δ, r, A, o, h, f⟩ => ?_
  refine tdl_bind o h fun ds r1 vs H1 h1 o1 k1 i1 => ?_
  obtain ⟨d, rfl, h1⟩ := h1
  cases i1 with
  | cons iv it =>
    cases it
    rename_i v
    refine ⟨by show 1 ≤ 1000; decide, fun a na => ⟨a, v, rfl, upd_same, fun dx n1 n2 => ⟨rfl, dx, [(fld, v)], upd_same, ?_, ?_, ?_⟩⟩⟩
    · rw [upd_ne n2, upd_same]
    · rw [upd_ne n2] at n1
      exact n1
    · have nd : H1 dx = none := by rw [upd_ne n2] at n1; exact n1
      have ext : Ext H1 (upd (del (upd (upd (upd H1 a (exo a C none)) dx (exd dx [(fld, v)])) a (exo a C (some dx))) a) dx (.xd [(fld, v)])) := fun b u e => by
        have h1 : b ≠ a := ne_of_none e na
        have h2 : b ≠ dx := ne_of_none e nd
        rw [upd_ne h2, del_ne h1, upd_ne h1, upd_ne h2, upd_ne h1]
        exact e
      exact o1.x C [fld] [d] δ r1 σ (some dx) _ h1 (o1.b.step (Kp.ext ext) (o1.r.ext ext)) (Kp.ext ext) ⟨not_al o1.r nd, [(fld, v)], upd_same, rfl, .cons (is_ext ext _ _ iv) .nil⟩
end
/-- an exception's own dict, while it is held -/
def xdA (dx : Addr) (fs : List Str) (ds : List D) : At where
  M := fun a => a = dx
  R := fun K N H => ∃ kvs : List (Str × V), H dx = some (.xd kvs) ∧ kvs.map Prod.fst = fs ∧ IsAll K N H (kvs.map Prod.snd) ds
  loc := fun f g ⟨vs, h, e, i⟩ => ⟨vs, f _ _ rfl h, e, all_of g i⟩
  anti := fun q ⟨vs, h, e, i⟩ => ⟨vs, h, e, all_of (fun _ _ => is_anti q) i⟩
  grow := fun hp ⟨vs, h, e, i⟩ => ⟨vs, h, e, all_of (fun _ _ => is_growD hp) i⟩
  al := fun ⟨vs, h, _⟩ a z => ⟨.xd vs, by rw [show a = dx from z]; exact h⟩
end G
namespace G
open PySem PySem.Spec L2
open PyProof.Rows (envOfC)
def ixF : List Str → Str → Option Nat
  | [], _ => none
  | f :: fs, g => if f = g then some 0 else (ixF fs g).map (· + 1)
theorem ixF_mem : ∀ {fs : List Str} {g : Str} {i : Nat}, ixF fs g = some i → g ∈ fs
  | f :: fs, g, i, h => by
    unfold ixF at h
    split at h
    · rename_i e
      subst e
      exact List.mem_cons_self
    · obtain ⟨j, hj, _⟩ := Option.map_eq_some_iff.mp h
      exact List.mem_cons_of_mem _ (ixF_mem hj)
theorem ixF_get : ∀ {kvs : List (Str × V)} {fs : List Str} {g : Str} {i : Nat} {v : V}, kvs.map Prod.fst = fs → ixF fs g = some i → (kvs.map Prod.snd)[i]? = some v → kvs.lookup g = some v
  | [], _, g, i, v, e, h, hv => by simp at hv
  | (f, x) :: kvs, _, g, i, v, e, h, hv => by
    subst e
    unfold List.map ixF at h
    by_cases q : f = g
    · rw [if_pos q] at h
      cases h
      subst q
      have : x = v := by simpa using hv
      rw [← this]
      simp [List.lookup]
    · rw [if_neg q] at h
      obtain ⟨j, hj, rfl⟩ := Option.map_eq_some_iff.mp h
      have hb : (g == f) = false := beq_eq_false_iff_ne.mpr fun e => q e.symm
      rw [List.lookup, hb]
      exact ixF_get rfl hj (by simpa using hv)
theorem ixF_put : ∀ {kvs : List (Str × V)} {g : Str} {i : Nat} {v : V}, ixF (kvs.map Prod.fst) g = some i → (putF g v kvs).map Prod.fst = kvs.map Prod.fst ∧ (putF g v kvs).map Prod.snd = (kvs.map Prod.snd).set i v
  | [], g, i, v, h => by cases h
  | (f, x) :: kvs, g, i, v, h => by
    unfold List.map ixF at h
    unfold putF
    by_cases q : f = g
    · rw [if_pos q] at h ⊢
      cases h
      exact ⟨rfl, rfl⟩
    · rw [if_neg q] at h ⊢
      obtain ⟨j, hj, rfl⟩ := Option.map_eq_some_iff.mp h
      obtain ⟨h1, h2⟩ := ixF_put (v := v) hj
      exact ⟨by rw [List.map_cons, List.map_cons, h1], by rw [List.map_cons, List.map_cons, h2] <;> rfl⟩
theorem ixF_new : ∀ {kvs : List (Str × V)} {g : Str} {v : V}, ixF (kvs.map Prod.fst) g = none → (putF g v kvs).map Prod.fst = kvs.map Prod.fst ++ [g] ∧ (putF g v kvs).map Prod.snd = kvs.map Prod.snd ++ [v]
  | [], g, v, h => ⟨rfl, rfl⟩
  | (f, x) :: kvs, g, v, h => by
    unfold List.map ixF at h
    unfold putF
    by_cases q : f = g
    · rw [if_pos q] at h
      cases h
    · rw [if_neg q] at h ⊢
      have hj := Option.map_eq_none_iff.mp h
      obtain ⟨h1, h2⟩ := ixF_new (v := v) hj
      exact ⟨by rw [List.map_cons, List.map_cons, h1] <;> rfl, by rw [List.map_cons, List.map_cons, h2] <;> rfl⟩
section
variable {K : PySem.W.Frag} {r pre post : Rs} {H : Hp} {l : Addr} {t t' : At} {u u' : HO}
theorem mid_R (h : Rok K (pre ++ t :: post) H) : t.R K (mem (pre ++ t :: post)) H := (hold_append.mp h).2.1.1
theorem mid_mem {a : Addr} (h : t.M a) : mem (pre ++ t :: post) a := mem_append.mpr (.inr (.inl h))
theorem mid_put (hm : t.M = fun b => b = l) (hm' : t'.M = fun b => b = l) (hu : H l = some u) (nt : ∀ xs, u ≠ .tup xs ∧ ∀ o : Obj, u ≠ .frz o (.tup xs)) (h : Rok K (pre ++ t :: post) H)
    (ht : (∀ w e, Is K (mem (pre ++ t :: post)) H w e → Is K (mem (pre ++ t' :: post)) (upd H l u') w e) → t'.R K (mem (pre ++ t' :: post)) (upd H l u')) :
    Rok K (pre ++ t' :: post) (upd H l u') ∧ Kp K (pre ++ t :: post) H (pre ++ t' :: post) (upd H l u') := by
  obtain ⟨h1, ⟨h2, h3, h4⟩, h5⟩ := hold_append.mp h
  have me : mem (pre ++ t :: post) = mem (pre ++ t' :: post) := mem_mid (by rw [hm, hm'])
  have tl : t.M l := by rw [hm]
  have go : ∀ w e, Is K (mem (pre ++ t :: post)) H w e → Is K (mem (pre ++ t :: post)) (upd H l u') w e := fun w e q => is_otherO (mid_mem tl) hu nt q
  refine ⟨hold_append.mpr ⟨?_, ⟨ht fun w e q => me ▸ go w e q, ?_, ?_⟩, ?_⟩, fun w e q => me ▸ go w e q⟩
  · rw [← me]
    exact hold_loc (fun b o m q => by rw [upd_ne (fun e => h5 b m (.inl (by rw [hm]; exact e)))]; exact q) go h1
  · intro a z
    exact h3 a (by rw [hm]; rw [hm'] at z; exact z)
  · rw [← me]
    exact hold_loc (fun b o m q => by rw [upd_ne (fun e => h3 b (by rw [hm]; exact e) m)]; exact q) go h4
  · intro a m z
    refine h5 a m (z.elim (fun z => .inl ?_) .inr)
    rw [hm]; rw [hm'] at z; exact z
theorem mid_anti {a : Addr} (z : mem (pre ++ post) a) : mem (pre ++ t :: post) a := (mem_append.mp z).elim (fun z => mem_append.mpr (.inl z)) fun z => mem_append.mpr (.inr (.inr z))
theorem mid_drop (h : Rok K (pre ++ t :: post) H) : Rok K (pre ++ post) H ∧ Kp K (pre ++ t :: post) H (pre ++ post) H ∧ ∀ a, t.M a → ¬ mem (pre ++ post) a := by
  obtain ⟨h1, ⟨h2, h3, h4⟩, h5⟩ := hold_append.mp h
  refine ⟨hold_append.mpr ⟨hold_anti (fun _ => mid_anti) h1, hold_anti (fun _ => mid_anti) h4, fun a m z => h5 a m (.inr z)⟩, fun _ _ => is_anti fun _ => mid_anti, fun a m z => ?_⟩
  rcases mem_append.mp z with z | z
  · exact h5 a z (.inl m)
  · exact h3 a m z
theorem mid_new {p : Addr} {H' : Hp} (hm : t.M = fun b => b = p) (h : Rok K r H) (hp : H p = none) (e : Ext H H') (ht : (∀ w d, Is K (mem r) H w d → Is K (mem (r ++ [t])) H' w d) → t.R K (mem (r ++ [t])) H') : Rok K (r ++ [t]) H' ∧ Kp K r H (r ++ [t]) H' := by
  have an : ∀ a, mem (r ++ [t]) a → mem r a ∨ a = p := fun a z => (mem_append.mp z).elim .inl fun z => z.elim (fun z => .inr (by rw [hm] at z; exact z)) False.elim
  have go : Kp K r H (r ++ [t]) H' := fun v d q => is_anti an (is_ext e _ _ (is_grow hp q))
  refine ⟨hold_append.mpr ⟨hold_anti an (hold_ext e (hold_grow hp h)), ⟨ht go, fun _ _ z => z, True.intro⟩, fun a m z => ?_⟩, go⟩
  have : a = p := z.elim (fun z => by rw [hm] at z; exact z) False.elim
  subst this
  exact not_al h hp m
end
/-- an instance of our own at a -/
def insA (a C : Addr) (fs : List Str) (ds : List D) : At where
  M := fun b => b = a
  R := fun K N H => Good K C fs ∧ ∃ (dx : Addr) (kvs : List (Str × V)), H a = some (.ins C dx kvs) ∧ kvs.map Prod.fst = fs ∧ IsAll K N H (kvs.map Prod.snd) ds
  loc := fun f g ⟨q, dx, vs, h, e, i⟩ => ⟨q, dx, vs, f _ _ rfl h, e, all_of g i⟩
  anti := fun q ⟨z, dx, vs, h, e, i⟩ => ⟨z, dx, vs, h, e, all_of (fun _ _ => is_anti q) i⟩
  grow := fun hp ⟨z, dx, vs, h, e, i⟩ => ⟨z, dx, vs, h, e, all_of (fun _ _ => is_growD hp) i⟩
  al := fun ⟨z, dx, vs, h, _⟩ b e => ⟨.ins C dx vs, by rw [show b = a from e]; exact h⟩
section
variable {K : PySem.W.Frag} {r pre post : Rs} {H : Hp} {a C : Addr} {fs : List Str} {ds : List D}
theorem ins_new {dx : Addr} (h : Rok K r H) (g : Plain K C) (ha : H a = none) (hd : H dx = none) (ne : dx ≠ a) : Ext H (upd (upd H dx (.own a)) a (.ins C dx [])) ∧ Rok K (r ++ [insA a C [] []]) (upd (upd H dx (.own a)) a (.ins C dx [])) ∧ Kp K r H (r ++ [insA a C [] []]) (upd (upd H dx (.own a)) a (.ins C dx [])) := by
  have e : Ext H (upd (upd H dx (.own a)) a (.ins C dx [])) := fun b o q => by
    rw [upd_ne (ne_of_none q ha), upd_ne (ne_of_none q hd)]
    exact q
  exact ⟨e, mid_new rfl h ha e fun _ => ⟨⟨g, fun f z => by cases z⟩, dx, [], upd_same, rfl, .nil⟩⟩
end
inductive oFld (f : Str) : D → Rs → PK1 → Prop
  | fro {C : Addr} {fs : List Str} {ds : List D} {r : Rs} {P : PK1} (i : Nat) (y : D) (h : ixF fs f = some i) (hy : ds[i]? = some y) (p : P y r) : oFld f (.ins C fs ds) r P
  | own {a C : Addr} {fs : List Str} {ds : List D} {r : Rs} {P : PK1} (pre post : Rs) (i : Nat) (y : D) (e : r = pre ++ insA a C fs ds :: post) (h : ixF fs f = some i) (hy : ds[i]? = some y) (p : P y r) : oFld f (.adr a) r P
def aFld (f : Str) (te : AT) : AT := fun x δ r P => te x δ r fun d r1 => oFld f d r1 P
section
variable {X : Cx} {W : WX} {e o value : Expr} {f : Str} {pos pos' : Pos} {te to tv : AT}
theorem d_fld (he : PD X W e te) (hb : attributeBase e f X.env (eval e X.env) = eval e X.env := by rfl) : PD X W (.Attribute e f pos) (aFld f te) := imE (pe_fld he hb) fun σ H Q q => by
  obtain ⟨XR, δ, r, P, ok, h, k⟩ := q
  refine td_bind ok h fun d r1 v H1 h1 o1 k1 i1 => ?_
  cases h1 with
  | @fro C fs ds _ _ i y h hy p =>
    cases i1 with
    | ins n s e2 g a =>
      obtain ⟨v, hv, iv⟩ := a.getD hy
      exact ⟨_, _, _, _, v, rfl, s, g.cls, g.no _ (ixF_mem h), ixF_get e2 h hv, k _ _ _ _ p o1 k1 iv⟩
  | @own a C fs ds _ _ pre post i y e2 h hy p =>
    cases i1
    subst e2
    obtain ⟨g, dx, kvs, s, e3, a⟩ := mid_R o1.r
    obtain ⟨v, hv, iv⟩ := a.getD hy
    exact ⟨_, _, _, _, v, rfl, s, g.cls, g.no _ (ixF_mem h), ixF_get e3 h hv, k _ _ _ _ p o1 k1 iv⟩
/-- o.f = value -/
inductive oPut (C : Addr) (f : Str) (y : D) : D → Rs → (Rs → Prop) → Prop
  | new {a : Addr} {fs : List Str} {ds : List D} {r : Rs} {k : Rs → Prop} (pre post : Rs) (e : r = pre ++ insA a C fs ds :: post) (h : ixF fs f = none) (z : fs.length < 1000) (p : k (pre ++ insA a C (fs ++ [f]) (ds ++ [y]) :: post)) : oPut C f y (.adr a) r k
  | old {a : Addr} {fs : List Str} {ds : List D} {r : Rs} {k : Rs → Prop} (pre post : Rs) (i : Nat) (e : r = pre ++ insA a C fs ds :: post) (h : ixF fs f = some i) (z : fs.length < 1000) (p : k (pre ++ insA a C fs (ds.set i y) :: post)) : oPut C f y (.adr a) r k
def sPut (C : Addr) (f : Str) (to tv : AT) : AS := fun A δ r => tv A.xr δ r fun y r1 => to A.xr δ r1 fun d r2 => oPut C f y d r2 fun r3 => A.nx δ r3
theorem s_put {C : Addr} (n : NoAttr X.K C f) (ho : PD X W o to) (hv : PD X W value tv) (hs : swapsWith value (some (.Attribute o f pos')) pos.line X.env = pure false := by rfl) : PSD X W (.Assign [.Attribute o f pos'] value pos) (sPut C f to tv) :=
  imS (ps_fld ho hv hs) fun Dd σ H ⟨δ, r, A, ok, h, ff⟩ => td_bind ok h fun y r1 v H1 h1 o1 k1 i1 => td_bind o1 h1 fun d r2 v2 H2 h2 o2 k2 i2 => by
    cases h2 with
    | @new a fs ds _ _ pre post e h z p =>
      cases i2
      subst e
      obtain ⟨g, dx, kvs, s, e3, i⟩ := mid_R o2.r
      subst e3
      obtain ⟨q1, q2⟩ := ixF_new (v := v) h
      obtain ⟨z1, z2⟩ := mid_put (t := insA a C _ ds) (t' := insA a C (kvs.map Prod.fst ++ [f]) (ds ++ [y])) (u' := .ins C dx (putF f v kvs)) rfl rfl s (fun xs => ⟨(fun e => by cases e), fun o e => by cases e⟩) o2.r
        (fun go => ⟨⟨g.p, fun x hx => (List.mem_append.mp hx).elim (g.no x) fun hx => by rw [List.mem_singleton.mp hx]; exact n⟩, dx, putF f v kvs, upd_same, q1, by rw [q2]; exact (all_of go i).append (.cons (go _ _ (k2 _ _ i1)) .nil)⟩)
      exact ⟨a, C, dx, kvs, rfl, s, g.cls, n, by rw [List.length_map] at z; exact z, ff.nx _ _ _ _ p (o2.step z2 z1) ((k1.trans k2).trans z2)⟩
    | @old a fs ds _ _ pre post i e h z p =>
      cases i2
      subst e
      obtain ⟨g, dx, kvs, s, e3, i2⟩ := mid_R o2.r
      subst e3
      obtain ⟨q1, q2⟩ := ixF_put (v := v) h
      obtain ⟨z1, z2⟩ := mid_put (t := insA a C _ ds) (t' := insA a C (kvs.map Prod.fst) (ds.set i y)) (u' := .ins C dx (putF f v kvs)) rfl rfl s (fun xs => ⟨(fun e => by cases e), fun o e => by cases e⟩) o2.r
        (fun go => ⟨g, dx, putF f v kvs, upd_same, q1, by rw [q2]; exact set_all (go _ _ (k2 _ _ i1)) i (all_of go i2)⟩)
      exact ⟨a, C, dx, kvs, rfl, s, g.cls, n, by rw [List.length_map] at z; exact z, ff.nx _ _ _ _ p (o2.step z2 z1) ((k1.trans k2).trans z2)⟩
end
def aNew (C : Addr) (sd : SpX) (l : AL) : AT := fun x δ r P => l x δ r fun ds r1 => ∀ a, sd (.adr a :: ds) (r1 ++ [insA a C [] []]) (fun d r2 => d = .non ∧ P (.adr a) r2) fun E fs es r' => x E fs es δ r'
section
variable {X : Cx} {W : WX} {k : Nat} {f C : Addr} {sd : SpX} {x : Str} {p pos : Pos} {e : Expr} {es : List Expr} {l : AL}
theorem run_mk {sp : Sp} {E : XK} {pins : List (Addr × Obj)} {σ : L2.St} {H : Hp} {s : Shared} {Q : VK} {us : List Value} {vs : List V} (M : Mk X.K C f) (F : FnR X.prog X.w X.K X.mg X.base (L2.CX X.prog X.w) k f sp) (hr : Room (k + 1) X.A) (hx : PassesAt (L2.CX X.prog X.w) X σ E) (I : L2.Inv X pins σ H s) (r : Vals vs us)
    (h : ∀ x dx, H x = Option.none → H dx = Option.none → dx ≠ x → sp (V.ref x :: vs) (upd (upd H dx (.own x)) x (.ins C dx [])) (fun v H2 => v = .non ∧ Q (.ref x) H2) E) :
    wpAny (model X.prog X.w) X.A (call (.ref C) us) (EP X pins σ Q) X.xe s := by
  have hq := h (s.heap.objs.size + 1) s.heap.objs.size (I.hok.fresh (Nat.le_succ _)) (I.hok.fresh (Nat.le_refl _)) (Nat.ne_of_lt (Nat.lt_succ_self _))
  have I2 := Inv.made (C := C) I
  have r2 : Vals (V.ref (s.heap.objs.size + 1) :: vs) (Value.ref (s.heap.objs.size + 1) :: us) := .cons rfl r
  refine wpAny_call (make_map (f := f) I.kIn M.makes M.init (beq_iff_eq.mp M.fn) (codeAny_mono (F _ X.stack _ _ (Value.ref (s.heap.objs.size + 1) :: us) _ _ E (hr.make C us []) (I2.env0.make C us []) r2 hq) fun r s' hq' => ?_))
  cases r with
  | error e => exact hx pins _ _ e s' I2 hq'
  | ok fl =>
    cases fl with
    | ret u =>
      obtain ⟨v, H', I3, rv, ev, q3⟩ := I2.after hq'
      subst ev
      exact ⟨rv, ⟨V.ref (s.heap.objs.size + 1), H', I3, rfl, q3⟩⟩
    | next => exact False.elim hq'
    | brk => exact False.elim hq'
    | cont => exact False.elim hq'
theorem d_new0 (M : Mk X.K C f) (g : Plain X.K C) (F : FR X.prog X.w X.K X.mg X.base k f sd) (tk : Takes X W) (hr : Room (k + 1) X.A) (hm : X.mg x = some (.ref C)) (hg : Gl X x := by rfl) (hdb : (x == ("__debug__" : Str)) = false := by decide) :
    PD X W (.Call (.Name x p) [] [] pos) (aNew C sd aNil) := by
  refine ⟨fun pins s σ H Q I h => ?_⟩
  refine wpAny_Call_Name_kw (ld_glob I hg hm ?_ hdb)
  obtain ⟨XR, δ, r, P, ok, h, kk⟩ := h
  refine PySem.W.callWith_K0 I.kIn M.kp (run_mk (us := []) (vs := []) M F hr (passAt tk _) I .nil fun x dx hx hd ne => ?_)
  obtain ⟨e1, q1, q2⟩ := ins_new ok.r g hx hd ne
  refine ⟨r ++ [insA x C [] []], [.adr x], _, _, q1, .cons (.adr x) .nil, h x, fun d r' v H' ⟨a, b⟩ rr c i => ?_, fun C' fs es r' a H' z ro kk e => ?_⟩
  · subst a
    cases i
    exact ⟨rfl, kk _ r' _ H' b (ok.step (q2.trans c) rr) (q2.trans c) (.adr x)⟩
  · exact ok.x C' fs es δ r' σ a H' z (ok.b.step (q2.trans kk) ro) (q2.trans kk) e
end
inductive isC (C : Addr) : D → Rs → Prop
  | fro {fs : List Str} {ds : List D} {r : Rs} : isC C (.ins C fs ds) r
  | own {a : Addr} {fs : List Str} {ds : List D} {r : Rs} (pre post : Rs) (e : r = pre ++ insA a C fs ds :: post) : isC C (.adr a) r
theorem isC_at {K : PySem.W.Frag} {C : Addr} {d : D} {r : Rs} {v : V} {H : Hp} (h : isC C d r) (ro : Rok K r H) (i : Is K (mem r) H v d) : ∃ a dx kvs, v = .ref a ∧ H a = some (.ins C dx kvs) ∧ Good K C (kvs.map Prod.fst) := by
  cases h with
  | fro =>
    cases i with
    | ins n s e g a => exact ⟨_, _, _, rfl, s, by rw [show List.map Prod.fst _ = _ from e]; exact g⟩
  | own pre post e =>
    cases i
    subst e
    obtain ⟨g, dx, kvs, s, e3, a⟩ := mid_R ro
    exact ⟨_, _, _, rfl, s, by rw [e3]; exact g⟩
theorem lookup_none : ∀ {kvs : List (Str × V)} {m : Str}, m ∉ kvs.map Prod.fst → kvs.lookup m = none
  | [], _, _ => rfl
  | (f, x) :: kvs, m, h => by
    have hb : (m == f) = false := beq_eq_false_iff_ne.mpr fun e => h (by rw [e]; exact List.mem_cons_self)
    rw [List.lookup, hb]
    exact lookup_none fun z => h (List.mem_cons_of_mem _ z)
theorem Meth.free {K : PySem.W.Frag} {C g : Addr} {m : Str} {kvs : List (Str × V)} (k : Meth K C m g) (q : Good K C (kvs.map Prod.fst)) : kvs.lookup m = none := lookup_none fun z => by
  have := (q.no m z).symm.trans k.at_
  cases this
def aMeth (C : Addr) (sd : SpX) (to : AT) (l : AL) : AT := fun x δ r P => to x δ r fun d r1 => isC C d r1 ∧ l x δ r1 fun ds r2 => sd (d :: ds) r2 P fun E fs es r' => x E fs es δ r'
section
variable {X : Cx} {W : WX} {k : Nat} {f C : Addr} {sd : SpX} {m : Str} {apos pos : Pos} {o e : Expr} {es : List Expr} {to : AT} {l : AL} {pl : Sem Bool}
theorem d_meth (hm : Meth X.K C m f) (F : FR X.prog X.w X.K X.mg X.base k f sd) (tk : Takes X W) (hr : Room k X.A) (ho : PD X W o to) (ha : PDL X W (e :: es) l)
    (hst : starEach (e :: es) X.env = (false, eval e X.env) :: starEach es X.env := by rfl) (hpl : (backTo pos (starEach es X.env)).any (·.1) = false := by rfl)
    (ht : eval (.Call (.Attribute o m apos) (e :: es) [] pos) X.env = (do
      let ov ← eval o X.env
      standAt apos.atName
      let (f, first) ← holding [ov] (getMethod ov m pl)
      callWith pos f first (backTo pos (starEach (e :: es) X.env)) (backToKw pos (keywordEach [] X.env))) := by rfl) :
    PD X W (.Call (.Attribute o m apos) (e :: es) [] pos) (aMeth C sd to l) := by
  refine ⟨fun pins s σ H Q I h => ?_⟩
  obtain ⟨XR, δ, r, P, ok, h, kk⟩ := h
  refine PySem.W.methodCall_KW (pl := pl) (thn (ho.run pins s σ H (fun x H1 => ∃ a dx fs, x = V.ref a ∧ H1 a = some (.ins C dx fs) ∧ Cls X.K C ∧ fs.lookup m = none ∧ TDL X.K W l σ H1 fun vs H2 => lift X.K sd (x :: vs) H2 Q (WE W σ)) I (td_bind ok h fun d r1 v H1 ⟨hc, h1⟩ o1 k1 i1 => ?_)) fun u s1 ⟨x, H1, I1, rx, a, dx, fs, ex, ea, c, lk, q⟩ => ?_) ht
  · obtain ⟨a, dx, kvs, rfl, s, g⟩ := isC_at hc o1.r i1
    refine ⟨a, dx, kvs, rfl, s, g.cls, Meth.free hm g, tdl_bind o1 h1 fun ds r2 vs H2 h2 o2 k2 i2 => lift_at o2 (.cons (k2 _ _ i1) i2) h2 fun d' r' v' H' p o3 k3 i3 => kk d' r' v' H' p o3 ((k1.trans k2).trans k3) i3⟩
  · subst ex
    obtain rfl : u = Value.ref a := rx
    refine getmeth_ok I1 ea c hm lk ?_
    refine PySem.W.callWith_K (first := [.ref a]) (h₀ := X.base) I.ok.mod.kin hm.kp (thn (ha.run pos pins s1 σ H1 _ I1 q) fun us s2 ⟨vs, H2, I2, r, q2⟩ => ⟨I2.kIn, ?_⟩) hst hpl
    exact call_P (us := .ref a :: us) (vs := .ref a :: vs) F hr (passAt tk _) I2 (.cons rfl r) q2
theorem d_meth0 (hm : Meth X.K C m f) (F : FR X.prog X.w X.K X.mg X.base k f sd) (tk : Takes X W) (hr : Room k X.A) (ho : PD X W o to)
    (ht : eval (.Call (.Attribute o m apos) [] [] pos) X.env = (do
      let ov ← eval o X.env
      standAt apos.atName
      let (f, first) ← holding [ov] (getMethod ov m pl)
      callWith pos f first (backTo pos (starEach [] X.env)) (backToKw pos (keywordEach [] X.env))) := by rfl) :
    PD X W (.Call (.Attribute o m apos) [] [] pos) (aMeth C sd to aNil) := by
  refine ⟨fun pins s σ H Q I h => ?_⟩
  obtain ⟨XR, δ, r, P, ok, h, kk⟩ := h
  refine PySem.W.methodCall_KW (pl := pl) (thn (ho.run pins s σ H (fun x H1 => ∃ a dx fs, x = V.ref a ∧ H1 a = some (.ins C dx fs) ∧ Cls X.K C ∧ fs.lookup m = none ∧ lift X.K sd [x] H1 Q (WE W σ)) I (td_bind ok h fun d r1 v H1 ⟨hc, h1⟩ o1 k1 i1 => ?_)) fun u s1 ⟨x, H1, I1, rx, a, dx, fs, ex, ea, c, lk, q⟩ => ?_) ht
  · obtain ⟨a, dx, kvs, rfl, s, g⟩ := isC_at hc o1.r i1
    exact ⟨a, dx, kvs, rfl, s, g.cls, Meth.free hm g, lift_at o1 (.cons i1 .nil) h1 fun d' r' v' H' p o3 k3 i3 => kk d' r' v' H' p o3 (k1.trans k3) i3⟩
  · subst ex
    obtain rfl : u = Value.ref a := rx
    refine getmeth_ok I1 ea c hm lk ?_
    exact PySem.W.callWith_K0 (first := [.ref a]) I1.kIn hm.kp (call_P (us := [.ref a]) (vs := [.ref a]) F hr (passAt tk _) I1 (.cons rfl .nil) q)
end
end G
namespace PySem.W
open Sem (wp)
end PySem.W
namespace G
open PySem PySem.Spec L2
open PyProof.Rows (envOfC)
theorem tyC {K : PySem.W.Frag} {C : Addr} {d : D} {r : Rs} {v : V} {H : Hp} (h : isC C d r) (ro : Rok K r H) (i : Is K (mem r) H v d) : TyX K H v (.ref C) := by
  obtain ⟨a, dx, kvs, rfl, s, g⟩ := isC_at h ro i
  exact .base (.ins s g.cls g.p.kls g.p.get g.p.tak g.p.mro)
/-- what isinstance(.., C) finds at plain data -/
structure IsK (K : PySem.W.Frag) (C : Addr) : Prop where
  ic : PySem.W.isClsIn K C = true
  ty : PySem.W.typeIn K (.ref C) = some (.type "type")
  sub : ∀ n ∈ ks6, PySem.W.subIn K (.type n) (.ref C) = some false
theorem IsK.of {K : PySem.W.Frag} {C : Addr} (k : IsK K C) {t : Value} {b : Bool} (h : PySem.W.subIn K t (.ref C) = some b) (ne : t ≠ .ref C) : PySem.W.kitOne K t (.ref C) = some b := by
  unfold PySem.W.kitOne
  rw [if_neg (fun e => ne (beq_iff_eq.mp e))]
  have e : ((PySem.W.clsIn K C).isSome && PySem.W.typeIn K (.ref C) == some (.type "type")) = true := by
    have := k.ic
    unfold PySem.W.isClsIn at this
    rw [this, k.ty] <;> rfl
  show (if ((PySem.W.clsIn K C).isSome && PySem.W.typeIn K (.ref C) == some (.type "type")) = true then PySem.W.subIn K t (.ref C) else none) = some b
  rw [if_pos e]
  exact h
theorem IsK.no {K : PySem.W.Frag} {C : Addr} (k : IsK K C) : ∀ n ∈ ks6, PySem.W.kitOne K (.type n) (.ref C) = some false := fun n hn => k.of (k.sub n hn) (fun e => by cases e)
theorem IsK.nf {K : PySem.W.Frag} {C : Addr} (k : IsK K C) : ∀ n ∈ ks6, PySem.W.notFirst K C (.type n) = true := fun n hn => by
  unfold PySem.W.notFirst
  rw [k.sub n hn]
  exact Bool.or_true _
theorem kit_self {K : PySem.W.Frag} {C : Addr} : PySem.W.kitOne K (.ref C) (.ref C) = some true := by
  unfold PySem.W.kitOne
  rw [if_pos (beq_self_eq_true _)]
theorem tyD_mem {d : D} (n : nad d = true) : tyD d ∈ ks6 := by
  cases d <;> first | (cases n; done) | simp [tyD, ks6]
inductive oIsC (C : Addr) : D → Rs → PK1 → Prop
  | yes {d : D} {r : Rs} {P : PK1} (h : isC C d r) (p : P (.bl true) r) : oIsC C d r P
  | no {d : D} {r : Rs} {P : PK1} (h : nad d = true) (p : P (.bl false) r) : oIsC C d r P
def aIsC (C : Addr) (t : AT) : AT := fun x δ r P => t x δ r fun d r1 => oIsC C d r1 P
section
variable {X : Cx} {W : WX} {C : Addr} {a b : Expr} {ta tb : AT} {p pos : Pos}
/-- isinstance(x, C) -/
theorem d_isC {q : Pos} {y : Str} (k : IsK X.K C) (hg : Gl X "isinstance") (hm : X.mg "isinstance" = none) (ha : PD X W a ta) (my : X.mg y = some (.ref C)) (gy : Gl X y := by rfl) (hdy : (y == ("__debug__" : Str)) = false := by decide)
    (he : starEach [a, .Name y q] X.env = (false, eval a X.env) :: starEach [.Name y q] X.env := by rfl) (hpl : (backTo pos (starEach [.Name y q] X.env)).any (·.1) = false := by rfl) (he2 : starEach [.Name y q] X.env = (false, eval (.Name y q) X.env) :: starEach [] X.env := by rfl) :
    PD X W (.Call (.Name "isinstance" p) [a, .Name y q] [] pos) (aIsC C ta) := imE (pe_callB call_isi hg hm (by decide +kernel) (pa_cons ha (pa_cons (pe_glob (v := .ref C) gy my rfl hdy) pa_nil he2) he) (by decide) (by decide) he hpl) fun σ H Q q => by
  obtain ⟨XR, δ, r, P, ok, h, k'⟩ := q
  refine td_bind ok h fun d r1 v H1 h1 o1 k1 i1 => ?_
  cases h1 with
  | yes hc p => exact ⟨v, .ref C, _, _, _, rfl, .own C, tyC hc o1.r i1, kit_self, k' _ r1 _ H1 p o1 k1 (.bl _)⟩
  | no n p => exact ⟨v, .ref C, _, _, _, rfl, .own C, tyX i1 n, k.no _ (tyD_mem n), k' _ r1 _ H1 p o1 k1 (.bl _)⟩
end
structure EqK (K : PySem.W.Frag) (C g : Addr) : Prop where
  at_ : PySem.W.findIn K (.ref C) "__eq__" = some (some (.ref g))
  fn : PySem.W.isFn K (.ref g) = true
  nf : ∀ n ∈ ks6, PySem.W.notFirst K C (.type n) = true
  ne : PySem.W.findIn K (.ref C) "__ne__" = some (some (.builtin "object.__ne__"))
theorem nf_self {K : PySem.W.Frag} {C : Addr} : PySem.W.notFirst K C (.ref C) = true := by
  unfold PySem.W.notFirst
  rw [beq_self_eq_true, Bool.true_or]
def rOwnI (K : PySem.W.Frag) (C : Addr) (sp : Sp) (neg : Bool) : R2 := fun x y H Q => ∃ a dx kvs t, x = .ref a ∧ H a = some (.ins C dx kvs) ∧ TyX K H y t ∧ PySem.W.notFirst K C t = true ∧ PySem.W.mroIn K C (.type "object") = some true ∧ sp [x, y] H (fun v H' => ∃ b : Bool, v = .bl b ∧ Q (.bl (cond neg (!b) b)) H') E0
section
variable {X : Cx} {W : WX} {k : Nat} {C g : Addr} {sp : Sp}
theorem op_eqI (e : EqK X.K C g) (F : FnR X.prog X.w X.K X.mg X.base (L2.CX X.prog X.w) k g sp) (hr : Room k X.A) : OpR X (compareOp .Eq) (rOwnI X.K C sp false) := by
  intro pins s σ H x y v u Q I rx ry h
  obtain ⟨a, dx, kvs, t, rfl, ha, ty, hn, _, q⟩ := h
  cases (show v = Value.ref a from rx)
  obtain ⟨mA, O, _⟩ := ins_get I.hok ha
  obtain ⟨od, J, _⟩ := O.look
  obtain ⟨m, hF⟩ := I.fr
  obtain ⟨P, Z, p, _⟩ := kit_of I ry ty
  show wpAny _ _ (richCompare .Eq (.ref a) u) _ _ _
  refine PySem.W.cmp_K (op := .Eq) hr.units0 hF I.ok.mod.kin J (Z.ty _ _ I.kIn p) hn e.at_ e.fn ?_
  refine thn (call_P (us := [.ref a, u]) (vs := [.ref a, y]) F hr passE I (.cons rfl (.cons ry .nil)) q) fun w s' z => ?_
  obtain ⟨z', H', I', rz, b, eb, qz⟩ := z
  subst eb
  exact SlX.cmpback rz ⟨_, H', I', rz, qz⟩
def aEqI (C : Addr) (sd : SpX) (neg : Bool) (ta tb : AT) : AT := fun x δ r P => ta x δ r fun d1 r1 => tb x δ r1 fun d2 r2 => isC C d1 r2 ∧ (nad d2 = true ∨ isC C d2 r2) ∧ sd [d1, d2] r2 (fun d r3 => ∃ b, d = .bl b ∧ P (.bl (cond neg (!b) b)) r3) noX
theorem td_eqI {C : Addr} {sd : SpX} {neg : Bool} {ta tb : AT} {σ : L2.St} {H : Hp} {Q : VK} (e : EqK X.K C g) (q : TD X.K W (aEqI C sd neg ta tb) σ H Q) : tOp (rOwnI X.K C (lift X.K sd) neg) (TD X.K W ta) (TD X.K W tb) σ H Q := by
  obtain ⟨XR, δ, r, P, ok, h, kk⟩ := q
  refine td_bind ok h fun d1 r1 v1 H1 h1 o1 k1 i1 => td_bind o1 h1 fun d2 r2 v2 H2 h2 o2 k2 i2 => ?_
  obtain ⟨hc, hd, h2⟩ := h2
  obtain ⟨a, dx, kvs, rfl, s, gd⟩ := isC_at hc o2.r (k2 _ _ i1)
  have fin : lift X.K sd [.ref a, v2] H2 (fun v H' => ∃ b : Bool, v = .bl b ∧ Q (.bl (cond neg (!b) b)) H') E0 := lift_n o2 (.cons (k2 _ _ i1) (.cons i2 .nil)) h2 fun d r' v H' p o3 k3 i3 => by
    obtain ⟨b, rfl, p⟩ := p
    cases i3
    exact ⟨b, rfl, kk _ r' _ H' p o3 ((k1.trans k2).trans k3) (.bl _)⟩
  rcases hd with hd | hd
  · exact ⟨a, dx, kvs, _, rfl, s, tyX i2 hd, e.nf _ (tyD_mem hd), gd.p.mro, fin⟩
  · exact ⟨a, dx, kvs, _, rfl, s, tyC hd o2.r i2, nf_self, gd.p.mro, fin⟩
variable {C : Addr} {sd : SpX} {ta tb : AT} {a b : Expr} {pos : Pos}
theorem d_eqI (e : EqK X.K C g) (F : FR X.prog X.w X.K X.mg X.base k g sd) (hr : Room k X.A) (ha : PD X W a ta) (hb : PD X W b tb) : PD X W (.Compare a [.Eq] [b] pos) (aEqI C sd false ta tb) := imE (pe_cmpR (op_eqI e F hr) ha hb (nomark _)) fun _ _ _ q => td_eqI e q
end
end G
namespace G
open PySem PySem.Spec L2
open PyProof.Rows (envOfC)
/-- a def as it stands behind the top, whatever its defaults are -/
structure FunA (K : PySem.W.Frag) (x qual : Str) (st : Stmt) (f : Addr) (fd : FuncData) : Prop where
  ex : ∃ (oc : Value) (od : Option Addr) (dV kV doc pm : Value) (an : Option Addr) (cdv ct : Value) (osl : Array (Option Value)),
    fd = PySem.W.fnOf x qual (defArgs st) (defBody st) (defScope st) dV kV doc pm an cdv ct ∧ K.lookup f = some ⟨oc, od, .func fd, osl⟩ ∧ PySem.W.codeIn K cdv qual = true
section
variable {P : Program} {w : World} {K : PySem.W.Frag} {mg : Str → Option Value} {base : Heap}
/-- THE RULE for such a def -/
theorem fnA_d {x qual : Str} {st : Stmt} {f : Addr} {fd : FuncData} {N ps : List Str} {k : Nat} {sd : SpX} (F : FunA K x qual st f fd) (S : FnScope N ps (defScope st)) (len : ∀ ds r P' XR, sd ds r P' XR → ds.length = ps.length)
    (hbody : ∀ (cdv : Value) (A : Around) (outer : List Env) (s : Shared) (H : Hp) (E : XK), Room k (A.deeper (envOfC qual (defScope st) s.heap.objs.size f cdv)) → Takes (cxOf (L2.CX P w) P w K mg base N qual (defScope st) f cdv A outer s H E) (WK E) →
      PassesOwn (model P w) (cxOf (L2.CX P w) P w K mg base N qual (defScope st) f cdv A outer s H E).A (cxOf (L2.CX P w) P w K mg base N qual (defScope st) f cdv A outer s H E).env (cxOf (L2.CX P w) P w K mg base N qual (defScope st) f cdv A outer s H E).xe →
      ∃ t : AS, PBD (cxOf (L2.CX P w) P w K mg base N qual (defScope st) f cdv A outer s H E) (WK E) (defBody st) t ∧
      ∀ ds r P' XR, sd ds r P' XR → t { nx := fun _ r' => fit P' .non r', rt := fit P', xr := fitX XR } (startD N ds) r) : FO P w K mg base (k + 1) f fd ps sd := by
  obtain ⟨oc, od, dV, kV, doc, pm, an, cdv, ct, osl, rfl, lk, hcd⟩ := F.ex
  refine fn_of lk hcd S (fun vs H Q E h => ?_) fun A outer s H vs Q E hr h => ?_
  · obtain ⟨r, ds, P', XR, hr, hi, hs, _, _⟩ := h
    rw [hi.length]
    exact len _ _ _ _ hs
  · obtain ⟨r, ds, P', XR, ro, hi, hs, hq, hx⟩ := h
    obtain ⟨t, ht, hread⟩ := hbody cdv A outer s H E hr (takes_of rfl rfl rfl rfl) (passes_of rfl)
    refine ⟨_, ht, startD N ds, r, { nx := fun _ r' => fit P' .non r', rt := fit P', xr := fitX XR }, start_ok ro hi ?_, hread ds r P' XR hs, ⟨fun δ' r' σ' H' a o k => ?_, fun d r' v H' a o k i => ?_, fun _ _ _ _ z => z.elim, fun _ _ _ _ z => z.elim⟩⟩
    · rintro C fs es δ' r' σ' a H' ⟨r0, l, q⟩ o k e
      exact hx C fs es r0 a H' q (l.r _ _ o.r) (k.trans l.kp) (e.anti l.m)
    · obtain ⟨r0, l, a⟩ := a
      exact hq _ r0 _ H' a (l.r _ _ o.r) (k.trans l.kp) .non
    · obtain ⟨r0, l, a⟩ := a
      exact hq _ r0 _ H' a (l.r _ _ o) (k.trans l.kp) (is_anti l.m i)
end
/-- what a body must give -/
def Bod (P : Program) (w : World) (K : PySem.W.Frag) (mg : Str → Option Value) (base : Heap) (qual : Str) (st : Stmt) (N : List Str) (k : Nat) (sd : SpX) : Prop :=
  ∀ (f : Addr) (cdv : Value) (A : Around) (outer : List Env) (s : Shared) (H : Hp) (E : XK), Room k (A.deeper (envOfC qual (defScope st) s.heap.objs.size f cdv)) → Takes (cxOf (L2.CX P w) P w K mg base N qual (defScope st) f cdv A outer s H E) (WK E) →
      PassesOwn (model P w) (cxOf (L2.CX P w) P w K mg base N qual (defScope st) f cdv A outer s H E).A (cxOf (L2.CX P w) P w K mg base N qual (defScope st) f cdv A outer s H E).env (cxOf (L2.CX P w) P w K mg base N qual (defScope st) f cdv A outer s H E).xe →
      ∃ t : AS, PBD (cxOf (L2.CX P w) P w K mg base N qual (defScope st) f cdv A outer s H E) (WK E) (defBody st) t ∧
      ∀ ds r P' XR, sd ds r P' XR → t { nx := fun _ r' => fit P' .non r', rt := fit P', xr := fitX XR } (startD N ds) r
/-- an own class: where it stands, how it answers -/
structure KCls (K : PySem.W.Frag) (mg : Str → Option Value) (x : Str) (C : Addr) (fs : List Str) : Prop where
  g : mg x = some (.ref C)
  p : Plain K C
  no : ∀ f ∈ fs, NoAttr K C f
  isk : IsK K C
theorem fm_nil {α : Type} {p : α → Prop} : ∀ x ∈ ([] : List α), p x := fun _ h => by cases h
theorem fm_cons {α : Type} {p : α → Prop} {a : α} {l : List α} (h : p a) (t : ∀ x ∈ l, p x) : ∀ x ∈ a :: l, p x := fun x hx => by
  rcases List.mem_cons.mp hx with e | hx
  · rw [e]; exact h
  · exact t x hx
/-- methods, static methods, makers: where their defs stand -/
def DfM (K : PySem.W.Frag) (C : Addr) (m qual : Str) (st : Stmt) (ps : List Str) : Prop := ∃ f fd, FunA K m qual st f fd ∧ Meth K C m f ∧ Binds K fd ps []
def DfE (K : PySem.W.Frag) (C : Addr) (qual : Str) (st : Stmt) (ps : List Str) : Prop := ∃ f fd, FunA K "__eq__" qual st f fd ∧ EqK K C f ∧ Binds K fd ps []
/-- .. and what they promise -/
def ClM (P : Program) (w : World) (K : PySem.W.Frag) (mg : Str → Option Value) (base : Heap) (k : Nat) (C : Addr) (m : Str) (sd : SpX) : Prop := ∃ f, Meth K C m f ∧ FR P w K mg base k f sd
def ClN (P : Program) (w : World) (K : PySem.W.Frag) (mg : Str → Option Value) (base : Heap) (k : Nat) (C : Addr) (dd : List D) (sd : SpX) : Prop := ∃ f, Mk K C f ∧ ∀ j, j ≤ dd.length → FR P w K mg base k f (fun ds r P XR => sd (ds ++ dd.drop j) r P XR)
def ClE (P : Program) (w : World) (K : PySem.W.Frag) (mg : Str → Option Value) (base : Heap) (k : Nat) (C : Addr) (sd : SpX) : Prop := ∃ f, EqK K C f ∧ FR P w K mg base k f sd
section
variable {P : Program} {w : World} {K : PySem.W.Frag} {mg : Str → Option Value} {base : Heap} {C : Addr} {m qual : Str} {st : Stmt} {N ps : List Str} {dd : List D} {k j : Nat} {sd sd' : SpX}
theorem clm_of (d : DfM K C m qual st ps) (S : FnScope N ps (defScope st)) (len : ∀ ds r P' XR, sd ds r P' XR → ds.length = ps.length) (h : Bod P w K mg base qual st N k sd) : ClM P w K mg base (k + 1) C m sd := by
  obtain ⟨f, fd, F, M, b⟩ := d
  exact ⟨f, M, fr_of (fnA_d F S len (h f)) b⟩
theorem cle_of (d : DfE K C qual st ps) (S : FnScope N ps (defScope st)) (len : ∀ ds r P' XR, sd ds r P' XR → ds.length = ps.length) (h : Bod P w K mg base qual st N k sd) : ClE P w K mg base (k + 1) C sd := by
  obtain ⟨f, fd, F, M, b⟩ := d
  exact ⟨f, M, fr_of (fnA_d F S len (h f)) b⟩
end
section
variable {X : Cx} {W : WX} {k j : Nat} {C : Addr} {sd : SpX} {dd : List D} {x y m : Str} {fs : List Str} {p q apos pos : Pos} {e o a b : Expr} {es : List Expr} {l : AL} {to ta tb : AT} {pl : Sem Bool}
theorem d_mt (M : ClM X.prog X.w X.K X.mg X.base k C m sd) (tk : Takes X W) (hr : Room j X.A) (ho : PD X W o to) (ha : PDL X W (e :: es) l) (hj : k ≤ j := by first | decide | exact Nat.le_refl _ | omega)
    (hst : starEach (e :: es) X.env = (false, eval e X.env) :: starEach es X.env := by rfl) (hpl : (backTo pos (starEach es X.env)).any (·.1) = false := by rfl)
    (ht : eval (.Call (.Attribute o m apos) (e :: es) [] pos) X.env = (do
      let ov ← eval o X.env
      standAt apos.atName
      let (f, first) ← holding [ov] (getMethod ov m pl)
      callWith pos f first (backTo pos (starEach (e :: es) X.env)) (backToKw pos (keywordEach [] X.env))) := by rfl) :
    PD X W (.Call (.Attribute o m apos) (e :: es) [] pos) (aMeth C sd to l) := by
  obtain ⟨f, M, F⟩ := M
  exact d_meth M F tk (hr.mono hj) ho ha hst hpl ht
theorem d_mt0 (M : ClM X.prog X.w X.K X.mg X.base k C m sd) (tk : Takes X W) (hr : Room j X.A) (ho : PD X W o to) (hj : k ≤ j := by first | decide | exact Nat.le_refl _ | omega)
    (ht : eval (.Call (.Attribute o m apos) [] [] pos) X.env = (do
      let ov ← eval o X.env
      standAt apos.atName
      let (f, first) ← holding [ov] (getMethod ov m pl)
      callWith pos f first (backTo pos (starEach [] X.env)) (backToKw pos (keywordEach [] X.env))) := by rfl) :
    PD X W (.Call (.Attribute o m apos) [] [] pos) (aMeth C sd to aNil) := by
  obtain ⟨f, M, F⟩ := M
  exact d_meth0 M F tk (hr.mono hj) ho ht
theorem d_eqi (M : ClE X.prog X.w X.K X.mg X.base k C sd) (hr : Room j X.A) (ha : PD X W a ta) (hb : PD X W b tb) (hj : k ≤ j := by first | decide | exact Nat.le_refl _ | omega) : PD X W (.Compare a [.Eq] [b] pos) (aEqI C sd false ta tb) := by
  obtain ⟨f, M, F⟩ := M
  exact d_eqI M F (hr.mono hj) ha hb
end
end G
namespace G
open PySem PySem.Spec PySem.W L2 PyProof.Rows
theorem lookup_mem : ∀ {α : Type} {l : List (Str × α)} {x : Str} {k : α}, l.lookup x = some k → (x, k) ∈ l
  | _, [], x, k, h => by cases h
  | _, (y, j) :: l, x, k, h => by
    rw [List.lookup] at h
    split at h
    · rename_i e
      cases h
      rw [beq_iff_eq.mp e]
      exact List.mem_cons_self
    · exact List.mem_cons_of_mem _ (lookup_mem h)
def freeOk (q : Str × NameKind) : Bool := match q.2 with
  | .cell => false
  | .free => q.1 == "__class__"
  | _ => true
theorem free_of {l : List (Str × NameKind)} (h : l.all freeOk = true) : (∀ x, l.lookup x = some .cell ∨ l.lookup x = some .free → x = "__class__") ∧ ∀ x ∈ l, x.2 ≠ .cell := by
  refine ⟨fun x e => ?_, fun x hx e => ?_⟩
  · rcases e with e | e
    · have := List.all_eq_true.mp h _ (lookup_mem e)
      cases this
    · have := List.all_eq_true.mp h _ (lookup_mem e)
      exact beq_iff_eq.mp this
  · have := List.all_eq_true.mp h x hx
    unfold freeOk at this
    rw [e] at this
    cases this
/-- what an except clause and a read of the field ask, too -/
structure ErrX (P : Program) (w : World) (K : PySem.W.Frag) (mg : Str → Option Value) (base : Heap) (x : Str) (C : Addr) (fld : Str) : Prop where
  c : ErrC P w K mg base x C fld
  xf : XfC K C
  no : findIn K (.ref C) fld = some none
  hd : hasDictIn K C = true
  se : subIn K (.ref C) (.ref C) = some true
theorem errX_mk {P : Program} {w : World} {K : PySem.W.Frag} {h : Heap} {mg : Str → Option Value} {base : Heap} (X : K.In h) (G : h.Ns mainGlobals mg) {x fld prm qual : Str} {C fI cc cda N : Addr} {st : Stmt} {dV kV doc pm ct oc ccl cl : Value} {an od cdd cld : Option Addr} {osl ccs csl : Array (Option Value)} {vs0 : Array Value} {file : Str} {tf : Tok}
    {p0 p1 p2 p3 p4 p5 p6 p7 p8 p9 : Pos} {txt : Str} {jj : _} {nm q : Str} {bs bm : List Value} {sn : List Str} {sub : List Value} {ab : Bool} {col : Option Bool} {dd : Option Addr} {k0 k1 k2 k3 k5 : Option Value}
    (cg : nsIn K mainGlobals x = some (some (.ref C))) (xL : K.lookup C = some (excClassObj nm q C N bs bm true sn sub ab col dd k0 k1 k2 k3 k5 "ValueError.__new__"))
    (sa : findIn K (.ref C) "__setattr__" = some (some (.builtin "object.__setattr__"))) (exC : subIn K (.ref C) (.type "BaseException") = some true) (tyC : typeIn K (.ref C) = some (.type "type")) (kC : keepIn K (.ref C) = true)
    (i1 : findIn K (.ref C) "__init__" = some (some (.ref fI))) (i2 : typeIn K (.ref fI) = some (.type "function"))
    (mro : mroIn K C (.ref C) = some true) (sve : subIn K (.ref C) (.type "ValueError") = some true) (sup : ks_superIn K C C "__init__" = some (some (.builtin "ValueError.__init__"))) (opq : nsIn K cStatics "thirdparty.any" = some none) (zs : nsIn K mainGlobals "super" = some none)
    (lk : K.lookup fI = some ⟨oc, od, .func (ksFn "__init__" qual (defArgs st) (defBody st) (defScope st) dV kV doc pm an (.ref cda) ct cc), osl⟩)
    (hcd : codeIn K (.ref cda) qual = true) (hno : findIn K (.ref C) fld = some none)
    (hcode : K.lookup cda = some ⟨ccl, cdd, .fields vs0, ccs⟩) (hcell : K.lookup cc = some ⟨cl, cld, .cell (some (.ref C)), csl⟩)
    (ga : findIn K (.ref C) "__getattribute__" = some (some (.builtin "BaseException.__getattribute__"))) (gg : findIn K (.ref C) "__getattr__" = some none) (hd : hasDictIn K C = true) (se : subIn K (.ref C) (.ref C) = some true)
    (hbm : PySem.HandSPX.refsVE bm = true) (hvs : vs0[2]? = some (.str file tf)) (hfile : ((P.main.file : Str) == file) = true) (top : (P.main.scope.names.lookup ("super" : Str)).isSome = false)
    (hbody : defBody st = [.Expr (.Call (.Attribute (.Call (.Name "super" p0) [] [] p1) "__init__" p2) [.Constant (.str txt) jj p3] [] p4) p5, .Assign [.Attribute (.Name "self" p6) fld p7] (.Name prm p8) p9])
    (hp : ∃ ar : Arg, ((defArgs st).posonlyargs ++ (defArgs st).args).head? = some ar ∧ ar.arg = "self")
    (hnm : (defScope st).names.lookup ("self" : Str) = some .local ∧ (defScope st).names.lookup prm = some .local ∧ (defScope st).names.lookup ("super" : Str) = some .globalImplicit ∧ (defScope st).names.lookup ("__class__" : Str) = some .free)
    (hfree : (defScope st).names.all freeOk = true) (hsc : (defScope st).isCoroutine = false ∧ (defScope st).isGenerator = false ∧ (defScope st).kind = .function) (hps : ("self" : Str) ≠ prm) (hcdbg : (prm == ("__debug__" : Str)) = false ∧ (prm == ("__classdict__" : Str)) = false)
    (hin : ∀ L, interactive (ksEnv qual (defScope st) L fI (.ref cda) cc) = false)
    (hpl1 : ∀ L, swapsWith (.Call (.Attribute (.Call (.Name "super" p0) [] [] p1) "__init__" p2) [.Constant (.str txt) jj p3] [] p4) none p5.line (ksEnv qual (defScope st) L fI (.ref cda) cc) = pure false)
    (hev : ∀ L, ∃ pl : Sem Bool, eval (.Call (.Attribute (.Call (.Name "super" p0) [] [] p1) "__init__" p2) [.Constant (.str txt) jj p3] [] p4) (ksEnv qual (defScope st) L fI (.ref cda) cc) = (do
      let ov ← attributeBase (.Call (.Name "super" p0) [] [] p1) "__init__" (ksEnv qual (defScope st) L fI (.ref cda) cc) (eval (.Call (.Name "super" p0) [] [] p1) (ksEnv qual (defScope st) L fI (.ref cda) cc))
      standAt p2.atName
      let (f, first) ← holding [ov] (getMethod ov "__init__" pl)
      callWith p4 f first (backTo p4 (starEach [.Constant (.str txt) jj p3] (ksEnv qual (defScope st) L fI (.ref cda) cc))) []))
    (hpl2 : ∀ L, swapsWith (.Name prm p8) (some (.Attribute (.Name "self" p6) fld p7)) p9.line (ksEnv qual (defScope st) L fI (.ref cda) cc) = pure false)
    (bnd : ∀ us : List Value, us.length = 2 → bindArgs (ksFn "__init__" qual (defArgs st) (defBody st) (defScope st) dV kV doc pm an (.ref cda) ct cc) ⟨us, []⟩ = pure ((["self", prm] : List Str).zip us)) : ErrX P w K mg base x C fld := by
  have oc : OexC K C := ⟨⟨_, _, _, _, _, _, _, _, _, _, _, _, _, _, _, xL, hbm⟩, sa, exC, tyC, kC⟩
  have T : ErrK P K mg C := ⟨oc, mro, sve, sup, opq, mg_none_of X G zs, top⟩
  obtain ⟨f1, f2⟩ := free_of hfree
  obtain ⟨cd0, hD, _⟩ := any_some hd
  refine ⟨⟨mg_of X G cg, oc, fI, _, prm, i1, i2, ?_, .all bnd⟩, ⟨ga, gg, exC, hd⟩, hno, hd, se⟩
  rw [hbody] at lk ⊢
  exact exinit (j := 0) (cdv := .none) T lk hcd hD hno hcode hvs hfile hcell hp hnm f1 f2 hsc hps hcdbg hin hpl1 hev hpl2
end G
namespace G
open PySem PySem.Spec L2
def melt (i : Nat) (t : AS) : AS := fun A δ r => ∃ q ds pre post, lk δ i = some (.adr q) ∧ r = pre ++ lstA q ds :: post ∧ t A (δ.set i (some (.lst ds))) (pre ++ post)
theorem Okb.name {K : PySem.W.Frag} {r : Rs} {δ : Dl} {σ : L2.St} {H : Hp} (o : Okb K r δ σ H) {i : Nat} {d d' : D} (hi : δ[i]? = some (some d)) (h : ∀ v, Is K (mem r) H v d → Is K (mem r) H v d') : Okb K r (δ.set i (some d')) σ H := by
  refine ⟨fun j e he => ?_, o.r, by rw [List.length_set]; exact o.len⟩
  by_cases hj : j = i
  · subst hj
    have hl : j < δ.length := by
      have := (List.getElem?_eq_some_iff.mp he).1
      rwa [List.length_set] at this
    rw [List.getElem?_set_self hl] at he
    cases he
    obtain ⟨v, h1, h2⟩ := o.env j d hi
    exact ⟨v, h1, h v h2⟩
  · rw [List.getElem?_set_ne (Ne.symm hj)] at he
    exact o.env j e he
theorem tsd_melt {K : PySem.W.Frag} {W : WX} {t : AS} {i : Nat} {D : Ends} {σ : L2.St} {H : Hp} (h : TSD K W (melt i t) D σ H) : TSD K W t D σ H := by
  obtain ⟨δ, r, A, o, ⟨q, ds, pre, post, hl, rfl, h⟩, f⟩ := h
  obtain ⟨h1, h2, h3⟩ := own_drop o.r
  refine ⟨_, _, A, ⟨(o.b.step h3 h1).name (lk_get hl) (fun v z => by cases z; exact h2), o.x.step h3⟩, h, ⟨fun δ' r' σ' H' a o' k => f.nx _ _ _ _ a o' (h3.trans k), fun d r' v H' a o' k i => f.rt _ _ _ _ a o' (h3.trans k) i, fun δ' r' σ' H' a o' k => f.bk _ _ _ _ a o' (h3.trans k), fun δ' r' σ' H' a o' k => f.ct _ _ _ _ a o' (h3.trans k)⟩⟩
section
variable {X : Cx} {W : WX} {st : Stmt} {t : AS}
theorem s_melt (i : Nat) (h : PSD X W st t) : PSD X W st (melt i t) := imS h fun D σ H q => tsd_melt q
end
theorem hcc {K : PySem.W.Frag} {c : Value} {C : Addr} {b : Bool} {l : List (Addr × Bool)} (h : PySem.W.exmOne K (.ref C) c = some b) (t : ∀ p ∈ l, PySem.W.exmOne K (.ref p.1) c = some p.2) : ∀ p ∈ (C, b) :: l, PySem.W.exmOne K (.ref p.1) c = some p.2 := fm_cons h t
end G
namespace G
open PySem PySem.Spec L2
open PyProof.Rows (envOfC)
section
variable {X : Cx} {W : WX} {a b : Expr} {ta tb : AT} {pos : Pos}
theorem d_cmpO {op : CmpOp} {o : Rs → O2} (ho : OpR X (compareOp op) (rD2 X.K o)) (ha : PD X W a ta) (hb : PD X W b tb) (hm : behindInMarks op b = false := by first | exact nomark _ | with_unfolding_all rfl) : PD X W (.Compare a [op] [b] pos) (aOp2 o ta tb) :=
  imE (pe_cmpR ho ha hb hm) fun _ _ _ q => td_op2 q
theorem b_cmpO {op : CmpOp} {o : Rs → O2} (ho : OpR X (compareOp op) (rD2 X.K o)) (ha : PD X W a ta) (hb : PD X W b tb) (hm : behindInMarks op b = false := by first | exact nomark _ | with_unfolding_all rfl) : PDB X W (.Compare a [op] [b] pos) (aTest (aOp2 o ta tb)) :=
  imT (pt_cmpR ho ha hb hm) fun _ _ _ q => tdb_test (fun _ q => td_op2 q) q
end
theorem all_split {K : PySem.W.Frag} {M : Addr → Prop} {H : Hp} : ∀ {a rest : List D} {vs : List V}, IsAll K M H vs (a ++ rest) → ∃ ws us, vs = ws ++ us ∧ IsAll K M H ws a ∧ IsAll K M H us rest
  | [], rest, vs, h => ⟨[], vs, rfl, .nil, h⟩
  | d :: a, rest, _, .cons h t => by
    obtain ⟨ws, us, e, h1, h2⟩ := all_split (a := a) t
    exact ⟨_ :: ws, us, by rw [e]; rfl, .cons h h1, h2⟩
/-- the promise of a def with *args, told of its arguments one by one -/
def starP (n : Nat) (sd : SpX) : SpX := fun ds r P XR => ∃ a rest, ds = a ++ rest ∧ a.length = n ∧ rest.length ≤ 1000000 ∧ sd (a ++ [.tup rest]) r P XR
end G
namespace G
open PySem PySem.Spec L2
open PyProof.Rows (envOfC)
end G
namespace G
open PySem PySem.Spec L2
open PyProof.Rows (envOfC)
inductive IsKV (K : PySem.W.Frag) (M : Addr → Prop) (H : Hp) : List (Key × V) → List (Key × D) → Prop
  | nil : IsKV K M H [] []
  | cons {k : Key} {v : V} {d : D} {xs : List (Key × V)} {es : List (Key × D)} : Is K M H v d → IsKV K M H xs es → IsKV K M H ((k, v) :: xs) ((k, d) :: es)
def dGet (kvs : List (Key × D)) (k : Key) : Option D := (kvs.find? fun kv => decide (kv.1 = k)).map (·.2)
def dPut (kvs : List (Key × D)) (k : Key) (d : D) : List (Key × D) :=
  if (kvs.any fun kv => decide (kv.1 = k)) = true then kvs.map (fun kv => if kv.1 = k then (kv.1, d) else kv) else kvs ++ [(k, d)]
def dDrop (kvs : List (Key × D)) (k : Key) : List (Key × D) := kvs.filter fun kv => decide (kv.1 ≠ k)
def keyD : D → Option Key | .int i => some (.inl i) | .str z => some (.inr z) | _ => none
theorem dGet_pos {k : Key} {d : D} {r : List (Key × D)} : dGet ((k, d) :: r) k = some d := by simp [dGet]
theorem dGet_neg {k j : Key} {d : D} {r : List (Key × D)} (h : j ≠ k) : dGet ((j, d) :: r) k = dGet r k := by simp [dGet, List.find?_cons, h]
section
variable {K : PySem.W.Frag} {N N' : Addr → Prop} {H H' : Hp}
theorem IsKV.go (f : ∀ v d, Is K N H v d → Is K N' H' v d) : ∀ {xs : List (Key × V)} {es : List (Key × D)}, IsKV K N H xs es → IsKV K N' H' xs es
  | _, _, .nil => .nil
  | _, _, .cons h t => .cons (f _ _ h) (IsKV.go f t)
theorem IsKV.length : ∀ {xs : List (Key × V)} {es : List (Key × D)}, IsKV K N H xs es → xs.length = es.length
  | _, _, .nil => rfl
  | _, _, .cons _ t => by rw [List.length_cons, List.length_cons, IsKV.length t]
theorem IsKV.any (k : Key) : ∀ {xs : List (Key × V)} {es : List (Key × D)}, IsKV K N H xs es → (xs.any fun kv => decide (kv.1 = k)) = es.any fun kv => decide (kv.1 = k)
  | _, _, .nil => rfl
  | _, _, .cons _ t => by rw [List.any_cons, List.any_cons, IsKV.any k t]
theorem IsKV.get (k : Key) : ∀ {xs : List (Key × V)} {es : List (Key × D)}, IsKV K N H xs es → match dGet es k with | some d => ∃ v, valV xs k = some v ∧ Is K N H v d | none => valV xs k = none
  | _, _, .nil => rfl
  | _, _, .cons (k := j) (v := v) (d := d) h t => by
    by_cases e : j = k
    · subst e
      rw [dGet_pos]
      exact ⟨v, valV_pos rfl, h⟩
    · rw [dGet_neg e, valV_neg e]
      exact IsKV.get k t
theorem IsKV.snoc {k : Key} {v : V} {d : D} (i : Is K N H v d) : ∀ {xs : List (Key × V)} {es : List (Key × D)}, IsKV K N H xs es → IsKV K N H (xs ++ [(k, v)]) (es ++ [(k, d)])
  | _, _, .nil => .cons i .nil
  | _, _, .cons h t => .cons h (IsKV.snoc i t)
theorem IsKV.repl {k : Key} {v : V} {d : D} (i : Is K N H v d) : ∀ {xs : List (Key × V)} {es : List (Key × D)}, IsKV K N H xs es → IsKV K N H (xs.map fun kv => if kv.1 = k then (kv.1, v) else kv) (es.map fun kv => if kv.1 = k then (kv.1, d) else kv)
  | _, _, .nil => .nil
  | _, _, .cons (k := j) h t => by
    rw [List.map_cons, List.map_cons]
    by_cases e : j = k
    · rw [if_pos e, if_pos e]
      exact .cons i (IsKV.repl i t)
    · rw [if_neg e, if_neg e]
      exact .cons h (IsKV.repl i t)
theorem IsKV.put {k : Key} {v : V} {d : D} {xs : List (Key × V)} {es : List (Key × D)} (h : IsKV K N H xs es) (i : Is K N H v d) : IsKV K N H (putK xs k v) (dPut es k d) := by
  unfold putK dPut
  rw [h.any k]
  split
  · exact h.repl i
  · exact h.snoc i
theorem IsKV.drop (k : Key) : ∀ {xs : List (Key × V)} {es : List (Key × D)}, IsKV K N H xs es → IsKV K N H (dropK xs k) (dDrop es k)
  | _, _, .nil => .nil
  | _, _, .cons (k := j) h t => by
    unfold dropK dDrop
    rw [List.filter_cons, List.filter_cons]
    have ih := IsKV.drop k t
    unfold dropK dDrop at ih
    by_cases e : j = k
    · rw [if_neg (by simp [e]), if_neg (by simp [e])]
      exact ih
    · rw [if_pos (by simp [e]), if_pos (by simp [e])]
      exact .cons h ih
theorem IsKV.of_zip : ∀ {xs : List (Key × V)} {ds : List D}, IsAll K N H (xs.map (·.2)) ds → IsKV K N H xs ((xs.map (·.1)).zip ds)
  | [], ds, h => by cases h; exact .nil
  | (k, v) :: xs, _, .cons h t => .cons h (IsKV.of_zip t)
theorem IsKV.unzip : ∀ {xs : List (Key × V)} {es : List (Key × D)}, IsKV K N H xs es → xs.map (·.1) = es.map (·.1) ∧ IsAll K N H (xs.map (·.2)) (es.map (·.2))
  | _, _, .nil => ⟨rfl, .nil⟩
  | _, _, .cons h t => ⟨by rw [List.map_cons, List.map_cons, (IsKV.unzip t).1], .cons h (IsKV.unzip t).2⟩
theorem key_val {v : V} {y : D} {key : Key} (hk : keyD y = some key) (i : Is K N H v y) : v = kV key := by
  cases i <;> simp [keyD] at hk <;> subst hk <;> rfl
end
def dctA (a : Addr) (kvs : List (Key × D)) : At where
  M := fun b => b = a
  R := fun K N H => ∃ xs : List (Key × V), H a = some (.dK xs) ∧ IsKV K N H xs kvs
  loc := fun f g ⟨xs, h, i⟩ => ⟨xs, f _ _ rfl h, i.go g⟩
  anti := fun e ⟨xs, h, i⟩ => ⟨xs, h, i.go fun _ _ => is_anti e⟩
  grow := fun hp ⟨xs, h, i⟩ => ⟨xs, h, i.go fun _ _ => is_growD hp⟩
  al := fun ⟨xs, h, _⟩ b z => ⟨.dK xs, by rw [show b = a from z]; exact h⟩
/-- a dict of our own that is locked while something walks over it -/
def lckA (a : Addr) (od : Obj) (xs : List (Key × V)) (kvs : List (Key × D)) : At where
  M := fun b => b = a
  R := fun K N H => H a = some (.frz od (.dK xs)) ∧ IsKV K N H xs kvs
  loc := fun f g ⟨h, i⟩ => ⟨f _ _ rfl h, i.go g⟩
  anti := fun e ⟨h, i⟩ => ⟨h, i.go fun _ _ => is_anti e⟩
  grow := fun hp ⟨h, i⟩ => ⟨h, i.go fun _ _ => is_growD hp⟩
  al := fun ⟨h, _⟩ b z => ⟨.frz od (.dK xs), by rw [show b = a from z]; exact h⟩
def OwnLk (r : Rs) (a : Addr) (kvs : List (Key × D)) : Prop := ∃ pre post od xs, r = pre ++ lckA a od xs kvs :: post
def OwnD (r : Rs) (a : Addr) (kvs : List (Key × D)) : Prop := ∃ pre post, r = pre ++ dctA a kvs :: post
section
variable {K : PySem.W.Frag} {r pre post : Rs} {H : Hp} {a p : Addr} {kvs es : List (Key × D)} {xs ys : List (Key × V)}
theorem dct_at (h : Rok K r H) (o : OwnD r a kvs) : ∃ xs, H a = some (.dK xs) ∧ IsKV K (mem r) H xs kvs := by
  obtain ⟨pre, post, rfl⟩ := o
  exact mid_R h
theorem lck_at (h : Rok K r H) (o : OwnLk r a kvs) : ∃ xs, Rd H a (.dK xs) ∧ IsKV K (mem r) H xs kvs := by
  obtain ⟨pre, post, od, xs, rfl⟩ := o
  obtain ⟨e, i⟩ := mid_R h
  exact ⟨xs, .inr ⟨od, e⟩, i⟩
theorem dct_put (h : Rok K (pre ++ dctA a kvs :: post) H) (i : IsKV K (mem (pre ++ dctA a kvs :: post)) H ys es) : Rok K (pre ++ dctA a es :: post) (upd H a (.dK ys)) ∧ Kp K (pre ++ dctA a kvs :: post) H (pre ++ dctA a es :: post) (upd H a (.dK ys)) := by
  obtain ⟨xs, e1, _⟩ := dct_at h ⟨pre, post, rfl⟩
  exact mid_put rfl rfl e1 (fun xs => ⟨(fun e => by cases e), fun o e => by cases e⟩) h fun go => ⟨ys, upd_same, i.go go⟩
theorem dct_drop (h : Rok K (pre ++ dctA a kvs :: post) H) : Rok K (pre ++ post) H ∧ Is K (mem (pre ++ post)) H (.ref a) (.dct (kvs.map (·.1)) (kvs.map (·.2))) ∧ Kp K (pre ++ dctA a kvs :: post) H (pre ++ post) H := by
  obtain ⟨h1, h2, h3⟩ := mid_drop h
  obtain ⟨xs, e1, e2⟩ := mid_R h
  obtain ⟨q1, q2⟩ := (e2.go h2).unzip
  exact ⟨h1, .dct (h3 a rfl) e1 q1 q2, h2⟩
end
inductive oDGet (r : Rs) : D → D → (Option D → Prop) → Prop
  | own {a : Addr} {kvs : List (Key × D)} {y : D} {key : Key} {k : Option D → Prop} (ow : OwnD r a kvs) (hk : keyD y = some key) (p : k (dGet kvs key)) : oDGet r (.adr a) y k
  | lck {a : Addr} {kvs : List (Key × D)} {y : D} {key : Key} {k : Option D → Prop} (ow : OwnLk r a kvs) (hk : keyD y = some key) (p : k (dGet kvs key)) : oDGet r (.adr a) y k
  | fro {ks : List Key} {ds : List D} {y : D} {key : Key} {k : Option D → Prop} (hk : keyD y = some key) (p : k (dGet (ks.zip ds) key)) : oDGet r (.dct ks ds) y k
theorem oDGet.imp {r : Rs} {d y : D} {k k' : Option D → Prop} (h : oDGet r d y k) (f : ∀ o, k o → k' o) : oDGet r d y k' := by
  cases h with
  | own ow hk p => exact .own ow hk (f _ p)
  | lck ow hk p => exact .lck ow hk (f _ p)
  | fro hk p => exact .fro hk (f _ p)
theorem dgets {K : PySem.W.Frag} {r : Rs} {H : Hp} {d y : D} {vd vy : V} {k : Option D → Prop} (h : oDGet r d y k) (ro : Rok K r H) (i1 : Is K (mem r) H vd d) (i2 : Is K (mem r) H vy y) :
    ∃ a xs o, vd = .ref a ∧ Rd H a (.dK xs) ∧ k o ∧ (match o with | some d => ∃ v, DGet H a vy (some v) ∧ Is K (mem r) H v d | none => DGet H a vy none) := by
  cases h with
  | @own a kvs _ key _ ow hk p =>
    cases i1
    obtain ⟨xs, e1, e2⟩ := dct_at ro ow
    have g := e2.get key
    refine ⟨a, xs, _, rfl, .inl e1, p, ?_⟩
    have hv := key_val hk i2
    subst hv
    cases q : dGet kvs key with
    | none =>
      rw [q] at g
      exact .inl ⟨xs, key, .inl e1, rfl, g.symm⟩
    | some d =>
      rw [q] at g
      obtain ⟨v, g1, g2⟩ := g
      exact ⟨v, .inl ⟨xs, key, .inl e1, rfl, g1.symm⟩, g2⟩
  | @lck a kvs _ key _ ow hk p =>
    cases i1
    obtain ⟨xs, e1, e2⟩ := lck_at ro ow
    have g := e2.get key
    refine ⟨a, xs, _, rfl, e1, p, ?_⟩
    have hv := key_val hk i2
    subst hv
    cases q : dGet kvs key with
    | none =>
      rw [q] at g
      exact .inl ⟨xs, key, e1, rfl, g.symm⟩
    | some d =>
      rw [q] at g
      obtain ⟨v, g1, g2⟩ := g
      exact ⟨v, .inl ⟨xs, key, e1, rfl, g1.symm⟩, g2⟩
  | @fro ks ds _ key _ hk p =>
    cases i1 with
    | @dct a xs _ _ n s e al =>
      have kv := IsKV.of_zip al
      rw [e] at kv
      have g := kv.get key
      refine ⟨a, xs, _, rfl, .inl s, p, ?_⟩
      have hv := key_val hk i2
      subst hv
      cases q : dGet (ks.zip ds) key with
      | none =>
        rw [q] at g
        exact .inl ⟨xs, key, .inl s, rfl, g.symm⟩
      | some d =>
        rw [q] at g
        obtain ⟨v, g1, g2⟩ := g
        exact ⟨v, .inl ⟨xs, key, .inl s, rfl, g1.symm⟩, g2⟩
def aDNew : AT := fun x δ r P => ∀ p, P (.adr p) (r ++ [dctA p []])
def aDIx (td ty : AT) : AT := fun x δ r P => td x δ r fun d r1 => ty x δ r1 fun y r2 => oDGet r2 d y fun o => ∃ z, o = some z ∧ P z r2
inductive oDPut (r : Rs) (y z : D) : D → (Rs → Prop) → Prop
  | mk {a : Addr} {k : Rs → Prop} (pre post : Rs) (kvs : List (Key × D)) (key : Key) (e : r = pre ++ dctA a kvs :: post) (hk : keyD y = some key) (sz : small (kvs.length + 1)) (p : k (pre ++ dctA a (dPut kvs key z) :: post)) : oDPut r y z (.adr a) k
def sDPutA (td ty tv : AT) : AS := fun A δ r => tv A.xr δ r fun z r1 => td A.xr δ r1 fun d r2 => ty A.xr δ r2 fun y r3 => oDPut r3 y z d fun r4 => A.nx δ r4
structure oDIn (neg : Bool) (r : Rs) (x y : D) (k : D → Prop) : Prop where
  ex : oDGet r y x fun o => k (.bl (cond neg (!o.isSome) o.isSome))
section
variable {X : Cx} {W : WX} {o i e f value : Expr} {pos pos' apos cpos : Pos} {td ty tv tx : AT}
theorem d_dnew : PD X W (.Dict [] [] pos) aDNew := imE pe_dnewK fun σ H Q q => by
  obtain ⟨XR, δ, r, P, o, h, k⟩ := q
  intro p hp
  obtain ⟨q1, q2⟩ := mid_new (t := dctA p []) rfl o.r hp (Ext.new hp) fun _ => ⟨[], upd_same, .nil⟩
  exact k _ _ _ _ (h p) (o.step q2 q1) q2 (.adr p)
theorem d_dix (hu : X.A.units + 65 < cLine) (ho : PD X W o td) (hi : PD X W i ty) (hs : NoSl i := by exact fun _ _ => rfl) : PD X W (.Subscript o i pos) (aDIx td ty) := imE (pe_dget (by omega) ho hi hs) fun σ H Q q => by
  obtain ⟨XR, δ, r, P, ok, h, k⟩ := q
  refine td_bind ok h fun d r1 v1 H1 h1 o1 k1 i1 => td_bind o1 h1 fun y r2 v2 H2 h2 o2 k2 i2 => ?_
  obtain ⟨a, xs, oo, rfl, e1, ⟨z, rfl, p⟩, g⟩ := dgets h2 o2.r (k2 _ _ i1) i2
  obtain ⟨v, g1, g2⟩ := g
  exact ⟨a, v, rfl, g1, k _ _ _ _ p o2 (k1.trans k2) g2⟩
theorem s_dput (hu : X.A.units + 65 < cLine) (ho : PD X W o td) (hi : PD X W i ty) (hv : PD X W value tv) (hs : swapsWith value (some (.Subscript o i pos')) pos.line X.env = pure false := by rfl) : PSD X W (.Assign [.Subscript o i pos'] value pos) (sDPutA td ty tv) :=
  imS (ps_dput (by omega) ho hi hv hs) fun Dd σ H ⟨δ, r, A, ok, h, ff⟩ => td_bind ok h fun z r1 v H1 h1 o1 k1 i1 => td_bind o1 h1 fun d r2 v2 H2 h2 o2 k2 i2 => td_bind o2 h2 fun y r3 v3 H3 h3 o3 k3 i3 => by
    cases h3 with
    | @mk a _ pre post kvs key e hk sz p =>
      cases i2
      subst e
      obtain ⟨xs, e1, e2⟩ := dct_at o3.r ⟨pre, post, rfl⟩
      have hv := key_val hk i3
      subst hv
      obtain ⟨q1, q2⟩ := dct_put o3.r (e2.put (k := key) (k3 _ _ (k2 _ _ i1)))
      exact ⟨a, _, rfl, .inl ⟨xs, key, e1, rfl, by rw [e2.length]; exact Nat.lt_of_lt_of_le (Nat.lt_succ_self _) sz.sz, rfl⟩, ff.nx _ _ _ _ p (o3.step q2 q1) (((k1.trans k2).trans k3).trans q2)⟩
theorem p_din (hu : X.A.units + 65 < cLine) : OpR X (compareOp .In) (rD2 X.K (oDIn false)) := by
  rintro pins s σ H x y v u Q I rx ry ⟨r, d1, d2, P, hr, i1, i2, ⟨ho⟩, k⟩
  obtain ⟨a, xs, oo, rfl, e1, p, g⟩ := dgets ho hr i2 i1
  obtain rfl : u = Value.ref a := ry
  cases oo with
  | none => exact d_in (by omega) I g rx fun s' I' => ⟨.bl _, H, I', rfl, k _ _ H p (Ext.refl H) (.bl _)⟩
  | some d =>
    obtain ⟨w, g1, g2⟩ := g
    exact d_in (by omega) I g1 rx fun s' I' => ⟨.bl _, H, I', rfl, k _ _ H p (Ext.refl H) (.bl _)⟩
theorem p_dnin (hu : X.A.units + 65 < cLine) : OpR X (compareOp .NotIn) (rD2 X.K (oDIn true)) := by
  rintro pins s σ H x y v u Q I rx ry ⟨r, d1, d2, P, hr, i1, i2, ⟨ho⟩, k⟩
  obtain ⟨a, xs, oo, rfl, e1, p, g⟩ := dgets ho hr i2 i1
  obtain rfl : u = Value.ref a := ry
  cases oo with
  | none => exact d_notIn (by omega) I g rx fun s' I' => ⟨.bl _, H, I', rfl, k _ _ H p (Ext.refl H) (.bl _)⟩
  | some d =>
    obtain ⟨w, g1, g2⟩ := g
    exact d_notIn (by omega) I g1 rx fun s' I' => ⟨.bl _, H, I', rfl, k _ _ H p (Ext.refl H) (.bl _)⟩
/-- is a dict -/
def isDc (d : D) (r : Rs) : Prop := (∃ a kvs, d = .adr a ∧ (OwnD r a kvs ∨ OwnLk r a kvs)) ∨ ∃ ks ds, d = .dct ks ds
theorem isDc_at {K : PySem.W.Frag} {r : Rs} {H : Hp} {d : D} {v : V} (h : isDc d r) (ro : Rok K r H) (i : Is K (mem r) H v d) : ∃ a xs, v = .ref a ∧ Rd H a (.dK xs) := by
  rcases h with ⟨a, kvs, rfl, ow | ow⟩ | ⟨ks, ds, rfl⟩
  · cases i
    obtain ⟨xs, e, _⟩ := dct_at ro ow
    exact ⟨a, xs, rfl, .inl e⟩
  · cases i
    obtain ⟨xs, e, _⟩ := lck_at ro ow
    exact ⟨a, xs, rfl, e⟩
  · cases i with
    | dct n s e al => exact ⟨_, _, rfl, .inl s⟩
def aDGt2 (td ty tx : AT) : AT := fun x δ r P => td x δ r fun d r1 => isDc d r1 ∧ ty x δ r1 fun y r2 => tx x δ r2 fun z r3 => oDGet r3 d y fun o => P (o.getD z) r3
theorem d_dgt2 (hu : X.A.units + 65 < cLine) (ho : PD X W o td) (he : PD X W e ty) (hf : PD X W f tx) (m : M2 X o "get" apos e f cpos) : PD X W (.Call (.Attribute o "get" apos) [e, f] [] cpos) (aDGt2 td ty tx) := imE (pe_dget2 (by omega) ho he hf m) fun σ H Q q => by
  obtain ⟨XR, δ, r, P, ok, h, k⟩ := q
  refine td_bind ok h fun d r1 v1 H1 ⟨hd, h1⟩ o1 k1 i1 => ?_
  obtain ⟨a, xs, rfl, e1⟩ := isDc_at hd o1.r i1
  refine ⟨a, rfl, .inl ⟨xs, e1⟩, td_bind o1 h1 fun y r2 v2 H2 h2 o2 k2 i2 => td_bind o2 h2 fun z r3 v3 H3 h3 o3 k3 i3 => ?_⟩
  obtain ⟨a', xs', oo, ea, e2, p, g⟩ := dgets h3 o3.r (k3 _ _ (k2 _ _ i1)) (k3 _ _ i2)
  cases ea
  cases oo with
  | none => exact ⟨none, g, k _ _ _ _ p o3 ((k1.trans k2).trans k3) i3⟩
  | some d =>
    obtain ⟨w, g1, g2⟩ := g
    exact ⟨some w, g1, k _ _ _ _ p o3 ((k1.trans k2).trans k3) g2⟩
end
structure aDcK (x : XT) (g : AG) (tt : AB) (tk te : AT) (δw : Dl) (ds : List D) (r1 : Rs) (P : PK1) : Prop where
  ex : ∃ I : Nat → List (Key × D) → Rs → Prop, I 0 [] r1 ∧
  (∀ (p : Addr) i d acc r', ds[i]? = some d → I i acc r' → g d δw fun δ2 => tt x δ2 (r' ++ [dctA p acc]) fun b r2 =>
    (b = true → tk x δ2 r2 fun y r3 => te x δ2 r3 fun z r4 => ∃ key, keyD y = some key ∧ small (acc.length + 1) ∧ ∃ r5, r4 = r5 ++ [dctA p acc] ∧ I (i + 1) (dPut acc key z) r5) ∧ (b = false → ∃ r4, r2 = r4 ++ [dctA p acc] ∧ I (i + 1) acc r4)) ∧
  ∀ (p : Addr) acc r', I ds.length acc r' → P (.adr p) (r' ++ [dctA p acc])
def aDc (ti : AI) (g : AG) (tt : AB) (tk te : AT) (vs : List Nat) : AT := fun x δ r P => ti x δ r fun ds r1 => aDcK x g tt tk te (wipeD δ vs) ds r1 P
theorem td_dc {K : PySem.W.Frag} {W : WX} {ti : AI} {g : AG} {tt : AB} {tk te : AT} {vs js : List Nat} (hj : ∀ j ∈ js, j ∈ vs) {σ : L2.St} {H : Hp} {Q : VK} (q : TD K W (aDc ti g tt tk te vs) σ H Q) : tDc (TDI K W ti) (TDG K js g) (TDB K W tt) (TD K W tk) (TD K W te) vs σ H Q := by
  obtain ⟨XR, δ, r, P, o, h, k⟩ := q
  refine ⟨XR, δ, r, _, o, h, fun ds r1 J H1 ⟨⟨I, h0, hst, hd⟩⟩ o1 k1 w p hp => ?_⟩
  obtain ⟨s1, s2⟩ := mid_new (t := dctA p []) rfl o1.r hp (Ext.new hp) fun _ => ⟨[], upd_same, .nil⟩
  refine ⟨fun i m H' => m = ds.length - i ∧ i ≤ ds.length ∧ ∃ acc r', I i acc r' ∧ Rok K (r' ++ [dctA p acc]) H' ∧ Kp K r1 H1 (r' ++ [dctA p acc]) H', ⟨ds.length, by simp, Nat.zero_le _, [], r1, h0, s1, s2⟩, ?_⟩
  rintro i m H' ⟨rfl, hi, acc, r', hI, ro, kp⟩
  by_cases hlt : i < ds.length
  · obtain ⟨hgo, hy⟩ := (w i _ H' kp ro).1 hlt
    refine .inr ⟨hgo, fun H2 => ∃ acc r2, I (i + 1) acc r2 ∧ Rok K (r2 ++ [dctA p acc]) H2 ∧ Kp K r1 H1 (r2 ++ [dctA p acc]) H2, fun H2 ⟨acc, r2, q1, q2, q3⟩ => ⟨ds.length - (i + 1), by omega, rfl, hlt, acc, r2, q1, q2, q3⟩, fun x H2 y => ?_⟩
    obtain ⟨ex, d, hd', ix⟩ := hy x H2 y
    have k2 := kp.trans (Kp.ext ex)
    have o2 : Ok K W XR (r' ++ [dctA p acc]) (wipeD δ vs) (wipe σ vs) H2 := (o1.step k2 (ro.ext ex)).wipe vs
    refine ⟨W, XR, wipeD δ vs, _, d, _, o2, ix, hst p i d acc r' hd' hI, fun δ2 σ2 q o3 ag => ⟨wipe_agree ag hj, XR, δ2, _, _, o3, q, fun b r3 H3 q3 o4 k4 => ?_⟩⟩
    cases b with
    | true =>
      show TD K W tk σ2 H3 _
      refine td_bind o4 (q3.1 rfl) fun y r5 v H5 h5 o5 k5 i5 => td_bind o5 h5 fun z r6 v6 H6 ⟨key, hk, sz, r7, e7, h7⟩ o6 k6 i6 => ?_
      subst e7
      obtain ⟨xs, e1, e2⟩ := dct_at o6.r ⟨r7, [], rfl⟩
      obtain ⟨q1, q2⟩ := dct_put o6.r (e2.put (k := key) i6)
      exact ⟨xs, key, key_val hk (k6 _ _ i5), e1, by rw [e2.length]; exact Nat.lt_of_lt_of_le (Nat.lt_succ_self _) sz.sz, _, r7, h7, q1, ((((k2.trans k4).trans k5).trans k6).trans q2)⟩
    | false =>
      show ∃ acc r2, _
      obtain ⟨r6, e6, h5⟩ := q3.2 rfl
      subst e6
      exact ⟨acc, r6, h5, o4.r, k2.trans k4⟩
  · have e : i = ds.length := by omega
    exact .inl ⟨(w i _ H' kp ro).2 e, k _ _ _ _ (hd p acc r' (e ▸ hI)) (o1.step kp ro) (k1.trans kp) (.adr p)⟩
theorem d_dc {X : Cx} {W : WX} {kx vx tg iter : Expr} {ifs : List Expr} {scope : Scope} {own : List (Str × Nat)} {pos : Pos} {js : List Nat} {wi : AI} {g : AG} {tt : AB} {tk te : AT} (hN : X.N.Nodup) (hi : PDI X W tg iter wi) (ok : BlkOk X.N X.env.scope scope own)
    (hg : ∀ (s : Shared) (H : Hp) (C : Addr) (cl : List (Str × Addr)) (fp : List Addr), PDG (X.blk s H scope (compEnvC scope cl C X.env) fp) tg js g) (ht : ∀ (s : Shared) (H : Hp) (C : Addr) (cl : List (Str × Addr)) (fp : List Addr), PTs (X.blk s H scope (compEnvC scope cl C X.env) fp) ifs (TDB X.K W tt))
    (hk : ∀ (s : Shared) (H : Hp) (C : Addr) (cl : List (Str × Addr)) (fp : List Addr), PD (X.blk s H scope (compEnvC scope cl C X.env) fp) W kx tk)
    (he : ∀ (s : Shared) (H : Hp) (C : Addr) (cl : List (Str × Addr)) (fp : List Addr), PD (X.blk s H scope (compEnvC scope cl C X.env) fp) W vx te) (hj : ∀ j ∈ js, j ∈ own.map (·.2) := by decide) (hc : X.calm = true := by rfl) (hs : ∀ x, foldedSetIterable iter X.env x = pure x := by intro _; rfl) :
    PD X W (.DictComp kx vx [⟨tg, iter, ifs, 0⟩] scope pos) (aDc wi g tt tk te (own.map (·.2))) :=
  imE (pe_dc (g := TDG X.K js g) (tt := TDB X.K W tt) (tk := TD X.K W tk) (tv := TD X.K W te) hc hN hi ok hg ht hk he hs) fun _ _ _ q => td_dc hj q
end G
namespace G
open PySem PySem.Spec L2
open PyProof.Rows (envOfC Call_ Subscript_)
structure GiK (K : PySem.W.Frag) (C f : Addr) (m : Str) : Prop where
  at_ : PySem.W.findIn K (.ref C) m = some (some (.ref f))
  fnI : PySem.W.fnIn K f = true
  fn : PySem.W.isFn K (.ref f) = true
/-- d op y by the class's own def, nothing changed in what the name of the def is -/
def aDun (C : Addr) (sd : SpX) (ta tb : AT) : AT := fun x δ r P => ta x δ r fun d r1 => tb x δ r1 fun y r2 => isC C d r2 ∧ sd [d, y] r2 P fun E fs es r' => x E fs es δ r'
def rDun (C : Addr) (sp : Sp) (E : XK) : V → V → Hp → VK → Prop := fun x y H Q => ∃ a dx kvs, x = .ref a ∧ H a = some (.ins C dx kvs) ∧ sp [x, y] H Q E
section
variable {X : Cx} {W : WX} {k : Nat} {C f : Addr} {sd : SpX} {ta tb : AT} {a b : Expr} {pos : Pos}
theorem td_dun {σ : L2.St} {H : Hp} {Q : VK} (q : TD X.K W (aDun C sd ta tb) σ H Q) : tOp (rDun C (lift X.K sd) (WE W σ)) (TD X.K W ta) (TD X.K W tb) σ H Q := by
  obtain ⟨XR, δ, r, P, ok, h, kk⟩ := q
  refine td_bind ok h fun d1 r1 v1 H1 h1 o1 k1 i1 => td_bind o1 h1 fun d2 r2 v2 H2 h2 o2 k2 i2 => ?_
  obtain ⟨hc, h2⟩ := h2
  obtain ⟨a, dx, kvs, rfl, s, gd⟩ := isC_at hc o2.r (k2 _ _ i1)
  exact ⟨a, dx, kvs, rfl, s, lift_at o2 (.cons (k2 _ _ i1) (.cons i2 .nil)) h2 fun d r' v H' p o3 k3 i3 => kk _ r' _ H' p o3 ((k1.trans k2).trans k3) i3⟩
theorem call_in1 {sp : Sp} {E : XK} {Q : VK} {pins : List (Addr × Obj)} {σ : L2.St} {H : Hp} {s : Shared} {us : List Value} {vs : List V} (F : FnR X.prog X.w X.K X.mg X.base (L2.CX X.prog X.w) k f sp) (hr : Room (k + 1) X.A) (hx : PassesAt (L2.CX X.prog X.w) X σ E) (I : L2.Inv X pins σ H s) (r : Vals vs us) (h : sp vs H Q E) :
    wpAny (model X.prog X.w) X.A.in1 (call (.ref f) us) (EP X pins σ Q) X.xe s := by
  refine wpAny_call (codeAny_mono (F X.A.in1 X.stack s H us vs Q E hr.in1 I.env0.in1 r h) fun r s' hq => ?_)
  cases r with
  | error e => exact hx pins H s e s' I hq
  | ok fl =>
    cases fl with
    | ret u => exact I.after hq
    | next => exact False.elim hq
    | brk => exact False.elim hq
    | cont => exact False.elim hq
/-- o[i] by __getitem__ -/
theorem d_gi (e : GiK X.K C f "__getitem__") (F : FR X.prog X.w X.K X.mg X.base k f sd) (tk : Takes X W) (hr : Room (k + 1) X.A) (ha : PD X W a ta) (hb : PD X W b tb)
    (hsl : ∀ x i, subscripted b true x i = runValue (.builtin "lifetime.subscript" ⟨[x, i], []⟩) := by intros; with_unfolding_all rfl) : PD X W (.Subscript a b pos) (aDun C sd ta tb) := by
  refine ⟨fun pins s σ H Q I h => ?_⟩
  have h2 := td_dun h
  refine Subscript_ (binT ha hb I h2 fun v u s2 x y H2 I2 rx ry ⟨p, dx, kvs, ex, hp, q⟩ => ?_)
  subst ex
  obtain rfl : v = Value.ref p := rx
  obtain ⟨mA, O, _⟩ := ins_get I2.hok hp
  obtain ⟨od, J, _⟩ := O.look
  obtain ⟨m, hF⟩ := I2.fr
  exact PySem.W.sub_K hF I2.ok.mod.kin J e.at_ e.fnI e.fn (call_in1 (us := [.ref p, u]) (vs := [.ref p, y]) F hr (passAt tk _) I2 (.cons rfl (.cons ry .nil)) q) (hsl _ _)
end
/-- x in o, x not in o by __contains__ -/
structure InK (K : PySem.W.Frag) (C f : Addr) : Prop where
  at_ : PySem.W.findIn K (.ref C) "__contains__" = some (some (.ref f))
  fn : PySem.W.isFn K (.ref f) = true
def aInI (C : Addr) (sd : SpX) (neg : Bool) (ta tb : AT) : AT := fun x δ r P => ta x δ r fun y r1 => tb x δ r1 fun d r2 => isC C d r2 ∧ sd [d, y] r2 (fun d r3 => ∃ b, d = .bl b ∧ P (.bl (cond neg (!b) b)) r3) noX
def rInI (C : Addr) (sp : Sp) (neg : Bool) : R2 := fun y x H Q => ∃ a dx kvs, x = .ref a ∧ H a = some (.ins C dx kvs) ∧ sp [x, y] H (fun v H' => ∃ b : Bool, v = .bl b ∧ Q (.bl (cond neg (!b) b)) H') E0
section
variable {X : Cx} {W : WX} {k : Nat} {C g : Addr} {sp : Sp} {sd : SpX} {ta tb : AT} {a b : Expr} {pos : Pos}
theorem op_inI (e : InK X.K C g) (F : FnR X.prog X.w X.K X.mg X.base (L2.CX X.prog X.w) k g sp) (hr : Room k X.A) : OpR X (compareOp .In) (rInI C sp false) := by
  intro pins s σ H y x v u Q I ry rx h
  obtain ⟨a, dx, kvs, rfl, ha, q⟩ := h
  cases (show u = Value.ref a from rx)
  obtain ⟨mA, O, _⟩ := ins_get I.hok ha
  obtain ⟨od, J, _⟩ := O.look
  obtain ⟨m, hF⟩ := I.fr
  refine PySem.W.in_K hF I.ok.mod.kin J e.at_ e.fn ?_
  refine thn (call_P (us := [.ref a, v]) (vs := [.ref a, y]) F hr passE I (.cons rfl (.cons ry .nil)) q) fun w s' z => ?_
  obtain ⟨z', H', I', rz, b, eb, qz⟩ := z
  subst eb
  obtain rfl : w = Value.bool b := rz
  exact wpAny_pure ⟨.bl _, H', I', rfl, qz⟩
theorem td_inI {neg : Bool} {σ : L2.St} {H : Hp} {Q : VK} (q : TD X.K W (aInI C sd neg ta tb) σ H Q) : tOp (rInI C (lift X.K sd) neg) (TD X.K W ta) (TD X.K W tb) σ H Q := by
  obtain ⟨XR, δ, r, P, ok, h, kk⟩ := q
  refine td_bind ok h fun d1 r1 v1 H1 h1 o1 k1 i1 => td_bind o1 h1 fun d2 r2 v2 H2 h2 o2 k2 i2 => ?_
  obtain ⟨hc, h2⟩ := h2
  obtain ⟨a, dx, kvs, rfl, s, gd⟩ := isC_at hc o2.r i2
  refine ⟨a, dx, kvs, rfl, s, lift_n o2 (.cons i2 (.cons (k2 _ _ i1) .nil)) h2 fun d r' v H' p o3 k3 i3 => ?_⟩
  obtain ⟨b, rfl, p⟩ := p
  cases i3
  exact ⟨b, rfl, kk _ r' _ H' p o3 ((k1.trans k2).trans k3) (.bl _)⟩
theorem d_inI (e : InK X.K C g) (F : FR X.prog X.w X.K X.mg X.base k g sd) (hr : Room k X.A) (ha : PD X W a ta) (hb : PD X W b tb) (hm : behindInMarks .In b = false := by with_unfolding_all rfl) : PD X W (.Compare a [.In] [b] pos) (aInI C sd false ta tb) := imE (pe_cmpR (op_inI e F hr) ha hb hm) fun _ _ _ q => td_inI q
end
end G
namespace G
open PySem PySem.Spec L2
open PyProof.Rows (envOfC)
def DfG (K : PySem.W.Frag) (C : Addr) (m qual : Str) (st : Stmt) (ps : List Str) : Prop := ∃ f fd, FunA K m qual st f fd ∧ GiK K C f m ∧ Binds K fd ps []
def DfI (K : PySem.W.Frag) (C : Addr) (qual : Str) (st : Stmt) (ps : List Str) : Prop := ∃ f fd, FunA K "__contains__" qual st f fd ∧ InK K C f ∧ Binds K fd ps []
def ClG (P : Program) (w : World) (K : PySem.W.Frag) (mg : Str → Option Value) (base : Heap) (k : Nat) (C : Addr) (m : Str) (sd : SpX) : Prop := ∃ f, GiK K C f m ∧ FR P w K mg base k f sd
def ClI (P : Program) (w : World) (K : PySem.W.Frag) (mg : Str → Option Value) (base : Heap) (k : Nat) (C : Addr) (sd : SpX) : Prop := ∃ f, InK K C f ∧ FR P w K mg base k f sd
section
variable {P : Program} {w : World} {K : PySem.W.Frag} {mg : Str → Option Value} {base : Heap} {C : Addr} {m qual pv : Str} {st : Stmt} {N ps : List Str} {k j : Nat} {sd sd' : SpX}
theorem clg_of (d : DfG K C m qual st ps) (S : FnScope N ps (defScope st)) (len : ∀ ds r P' XR, sd ds r P' XR → ds.length = ps.length) (h : Bod P w K mg base qual st N k sd) : ClG P w K mg base (k + 1) C m sd := by
  obtain ⟨f, fd, F, M, b⟩ := d
  exact ⟨f, M, fr_of (fnA_d F S len (h f)) b⟩
theorem cli_of (d : DfI K C qual st ps) (S : FnScope N ps (defScope st)) (len : ∀ ds r P' XR, sd ds r P' XR → ds.length = ps.length) (h : Bod P w K mg base qual st N k sd) : ClI P w K mg base (k + 1) C sd := by
  obtain ⟨f, fd, F, M, b⟩ := d
  exact ⟨f, M, fr_of (fnA_d F S len (h f)) b⟩
end
section
variable {X : Cx} {W : WX} {k j : Nat} {C : Addr} {sd : SpX} {pos : Pos} {a b : Expr} {ta tb : AT}
theorem d_gix (M : ClG X.prog X.w X.K X.mg X.base k C "__getitem__" sd) (tk : Takes X W) (hr : Room j X.A) (ha : PD X W a ta) (hb : PD X W b tb) (hj : k + 1 ≤ j := by first | decide | exact Nat.le_refl _ | omega)
    (hsl : ∀ x i, subscripted b true x i = runValue (.builtin "lifetime.subscript" ⟨[x, i], []⟩) := by intros; with_unfolding_all rfl) : PD X W (.Subscript a b pos) (aDun C sd ta tb) := by
  obtain ⟨f, M, F⟩ := M
  exact d_gi M F tk (hr.mono hj) ha hb hsl
theorem d_ini (M : ClI X.prog X.w X.K X.mg X.base k C sd) (hr : Room j X.A) (ha : PD X W a ta) (hb : PD X W b tb) (hj : k ≤ j := by first | decide | exact Nat.le_refl _ | omega) (hm : behindInMarks .In b = false := by with_unfolding_all rfl) : PD X W (.Compare a [.In] [b] pos) (aInI C sd false ta tb) := by
  obtain ⟨f, M, F⟩ := M
  exact d_inI M F (hr.mono hj) ha hb hm
end
/-- a dict by names -/
def nk (l : List (Str × D)) : List (Key × D) := l.map fun e => (Sum.inr e.1, e.2)
end G
namespace G
open PySem PySem.Spec L2
open PyProof.Rows (envOfC)
section
variable {X : Cx} {W : WX} {k j : Nat} {C : Addr} {sd : SpX} {m : Str} {apos pos : Pos} {o e : Expr} {es : List Expr} {to : AT} {l : AL} {pl : Sem Bool}
/-- o[i] that raises nothing -/
def aDunN (C : Addr) (sd : SpX) (ta tb : AT) : AT := fun x δ r P => ta x δ r fun d r1 => tb x δ r1 fun y r2 => isC C d r2 ∧ sd [d, y] r2 P noX
theorem d_gixN {a b : Expr} {ta tb : AT} (M : ClG X.prog X.w X.K X.mg X.base k C "__getitem__" sd) (hr : Room j X.A) (ha : PD X W a ta) (hb : PD X W b tb) (hj : k + 1 ≤ j := by first | decide | exact Nat.le_refl _ | omega)
    (hsl : ∀ x i, subscripted b true x i = runValue (.builtin "lifetime.subscript" ⟨[x, i], []⟩) := by intros; with_unfolding_all rfl) : PD X W (.Subscript a b pos) (aDunN C sd ta tb) := by
  obtain ⟨f, e, F⟩ := M
  refine ⟨fun pins s σ H Q I h => ?_⟩
  have h2 : tOp (rDun C (lift X.K sd) E0) (TD X.K W ta) (TD X.K W tb) σ H Q := by
    obtain ⟨XR, δ, r, P, ok, h, kk⟩ := h
    refine td_bind ok h fun d1 r1 v1 H1 h1 o1 k1 i1 => td_bind o1 h1 fun d2 r2 v2 H2 h2 o2 k2 i2 => ?_
    obtain ⟨hc, h2⟩ := h2
    obtain ⟨a, dx, kvs, rfl, s, gd⟩ := isC_at hc o2.r (k2 _ _ i1)
    exact ⟨a, dx, kvs, rfl, s, lift_n o2 (.cons (k2 _ _ i1) (.cons i2 .nil)) h2 fun d r' v H' p o3 k3 i3 => kk _ r' _ H' p o3 ((k1.trans k2).trans k3) i3⟩
  refine PyProof.Rows.Subscript_ (binT ha hb I h2 fun v u s2 x y H2 I2 rx ry ⟨p, dx, kvs, ex, hp, q⟩ => ?_)
  subst ex
  obtain rfl : v = Value.ref p := rx
  obtain ⟨mA, O, _⟩ := ins_get I2.hok hp
  obtain ⟨od, J, _⟩ := O.look
  obtain ⟨m, hF⟩ := I2.fr
  exact PySem.W.sub_K hF I2.ok.mod.kin J e.at_ e.fnI e.fn (call_in1 (us := [.ref p, u]) (vs := [.ref p, y]) F (hr.mono hj) passE I2 (.cons rfl (.cons ry .nil)) q) (hsl _ _)
end
end G
namespace G
open PySem PySem.Spec L2
open PyProof.Rows (envOfC)
end G
namespace G
open PySem PySem.Spec L2
open PyProof.Rows (envOfC)
def aIsiO (T : String) (t : AT) : AT := fun x δ r P => t x δ r fun d r1 => ∃ a xs, d = .adr a ∧ Own r1 a xs ∧ P (.bl (T == "list")) r1
section
variable {X : Cx} {W : WX} {a : Expr} {ta : AT} {p q pos : Pos} {T : String} {y : Str}
theorem d_isiO (ht : Ty5 T) (hg : Gl X "isinstance") (hm : X.mg "isinstance" = none) (ha : PD X W a ta) (gy : Gl X y) (my : X.mg y = none) (by_ : bootBuiltins y = some (.type T) := by decide +kernel) (hny : y ≠ "__name__" := by decide) (hdy : (y == ("__debug__" : Str)) = false := by decide)
    (he : starEach [a, .Name y q] X.env = (false, eval a X.env) :: starEach [.Name y q] X.env := by rfl) (hpl : (backTo pos (starEach [.Name y q] X.env)).any (·.1) = false := by rfl) (he2 : starEach [.Name y q] X.env = (false, eval (.Name y q) X.env) :: starEach [] X.env := by rfl) :
    PD X W (.Call (.Name "isinstance" p) [a, .Name y q] [] pos) (aIsiO T ta) := imE (pe_callB call_isi hg hm (by decide +kernel) (pa_cons ha (pa_cons (pe_bltn (v := .ty T) gy my by_ rfl hny hdy) pa_nil he2) he) (by decide) (by decide) he hpl) fun σ H Q q => by
  obtain ⟨XR, δ, r, P, ok, h, k⟩ := q
  refine td_bind ok h fun d r1 v H1 ⟨l, xs, e, ow, h1⟩ o1 k1 i1 => ?_
  subst e
  cases i1
  obtain ⟨vs, h2, al⟩ := own_get o1.r ow
  have kt : PySem.W.kitOne X.K (.type "list") (.type T) = some (T == "list") := by
    have := kit5 (K := X.K) ht (.lst []) rfl
    have e : isTy T (.lst []) = (T == "list") := by cases ht <;> decide
    rw [e] at this
    exact this
  exact ⟨.ref l, .ty T, _, _, _, rfl, .ty T, .base (.lst h2), kt, k _ r1 _ H1 h1 o1 k1 (.bl _)⟩
end
/-- [e(x) for x in ds], what e looks at being told -/
theorem lc_mapR {x : XT} {g : AG} {te : AT} {δw : Dl} {ds : List D} {r1 : Rs} {P : PK1} (f : D → D) (hz : small ds.length) (he : ∀ d ∈ ds, ∀ (p : Addr) (acc : List D) (P' : PK1), P' (f d) (r1 ++ [lstA p acc]) → g d δw fun δ2 => te x δ2 (r1 ++ [lstA p acc]) P') (hP : P (.lst (ds.map f)) r1) : aLcK x g bYes te δw ds r1 P := by
  refine ⟨fun i acc r' => acc = (ds.take i).map f ∧ r' = r1, ⟨rfl, rfl⟩, ?_, ?_⟩
  · rintro p i d acc r' hd ⟨rfl, rfl⟩
    refine Eq.mp ?_ (he d (List.mem_of_getElem? hd) p ((ds.take i).map f) (fun y r3 => small (((ds.take i).map f).length + 1) ∧ ∃ r4, le r3 (r4 ++ [lstA p ((ds.take i).map f)]) ∧ ((ds.take i).map f ++ [y] = (ds.take (i + 1)).map f ∧ r4 = r')) ?_)
    · congr 1
      funext δ2
      unfold bYes
      simp
    · refine ⟨?_, r', le.refl, ?_, rfl⟩
      · rw [List.length_map, List.length_take]
        have hi := (List.getElem?_eq_some_iff.mp hd).1
        have : small ds.length := hz
        unfold small at *
        omega
      · rw [List.take_add_one, hd, List.map_append]
        rfl
  · rintro acc r' ⟨rfl, rfl⟩
    rw [List.take_length]
    exact hP
end G
namespace G
open PySem PySem.Spec L2
end G
namespace G
open PySem PySem.Spec L2
def aPrs : List (AT × AT) → XT → Dl → Rs → (List (D × D) → Rs → Prop) → Prop
  | [], _, _, r, P => P [] r
  | (tk, tv) :: l, x, δ, r, P => tk x δ r fun dk r1 => tv x δ r1 fun dv r2 => aPrs l x δ r2 fun ps r3 => P ((dk, dv) :: ps) r3
def IsPP (K : PySem.W.Frag) (N : Addr → Prop) (H : Hp) (vs : List (V × V)) (ds : List (D × D)) : Prop := IsAll K N H (vs.map (·.1)) (ds.map (·.1)) ∧ IsAll K N H (vs.map (·.2)) (ds.map (·.2))
theorem prs_go {K : PySem.W.Frag} {W : WX} {XR : XT} {σ : St} {δ : Dl} : ∀ {trs : List (AT × AT)} {H : Hp} {r : Rs} {P : List (D × D) → Rs → Prop} {Q : List (V × V) → Hp → Prop}, Ok K W XR r δ σ H → aPrs trs XR δ r P → (∀ ds r' vs H', P ds r' → Ok K W XR r' δ σ H' → Kp K r H r' H' → IsPP K (mem r') H' vs ds → Q vs H') → tPairs (trs.map fun t => (TD K W t.1, TD K W t.2)) σ H Q
  | [], H, r, P, Q, o, h, k => k [] r [] H h o (fun _ _ i => i) ⟨.nil, .nil⟩
  | (tk, tv) :: l, H, r, P, Q, o, h, k => by
    show TD K W tk σ H fun x H1 => TD K W tv σ H1 fun y H2 => tPairs (l.map fun t => (TD K W t.1, TD K W t.2)) σ H2 fun ps H3 => Q ((x, y) :: ps) H3
    refine td_bind o h fun dk r1 v H1 h1 o1 k1 i1 => td_bind o1 h1 fun dv r2 v2 H2 h2 o2 k2 i2 => prs_go o2 h2 fun ds r3 vs H3 h3 o3 k3 i3 => ?_
    exact k _ r3 _ H3 h3 o3 ((k1.trans k2).trans k3) ⟨.cons (k3 _ _ (k2 _ _ i1)) i3.1, .cons (k3 _ _ i2) i3.2⟩
def PDP (X : Cx) (W : WX) (pos : Pos) (keys : List (Option Expr)) (values : List Expr) (trs : List (AT × AT)) : Prop := PPs X pos keys values (trs.map fun t => (TD X.K W t.1, TD X.K W t.2))
section
variable {X : Cx} {W : WX} {pos : Pos}
theorem dp_nil : PDP X W pos [] [] [] := pps_nil
theorem dp_cons {k v : Expr} {ks : List (Option Expr)} {vs : List Expr} {tk tv : AT} {trs : List (AT × AT)} (hk : PD X W k tk) (hv : PD X W v tv) (hr : PDP X W pos ks vs trs) : PDP X W pos (some k :: ks) (v :: vs) ((tk, tv) :: trs) := pps_cons hk hv hr
end
def keysD : List (D × D) → Option (List (Key × D))
  | [] => some []
  | (k, v) :: l => match keyD k, keysD l with | some k, some l => some ((k, v) :: l) | _, _ => none
def mrg (es : List (Key × D)) (acc : List (Key × D)) : List (Key × D) := es.foldl (fun acc e => dPut acc e.1 e.2) acc
theorem keys_go {K : PySem.W.Frag} {N : Addr → Prop} {H : Hp} : ∀ {ds : List (D × D)} {vs : List (V × V)} {es : List (Key × D)}, IsPP K N H vs ds → keysD ds = some es → ∃ kvs : List (Key × V), vs = kvs.map (fun kv => (kV kv.1, kv.2)) ∧ kvs.length = es.length ∧ IsKV K N H kvs es
  | [], vs, es, ⟨h1, h2⟩, hk => by
    cases hk
    match vs, h1 with
    | [], _ => exact ⟨[], rfl, rfl, .nil⟩
  | (dk, dv) :: ds, vs, es, ⟨h1, h2⟩, hk => by
    match vs, h1, h2 with
    | (a, b) :: vs, .cons i1 t1, .cons i2 t2 =>
      unfold keysD at hk
      cases q : keyD dk with
      | none => rw [q] at hk; cases hk
      | some key =>
        cases q2 : keysD ds with
        | none => rw [q, q2] at hk; cases hk
        | some es2 =>
          rw [q, q2] at hk
          cases hk
          obtain ⟨kvs, e1, e2, e3⟩ := keys_go (vs := vs) ⟨t1, t2⟩ q2
          have := key_val q i1
          subst this
          exact ⟨(key, b) :: kvs, by rw [e1]; rfl, by simp [e2], .cons i2 e3⟩
theorem mrg_go {K : PySem.W.Frag} {N : Addr → Prop} {H : Hp} : ∀ {kvs : List (Key × V)} {es : List (Key × D)} {xs : List (Key × V)} {acc : List (Key × D)}, IsKV K N H kvs es → IsKV K N H xs acc → IsKV K N H (mergeK xs kvs) (mrg es acc)
  | [], _, _, _, hk, h => by cases hk; exact h
  | (k, v) :: kvs, _, xs, acc, hk, h => by
    cases hk with
    | @cons _ _ d _ es i t => exact (mrg_go (kvs := kvs) (es := es) (xs := putK xs k v) (acc := dPut acc k d) t (h.put i) : IsKV K N H (mergeK (putK xs k v) kvs) (mrg es (dPut acc k d)))
def aDispF (trs : List (AT × AT)) : AT := fun x δ r P => ∀ p, aPrs trs x δ (r ++ [dctA p []]) fun ps r2 => ∃ pre es, r2 = pre ++ [dctA p []] ∧ keysD ps = some es ∧ es.length ≤ 15 ∧ P (.dct ((mrg es []).map (·.1)) ((mrg es []).map (·.2))) pre
section
variable {X : Cx} {W : WX} {pos : Pos} {keys : List (Option Expr)} {values : List Expr} {trs : List (AT × AT)}
theorem d_dispF (h : PDP X W pos keys values trs) (hall : keys.all (·.isSome) = true := by rfl) (hl : keys.length = values.length := by rfl) (h0 : keys ≠ [] := by exact fun e => by cases e) (h15 : keys.length ≤ 15 := by decide) : PD X W (.Dict keys values pos) (aDispF trs) := imE (pe_disp h hall hl h0 h15) fun σ H Q q => by
  obtain ⟨XR, δ, r, P, o, h, k⟩ := q
  intro p hp
  obtain ⟨q1, q2⟩ := mid_new (t := dctA p []) rfl o.r hp (Ext.new hp) fun _ => ⟨[], upd_same, .nil⟩
  refine prs_go (o.step q2 q1) (h p) ?_
  rintro ds _ vs H2 ⟨pre, es, rfl, hk, he, hP⟩ o2 k2 i2
  obtain ⟨xs, e1, e2⟩ := dct_at o2.r ⟨pre, [], rfl⟩
  cases e2
  obtain ⟨kvs, g1, g2, g3⟩ := keys_go i2 hk
  obtain ⟨z1, z2⟩ := dct_put o2.r (mrg_go g3 .nil)
  obtain ⟨d1, d2, d3⟩ := dct_drop (post := []) z1
  rw [List.append_nil] at d1 d2 d3
  exact ⟨e1, kvs, g1, by rw [g2]; exact he, k _ _ _ _ hP (o2.step (z2.trans d3) d1) ((q2.trans k2).trans (z2.trans d3)) d2⟩
end
end G
namespace G
open PySem PySem.Spec L2
end G
namespace G
open PySem PySem.Spec L2
theorem own_more {r t : Rs} {a : Addr} {xs : List D} (h : Own r a xs) : Own (r ++ t) a xs := by
  obtain ⟨pre, post, rfl⟩ := h
  exact ⟨pre, post ++ t, by rw [List.append_assoc]; rfl⟩
variable {K : PySem.W.Frag}
end G
namespace G
open PySem
end G
namespace G
open PySem PySem.Spec L2
open PyProof.Rows (envOfC)
inductive Pt where | n (i : Nat) | t (is : List Nat)
def gP2 : List Pt → List D → Dl → (Dl → Prop) → Prop
  | [], ds, δ, Q => ds = [] ∧ Q δ
  | .n i :: ps, ds, δ, Q => (match ds with | d :: ds => gP2 ps ds (δ.set i (some d)) Q | [] => False)
  | .t is :: ps, ds, δ, Q => (match ds with | .tup es :: ds => es.length = is.length ∧ gP2 ps ds (setAll δ is es) Q | _ => False)
def gM (ps : List Pt) : AG := fun d δ Q => match d with | .tup ds => ds.length = ps.length ∧ gP2 ps ds δ Q | _ => False
end G
namespace G
open PySem PySem.Spec L2
open PyProof.Rows (envOfC)
end G
namespace G
open PySem PySem.Spec L2
open PyProof.Rows (envOfC)
end G
namespace G
open PySem PySem.Spec L2
open PyProof.Rows (envOfC)
structure oEqO (neg : Bool) (r : Rs) (x y : D) (k : D → Prop) : Prop where
  ex : ∃ l xs, x = .adr l ∧ Own r l xs ∧ deps xs ≤ 63 ∧ dep y ≤ 64 ∧ k (.bl (cond neg (!eqD (.lst xs) y) (eqD (.lst xs) y)))
theorem p_eqO {X : Cx} (hu : X.A.units + 64 < cLine) : OpR X (compareOp .Eq) (rD2 X.K (oEqO false)) := by
  rintro pins s σ H x y v u Q I rx ry ⟨r, d1, d2, P, hr, i1, i2, ⟨l, xs, rfl, ⟨pre, post, rfl⟩, h1, h2, ho⟩, k⟩
  cases i1
  obtain ⟨q1, q2, q3⟩ := own_drop hr
  obtain ⟨a1, b1⟩ := shaped_py q2 (show dep (.lst xs) ≤ 64 by show deps xs + 1 ≤ 64; omega)
  obtain ⟨a2, b2⟩ := shaped_py i2 h2
  exact op_eqD hu pins s σ H _ _ v u Q I rx ry ⟨_, _, a1, a2, b1, b2, k _ _ H ho (Ext.refl H) (.bl _)⟩
end G
namespace G
open PySem PySem.Spec L2
open PyProof.Rows (envOfC)
end G
namespace G
open PySem PySem.Spec L2
open PyProof.Rows (envOfC)
end G
namespace G
open PySem PySem.Spec L2
open PyProof.Rows (envOfC)
theorem ints_all {K : PySem.W.Frag} {N : Addr → Prop} {H : Hp} : ∀ {zs : List Int} {vs : List V}, IsAll K N H vs (zs.map D.int) → vs = zs.map V.int
  | [], _, .nil => rfl
  | z :: zs, _, .cons i t => by cases i; rw [ints_all t]; rfl
end G
namespace G
open PySem PySem.Spec L2
open PyProof.Rows (envOfC)
def aIsiO2 (T U : String) (t : AT) : AT := fun x δ r P => t x δ r fun d r1 => ∃ a xs, d = .adr a ∧ Own r1 a xs ∧ P (.bl (T == "list" || U == "list")) r1
theorem kit_list {K : PySem.W.Frag} {T : String} (ht : Ty5 T) : PySem.W.kitOne K (.type "list") (.type T) = some (T == "list") := by
  have := kit5 (K := K) ht (.lst []) rfl
  have e : isTy T (.lst []) = (T == "list") := by cases ht <;> decide
  rw [e] at this
  exact this
theorem d_isiO2 {X : Cx} {W : WX} {a : Expr} {ta : AT} {p pos : Pos} {T U : String} {q q2 q3 : Pos} {kk} {y z : Str} (ht : Ty5 T) (hu : Ty5 U) (hg : Gl X "isinstance") (hm : X.mg "isinstance" = none) (ha : PD X W a ta) (gy : Gl X y) (my : X.mg y = none) (gz : Gl X z) (mz : X.mg z = none) (by_ : bootBuiltins y = some (.type T) := by decide +kernel) (bz : bootBuiltins z = some (.type U) := by decide +kernel)
    (hny : y ≠ "__name__" := by decide) (hdy : (y == ("__debug__" : Str)) = false := by decide) (hnz : z ≠ "__name__" := by decide) (hdz : (z == ("__debug__" : Str)) = false := by decide)
    (he : starEach [a, .Tuple [.Name y q, .Name z q2] kk q3] X.env = (false, eval a X.env) :: starEach [.Tuple [.Name y q, .Name z q2] kk q3] X.env := by rfl) (hpl : (backTo pos (starEach [.Tuple [.Name y q, .Name z q2] kk q3] X.env)).any (·.1) = false := by rfl)
    (he2 : starEach [.Tuple [.Name y q, .Name z q2] kk q3] X.env = (false, eval (.Tuple [.Name y q, .Name z q2] kk q3) X.env) :: starEach [] X.env := by rfl)
    (he3 : starEach [.Name y q, .Name z q2] X.env = (false, eval (.Name y q) X.env) :: starEach [.Name z q2] X.env := by rfl) (he4 : starEach [.Name z q2] X.env = (false, eval (.Name z q2) X.env) :: starEach [] X.env := by rfl) :
    PD X W (.Call (.Name "isinstance" p) [a, .Tuple [.Name y q, .Name z q2] kk q3] [] pos) (aIsiO2 T U ta) :=
  imE (pe_callB call_isiT hg hm (by decide +kernel) (pa_cons ha (pa_cons (pe_tup (pa_cons (pe_bltn (v := .ty T) gy my by_ rfl hny hdy) (pa_cons (pe_bltn (v := .ty U) gz mz bz rfl hnz hdz) pa_nil he4) he3)) pa_nil he2) he) (by decide) (by decide) he hpl) fun σ H Q q => by
  obtain ⟨XR, δ, r, P, ok, h, k⟩ := q
  refine td_bind ok h fun d r1 v H1 ⟨l, xs, e, ow, h1⟩ o1 k1 i1 => ?_
  subst e
  cases i1
  obtain ⟨vs, h2, al⟩ := own_get o1.r ow
  refine ⟨(by decide : 2 ≤ sizeLine), fun tp htp => ?_⟩
  have h3 := Ext.new htp (o := .tup [.ty T, .ty U]) _ _ h2
  refine ⟨.ref l, tp, _, _, [.type T, .type U], T == "list" || U == "list", rfl, upd_same, .cons (.ty T) (.cons (.ty U) .nil), .base (.lst h3), ?_, k _ r1 _ _ h1 (o1.new htp) (k1.trans (Kp.ext (Ext.new htp))) (.bl _)⟩
  exact kitAny_cons (kit_list ht) (fun e => by rw [e, Bool.false_or]; exact kitAny_cons (kit_list hu) (fun e => by rw [e]; exact kitAny_nil) (fun e => e)) (fun e => by rw [e]; rfl)
/-- [e(x) for x in ds if f(x)], what they look at being told -/
theorem lc_fmR {x : XT} {g : AG} {te : AT} {tt : AB} {δw : Dl} {ds : List D} {r1 : Rs} {P : PK1} (f : D → Bool) (e : D → D) (hz : small ds.length)
    (he : ∀ d ∈ ds, ∀ (T : Rs) (Q1 : PK1) (Q2 : Rs → Prop), (f d = true → Q1 (e d) (r1 ++ T)) → (f d = false → Q2 (r1 ++ T)) → g d δw fun δ2 => tt x δ2 (r1 ++ T) fun b r2 => (b = true → te x δ2 r2 Q1) ∧ (b = false → Q2 r2)) (hP : P (.lst ((ds.filter f).map e)) r1) : aLcK x g tt te δw ds r1 P := by
  refine ⟨fun i acc r' => acc = ((ds.take i).filter f).map e ∧ r' = r1, ⟨rfl, rfl⟩, ?_, ?_⟩
  · rintro p i d acc r' hd ⟨rfl, rfl⟩
    have hi := (List.getElem?_eq_some_iff.mp hd).1
    refine he d (List.mem_of_getElem? hd) _ _ _ (fun q => ⟨?_, r', le.refl, ?_, rfl⟩) (fun q => ⟨r', le.refl, ?_, rfl⟩)
    · rw [List.length_map]
      have h1 := List.length_filter_le f (ds.take i)
      rw [List.length_take] at h1
      have : small ds.length := hz
      unfold small at *
      omega
    · rw [List.take_add_one, hd, List.filter_append, List.map_append]
      show _ = _ ++ List.map e (List.filter f [d])
      rw [List.filter_cons, q]
      rfl
    · rw [List.take_add_one, hd, List.filter_append, List.map_append]
      show _ = _ ++ List.map e (List.filter f [d])
      rw [List.filter_cons, q]
      simp
  · rintro acc r' ⟨rfl, rfl⟩
    rw [List.take_length]
    exact hP
end G
namespace G
open PySem PySem.Spec L2
open PyProof.Rows (envOfC)
end G
namespace G
open PySem PySem.Spec L2
open PyProof.Rows (envOfC)
end G
namespace G
open PySem PySem.Spec L2
open PyProof.Rows (envOfC)
end G
namespace G
open PySem PySem.Spec L2
open PyProof.Rows (envOfC)
end G
namespace G
open PySem PySem.Spec L2
open PyProof.Rows (envOfC)
end G
namespace G
open PySem PySem.Spec L2 PyProof.Rows
end G
namespace G
open PySem PySem.Spec L2 PyProof.Rows
end G
namespace G
open PySem PySem.Spec L2
open PyProof.Rows (envOfC)
end G
namespace G
open PySem PySem.Spec L2 PyProof.Rows
def rLenI (C : Addr) (sp : Sp) : List V → Hp → VK → Prop := fun vs H Q => ∃ a dx kvs, vs = [.ref a] ∧ H a = some (.ins C dx kvs) ∧ sp [.ref a] H (fun v H' => ∃ n : Nat, v = .int (n : Nat) ∧ n ≤ 1000000 ∧ Q v H') E0
def aLenI (C : Addr) (sd : SpX) (l : AL) : AT := fun x δ r P => l x δ r fun ds r1 => ∃ d, ds = [d] ∧ isC C d r1 ∧ sd [d] r1 (fun d r2 => ∃ n : Nat, d = .int (n : Nat) ∧ n ≤ 1000000 ∧ P d r2) noX
section
variable {X : Cx} {W : WX} {k j : Nat} {C g : Addr} {sp : Sp} {sd : SpX} {l : AL} {e : Expr} {es : List Expr} {pos p : Pos}
theorem cr_lenI (M : GiK X.K C g "__len__") (F : FnR X.prog X.w X.K X.mg X.base (L2.CX X.prog X.w) k g sp) (hr : Room (k + 1) X.A) : CallR X (.builtin "len") (rLenI C sp) := by
  intro pins s σ H vs us Q I rv h
  obtain ⟨a, dx, kvs, rfl, ha, q⟩ := h
  obtain ⟨u, rfl, rx⟩ := vals1 rv
  obtain rfl : u = Value.ref a := rx
  obtain ⟨mA, O, _⟩ := ins_get I.hok ha
  obtain ⟨od, J, _⟩ := O.look
  obtain ⟨m, hF⟩ := I.fr
  refine PySem.W.len_K hF I.ok.mod.kin J M.at_ M.fn ?_
  refine thn (call_in1 (us := [.ref a]) (vs := [.ref a]) F hr passE I (.cons rfl .nil) q) fun w s' z => ?_
  obtain ⟨z', H', I', rz, n, en, hn, qz⟩ := z
  subst en
  obtain ⟨t, rfl⟩ := rz
  refine ⟨⟨Int.natCast_nonneg _, ?_⟩, ?_⟩
  · have : (n : Int) ≤ 1000000 := by omega
    exact Int.lt_of_le_of_lt this (by decide)
  · exact ⟨.int _, H', I'.tok _, ⟨_, rfl⟩, qz⟩
theorem d_lenI (M : ClG X.prog X.w X.K X.mg X.base k C "__len__" sd) (hr : Room j X.A) (hg : Gl X "len") (hm : X.mg "len" = none) (ha : PDL X W (e :: es) l) (hj : k + 1 ≤ j := by first | decide | exact Nat.le_refl _ | omega)
    (he : starEach (e :: es) X.env = (false, eval e X.env) :: starEach es X.env := by rfl) (hpl : (backTo pos (starEach es X.env)).any (·.1) = false := by rfl) : PD X W (.Call (.Name "len" p) (e :: es) [] pos) (aLenI C sd l) := by
  obtain ⟨g, M, F⟩ := M
  refine imE (pe_callB (cr_lenI M F (hr.mono hj)) hg hm (by decide +kernel) ha (by decide) (by decide) he hpl) fun σ H Q q => ?_
  obtain ⟨XR, δ, r, P, ok, h, kk⟩ := q
  refine tdl_bind ok h fun ds r1 vs H1 ⟨d, ed, hc, h1⟩ o1 k1 i1 => ?_
  subst ed
  cases i1 with
  | cons i1 t =>
    cases t
    obtain ⟨a, dx, kvs, rfl, s, gd⟩ := isC_at hc o1.r i1
    refine ⟨a, dx, kvs, rfl, s, lift_n o1 (.cons i1 .nil) h1 fun d' r' v H' p o3 k3 i3 => ?_⟩
    obtain ⟨n, rfl, hn, p⟩ := p
    cases i3
    exact ⟨n, rfl, hn, kk _ r' _ H' p o3 (k1.trans k3) (.int _)⟩
end
end G
namespace G
open PySem PySem.Spec L2
def leS (a b : Str) : Bool := !ltCps b.cps.toList a.cps.toList
def srt (zs : List Str) : List Str := zs.mergeSort leS
theorem ltC {a b : List Nat} : ltCps a b = true ↔ a < b := by rw [PyProof.Rows.ltCps_eq]; exact decide_eq_true_iff
theorem leS_iff {a b : Str} : leS a b = true ↔ a.cps.toList ≤ b.cps.toList := by
  unfold leS
  cases h : ltCps b.cps.toList a.cps.toList with
  | true =>
    have := ltC.mp h
    constructor
    · intro e; cases e
    · intro e; exact absurd this (List.not_lt.mpr e)
  | false =>
    constructor
    · intro _
      exact List.not_lt.mp fun q => by rw [ltC.mpr q] at h; cases h
    · intro _; rfl
theorem leS_trans (a b c : Str) (h1 : leS a b = true) (h2 : leS b c = true) : leS a c = true := leS_iff.mpr (List.le_trans (leS_iff.mp h1) (leS_iff.mp h2))
theorem leS_total (a b : Str) : (leS a b || leS b a) = true := by
  rw [Bool.or_eq_true, leS_iff, leS_iff]
  exact List.le_total ..
theorem leS_anti {a b : Str} (h1 : leS a b = true) (h2 : leS b a = true) : a = b := by
  have e : a.cps.toList = b.cps.toList := List.le_antisymm (leS_iff.mp h1) (leS_iff.mp h2)
  obtain ⟨⟨a⟩⟩ := a
  obtain ⟨⟨b⟩⟩ := b
  have e : a = b := e
  rw [e]
theorem rising_pair : ∀ {p : Str} {l : List Str}, PyProof.Rows.risingS p l = true → (p :: l).Pairwise fun a b => leS a b = true
  | p, [], _ => by simp
  | p, x :: l, h => by
    have h : (!ltCps x.cps.toList p.cps.toList && PyProof.Rows.risingS x l) = true := h
    rw [Bool.and_eq_true] at h
    have ih := rising_pair h.2
    refine List.pairwise_cons.mpr ⟨fun y hy => ?_, ih⟩
    rcases List.mem_cons.mp hy with rfl | hy
    · exact h.1
    · exact leS_trans _ _ _ h.1 ((List.pairwise_cons.mp ih).1 y hy)
theorem sorted_pair : ∀ {l : List Str}, PyProof.Rows.sortedS l = true → l.Pairwise fun a b => leS a b = true
  | [], _ => .nil
  | _ :: _, h => rising_pair h
theorem srt_pair (zs : List Str) : (srt zs).Pairwise fun a b => leS a b = true := List.pairwise_mergeSort leS_trans leS_total zs
theorem srt_perm (zs : List Str) : (srt zs).Perm zs := List.mergeSort_perm zs leS
theorem srt_eq {ys zs : List Str} (h : ys.Perm zs) (s : ys.Pairwise fun a b => leS a b = true) : ys = srt zs := List.Perm.eq_of_pairwise (fun _ _ _ _ h1 h2 => leS_anti h1 h2) s (srt_pair zs) (h.trans (srt_perm zs).symm)
theorem srt_congr {ys zs : List Str} (h : ys.Perm zs) : srt ys = srt zs := srt_eq ((srt_perm ys).trans h) (srt_pair ys)
theorem srt_len (zs : List Str) : (srt zs).length = zs.length := (srt_perm zs).length_eq
theorem srt_mem {zs : List Str} {z : Str} : z ∈ srt zs ↔ z ∈ zs := (srt_perm zs).mem_iff
theorem srt_nodup {zs : List Str} (h : zs.Nodup) : (srt zs).Nodup := (srt_perm zs).nodup_iff.mpr h
theorem strs_allS {K : PySem.W.Frag} {N : Addr → Prop} {H : Hp} : ∀ {vs : List V} {zs : List Str}, IsAll K N H vs (zs.map .str) → vs = zs.map V.str ∧ ∀ z ∈ zs, sok z
  | _, [], h => by cases h; exact ⟨rfl, fun _ h => by cases h⟩
  | _, z :: zs, h => by
    cases h with
    | cons h t =>
      obtain ⟨e, hs⟩ := strs_allS t
      cases h with
      | str o =>
        refine ⟨by rw [e]; rfl, fun y hy => ?_⟩
        rcases List.mem_cons.mp hy with rfl | hy
        · exact o
        · exact hs y hy
theorem all_strsS {K : PySem.W.Frag} {N : Addr → Prop} {H : Hp} : ∀ {zs : List Str}, (∀ z ∈ zs, sok z) → IsAll K N H (zs.map V.str) (zs.map .str)
  | [], _ => .nil
  | z :: zs, h => .cons (.str (h z List.mem_cons_self)) (all_strsS fun y hy => h y (List.mem_cons_of_mem _ hy))
structure oSortS (ds : List D) (k : D → Prop) : Prop where
  ex : ∃ zs : List Str, ds = [.lst (zs.map .str)] ∧ zs.length < 64 ∧ k (.lst ((srt zs).map .str))
theorem c_sortedS {X : Cx} : CallR X (.builtin "sorted") (rC X.K oSortS) := by
  rintro pins s σ H vs us Q I rv ⟨r, ds, P, hr, i, ⟨zs, rfl, h64, ho⟩, k⟩
  cases i with
  | cons i t =>
    cases t
    cases i with
    | lst n h a =>
      obtain ⟨rfl, hs⟩ := strs_allS a
      refine cr_sortedS pins s σ H _ us Q I rv ⟨_, zs, rfl, SqL.of h, h64, fun ys p hp hy hn => ?_⟩
      obtain rfl : ys = srt zs := srt_eq hp (sorted_pair hy)
      exact k _ _ _ ho (Ext.new hn) (new_lst hr hn (all_strsS fun z hz => hs z (srt_mem.mp hz)))
def DctV (r : Rs) (d : D) (kvs : List (Key × D)) : Prop := (∃ a, d = .adr a ∧ (OwnD r a kvs ∨ OwnLk r a kvs)) ∨ d = .dct (kvs.map (·.1)) (kvs.map (·.2))
theorem zip_unz : ∀ (kvs : List (Key × D)), (kvs.map (·.1)).zip (kvs.map (·.2)) = kvs
  | [] => rfl
  | (a, b) :: l => by rw [List.map_cons, List.map_cons, List.zip_cons_cons, zip_unz l]
theorem oDGet.of {r : Rs} {d y : D} {kvs : List (Key × D)} {key : Key} {k : Option D → Prop} (h : DctV r d kvs) (hk : keyD y = some key) (p : k (dGet kvs key)) : oDGet r d y k := by
  rcases h with ⟨a, rfl, ow | ow⟩ | rfl
  · exact .own ow hk p
  · exact .lck ow hk p
  · exact .fro hk (by rw [zip_unz]; exact p)
theorem DctV.at_ {K : PySem.W.Frag} {r : Rs} {H : Hp} {d : D} {v : V} {kvs : List (Key × D)} (h : DctV r d kvs) (ro : Rok K r H) (i : Is K (mem r) H v d) : ∃ a xs, v = .ref a ∧ Rd H a (.dK xs) ∧ IsKV K (mem r) H xs kvs := by
  rcases h with ⟨a, rfl, ow | ow⟩ | rfl
  · cases i
    obtain ⟨xs, e1, e2⟩ := dct_at ro ow
    exact ⟨a, xs, rfl, .inl e1, e2⟩
  · cases i
    obtain ⟨xs, e1, e2⟩ := lck_at ro ow
    exact ⟨a, xs, rfl, e1, e2⟩
  · cases i with
    | dct n h e a =>
      have := IsKV.of_zip a
      rw [e, zip_unz] at this
      exact ⟨_, _, rfl, .inl h, this⟩
theorem DctV.dc {r : Rs} {d : D} {kvs : List (Key × D)} (h : DctV r d kvs) : isDc d r := by
  rcases h with ⟨a, rfl, ow⟩ | rfl
  · exact .inl ⟨a, _, rfl, ow⟩
  · exact .inr ⟨_, _, rfl⟩
def kD : Key → D | .inl i => .int i | .inr z => .str z
theorem keys_all {K : PySem.W.Frag} {N : Addr → Prop} {H : Hp} : ∀ {xs : List (Key × V)} {kvs : List (Key × D)}, IsKV K N H xs kvs → (∀ z, Sum.inr z ∈ kvs.map (·.1) → sok z) → IsAll K N H (xs.map fun kv => kV kv.1) (kvs.map fun kv => kD kv.1)
  | _, _, .nil, _ => .nil
  | _, _, .cons (k := k) h t, hs => by
    refine .cons ?_ (keys_all t fun z hz => hs z (List.mem_cons_of_mem _ hz))
    cases k with
    | inl i => exact .int i
    | inr z => exact .str (hs z List.mem_cons_self)
structure oListDc (r : Rs) (ds : List D) (k : D → Prop) : Prop where
  ex : ∃ d kvs, ds = [d] ∧ DctV r d kvs ∧ (∀ z, Sum.inr z ∈ kvs.map (·.1) → sok z) ∧ k (.lst (kvs.map fun kv => kD kv.1))
theorem c_listDc {X : Cx} (hc : X.calm = true := by rfl) : CallR X (.type "list") (rC2 X.K oListDc) := by
  rintro pins s σ H vs us Q I rv ⟨r, ds, P, hr, i, ⟨d, kvs, rfl, hd, hs, ho⟩, k⟩
  cases i with
  | cons i t =>
    cases t
    obtain ⟨a, xs, rfl, e1, e2⟩ := hd.at_ hr i
    exact call_listD hc pins s σ H _ us Q I rv ⟨a, xs, rfl, e1, fun p hp => k _ _ _ ho (Ext.new hp) (new_lst hr hp (keys_all e2 hs))⟩
section
variable {X : Cx} {W : WX} {o e f : Expr} {td ty tx : AT} {l : AL} {apos cpos : Pos}
/-- d.pop(k, x) of our own dict -/
inductive oDPop (r : Rs) (y z : D) : D → PK1 → Prop
  | mk {a : Addr} {P : PK1} (pre post : Rs) (kvs : List (Key × D)) (key : Key) (e : r = pre ++ dctA a kvs :: post) (hk : keyD y = some key) (p : match dGet kvs key with | some d => P d (pre ++ dctA a (dDrop kvs key) :: post) | none => P z r) : oDPop r y z (.adr a) P
def aDPop2 (td ty tx : AT) : AT := fun x δ r P => td x δ r fun d r1 => isDc d r1 ∧ ty x δ r1 fun y r2 => tx x δ r2 fun z r3 => oDPop r3 y z d P
theorem d_dpop2 (ho : PD X W o td) (he : PD X W e ty) (hf : PD X W f tx) (m : M2 X o "pop" apos e f cpos) : PD X W (.Call (.Attribute o "pop" apos) [e, f] [] cpos) (aDPop2 td ty tx) := imE (pe_dpop2 ho he hf m) fun σ H Q q => by
  obtain ⟨XR, δ, r, P, ok, h, k⟩ := q
  refine td_bind ok h fun d r1 v1 H1 ⟨hc, h1⟩ o1 k1 i1 => ?_
  obtain ⟨a0, xs0, rfl, e0⟩ := isDc_at hc o1.r i1
  refine ⟨a0, rfl, .inl ⟨_, e0⟩, td_bind o1 h1 fun y r2 v2 H2 h2 o2 k2 i2 => td_bind o2 h2 fun z r3 v3 H3 h3 o3 k3 i3 => ?_⟩
  cases h3 with
  | mk pre post kvs key er hk p =>
    cases i1
    subst er
    obtain ⟨xs, e1, e2⟩ := dct_at o3.r ⟨pre, post, rfl⟩
    have hv := key_val hk (k3 _ _ i2)
    subst hv
    have g := e2.get key
    refine ⟨xs, key, e1, rfl, fun v hv => ?_, fun hv => ?_⟩
    · cases hd : dGet kvs key with
      | none =>
        rw [hd] at g
        rw [show valV xs key = none from g] at hv
        cases hv
      | some d =>
        rw [hd] at g p
        obtain ⟨v', g1, g2⟩ := g
        rw [g1] at hv
        cases hv
        obtain ⟨q1, q2⟩ := dct_put o3.r (e2.drop key)
        exact k _ _ _ _ p (o3.step q2 q1) (((k1.trans k2).trans k3).trans q2) (q2 _ _ g2)
    · cases hd : dGet kvs key with
      | none =>
        rw [hd] at p
        exact k _ _ _ _ p o3 ((k1.trans k2).trans k3) i3
      | some d =>
        rw [hd] at g
        obtain ⟨v', g1, g2⟩ := g
        rw [g1] at hv
        cases hv
end
end G
namespace GB
open PySem PySem.Spec PySem.W PyProof.Rows
section
variable {M : Model} {A : Around} {E : Value → Shared → Prop} {s : Shared}
/-- f(*xs, k = v, ..): the lone starred value first, then the keywords, then what the star gives -/
theorem lone_kw {f : Value} {x : Sem Value} {pos : Pos} {kws : List (Option Str × Sem Value)} {Q : Args → Shared → Prop} (hall : kws.all (·.1.isSome) = true)
    (h : wpAny M A x (fun v s1 => wpAny M A (evalAll (kws.map (·.2))) (fun ks s2 => StarOf M A E v (fun vs s3 => Q ⟨vs, (kws.filterMap (·.1)).zip ks⟩ s3) s2) E s1) E s) :
    wpAny M A (evalArgs f true [(true, (do let v ← x; standAt pos; pure v))] kws) Q E s := by
  unfold evalArgs
  first
    | refine wpAny_bind (wpAny_bind (wpAny_mono h (fun v s1 h1 => wpAny_bind (wpAny_standAt (wpAny_pure ?_))) fun _ _ z => z))
    | refine wpAny_bind (wpAny_bind (wpAny_bind (wpAny_mono h (fun v s1 h1 => wpAny_bind (wpAny_standAt (wpAny_pure (wpAny_pure ?_)))) fun _ _ z => z)))
  refine wpAny_holding ?_
  simp only [hall, if_true]
  refine wpAny_bind (wpAny_mono h1 (fun ks s2 h2 => ?_) fun _ _ z => z)
  unfold StarOf at h2
  refine wpAny_bind (wpAny_bind (wpAny_mono h2 (fun b s3 h3 => ?_) fun _ _ z => z))
  obtain ⟨rfl, h3⟩ := h3
  simp only [Bool.false_eq_true, if_false]
  first
    | exact wpAny_holding (wpAny_mono h3 (fun vs s4 h4 => wpAny_pure h4) fun _ _ z => z)
    | exact wpAny_bind (wpAny_pure (wpAny_holding (wpAny_mono h3 (fun vs s4 h4 => wpAny_pure h4) fun _ _ z => z)))
theorem callK {f : Value} {first : List Value} {pos : Pos} {Q : Value → Shared → Prop} {PH : Heap → Prop} {args : List (Bool × Sem Value)} {kws : List (Option Str × Sem Value)} (hst : args.any (·.1) = true)
    (hk : ∀ h, PH h → ∃ k, (k = Keeper.frame ∨ k = Keeper.machine ∨ k = Keeper.boundFrame) ∧ Looks M h (keeperOf f) k)
    (h : wpAny M A (evalArgs f true args kws) (fun a s1 => PH s1.heap ∧ wpAny M A (call f (first ++ a.pos) a.kw) Q E s1) E s) : wpAny M A (callWith pos f first args kws) Q E s := by
  unfold callWith
  refine wpAny_bind (wpAny_holding (wpAny_mono h (fun a s1 h1 => wpAny_bind (wpAny_standAt ?_)) fun _ _ z => z))
  obtain ⟨k, hk', L⟩ := hk _ h1.1
  simp only [hst, Bool.true_or]
  refine wpAny_bind (L.here ?_)
  have fin : ∀ {t : Sem Value}, wpAny M A t Q E s1 → wpAny M A (t >>= fun r => holding [r] point >>= fun _ => pure r) Q E s1 :=
    fun ht => wpAny_bind (wpAny_mono ht (fun r s2 hr => wpAny_bind (wpAny_holding (wpAny_point (wpAny_pure hr)))) fun _ _ z => z)
  have mk (mk : Value) : wpAny M A (callMarked mk f (first ++ a.pos) a.kw) Q E s1 := by unfold callMarked; exact Calls.wpAny_keep h1.2
  rcases hk' with rfl | rfl | rfl <;> dsimp only <;> first | exact fin (mk _) | exact fin (wpAny_operating h1.2)
end
/-- t looks the names up in the dict at D, one behind another, and goes on as r -/
def KwTo {α : Type} (D : Addr) : List (Str × Value) → Sem α → Sem α → Prop
  | [], t, r => t = r
  | q :: l, t, r => ∃ (β γ : Type) (k1 : Option Value → Sem β) (k2 : β → Sem γ) (k3 : γ → Sem α) (a : β), t = ((nsGet D q.1 >>= k1) >>= k2) >>= k3 ∧ k1 (some q.2) = pure a ∧ KwTo D l (k2 a >>= k3) r
theorem KwTo.run {α : Type} {K : Frag} {M : Model} {A : Around} {D : Addr} {E : Value → Shared → Prop} {s : Shared} {Q : α → Shared → Prop} (X : K.In s.heap) : ∀ {l : List (Str × Value)} {t r : Sem α}, (∀ q ∈ l, nsIn K D q.1 = some (some q.2)) → KwTo D l t r → wpAny M A r Q E s → wpAny M A t Q E s
  | [], t, r, _, e, h => by rw [show t = r from e]; exact h
  | q :: l, t, r, hl, e, h => by
    obtain ⟨β, γ, k1, k2, k3, a, e1, e2, e3⟩ := e
    have ih := KwTo.run X (fun p hp => hl p (List.mem_cons_of_mem _ hp)) e3 h
    have L : Looks M s.heap (nsGet D q.1 >>= k1) a := (looks_nsIn X (hl q List.mem_cons_self)).andThen (Looks.of_pure e2)
    rw [e1, bind_assoc]
    exact wpAny_bind (L.here ih)
end GB
namespace G
open PySem PySem.Spec L2
open PyProof.Rows (envOfC)
/-- the promise of such a def: what stands ahead, the keyword's value, the rest -/
def kwP (n : Nat) (sd : SpX) : SpX := fun ds r P XR => ∃ a rest z, ds = a ++ (rest ++ [z]) ∧ a.length = n ∧ rest.length ≤ 1000000 ∧ sd (a ++ [z, .tup rest]) r P XR
/-- the same called without the keyword: z is the default -/
def kw0P (n : Nat) (z : D) (sd : SpX) : SpX := starP n fun ds r P XR => ∃ a t, ds = a ++ [t] ∧ a.length = n ∧ sd (a ++ [z, t]) r P XR
/-- called with one keyword, its value behind the others -/
def FRK (P : Program) (w : World) (K : PySem.W.Frag) (mg : Str → Option Value) (base : Heap) (k : Nat) (f : Addr) (ks : Str) (sd : SpX) : Prop :=
  ∀ (A : Around) (outer : List Env) (s : Shared) (H : Hp) (us : List Value) (w1 : Value) (vs : List V) (z : V) (Q : VK) (E : XK), Room k A → Env0 P w K mg base A outer s H → Vals vs us → RelV z w1 → lift K sd (vs ++ [z]) H Q E →
    codeAny (model P w) A (.call (.ref f) ⟨us, [(ks, w1)]⟩) (CR (L2.CX P w) outer P w H s Q E) s
section
variable {P : Program} {w : World} {K : PySem.W.Frag} {mg : Str → Option Value} {base : Heap}
/-- the body's promise, at slots that are laid -/
theorem bod_at {qual : Str} {st : Stmt} {N : List Str} {k : Nat} {sd : SpX} {f : Addr} {cdv : Value} {A : Around} {outer : List Env} {s : Shared} {H : Hp} {vs : List V} {Q : VK} {E : XK} (hbody : Bod P w K mg base qual st N k sd) (hr : Room k (A.deeper (envOfC qual (defScope st) s.heap.objs.size f cdv))) (h : lift K sd vs H Q E) :
    ∃ t, PSs (cxOf (L2.CX P w) P w K mg base N qual (defScope st) f cdv A outer s H E) (defBody st) t ∧ t { nx := fun _ H' => Q .non H', rt := Q } (start N vs) H := by
  obtain ⟨r, ds, P', XR, ro, hi, hs, hq, hx⟩ := h
  obtain ⟨t, ht, hread⟩ := hbody f cdv A outer s H E hr (takes_of rfl rfl rfl rfl) (passes_of rfl)
  refine ⟨_, ht, startD N ds, r, { nx := fun _ r' => fit P' .non r', rt := fit P', xr := fitX XR }, start_ok ro hi ?_, hread ds r P' XR hs, ⟨fun δ' r' σ' H' a o k => ?_, fun d r' v H' a o k i => ?_, fun _ _ _ _ z => z.elim, fun _ _ _ _ z => z.elim⟩⟩
  · rintro C fs es δ' r' σ' a H' ⟨r0, l, q⟩ o k e
    exact hx C fs es r0 a H' q (l.r _ _ o.r) (k.trans l.kp) (e.anti l.m)
  · obtain ⟨r0, l, a⟩ := a
    exact hq _ r0 _ H' a (l.r _ _ o.r) (k.trans l.kp) .non
  · obtain ⟨r0, l, a⟩ := a
    exact hq _ r0 _ H' a (l.r _ _ o) (k.trans l.kp) (is_anti l.m i)
/-- what such a def binds: hb with the keyword, h0 without -/
structure KwB (K : PySem.W.Frag) (fd : FuncData) (ps : List Str) (pk pv : Str) (z : D) : Prop where
  hb : ∀ (us rest : List Value) (w1 : Value), us.length = ps.length → bindArgs fd ⟨us ++ rest, [(pk, w1)]⟩ = (newTuple rest >>= fun t => pure (ps.zip us ++ [(pk, w1), (pv, t)]))
  h0 : ∃ (D0 : Addr) (u : Value) (v : V), PySem.W.nsIn K D0 pk = some (some u) ∧ RelV v u ∧ (∀ M H, Is K M H v z) ∧ ∀ us rest : List Value, us.length = ps.length → GB.KwTo D0 [(pk, u)] (bindArgs fd ⟨us ++ rest, []⟩) (newTuple rest >>= fun t => pure (ps.zip us ++ [(pk, u), (pv, t)]))
theorem bnd_tup {CX0 : CXT} {fd : FuncData} {args : Args} {ps : List Str} {A : Around} {outer : List Env} {s : Shared} {H : Hp} {E : XK} {us rest : List Value} {ws vrest : List V} {w1 : Value} {z : V} {pk pv : Str} (hCX : StX.CXUp CX0) (e0 : Env0 P w K mg base A outer s H) (r1 : Vals ws us) (r2 : Vals vrest rest) (rz : RelV z w1) (hl : us.length = ps.length) (hz : vrest.length ≤ sizeLine)
    (hb : ∀ (A' : Around) (Ex : Value → Shared → Prop) (Q : List (Str × Value) → Shared → Prop), wpAny (model P w) A' (newTuple rest >>= fun t => pure (ps.zip us ++ [(pk, w1), (pv, t)])) Q Ex s → wpAny (model P w) A' (bindArgs fd args) Q Ex s) :
    StX.Bnd CX0 P w K mg base fd args (ps ++ [pk, pv]) A outer s H E (fun xs H2 => ∃ p, H p = none ∧ xs = ws ++ [z, V.ref p] ∧ H2 = upd H p (.tup vrest)) := by
  have hn : H s.heap.objs.size = none := e0.hok.fresh (Nat.le_refl _)
  intro A' Ex Q h
  refine hb A' Ex Q (wpAny_bind (wpAny_newTuple (wpAny_pure ?_) (by rw [← r2.length]; exact hz)))
  have new : ObjOk P w (upd H s.heap.objs.size (.tup vrest)) (s.heap.push ({ cls := .type "tuple", data := .seq rest.toArray } : Obj)) s.heap.objs.size (.tup vrest) := ⟨hz, rest, r2, ⟨_, Heap.get?_push_size _ rfl, rfl, _, rfl⟩⟩
  have un := StX.un_laid (fs := frs outer) (s := s) (o := ({ cls := .type "tuple", data := .seq rest.toArray } : Obj)) (u := .tup vrest) hn
  have zz := h _ _ (ws ++ [z, V.ref s.heap.objs.size]) (us ++ [w1, Value.ref s.heap.objs.size]) (StX.env0_laid e0 new) un rfl (fun e s' => hCX outer s H _ _ E e s' un (fun b o q => Heap.get?_push_of_some _ q) rfl) (r1.append (.cons rz (.cons rfl .nil)))
    (by rw [List.length_append, List.length_append, r1.length, hl] <;> rfl) ⟨_, hn, rfl, rfl⟩
  rw [List.zip_append hl.symm] at zz
  exact zz
theorem frk_d {x qual pk pv : Str} {st : Stmt} {f : Addr} {fd : FuncData} {N ps : List Str} {k : Nat} {sd : SpX} {z : D} (F : FunA K x qual st f fd) (S : FnScope N (ps ++ [pk, pv]) (defScope st)) (b : KwB K fd ps pk pv z) (hbody : Bod P w K mg base qual st N k sd) :
    FRK P w K mg base (k + 1) f pk (kwP ps.length sd) := by
  obtain ⟨oc, od, dV, kV, doc, pm, an, cdv, ct, osl, rfl, lk, hcd⟩ := F.ex
  rintro A outer s H us w1 vs zv Q E hr e0 rv rz ⟨r, ds, P', XR, ro, hi, ⟨a, rest, z1, rfl, hl, hz, hs⟩, hq, hx⟩
  obtain ⟨ws, ts, e, h1, h2⟩ := all_split hi
  obtain ⟨vr, tz, rfl, h3, h4⟩ := all_split h2
  cases h4 with
  | cons h4 t =>
    cases t
    rename_i zv'
    have e2 : vs ++ [zv] = (ws ++ vr) ++ [zv'] := by rw [e, List.append_assoc]
    obtain ⟨e3, e4⟩ := List.append_inj' e2 rfl
    cases e4
    subst e3
    obtain ⟨u1, u2, rfl, q1, q2⟩ := StX.vals_split rv
    have hl1 : u1.length = ps.length := by rw [← q1.length, h1.length, hl]
    have hz2 : vr.length ≤ sizeLine := by rw [h3.length]; exact Nat.le_trans hz (by decide)
    refine StX.run_bnd lk hcd S hr e0 (bnd_tup StX.cxUp e0 q1 q2 rz hl1 hz2 fun A' Ex Q' h => by rw [b.hb u1 u2 w1 hl1]; exact h) fun s2 H2 xs ⟨p, hp, ex, eH⟩ hr' => ?_
    subst ex eH
    have e := Ext.new (o := .tup vr) hp
    refine bod_at hbody hr' ⟨r, a ++ [z1, .tup rest], P', XR, ro.ext e, (Kp.all (Kp.ext e) h1).append (.cons (Kp.ext e _ _ h4) (.cons (new_tup hp h3) .nil)), hs, fun d r' v H' q ro' kk i => hq d r' v H' q ro' ((Kp.ext e).trans kk) i, fun C fs es r' a H' q ro' kk ea => hx C fs es r' a H' q ro' ((Kp.ext e).trans kk) ea⟩
theorem fr0_d {x qual pk pv : Str} {st : Stmt} {f : Addr} {fd : FuncData} {N ps : List Str} {k : Nat} {sd : SpX} {z : D} (F : FunA K x qual st f fd) (S : FnScope N (ps ++ [pk, pv]) (defScope st)) (b : KwB K fd ps pk pv z) (hbody : Bod P w K mg base qual st N k sd) :
    FR P w K mg base (k + 1) f (kw0P ps.length z sd) := by
  obtain ⟨oc, od, dV, kV, doc, pm, an, cdv, ct, osl, rfl, lk, hcd⟩ := F.ex
  obtain ⟨D0, u, zv, hn, rz, hz0, h0⟩ := b.h0
  rintro A outer s H us vs Q E hr e0 rv ⟨r, ds, P', XR, ro, hi, ⟨a, rest, rfl, hl, hz, a2, t2, ea, hl2, hs⟩, hq, hx⟩
  obtain ⟨e3, e4⟩ := List.append_inj' ea rfl
  cases e4
  subst e3
  obtain ⟨ws, vr, rfl, h1, h2⟩ := all_split hi
  obtain ⟨u1, u2, rfl, q1, q2⟩ := StX.vals_split rv
  have hl1 : u1.length = ps.length := by rw [← q1.length, h1.length, hl]
  have hz2 : vr.length ≤ sizeLine := by rw [h2.length]; exact Nat.le_trans hz (by decide)
  have KX : K.In s.heap := e0.mod.kin.keeps fun b o e => (e0.bs b o e).1
  refine StX.run_bnd lk hcd S hr e0 (bnd_tup StX.cxUp e0 q1 q2 rz hl1 hz2 fun A' Ex Q' h => GB.KwTo.run KX (fun q hq => by rw [List.mem_singleton.mp hq]; exact hn) (h0 u1 u2 hl1) h) fun s2 H2 xs ⟨p, hp, ex, eH⟩ hr' => ?_
  subst ex eH
  have e := Ext.new (o := .tup vr) hp
  refine bod_at hbody hr' ⟨r, a ++ [z, .tup rest], P', XR, ro.ext e, (Kp.all (Kp.ext e) h1).append (.cons (hz0 _ _) (.cons (new_tup hp h2) .nil)), hs, fun d r' v H' q ro' kk i => hq d r' v H' q ro' ((Kp.ext e).trans kk) i, fun C fs es r' a H' q ro' kk ea => hx C fs es r' a H' q ro' ((Kp.ext e).trans kk) ea⟩
end
end G
namespace G
open PySem PySem.Spec L2
open PyProof.Rows (envOfC)
def DfNK (K : PySem.W.Frag) (C : Addr) (qual : Str) (st : Stmt) (ps : List Str) (pk pv : Str) (z : D) : Prop := ∃ f fd, FunA K "__init__" qual st f fd ∧ Mk K C f ∧ KwB K fd ps pk pv z
def ClNK (P : Program) (w : World) (K : PySem.W.Frag) (mg : Str → Option Value) (base : Heap) (k : Nat) (C : Addr) (pk : Str) (z : D) (sd : SpX) : Prop := ∃ f, Mk K C f ∧ FR P w K mg base k f (kw0P 1 z sd) ∧ FRK P w K mg base k f pk (kwP 1 sd)
section
variable {P : Program} {w : World} {K : PySem.W.Frag} {mg : Str → Option Value} {base : Heap}
theorem clnk_of {C : Addr} {qual p0 pk pv : Str} {st : Stmt} {N : List Str} {k : Nat} {sd : SpX} {z : D} (d : DfNK K C qual st [p0] pk pv z) (S : FnScope N ([p0] ++ [pk, pv]) (defScope st)) (h : Bod P w K mg base qual st N k sd) : ClNK P w K mg base (k + 1) C pk z sd := by
  obtain ⟨f, fd, F, M, b⟩ := d
  exact ⟨f, M, fr0_d F S b h, frk_d F S b h⟩
theorem ClNK.n {C : Addr} {pk : Str} {z : D} {k : Nat} {sd : SpX} (h : ClNK P w K mg base k C pk z sd) : ClN P w K mg base k C [] (kw0P 1 z sd) := by
  obtain ⟨f, M, F, _⟩ := h
  refine ⟨f, M, fun j hj => ?_⟩
  have e : (fun (ds : List D) (r : Rs) (P : PK1) (XR : XD) => kw0P 1 z sd (ds ++ ([] : List D).drop j) r P XR) = kw0P 1 z sd := by
    funext ds r P XR
    rw [List.drop_nil, List.append_nil]
  rw [e]
  exact F
end
def aNewSK (C : Addr) (sd : SpX) (ts : AT) (t : AT) : AT := fun x δ r P => ts x δ r fun d r1 => t x δ r1 fun z r2 => ∃ xs, (d = .lst xs ∨ d = .tup xs) ∧ ∀ a, sd (.adr a :: (xs ++ [z])) (r2 ++ [insA a C [] []]) (fun d r3 => d = .non ∧ P (.adr a) r3) fun E fs es r' => x E fs es δ r'
section
variable {X : Cx} {W : WX} {k j : Nat} {C f : Addr} {sd : SpX} {x pk : Str} {p pos p1 kpos : Pos} {e e1 : Expr} {es : List Expr} {l : AL} {t te : AT} {fs : List Str} {z : D}
theorem run_mkK {E : XK} {pins : List (Addr × Obj)} {σ : L2.St} {H : Hp} {s : Shared} {Q : VK} {us : List Value} {vs : List V} {w1 : Value} {zv : V} (M : Mk X.K C f) (F : FRK X.prog X.w X.K X.mg X.base k f pk sd) (hr : Room (k + 1) X.A) (hx : PassesAt (L2.CX X.prog X.w) X σ E) (I : L2.Inv X pins σ H s) (r : Vals vs us) (rz : RelV zv w1)
    (h : ∀ x dx, H x = Option.none → H dx = Option.none → dx ≠ x → lift X.K sd (V.ref x :: (vs ++ [zv])) (upd (upd H dx (.own x)) x (.ins C dx [])) (fun v H2 => v = .non ∧ Q (.ref x) H2) E) :
    wpAny (model X.prog X.w) X.A (call (.ref C) us [(pk, w1)]) (EP X pins σ Q) X.xe s := by
  have hq := h (s.heap.objs.size + 1) s.heap.objs.size (I.hok.fresh (Nat.le_succ _)) (I.hok.fresh (Nat.le_refl _)) (Nat.ne_of_lt (Nat.lt_succ_self _))
  have I2 := Inv.made (C := C) I
  have r2 : Vals (V.ref (s.heap.objs.size + 1) :: vs) (Value.ref (s.heap.objs.size + 1) :: us) := .cons rfl r
  refine wpAny_call (make_map (f := f) I.kIn M.makes M.init (beq_iff_eq.mp M.fn) (codeAny_mono (F _ X.stack _ _ (Value.ref (s.heap.objs.size + 1) :: us) w1 _ zv _ E (hr.make C us [(pk, w1)]) (I2.env0.make C us [(pk, w1)]) r2 rz hq) fun r s' hq' => ?_))
  cases r with
  | error e => exact hx pins _ _ e s' I2 hq'
  | ok fl =>
    cases fl with
    | ret u =>
      obtain ⟨v, H', I3, rv, ev, q3⟩ := I2.after hq'
      subst ev
      exact ⟨rv, ⟨V.ref (s.heap.objs.size + 1), H', I3, rfl, q3⟩⟩
    | next => exact False.elim hq'
    | brk => exact False.elim hq'
    | cont => exact False.elim hq'
/-- a reading of one keyword's value -/
theorem pk_one (ht : PD X W e1 t) : PK X [⟨some pk, e1, kpos⟩] (tCons (TD X.K W t) tNil) := pk_cons ht pk_nil
/-- the new instance's promise, from readings -/
theorem mk_lift {XR : XT} {δ : Dl} {r r2 : Rs} {P : PK1} {σ : L2.St} {H H2 : Hp} {Q : VK} {ds : List D} {vs : List V} (kp : Plain X.K C) (o2 : Ok X.K W XR r2 δ σ H2) (i : IsAll X.K (mem r2) H2 vs ds) (kx : Kp X.K r H r2 H2) (h : ∀ a, sd (.adr a :: ds) (r2 ++ [insA a C [] []]) (fun d r3 => d = .non ∧ P (.adr a) r3) fun E fs es r' => XR E fs es δ r')
    (kk : ∀ d r' v H', P d r' → Ok X.K W XR r' δ σ H' → Kp X.K r H r' H' → Is X.K (mem r') H' v d → Q v H') :
    ∀ x dx, H2 x = Option.none → H2 dx = Option.none → dx ≠ x → lift X.K sd (V.ref x :: vs) (upd (upd H2 dx (.own x)) x (.ins C dx [])) (fun v H3 => v = .non ∧ Q (.ref x) H3) (WE W σ) := fun x dx hx hd ne => by
  obtain ⟨e1, q1, q2⟩ := ins_new o2.r kp hx hd ne
  refine ⟨r2 ++ [insA x C [] []], .adr x :: ds, _, _, q1, .cons (.adr x) (q2.all i), h x, fun d r' v H' ⟨a, b⟩ rr c i => ?_, fun C' fs es r' a H' z ro k2 e => ?_⟩
  · subst a
    cases i
    exact ⟨rfl, kk _ r' _ H' b (o2.step (q2.trans c) rr) (kx.trans (q2.trans c)) (.adr x)⟩
  · exact o2.x C' fs es δ r' σ a H' z (o2.b.step (q2.trans k2) ro) (q2.trans k2) e
theorem d_mk0 (M : ClN X.prog X.w X.K X.mg X.base k C [] sd) (kc : KCls X.K X.mg x C fs) (tk : Takes X W) (hr : Room j X.A) (hj : k + 1 ≤ j := by first | decide | exact Nat.le_refl _ | omega) (hg : Gl X x := by rfl) (hdb : (x == ("__debug__" : Str)) = false := by decide) :
    PD X W (.Call (.Name x p) [] [] pos) (aNew C (fun ds r P XR => sd (ds ++ []) r P XR) aNil) := by
  obtain ⟨f, M, F⟩ := M
  exact d_new0 M kc.p (F 0 (Nat.le_refl _)) tk (hr.mono hj) kc.g hg hdb
/-- C(*xs, k = v) -/
theorem d_mkSK (M : ClNK X.prog X.w X.K X.mg X.base k C pk z sd) (kc : KCls X.K X.mg x C fs) (tk : Takes X W) (hr : Room j X.A) (ha : PD X W e te) (ht : PD X W e1 t) (hj : k + 1 ≤ j := by first | decide | exact Nat.le_refl _ | omega) (hg : Gl X x := by rfl) (hdb : (x == ("__debug__" : Str)) = false := by decide)
    (hall : (backToKw pos (keywordEach [⟨some pk, e1, kpos⟩] X.env)).all (·.1.isSome) = true := by rfl) (hks : (backToKw pos (keywordEach [⟨some pk, e1, kpos⟩] X.env)).filterMap (·.1) = [pk] := by rfl)
    (he : starEach [.Starred e p1] X.env = [(true, eval e X.env)] := by rfl) :
    PD X W (.Call (.Name x p) [.Starred e p1] [⟨some pk, e1, kpos⟩] pos) (aNewSK C (kwP 1 sd) te t) := by
  obtain ⟨f, M, _, F⟩ := M
  refine ⟨fun pins s σ H Q I h => ?_⟩
  refine wpAny_Call_Name_kw (ld_glob I hg kc.g ?_ hdb)
  obtain ⟨XR, δ, r, P, ok, h, kk⟩ := h
  rw [he]
  refine GB.callK (PH := fun h => X.K.In h) rfl (PySem.W.keeps_K M.kp) (GB.lone_kw hall ?_)
  refine thn (ha.run pins s σ H (fun y H1 => TD X.K W t σ H1 fun zv H2 => ∃ a xs, y = .ref a ∧ (SqT X.K H2 a xs ∨ SqL X.K H2 a xs) ∧ ∀ x dx, H2 x = Option.none → H2 dx = Option.none → dx ≠ x → lift X.K (kwP 1 sd) (V.ref x :: (xs ++ [zv])) (upd (upd H2 dx (.own x)) x (.ins C dx [])) (fun v H3 => v = .non ∧ Q (.ref x) H3) (WE W σ)) I (td_bind ok h fun d r1 y H1 h1 o1 k1 i1 => td_bind o1 h1 fun z1 r2 v H2 ⟨xs, hd, h2⟩ o2 k2 i2 => ?_)) fun u s1 ⟨y, H1, I1, ry, q⟩ => ?_
  · have i1' := k2 _ _ i1
    rcases hd with rfl | rfl
    · cases i1' with
      | lst n s0 al => exact ⟨_, _, rfl, .inr (SqL.of s0), mk_lift kc.p o2 (al.append (.cons i2 .nil)) (k1.trans k2) h2 kk⟩
    · cases i1' with
      | tup s0 al => exact ⟨_, _, rfl, .inl s0, mk_lift kc.p o2 (al.append (.cons i2 .nil)) (k1.trans k2) h2 kk⟩
  · refine thn ((pk_one ht).run pos pins s1 σ H1 (fun zs H2 => ∃ zv a xs, zs = [zv] ∧ y = .ref a ∧ (SqT X.K H2 a xs ∨ SqL X.K H2 a xs) ∧ ∀ x dx, H2 x = Option.none → H2 dx = Option.none → dx ≠ x → lift X.K (kwP 1 sd) (V.ref x :: (xs ++ [zv])) (upd (upd H2 dx (.own x)) x (.ins C dx [])) (fun v H3 => v = .non ∧ Q (.ref x) H3) (WE W σ)) I1 (let ⟨XR, δ, r, P, o, h, k⟩ := q; ⟨XR, δ, r, P, o, h, fun d r' v H' p o k2 i => let ⟨a, xs, e1, e2, e3⟩ := k d r' v H' p o k2 i; ⟨_, a, xs, rfl, e1, e2, e3⟩⟩)) fun ws s2 ⟨zs, H2, I2, rz, zv, a, xs, ez, ey, hsq, q2⟩ => ?_
    subst ez
    subst ey
    obtain ⟨w1, rfl, rw1⟩ := vals1 rz
    obtain rfl : u = Value.ref a := ry
    rw [hks]
    refine StX.star_any I2 hsq fun us s3 I3 rv => ⟨I3.kIn, ?_⟩
    exact run_mkK M F (hr.mono hj) (passAt tk _) I3 rv rw1 q2
end
end G
namespace GB
open PySem PySem.Spec PySem.W PyProof.Rows
section
variable {prog : Program} {w : World} {A : Around} {E : Value → Shared → Prop} {s : Shared} {K : Frag} {x C L f : Addr} {h₀ : Heap} {m : Str → Option Value} {ox : Obj} {od : Option Obj}
/-- o op y by the class's own def, y of the same class -/
theorem op_same {op : Operator} {b : Value} {Q : Value → Shared → Prop}
    (F : Fr h₀ L s.heap m) (X₀ : K.In h₀) (I : InstAt s.heap x ox C od) (hb : Looks (model prog w) s.heap (typeOf b) (.ref C)) (hc : selfFirst K C = true) (hs : findIn K (.ref C) (PySem.dunder op.info.2) = some (some (.ref f))) (hf : isFn K (.ref f) = true)
    (h : wpAny (model prog w) A (call (.ref f) [.ref x, b]) (W.CmpBack Q) E s) : wpAny (model prog w) A (binaryOp op (.ref x) b) Q E s := by
  have X := X₀.keeps F.keep
  obtain ⟨cd, rest, hcd, hm⟩ := ksp_first hc
  rcases hi : op.info with ⟨sym, nm'⟩
  rw [hi] at hs
  dsimp only at hs
  have call1 := ksp_try X I hs hf h
  obtain ⟨hh, g, d, tt, os⟩ := s
  have A1 : Looks (model prog w) hh (typeOf (.ref x)) (.ref C) := I.type
  have A2 : Looks (model prog w) hh (typeOf b) (.ref C) := hb
  have A3 : Looks (model prog w) hh (fillsNumberSlot (.ref C) nm') true := fills_K X hcd hm hs
  have heq : (Value.ref C == Value.ref C) = true := beq_self_eq_true _
  simp only [binaryOp, hi]
  refine wpAny_holding (wpAny_bind ?_)
  unfold binaryOp1
  refine wpAny_bind (A1.at (wpAny_bind (A2.at (wpAny_bind (A3.at ?_)))))
  simp only [heq, if_true]
  ksp_lk
  refine wpAny_mono call1 (fun r s' hr' => ?_) fun _ _ e => e
  obtain ⟨v, rfl, hq⟩ := hr'
  ksp_lk
  exact hq
/-- an own instance's truth by its __len__ -/
theorem truthy_len {Q : Bool → Shared → Prop} (F : Fr h₀ L s.heap m) (X₀ : K.In h₀) (I : InstAt s.heap x ox C od) (hbo : findIn K (.ref C) "__bool__" = some none) (hs : findIn K (.ref C) "__len__" = some (some (.ref f))) (hf : isFn K (.ref f) = true)
    (h : wpAny (model prog w) A.in1 (call (.ref f) [.ref x]) (W.LenBack fun r s' => ∃ n t, r = .int n t ∧ Q (n != 0) s') E s) : wpAny (model prog w) A (truthy (.ref x)) Q E s := by
  have X := X₀.keeps F.keep
  unfold truthy
  refine wpAny_bind (m := callSpecial? (.ref x) (Str.ofString "__bool__")) (wpAny_bind (wpAny_bind (I.type.here ((looks_findIn X hbo).here (wpAny_pure ?_)))))
  refine wpAny_bind (wpAny_bind (I.type.here ((looks_findIn X hs).here ?_)))
  have key : wpAny (model prog w) A (runValue (.builtin "len" ⟨[.ref x], []⟩)) (fun r s' => ∃ n t, r = .int n t ∧ Q (n != 0) s') E s := by
    refine wpAny_runValue (codeAny_builtin entry_len ?_)
    rw [Around.under_plainId plain_len _]
    unfold Builtin.«len»
    refine wpAny_bind (m := oneArg "len" _) (wpAny_pure ?_)
    refine wpAny_bind (m := callSpecial? (.ref x) (Str.ofString "__len__")) (special_fn X I hs (beq_iff_eq.mp hf) (wpAny_mono h (fun r s' hr => ?_) fun _ _ y => y))
    cases r <;> first | exact hr.elim | skip
    rename_i n u
    obtain ⟨⟨h0, h1⟩, hq⟩ := hr
    refine wpAny_bind (wpAny_holding (wpAny_pure ?_))
    refine wpAny_bind (wpAny_letGo ?_)
    show wpAny _ _ (if n < 0 then _ else _) _ _ _
    rw [if_neg (by omega)]
    show wpAny _ _ (if n ≥ 2 ^ 63 then _ else _) _ _ _
    rw [if_neg (by omega)]
    exact wpAny_bind (wpAny_mkInt (wpAny_pure hq))
  exact wpAny_bind (wpAny_mono key (fun r s' ⟨n, t, e, q⟩ => by subst e; exact wpAny_pure q) fun _ _ e => e)
theorem new_bool (x : Value) : MeetsIn prog w (Builtin.«bool.__new__» ⟨[.type "bool", x], []⟩) (fun A R s => wpAny (model prog w) A.in1 (truthy x) (fun b s1 => R (.ok (.ret (.bool b))) s1) (fun e s1 => R (.error e) s1) s) :=
  .of_wp fun A R s h => by
    have f1 := F.conv_sub_bool
    obtain ⟨hp, g, d, tk, os⟩ := s
    have q1 : ∀ {Q : Bool → Shared → Prop} {E : Value → Shared → Prop}, (∀ b s1, R (.ok (.ret (.bool b))) s1 → Q b s1) → (∀ e s1, R (.error e) s1 → E e s1) → wpAny (model prog w) A.in1 (truthy x) Q E ⟨hp, g, d, tk, os⟩ := fun h1 h2 => wpAny_mono h h1 h2
    repeat (any_goals (first | assumption | (with_reducible refine q1 (fun b s1 hb => ?_) (fun e s1 he => he)) | wp_step))
    all_goals first | exact ⟨_, rfl, hb⟩ | skip
theorem call_bool_any {x : Value} {Q : Value → Shared → Prop} (h : wpAny (model prog w) A.in1.in1 (truthy x) (fun b s1 => Q (.bool b) s1) E s) : wpAny (model prog w) A (call (.type "bool") [x]) Q E s := by
  refine callType_newIn F.called_bool F.newNe_bool (F.typeCall_bool_1 x) (F.newCall_bool_1 x) (fun obj => F.args_object_init_2 obj x) F.entry_bool_new (new_bool x) ?_
  show wpAny (model prog w) A.in1.in1 (truthy x) _ _ _
  refine wpAny_mono h (fun b s1 hb => ?_) fun _ _ z => z
  exact ⟨rfl, hb⟩
end
end GB
namespace G
open PySem PySem.Spec L2 PyProof.Rows
def ClL (P : Program) (w : World) (K : PySem.W.Frag) (mg : Str → Option Value) (base : Heap) (k : Nat) (C : Addr) (sd : SpX) : Prop := PySem.W.findIn K (.ref C) "__bool__" = some none ∧ ClG P w K mg base k C "__len__" sd
def lenQ (P : Bool → Rs → Prop) : PK1 := fun d r2 => ∃ n : Nat, d = .int (n : Nat) ∧ n ≤ 1000000 ∧ P (decide (n ≠ 0)) r2
def rTruI (C : Addr) (sp : Sp) : V → Hp → (Bool → Hp → Prop) → Prop := fun x H Q => ∃ a dx kvs, x = .ref a ∧ H a = some (.ins C dx kvs) ∧ sp [.ref a] H (fun v H' => ∃ n : Nat, v = .int (n : Nat) ∧ n ≤ 1000000 ∧ Q (decide (n ≠ 0)) H') E0
section
variable {X : Cx} {W : WX} {k j : Nat} {C g : Addr} {sp : Sp} {sd : SpX} {a b : Expr} {ta tb : AT} {pos p : Pos}
theorem nat_ne0 (n : Nat) : ((n : Int) != 0) = decide (n ≠ 0) := by
  cases n with
  | zero => rfl
  | succ n => rw [decide_eq_true (Nat.succ_ne_zero n)]; exact bne_iff_ne.mpr (by omega)
theorem truI_at {pins : List (Addr × Obj)} {s : Shared} {σ : L2.St} {H : Hp} {x : V} {v : Value} {Q : Bool → Hp → Prop} {A : Around} {E : Value → Shared → Prop} (hb : PySem.W.findIn X.K (.ref C) "__bool__" = some none) (M : GiK X.K C g "__len__")
    (run : ∀ {vs : List V} {us : List Value} {Q : VK}, Vals vs us → sp vs H Q E0 → wpAny (model X.prog X.w) A.in1 (call (.ref g) us) (EP X pins σ Q) E s) (I : Inv X pins σ H s) (rx : RelV x v) (h : rTruI C sp x H Q) :
    wpAny (model X.prog X.w) A (truthy v) (TP X pins σ Q) E s := by
  obtain ⟨a, dx, kvs, rfl, ha, q⟩ := h
  obtain rfl : v = Value.ref a := rx
  obtain ⟨mA, O, _⟩ := ins_get I.hok ha
  obtain ⟨od, J, _⟩ := O.look
  obtain ⟨m, hF⟩ := I.fr
  refine GB.truthy_len hF I.ok.mod.kin J hb M.at_ M.fn ?_
  refine thn (run (us := [.ref a]) (vs := [.ref a]) (.cons rfl .nil) q) fun w s' z => ?_
  obtain ⟨z', H', I', rz, n, en, hn, qz⟩ := z
  subst en
  obtain ⟨t, rfl⟩ := rz
  refine ⟨⟨Int.natCast_nonneg _, ?_⟩, ?_⟩
  · have : (n : Int) ≤ 1000000 := by omega
    exact Int.lt_of_le_of_lt this (by decide)
  · exact ⟨_, _, rfl, H', I'.tok _, by rw [nat_ne0]; exact qz⟩
/-- bool(o) -/
def aBoolI (C : Addr) (sd : SpX) (l : AL) : AT := fun x δ r P => l x δ r fun ds r1 => ∃ d, ds = [d] ∧ isC C d r1 ∧ sd [d] r1 (lenQ fun b r2 => P (.bl b) r2) noX
theorem d_boolI {e : Expr} {l : AL} (M : ClL X.prog X.w X.K X.mg X.base k C sd) (hr : Room j X.A) (hg : Gl X "bool") (hm : X.mg "bool" = none) (ha : PDL X W [e] l) (hj : k + 3 ≤ j := by first | decide | exact Nat.le_refl _ | omega)
    (he : starEach [e] X.env = (false, eval e X.env) :: starEach [] X.env := by rfl) (hpl : (backTo pos (starEach [] X.env)).any (·.1) = false := by rfl) : PD X W (.Call (.Name "bool" p) [e] [] pos) (aBoolI C sd l) := by
  obtain ⟨hb, g, M, F⟩ := M
  refine imE (pe_callTy (T := "bool") (r := fun vs H Q => ∃ x, vs = [x] ∧ rTruI C (lift X.K sd) x H fun b H' => Q (.bl b) H') (fun pins s σ H vs us Q I rv h => ?_) hg hm (by decide +kernel) ha (by decide) (by decide) he hpl) fun σ H Q q => ?_
  · obtain ⟨x, rfl, h⟩ := h
    obtain ⟨u, rfl, rx⟩ := vals1 rv
    refine GB.call_bool_any (wpAny_mono (truI_at (A := X.A.in1.in1) hb M (fun {vs us Q} r q => ?_) I rx h) (fun b s1 ⟨H', I', q⟩ => ⟨.bl b, H', I', rfl, q⟩) fun _ _ z => z)
    have hr3 : Room (k + 3) X.A := hr.mono hj
    refine wpAny_call (codeAny_mono (F X.A.in1.in1.in1 X.stack s H us vs Q E0 hr3.in1.in1.in1 I.env0.in1.in1.in1 r q) fun r s' hq => ?_)
    cases r with
    | error e => exact passE pins H s e s' I hq
    | ok fl =>
      cases fl with
      | ret u => exact I.after hq
      | next => exact hq.elim
      | brk => exact hq.elim
      | cont => exact hq.elim
  · obtain ⟨XR, δ, r, P, ok, h, kk⟩ := q
    refine tdl_bind ok h fun ds r1 vs H1 ⟨d, ed, hc, h1⟩ o1 k1 i1 => ?_
    subst ed
    cases i1 with
    | cons i1 t =>
      cases t
      obtain ⟨a, dx, kvs, rfl, s, gd⟩ := isC_at hc o1.r i1
      refine ⟨_, rfl, a, dx, kvs, rfl, s, lift_n o1 (.cons i1 .nil) h1 fun d' r' v H' p o3 k3 i3 => ?_⟩
      obtain ⟨n, rfl, hn, p⟩ := p
      cases i3
      exact ⟨n, rfl, hn, kk _ r' _ H' p o3 (k1.trans k3) (.bl _)⟩
structure OpK (K : PySem.W.Frag) (C f : Addr) (m : Str) : Prop where
  at_ : PySem.W.findIn K (.ref C) m = some (some (.ref f))
  fn : PySem.W.isFn K (.ref f) = true
  sf : PySem.W.selfFirst K C = true
def DfOp (K : PySem.W.Frag) (C : Addr) (m qual : Str) (st : Stmt) (ps : List Str) : Prop := ∃ f fd, FunA K m qual st f fd ∧ OpK K C f m ∧ Binds K fd ps []
def ClOp (P : Program) (w : World) (K : PySem.W.Frag) (mg : Str → Option Value) (base : Heap) (k : Nat) (C : Addr) (m : Str) (sd : SpX) : Prop := ∃ f, OpK K C f m ∧ FR P w K mg base k f sd
theorem clop_of {P : Program} {w : World} {K : PySem.W.Frag} {mg : Str → Option Value} {base : Heap} {C : Addr} {m qual : Str} {st : Stmt} {N ps : List Str} {k : Nat} {sd : SpX} (d : DfOp K C m qual st ps) (S : FnScope N ps (defScope st)) (len : ∀ ds r P' XR, sd ds r P' XR → ds.length = ps.length) (h : Bod P w K mg base qual st N k sd) : ClOp P w K mg base (k + 1) C m sd := by
  obtain ⟨f, fd, F, M, b⟩ := d
  exact ⟨f, M, fr_of (fnA_d F S len (h f)) b⟩
def aDunC (C : Addr) (sd : SpX) (ta tb : AT) : AT := fun x δ r P => ta x δ r fun d r1 => tb x δ r1 fun y r2 => isC C d r2 ∧ isC C y r2 ∧ sd [d, y] r2 P fun E fs es r' => x E fs es δ r'
def rDunC (C : Addr) (sp : Sp) (E : XK) : V → V → Hp → VK → Prop := fun x y H Q => ∃ a dx kvs b dy kys, x = .ref a ∧ H a = some (.ins C dx kvs) ∧ y = .ref b ∧ H b = some (.ins C dy kys) ∧ sp [x, y] H Q E
theorem td_dunC {σ : L2.St} {H : Hp} {Q : VK} (q : TD X.K W (aDunC C sd ta tb) σ H Q) : tOp (rDunC C (lift X.K sd) (WE W σ)) (TD X.K W ta) (TD X.K W tb) σ H Q := by
  obtain ⟨XR, δ, r, P, ok, h, kk⟩ := q
  refine td_bind ok h fun d1 r1 v1 H1 h1 o1 k1 i1 => td_bind o1 h1 fun d2 r2 v2 H2 h2 o2 k2 i2 => ?_
  obtain ⟨hc, hc2, h2⟩ := h2
  obtain ⟨a, dx, kvs, rfl, s, gd⟩ := isC_at hc o2.r (k2 _ _ i1)
  obtain ⟨b, dy, kys, rfl, s2, gd2⟩ := isC_at hc2 o2.r i2
  exact ⟨a, dx, kvs, b, dy, kys, rfl, s, rfl, s2, lift_at o2 (.cons (k2 _ _ i1) (.cons i2 .nil)) h2 fun d r' v H' p o3 k3 i3 => kk _ r' _ H' p o3 ((k1.trans k2).trans k3) i3⟩
theorem d_op {m : Str} {op : Operator} (M : ClOp X.prog X.w X.K X.mg X.base k C m sd) (tk : Takes X W) (hr : Room j X.A) (ha : PD X W a ta) (hb : PD X W b tb) (hj : k ≤ j := by first | decide | exact Nat.le_refl _ | omega) (hm : m = PySem.dunder op.info.2 := by rfl) : PD X W (.BinOp a op b pos) (aDunC C sd ta tb) := by
  subst hm
  obtain ⟨f, e, F⟩ := M
  refine ⟨fun pins s σ H Q I h => ?_⟩
  have h2 := td_dunC h
  refine wpAny_BinOp (binT ha hb I h2 fun v u s2 x y H2 I2 rx ry ⟨p, dx, kvs, p2, dy, kys, ex, hp, ey, hp2, q⟩ => ?_)
  subst ex
  subst ey
  obtain rfl : v = Value.ref p := rx
  obtain rfl : u = Value.ref p2 := ry
  obtain ⟨mA, O, _⟩ := ins_get I2.hok hp
  obtain ⟨od, J, _⟩ := O.look
  obtain ⟨mA2, O2, _⟩ := ins_get I2.hok hp2
  obtain ⟨od2, J2, _⟩ := O2.look
  obtain ⟨m, hF⟩ := I2.fr
  refine GB.op_same hF I2.ok.mod.kin J J2.type e.sf e.at_ e.fn ?_
  refine thn (call_P (us := [.ref p, .ref p2]) (vs := [.ref p, .ref p2]) F (hr.mono hj) (passAt tk _) I2 (.cons rfl (.cons rfl .nil)) q) fun w s' hz => ?_
  obtain ⟨z', H', I', rz, qz⟩ := hz
  exact SlX.cmpback rz ⟨_, H', I', rz, qz⟩
structure SiK (K : PySem.W.Frag) (C f : Addr) : Prop where
  at_ : PySem.W.findIn K (.ref C) "__setitem__" = some (some (.ref f))
  fn : PySem.W.isFn K (.ref f) = true
  nq : PySem.W.noSeq K C = true
def DfSi (K : PySem.W.Frag) (C : Addr) (qual : Str) (st : Stmt) (ps : List Str) : Prop := ∃ f fd, FunA K "__setitem__" qual st f fd ∧ SiK K C f ∧ Binds K fd ps []
def ClSi (P : Program) (w : World) (K : PySem.W.Frag) (mg : Str → Option Value) (base : Heap) (k : Nat) (C : Addr) (sd : SpX) : Prop := ∃ f, SiK K C f ∧ FR P w K mg base k f sd
theorem clsi_of {P : Program} {w : World} {K : PySem.W.Frag} {mg : Str → Option Value} {base : Heap} {C : Addr} {qual : Str} {st : Stmt} {N ps : List Str} {k : Nat} {sd : SpX} (d : DfSi K C qual st ps) (S : FnScope N ps (defScope st)) (len : ∀ ds r P' XR, sd ds r P' XR → ds.length = ps.length) (h : Bod P w K mg base qual st N k sd) : ClSi P w K mg base (k + 1) C sd := by
  obtain ⟨f, fd, F, M, b⟩ := d
  exact ⟨f, M, fr_of (fnA_d F S len (h f)) b⟩
def sSetIt (C : Addr) (sd : SpX) (td ty tv : AT) : AS := fun A δ r => tv A.xr δ r fun z r1 => td A.xr δ r1 fun d r2 => ty A.xr δ r2 fun y r3 => isC C d r3 ∧ sd [d, y, z] r3 (fun _ r4 => A.nx δ r4) fun E fs es r' => A.xr E fs es δ r'
theorem s_setit {o i value : Expr} {td ty tv : AT} {pos' : Pos} (M : ClSi X.prog X.w X.K X.mg X.base k C sd) (tk : Takes X W) (hr : Room j X.A) (ho : PD X W o td) (hi : PD X W i ty) (hv : PD X W value tv) (hj : k ≤ j := by first | decide | exact Nat.le_refl _ | omega)
    (hs : swapsWith value (some (.Subscript o i pos')) pos.line X.env = pure false := by rfl) : PSD X W (.Assign [.Subscript o i pos'] value pos) (sSetIt C sd td ty tv) := by
  obtain ⟨f, M0, F⟩ := M
  refine ⟨fun pins s σ H D I ⟨δ, r, A, ok, h, ff⟩ => ?_⟩
  refine wpAny_Assign_Subscript (thn (hv.run pins s σ H (fun v H1 => TD X.K W td σ H1 fun x H2 => TD X.K W ty σ H2 fun y H3 => ∃ a dx kvs, x = .ref a ∧ H3 a = some (.ins C dx kvs) ∧ lift X.K sd [x, y, v] H3 (fun _ H4 => D.nx σ H4) (WE W σ)) I (td_bind ok h fun z r1 v H1 h1 o1 k1 i1 => td_bind o1 h1 fun d r2 x H2 h2 o2 k2 i2 => td_bind o2 h2 fun y r3 v3 H3 ⟨hc, h3⟩ o3 k3 i3 => ?_)) fun r0 s1 ⟨v, H1, I1, rv, q1⟩ => thn (ho.run pins s1 σ H1 _ I1 q1) fun u s2 ⟨x, H2, I2, rx, q2⟩ => thn (hi.run pins s2 σ H2 _ I2 q2) fun iv s3 ⟨y, H3, I3, ry, a, dx, kvs, ex, hp, q⟩ => ?_) hs
  · obtain ⟨a, dx, kvs, rfl, s0, gd⟩ := isC_at hc o3.r (k3 _ _ i2)
    exact ⟨a, dx, kvs, rfl, s0, lift_at o3 (.cons (k3 _ _ i2) (.cons i3 (.cons (k3 _ _ (k2 _ _ i1)) .nil))) h3 fun d' r' v' H' p o4 k4 i4 => ff.nx _ _ _ _ p o4 (((k1.trans k2).trans k3).trans k4)⟩
  · subst ex
    obtain rfl : u = Value.ref a := rx
    obtain ⟨mA, O, _⟩ := ins_get I3.hok hp
    obtain ⟨od, J, _⟩ := O.look
    obtain ⟨m, hF⟩ := I3.fr
    refine PySem.W.ksp_setItem hF I3.ok.mod.kin J M0.nq M0.at_ M0.fn ?_
    refine thn (call_P (us := [.ref a, iv, r0]) (vs := [.ref a, y, v]) F (hr.mono hj) (passAt tk _) I3 (.cons rfl (.cons ry (.cons rv .nil))) q) fun w s' hz => ?_
    obtain ⟨z', H', I', rz, qz⟩ := hz
    exact ⟨σ, H', I', qz⟩
end
end G
namespace G
open PySem PySem.Spec L2
def sm (l : List (Str × Str)) : List (Key × D) := l.map fun e => (.inr e.1, .str e.2)
def sGet (l : List (Str × Str)) (z : Str) : Option Str := (l.find? fun e => decide (e.1 = z)).map (·.2)
def eqS (l m : List (Str × Str)) : Bool := l.length == m.length && l.all fun e => sGet m e.1 == some e.2
def smV (l : List (Str × Str)) : List (Key × V) := l.map fun e => (.inr e.1, V.str e.2)
theorem sm_val {K : PySem.W.Frag} {N : Addr → Prop} {H : Hp} : ∀ {xs : List (Key × V)} {l : List (Str × Str)}, IsKV K N H xs (sm l) → xs = smV l
  | _, [], h => by cases h; rfl
  | _, e :: l, h => by
    cases h with
    | cons h t =>
      cases h
      rw [sm_val t]
      rfl
theorem smV_get (z : Str) : ∀ l : List (Str × Str), valV (smV l) (.inr z) = (sGet l z).map V.str
  | [] => rfl
  | e :: l => by
    have ih := smV_get z l
    unfold sGet at ih ⊢
    unfold valV at ih ⊢
    show Option.map _ (List.find? _ ((Sum.inr e.1, V.str e.2) :: smV l)) = _
    rw [List.find?_cons, List.find?_cons]
    by_cases h : e.1 = z
    · rw [show decide ((Sum.inr e.1 : Key) = Sum.inr z) = true from decide_eq_true (by rw [h]), show decide (e.1 = z) = true from decide_eq_true h]
      rfl
    · rw [show decide ((Sum.inr e.1 : Key) = Sum.inr z) = false from decide_eq_false fun q => h (Sum.inr.inj q), show decide (e.1 = z) = false from decide_eq_false h]
      exact ih
theorem sm_get (z : Str) : ∀ l : List (Str × Str), dGet (sm l) (.inr z) = (sGet l z).map D.str
  | [] => rfl
  | e :: l => by
    have ih := sm_get z l
    unfold sGet at ih ⊢
    unfold dGet at ih ⊢
    show Option.map _ (List.find? _ ((Sum.inr e.1, D.str e.2) :: sm l)) = _
    rw [List.find?_cons, List.find?_cons]
    by_cases h : e.1 = z
    · rw [show decide ((Sum.inr e.1 : Key) = Sum.inr z) = true from decide_eq_true (by rw [h]), show decide (e.1 = z) = true from decide_eq_true h]
      rfl
    · rw [show decide ((Sum.inr e.1 : Key) = Sum.inr z) = false from decide_eq_false fun q => h (Sum.inr.inj q), show decide (e.1 = z) = false from decide_eq_false h]
      exact ih
theorem hits_str {A : Around} {s : Shared} {m : List (Str × Str)} {vb : List (Key × Value)} (rb : KV (smV m) vb) : ∀ {l : List (Str × Str)} {va : List (Key × Value)}, KV (smV l) va → PySem.W.KeqHits A s vb va (l.all fun e => sGet m e.1 == some e.2)
  | [], _, h => by cases h; exact .nil
  | e :: l, _, h => by
    cases h with
    | cons h t =>
      rename_i q qs
      obtain ⟨k, v⟩ := q
      obtain ⟨h1, h2⟩ := h
      have h1 : (Sum.inr e.1 : Key) = k := h1
      subst h1
      obtain ⟨tk, rfl⟩ := h2
      have rr := rb.val (Sum.inr e.1 : Key)
      rw [smV_get] at rr
      have ih := hits_str (A := A) (s := s) (m := m) rb (l := l) t
      show PySem.W.KeqHits A s vb ((Sum.inr e.1, Value.str e.2 tk) :: qs) ((sGet m e.1 == some e.2) && _)
      cases hg : sGet m e.1 with
      | none =>
        rw [hg] at rr
        have : valueAt vb (Sum.inr e.1 : Key) = none := by
          cases hv : valueAt vb (Sum.inr e.1 : Key) with
          | none => rfl
          | some y => rw [hv] at rr; exact rr.elim
        exact .miss this
      | some z =>
        rw [hg] at rr
        obtain ⟨y, hy, ry⟩ := rr.some_of
        obtain ⟨t2, rfl⟩ := ry
        have e2 : (some z == some e.2) = (e.2 == z) := by
          show (z == e.2) = (e.2 == z)
          exact BEq.comm
        rw [e2]
        exact .hit hy (SeqAt.EqAt.str_str _ _ _ _) ih
structure oEqDc (neg : Bool) (r : Rs) (x y : D) (k : D → Prop) : Prop where
  ex : ∃ l m, DctV r x (sm l) ∧ DctV r y (sm m) ∧ k (.bl (cond neg (!eqS l m) (eqS l m)))
theorem eq_dct {X : Cx} (hu : X.A.units < cLine) : OpR X (compareOp .Eq) (rD2 X.K (oEqDc false)) := by
  rintro pins s σ H x y v u Q I rx ry ⟨r, d1, d2, P, hr, i1, i2, ⟨l, m, h1, h2, ho⟩, k⟩
  obtain ⟨a, xs, rfl, e1, e2⟩ := h1.at_ hr i1
  obtain ⟨b, ys, rfl, f1, f2⟩ := h2.at_ hr i2
  obtain rfl := sm_val e2
  obtain rfl := sm_val f2
  obtain rfl : v = Value.ref a := rx
  obtain rfl : u = Value.ref b := ry
  obtain ⟨_, ya, va, ra, da⟩ := (show ObjOk X.prog X.w H s.heap a (.dK (smV l)) from e1.ok I.hok)
  obtain ⟨_, yb, vb, rb, db⟩ := (show ObjOk X.prog X.w H s.heap b (.dK (smV m)) from f1.ok I.hok)
  have hl : va.length = l.length := by rw [← ra.length]; exact List.length_map _
  have hl2 : vb.length = m.length := by rw [← rb.length]; exact List.length_map _
  refine PySem.W.keq_eq (knd := mixKind X.prog X.w) ya yb da db hu (fun _ => hits_str (l := l) (m := m) (va := va) rb ra) ?_
  refine ⟨.bl (eqS l m), H, I, ?_, k _ _ H ho (Ext.refl H) (.bl _)⟩
  rw [hl, hl2]
  rfl
inductive SeqV (r : Rs) : D → List D → Prop
  | lst (xs : List D) : SeqV r (.lst xs) xs
  | tup (xs : List D) : SeqV r (.tup xs) xs
  | own {l : Addr} {xs : List D} (h : Own r l xs) : SeqV r (.adr l) xs
theorem SeqV.at_ {K : PySem.W.Frag} {r : Rs} {H : Hp} {d : D} {v : V} {xs : List D} (h : SeqV r d xs) (ro : Rok K r H) (i : Is K (mem r) H v d) : ∃ a vs, v = .ref a ∧ (SqT K H a vs ∨ SqL K H a vs) ∧ IsAll K (mem r) H vs xs := by
  cases h with
  | lst => cases i with | lst n s al => exact ⟨_, _, rfl, .inr (SqL.of s), al⟩
  | tup => cases i with | tup s al => exact ⟨_, _, rfl, .inl s, al⟩
  | own ow =>
    cases i
    obtain ⟨vs, h, al⟩ := own_get ro ow
    exact ⟨_, vs, rfl, .inr (SqL.of h), al⟩
def aStarE (t : AT) (l : AL) : AL := fun x δ r P => t x δ r fun d r1 => ∃ xs, SeqV r1 d xs ∧ l x δ r1 fun ds r2 => P (xs ++ ds) r2
theorem dl_starE {X : Cx} {W : WX} {e : Expr} {es : List Expr} {p : Pos} {t : AT} {l : AL} (ha : PD X W e t) (hr : PDL X W es l) (hs : starEach (.Starred e p :: es) X.env = (true, eval e X.env) :: starEach es X.env := by rfl) : PDL X W (.Starred e p :: es) (aStarE t l) := imA (StX.pa_star ha hr hs) fun σ H Q q => by
  obtain ⟨XR, δ, r, P, o, h, k⟩ := q
  refine td_bind o h fun d r1 v H1 ⟨xs, hs, h1⟩ o1 k1 i1 => ?_
  obtain ⟨a, vs, rfl, hq, al⟩ := hs.at_ o1.r i1
  exact ⟨a, vs, rfl, hq, tdl_bind o1 h1 fun ds r2 vs H2 h2 o2 k2 i2 => k _ r2 _ H2 h2 o2 (k1.trans k2) ((k2.all al).append i2)⟩
end G
namespace G
open PySem PySem.Spec L2
theorem lck_put {K : PySem.W.Frag} {pre post : Rs} {H : Hp} {a : Addr} {kvs : List (Key × D)} {xs : List (Key × V)} (od : Obj) (h : Rok K (pre ++ dctA a kvs :: post) H) (e : H a = some (.dK xs)) (i : IsKV K (mem (pre ++ dctA a kvs :: post)) H xs kvs) :
    Rok K (pre ++ lckA a od xs kvs :: post) (upd H a (.frz od (.dK xs))) ∧ Kp K (pre ++ dctA a kvs :: post) H (pre ++ lckA a od xs kvs :: post) (upd H a (.frz od (.dK xs))) :=
  mid_put (t := dctA a kvs) (t' := lckA a od xs kvs) (u' := .frz od (.dK xs)) rfl rfl e (fun xs => ⟨(fun e => by cases e), fun o e => by cases e⟩) h fun go => ⟨upd_same, i.go go⟩
theorem lck_off {K : PySem.W.Frag} {pre post : Rs} {H : Hp} {a : Addr} {kvs : List (Key × D)} {xs : List (Key × V)} {od : Obj} (h : Rok K (pre ++ lckA a od xs kvs :: post) H) :
    H a = some (.frz od (.dK xs)) ∧ Rok K (pre ++ dctA a kvs :: post) (upd H a (.dK xs)) ∧ Kp K (pre ++ lckA a od xs kvs :: post) H (pre ++ dctA a kvs :: post) (upd H a (.dK xs)) := by
  obtain ⟨e, i⟩ := mid_R h
  obtain ⟨q1, q2⟩ := mid_put (t := lckA a od xs kvs) (t' := dctA a kvs) (u' := .dK xs) rfl rfl e (fun xs => ⟨(fun e => by cases e), fun o e => by cases e⟩) h fun go => ⟨xs, upd_same, i.go go⟩
  exact ⟨e, q1, q2⟩
/-- behind the lock -/
def unl (a : Addr) (od : Obj) (xs : List (Key × V)) (kvs : List (Key × D)) (f : Rs → Prop) (r' : Rs) : Prop := ∃ pre post, r' = pre ++ lckA a od xs kvs :: post ∧ f (pre ++ dctA a kvs :: post)
def noXT : XT := fun _ _ _ _ _ => False
theorem Ok.noX {K : PySem.W.Frag} {W : WX} {r : Rs} {δ : Dl} {σ : L2.St} {H : Hp} (o : Okb K r δ σ H) : Ok K W noXT r δ σ H := ⟨o, fun _ _ _ _ _ _ _ _ z => z.elim⟩
def lckN (A : An) (a : Addr) (od : Obj) (xs : List (Key × V)) (kvs : List (Key × D)) (I : Dl → Rs → Prop) : An :=
  { nx := I, ct := I, bk := fun δ' r' => unl a od xs kvs (A.nx δ') r', rt := fun d r' => unl a od xs kvs (A.rt d) r', xr := noXT }
def sForD (i : Nat) (g : AG) (tb : AS) : AS := fun A δ r => ∃ a kvs pre post, lk δ i = some (.adr a) ∧ r = pre ++ dctA a kvs :: post ∧ (∀ z, Sum.inr z ∈ kvs.map (·.1) → sok z) ∧ ∀ od xs, ∃ I : Nat → Dl → Rs → Prop, I 0 δ (pre ++ lckA a od xs kvs :: post) ∧
  (∀ j δ' r', I j δ' r' → ∃ pre' post', r' = pre' ++ lckA a od xs kvs :: post') ∧ (∀ j k d δ' r', kvs[j]? = some (k, d) → I j δ' r' → g (kD k) δ' fun δ2 => tb (lckN A a od xs kvs (I (j + 1))) δ2 r') ∧ ∀ δ' r', I kvs.length δ' r' → unl a od xs kvs (A.nx δ') r'
theorem kv_at {K : PySem.W.Frag} {N : Addr → Prop} {H : Hp} : ∀ {xs : List (Key × V)} {kvs : List (Key × D)}, IsKV K N H xs kvs → ∀ {j : Nat} {k : Key} {v : V}, xs[j]? = some (k, v) → ∃ d, kvs[j]? = some (k, d)
  | _, _, .nil, j, k, v, e => by simp at e
  | _, _, .cons (d := d) h t, 0, k, v, e => by
    cases e
    exact ⟨d, rfl⟩
  | _, _, .cons h t, j + 1, k, v, e => by
    obtain ⟨d, hd⟩ := kv_at t (j := j) (by simpa using e)
    exact ⟨d, by simpa using hd⟩
theorem s_forD {X : Cx} {W : WX} {tg : Expr} {x : Str} {p pos : Pos} {body : List Stmt} {js : List Nat} {g : AG} {tb : AS} (i : Nat) (hg : PDG X tg js g) (hb : PBD X W body tb) (hp : PassesOwn (model X.prog X.w) X.A X.env X.xe) (hN : X.N[i]? = some x := by rfl) (hv : Vis X.env.scope x := by first | exact Or.inl rfl | exact Or.inr (Or.inl rfl) | exact Or.inr (Or.inr rfl))
    (hd : (x == ("__debug__" : Str)) = false := by decide) (hcd : (x == ("__classdict__" : Str)) = false := by decide) (hc : X.calm = true := by rfl) (hs : ∀ y, foldedSetIterable (.Name x p) X.env y = pure y := by intro _; rfl) :
    PSD X W (.For tg (.Name x p) body [] pos) (sForD i g tb) := imS (ps_lock (ps_for hp hc (pi_keys (pe_var hN hv hd hcd)) hg hb hs)) fun D σ H ⟨δ, r, A, o, h, f⟩ => by
  obtain ⟨a, kvs, pre, post, hi, rfl, hsk, h⟩ := h
  obtain ⟨xs, e1, e2⟩ := dct_at o.r ⟨pre, post, rfl⟩
  refine ⟨a, .dK xs, e1, True.intro, fun od => ?_⟩
  obtain ⟨I, h0, hlk, hst, hend⟩ := h od xs
  obtain ⟨l1, l2⟩ := lck_put od o.r e1 e2
  obtain ⟨v, hv1, hv2⟩ := o.env i _ (lk_get hi)
  have hlen : xs.length = kvs.length := e2.length
  have finish : ∀ {σ' : L2.St} {H' : Hp} {δ' : Dl} {r' : Rs}, unl a od xs kvs (A.nx δ') r' → Okb X.K r' δ' σ' H' → Kp X.K (pre ++ lckA a od xs kvs :: post) (upd H a (.frz od (.dK xs))) r' H' → H' a = some (.frz od (.dK xs)) ∧ D.nx σ' (upd H' a (.dK xs)) := fun {σ' H' δ' r'} hu ob kp => by
    obtain ⟨pre', post', rfl, hn⟩ := hu
    obtain ⟨q1, q2, q3⟩ := lck_off ob.r
    have kk := (l2.trans kp).trans q3
    exact ⟨q1, f.nx _ _ _ _ hn ⟨ob.step q3 q2, o.x.step kk⟩ kk⟩
  refine ⟨v, hv1, a, od, (by cases hv2; rfl), .inl ⟨xs, upd_same, ?_⟩⟩
  refine ⟨fun j m σ' H' => m = kvs.length - j ∧ j ≤ kvs.length ∧ ∃ δ' r', I j δ' r' ∧ Okb X.K r' δ' σ' H' ∧ Kp X.K (pre ++ lckA a od xs kvs :: post) (upd H a (.frz od (.dK xs))) r' H', ⟨kvs.length, by simp, Nat.zero_le _, δ, _, h0, o.b.step l2 l1, Kp.refl⟩, ?_⟩
  rintro j m σ' H' ⟨rfl, hj, δ', r', hI, ob, kp⟩
  obtain ⟨pre', post', er⟩ := hlk _ _ _ hI
  have mr : H' a = some (.frz od (.dK xs)) ∧ IsKV X.K (mem r') H' xs kvs := by
    subst er
    exact mid_R ob.r
  by_cases hlt : j < kvs.length
  · refine .inr ⟨⟨mr.1, by rw [hlen]; exact hlt⟩, fun σ2 H2 => ∃ δ2 r2, I (j + 1) δ2 r2 ∧ Okb X.K r2 δ2 σ2 H2 ∧ Kp X.K (pre ++ lckA a od xs kvs :: post) (upd H a (.frz od (.dK xs))) r2 H2, fun σ2 H2 ⟨δ2, r2, q1, q2, q3⟩ => ⟨kvs.length - (j + 1), by omega, rfl, hlt, δ2, r2, q1, q2, q3⟩, fun y H2 hy => ?_⟩
    obtain ⟨rfl, k, v, hk, rfl⟩ := hy
    obtain ⟨d, hd⟩ := kv_at mr.2 hk
    have ik : Is X.K (mem r') H2 (kV k) (kD k) := by
      obtain ⟨d', q1, q2⟩ := (keys_all mr.2 hsk).get (i := j) (v := kV k) (by rw [List.getElem?_map, hk]; rfl)
      rw [List.getElem?_map, hd] at q1
      cases q1
      exact q2
    refine ⟨W, noXT, δ', r', _, _, Ok.noX ob, ik, hst j k d δ' r' hd hI, fun δ2 σ2 q o2 _ => ⟨δ2, r', _, o2, q, ?_⟩⟩
    refine ⟨fun δ3 r3 σ3 H3 a3 o3 k3 => ⟨δ3, r3, a3, o3.b, kp.trans k3⟩, fun d r3 v H3 a3 o3 k3 i3 => ?_, fun δ3 r3 σ3 H3 a3 o3 k3 => finish a3 o3.b (kp.trans k3), fun δ3 r3 σ3 H3 a3 o3 k3 => ⟨δ3, r3, a3, o3.b, kp.trans k3⟩⟩
    obtain ⟨pre2, post2, rfl, hn⟩ := a3
    obtain ⟨q1, q2, q3⟩ := lck_off o3
    have kk := (l2.trans (kp.trans k3)).trans q3
    exact ⟨q1, f.rt _ _ _ _ hn q2 kk (q3 _ _ i3)⟩
  · have e : j = kvs.length := by omega
    exact .inl ⟨⟨mr.1, by rw [hlen, e] <;> exact Nat.le_refl _⟩, finish (hend δ' r' (e ▸ hI)) ob kp⟩
structure aLcDK (g : AG) (tt : AB) (te : AT) (δw : Dl) (a : Addr) (od : Obj) (xs : List (Key × V)) (kvs : List (Key × D)) (r1 : Rs) (P : PK1) : Prop where
  ex : ∃ I : Nat → List D → Rs → Prop, I 0 [] r1 ∧ (∀ j acc r', I j acc r' → ∃ pre' post', r' = pre' ++ lckA a od xs kvs :: post') ∧
  (∀ (p : Addr) j k d acc r', kvs[j]? = some (k, d) → I j acc r' → g (kD k) δw fun δ2 => tt noXT δ2 (r' ++ [lstA p acc]) fun b r2 =>
    (b = true → te noXT δ2 r2 fun y r3 => small (acc.length + 1) ∧ ∃ r4, le r3 (r4 ++ [lstA p acc]) ∧ I (j + 1) (acc ++ [y]) r4) ∧ (b = false → ∃ r4, le r2 (r4 ++ [lstA p acc]) ∧ I (j + 1) acc r4)) ∧
  ∀ acc r', I kvs.length acc r' → unl a od xs kvs (P (.lst acc)) r'
def aLcD (i : Nat) (g : AG) (tt : AB) (te : AT) (vs : List Nat) : AT := fun x δ r P => ∃ a kvs pre post, lk δ i = some (.adr a) ∧ r = pre ++ dctA a kvs :: post ∧ (∀ z, Sum.inr z ∈ kvs.map (·.1) → sok z) ∧ ∀ od xs, aLcDK g tt te (wipeD δ vs) a od xs kvs (pre ++ lckA a od xs kvs :: post) P
theorem d_lcD {X : Cx} {W : WX} {elt tg : Expr} {x : Str} {p0 : Pos} {ifs : List Expr} {scope : Scope} {own : List (Str × Nat)} {pos : Pos} {js : List Nat} {g : AG} {tt : AB} {te : AT} (i : Nat) (hN : X.N.Nodup) (ok : BlkOk X.N X.env.scope scope own)
    (hg : ∀ (s : Shared) (H : Hp) (C : Addr) (cl : List (Str × Addr)) (fp : List Addr), PDG (X.blk s H scope (compEnvC scope cl C X.env) fp) tg js g) (ht : ∀ (s : Shared) (H : Hp) (C : Addr) (cl : List (Str × Addr)) (fp : List Addr), PTs (X.blk s H scope (compEnvC scope cl C X.env) fp) ifs (TDB X.K W tt))
    (he : ∀ (s : Shared) (H : Hp) (C : Addr) (cl : List (Str × Addr)) (fp : List Addr), PD (X.blk s H scope (compEnvC scope cl C X.env) fp) W elt te) (hj : ∀ j ∈ js, j ∈ own.map (·.2) := by decide) (hc : X.calm = true := by rfl) (hi : X.N[i]? = some x := by rfl) (hv : Vis X.env.scope x := by first | exact Or.inl rfl | exact Or.inr (Or.inl rfl) | exact Or.inr (Or.inr rfl))
    (hd : (x == ("__debug__" : Str)) = false := by decide) (hcd : (x == ("__classdict__" : Str)) = false := by decide) (hs : ∀ y, foldedSetIterable (.Name x p0) X.env y = pure y := by intro _; rfl) :
    PD X W (.ListComp elt [⟨tg, .Name x p0, ifs, 0⟩] scope pos) (aLcD i g tt te (own.map (·.2))) :=
  imE (pe_lock (pe_lc (g := TDG X.K js g) (tt := TDB X.K W tt) (te := TD X.K W te) hc hN (pi_keys (pe_var hi hv hd hcd)) ok hg ht he hs)) fun σ H Q ⟨XR, δ, r, P, o, h, k⟩ => by
    obtain ⟨a, kvs, pre, post, hi, rfl, hsk, h⟩ := h
    obtain ⟨xs, e1, e2⟩ := dct_at o.r ⟨pre, post, rfl⟩
    refine ⟨a, .dK xs, e1, True.intro, fun od => ?_⟩
    obtain ⟨I, h0, hlk, hst, hend⟩ := (h od xs).ex
    obtain ⟨l1, l2⟩ := lck_put od o.r e1 e2
    obtain ⟨v, hv1, hv2⟩ := o.env i _ (lk_get hi)
    have hlen : xs.length = kvs.length := e2.length
    refine ⟨v, hv1, a, od, (by cases hv2; rfl), .inl ⟨xs, upd_same, fun p hp => ?_⟩⟩
    obtain ⟨s1, s2⟩ := rok_plus l1 hp
    refine ⟨fun j m H' => m = kvs.length - j ∧ j ≤ kvs.length ∧ ∃ acc r', I j acc r' ∧ Rok X.K (r' ++ [lstA p acc]) H' ∧ Kp X.K (pre ++ lckA a od xs kvs :: post) (upd H a (.frz od (.dK xs))) (r' ++ [lstA p acc]) H', ⟨kvs.length, by simp, Nat.zero_le _, [], _, h0, s1, s2⟩, ?_⟩
    rintro j m H' ⟨rfl, hj', acc, r', hI, ro, kp⟩
    obtain ⟨pre', post', er⟩ := hlk _ _ _ hI
    have mr : H' a = some (.frz od (.dK xs)) ∧ IsKV X.K (mem (r' ++ [lstA p acc])) H' xs kvs := by
      subst er
      rw [List.append_assoc] at ro ⊢
      exact mid_R ro
    by_cases hlt : j < kvs.length
    · refine .inr ⟨⟨mr.1, by rw [hlen]; exact hlt⟩, fun H2 => ∃ acc r2, I (j + 1) acc r2 ∧ Rok X.K (r2 ++ [lstA p acc]) H2 ∧ Kp X.K (pre ++ lckA a od xs kvs :: post) (upd H a (.frz od (.dK xs))) (r2 ++ [lstA p acc]) H2, fun H2 ⟨acc, r2, q1, q2, q3⟩ => ⟨kvs.length - (j + 1), by omega, rfl, hlt, acc, r2, q1, q2, q3⟩, fun y H2 hy => ?_⟩
      obtain ⟨rfl, kk, v, hk, rfl⟩ := hy
      obtain ⟨d, hd⟩ := kv_at mr.2 hk
      have ik : Is X.K (mem (r' ++ [lstA p acc])) H2 (kV kk) (kD kk) := by
        obtain ⟨d', q1, q2⟩ := (keys_all mr.2 hsk).get (i := j) (v := kV kk) (by rw [List.getElem?_map, hk]; rfl)
        rw [List.getElem?_map, hd] at q1
        cases q1
        exact q2
      have o1 : Ok X.K W noXT (r' ++ [lstA p acc]) δ σ H2 := Ok.noX (o.b.step (l2.trans kp) ro)
      refine ⟨W, noXT, wipeD δ (own.map (·.2)), _, _, _, o1.wipe _, ik, hst p j kk d acc r' hd hI, fun δ2 σ2 q o3 ag => ⟨wipe_agree ag hj, noXT, δ2, _, _, o3, q, fun b r3 H3 q3 o4 k4 => ?_⟩⟩
      cases b with
      | true =>
        show TD X.K W te σ2 H3 _
        refine td_bind o4 (q3.1 rfl) fun y r5 v H5 ⟨sz, r6, l6, h5⟩ o5 k5 i5 => ?_
        obtain ⟨ws, e1, e2, e3, e4⟩ := rok_more (le_rok l6 o5.r) (is_anti l6.m i5)
        refine ⟨ws, e1, by rw [e2]; exact Nat.lt_of_lt_of_le (Nat.lt_succ_self _) sz.sz, acc ++ [y], r6, h5, e3, fun v' d' z => e4 _ _ (is_anti l6.m (k5 _ _ (k4 _ _ (kp _ _ z))))⟩
      | false =>
        show ∃ acc r2, _
        obtain ⟨r6, l6, h5⟩ := q3.2 rfl
        exact ⟨acc, r6, h5, le_rok l6 o4.r, fun v' d' z => is_anti l6.m (k4 _ _ (kp _ _ z))⟩
    · have e : j = kvs.length := by omega
      obtain ⟨d1, d2, d3⟩ := rok_done ro
      refine .inl ⟨⟨mr.1, by rw [hlen, e] <;> exact Nat.le_refl _⟩, mr.1, ?_⟩
      obtain ⟨pre2, post2, e5, hn⟩ := hend acc r' (e ▸ hI)
      subst e5
      obtain ⟨q1, q2, q3⟩ := lck_off d1
      have kk := ((l2.trans kp).trans d3).trans q3
      exact k _ _ _ _ hn ⟨o.b.step kk q2, o.x.step kk⟩ kk (q3 _ _ d2)
end G
namespace G
open PySem PySem.Spec L2
structure oLenDv (r : Rs) (ds : List D) (k : D → Prop) : Prop where
  ex : ∃ d kvs, ds = [d] ∧ DctV r d kvs ∧ k (.int (kvs.length : Nat))
theorem c_lenDv {X : Cx} : CallR X (.builtin "len") (rC2 X.K oLenDv) := by
  rintro pins s σ H vs us Q I rv ⟨r, ds, P, hr, i, ⟨d, kvs, rfl, hd, ho⟩, k⟩
  cases i with
  | cons i t =>
    cases t
    obtain ⟨a, xs, rfl, e1, e2⟩ := hd.at_ hr i
    obtain ⟨u, rfl, ru⟩ := vals1 rv
    cases ru
    exact d_len I e1 fun t s' I' => ⟨.int xs.length, H, I', ⟨t, rfl⟩, by rw [e2.length]; exact k _ _ H ho (Ext.refl H) (.int _)⟩
theorem app_mem {α : Type} {x : α} {l : List α} (h : x ∈ l) : ∃ pre post, l = pre ++ x :: post := List.append_of_mem h
def mPut (l : List (Str × Str)) (z m : Str) : List (Str × Str) := if (l.any fun e => decide (e.1 = z)) = true then l.map (fun e => if e.1 = z then (e.1, m) else e) else l ++ [(z, m)]
def mDrop (l : List (Str × Str)) (z : Str) : List (Str × Str) := l.filter fun e => decide (e.1 ≠ z)
theorem sm_any (z : Str) : ∀ l : List (Str × Str), ((sm l).any fun kv => decide (kv.1 = (Sum.inr z : Key))) = l.any fun e => decide (e.1 = z)
  | [] => rfl
  | e :: l => by
    have ih := sm_any z l
    unfold sm at ih ⊢
    rw [List.map_cons, List.any_cons, List.any_cons, ih]
    congr 1
    by_cases h : e.1 = z
    · rw [decide_eq_true h]
      exact decide_eq_true (by rw [h])
    · rw [decide_eq_false h]
      exact decide_eq_false fun q => h (Sum.inr.inj q)
theorem sm_put (l : List (Str × Str)) (z m : Str) : dPut (sm l) (.inr z) (.str m) = sm (mPut l z m) := by
  unfold dPut mPut
  rw [sm_any]
  by_cases h : (l.any fun e => decide (e.1 = z)) = true
  · rw [if_pos h, if_pos h]
    unfold sm
    rw [List.map_map, List.map_map]
    refine List.map_congr_left fun e _ => ?_
    show (if (Sum.inr e.1 : Key) = Sum.inr z then (Sum.inr e.1, D.str m) else (Sum.inr e.1, D.str e.2)) = ((Sum.inr (if e.1 = z then (e.1, m) else e).1 : Key), D.str (if e.1 = z then (e.1, m) else e).2)
    by_cases q : e.1 = z
    · rw [if_pos q, if_pos (by rw [q])]
    · rw [if_neg q, if_neg fun k => q (Sum.inr.inj k)]
  · rw [if_neg h, if_neg h]
    unfold sm
    rw [List.map_append]
    rfl
theorem sm_drop (l : List (Str × Str)) (z : Str) : dDrop (sm l) (.inr z) = sm (mDrop l z) := by
  unfold dDrop mDrop sm
  rw [List.filter_map]
  congr 1
  refine List.filter_congr fun e _ => ?_
  exact decide_eq_decide.mpr ⟨fun k w => k (by show (Sum.inr e.1 : Key) = Sum.inr z; rw [w]), fun k w => k (Sum.inr.inj w)⟩
theorem sm_len (l : List (Str × Str)) : (sm l).length = l.length := List.length_map _
theorem sm_keys (l : List (Str × Str)) : ((sm l).map fun kv => kD kv.1) = (l.map (·.1)).map D.str := by
  unfold sm
  rw [List.map_map, List.map_map]
  rfl
theorem sm_sok {l : List (Str × Str)} (h : ∀ e ∈ l, sok e.1) : ∀ z, Sum.inr z ∈ (sm l).map (·.1) → sok z := fun z hz => by
  unfold sm at hz
  rw [List.map_map] at hz
  obtain ⟨e, he, q⟩ := List.mem_map.mp hz
  have : e.1 = z := Sum.inr.inj q
  rw [← this]
  exact h e he
/-- what is known of mPut, mDrop, sGet -/
theorem sGet_cons (e : Str × Str) (l : List (Str × Str)) (y : Str) : sGet (e :: l) y = if e.1 = y then some e.2 else sGet l y := by
  unfold sGet
  rw [List.find?_cons]
  by_cases h : e.1 = y
  · rw [decide_eq_true h, if_pos h]; rfl
  · rw [decide_eq_false h, if_neg h]
theorem sGet_none {l : List (Str × Str)} {y : Str} : sGet l y = none ↔ y ∉ l.map (·.1) := by
  induction l with
  | nil => exact ⟨fun _ m => (by cases m), fun _ => rfl⟩
  | cons e l ih =>
    rw [sGet_cons, List.map_cons, List.mem_cons, not_or]
    by_cases h : e.1 = y
    · rw [if_pos h]
      exact ⟨(fun q => by cases q), fun q => absurd h.symm q.1⟩
    · rw [if_neg h, ih]
      exact ⟨fun q => ⟨fun k => h k.symm, q⟩, fun q => q.2⟩
theorem sGet_mem {l : List (Str × Str)} {y m : Str} (h : sGet l y = some m) : (y, m) ∈ l := by
  induction l with
  | nil => cases h
  | cons e l ih =>
    rw [sGet_cons] at h
    by_cases q : e.1 = y
    · rw [if_pos q] at h
      cases h
      rw [← q]
      exact List.mem_cons_self
    · rw [if_neg q] at h
      exact List.mem_cons_of_mem _ (ih h)
theorem sGet_of {l : List (Str × Str)} (hn : (l.map (·.1)).Nodup) {y m : Str} (h : (y, m) ∈ l) : sGet l y = some m := by
  induction l with
  | nil => cases h
  | cons e l ih =>
    obtain ⟨h1, h2⟩ := List.nodup_cons.mp (show (e.1 :: l.map (·.1)).Nodup from hn)
    rw [sGet_cons]
    rcases List.mem_cons.mp h with q | q
    · rw [← q, if_pos rfl]
    · rw [if_neg fun k => h1 (by rw [k]; exact List.mem_map.mpr ⟨_, q, rfl⟩)]
      exact ih h2 q
theorem sGet_app (l m : List (Str × Str)) (y : Str) : sGet (l ++ m) y = (sGet l y).or (sGet m y) := by
  induction l with
  | nil => rfl
  | cons e l ih =>
    rw [List.cons_append, sGet_cons, sGet_cons, ih]
    by_cases q : e.1 = y
    · rw [if_pos q, if_pos q]; rfl
    · rw [if_neg q, if_neg q]
theorem mPut_keys (l : List (Str × Str)) (z m : Str) : (mPut l z m).map (·.1) = if z ∈ l.map (·.1) then l.map (·.1) else l.map (·.1) ++ [z] := by
  unfold mPut
  have hm : (l.any fun e => decide (e.1 = z)) = true ↔ z ∈ l.map (·.1) := by
    rw [List.any_eq_true, List.mem_map]
    exact ⟨fun ⟨e, h1, h2⟩ => ⟨e, h1, of_decide_eq_true h2⟩, fun ⟨e, h1, h2⟩ => ⟨e, h1, decide_eq_true h2⟩⟩
  by_cases h : (l.any fun e => decide (e.1 = z)) = true
  · rw [if_pos h, if_pos (hm.mp h), List.map_map]
    refine List.map_congr_left fun e _ => ?_
    show (if e.1 = z then (e.1, m) else e).1 = e.1
    by_cases q : e.1 = z
    · rw [if_pos q]
    · rw [if_neg q]
  · rw [if_neg h, if_neg fun k => h (hm.mpr k), List.map_append]
    rfl
theorem mDrop_keys (l : List (Str × Str)) (z : Str) : (mDrop l z).map (·.1) = (l.map (·.1)).filter fun y => decide (y ≠ z) := by
  unfold mDrop
  rw [List.filter_map]
  rfl
end G
namespace G
open PySem PySem.Spec L2
theorem DctV.mono {r r' : Rs} {d : D} {kvs : List (Key × D)} (h : DctV r d kvs) (m : ∀ t, t ∈ r → t ∈ r') : DctV r' d kvs := by
  rcases h with ⟨a, e, ⟨pre, post, er⟩ | ⟨pre, post, od, xs, er⟩⟩ | e
  · obtain ⟨p2, q2, e2⟩ := app_mem (m _ (by rw [er]; exact List.mem_append.mpr (.inr List.mem_cons_self)))
    exact .inl ⟨a, e, .inl ⟨p2, q2, e2⟩⟩
  · obtain ⟨p2, q2, e2⟩ := app_mem (m _ (by rw [er]; exact List.mem_append.mpr (.inr List.mem_cons_self)))
    exact .inl ⟨a, e, .inr ⟨p2, q2, od, xs, e2⟩⟩
  · exact .inr e
theorem DctV.own {r : Rs} {a : Addr} {kvs : List (Key × D)} (h : dctA a kvs ∈ r) : DctV r (.adr a) kvs := by
  obtain ⟨p2, q2, e2⟩ := app_mem h
  exact .inl ⟨a, rfl, .inl ⟨p2, q2, e2⟩⟩
inductive SetV (F : Str) (CS : Addr) (r : Rs) : D → List (Str × Str) → Prop
  | fro (l : List (Str × Str)) : SetV F CS r (.ins CS [F] [.dct ((sm l).map (·.1)) ((sm l).map (·.2))]) l
  | own {a c : Addr} {l : List (Str × Str)} (h1 : insA a CS [F] [.adr c] ∈ r) (h2 : dctA c (sm l) ∈ r) : SetV F CS r (.adr a) l
section
variable {F : Str} {CS : Addr} {r r' : Rs} {d : D} {l : List (Str × Str)} {P : PK1}
theorem SetV.isC (h : SetV F CS r d l) : isC CS d r := by
  cases h with
  | fro => exact .fro
  | own h1 h2 =>
    obtain ⟨p2, q2, e2⟩ := app_mem h1
    exact .own p2 q2 e2
theorem SetV.fld (h : SetV F CS r d l) (k : ∀ cd, DctV r cd (sm l) → P cd r) : oFld F d r P := by
  have e : ixF [F] F = some 0 := by unfold ixF; rw [if_pos rfl]
  cases h with
  | fro => exact .fro 0 _ e rfl (k _ (.inr rfl))
  | own h1 h2 =>
    obtain ⟨p2, q2, e2⟩ := app_mem h1
    exact .own p2 q2 0 _ e2 e rfl (k _ (.own h2))
theorem SetV.mono (h : SetV F CS r d l) (m : ∀ t, t ∈ r → t ∈ r') : SetV F CS r' d l := by
  cases h with
  | fro => exact .fro l
  | own h1 h2 => exact .own (m _ h1) (m _ h2)
theorem sm_dget {r : Rs} {d : D} {l : List (Str × Str)} {z : Str} {k : Option D → Prop} (h : DctV r d (sm l)) (p : k ((sGet l z).map .str)) : oDGet r d (.str z) k := .of h rfl (by rw [sm_get]; exact p)
end
end G
namespace G
open PySem PySem.Spec L2
def aSortO (l : AL) : AT := fun x δ r P => l x δ r fun ds r1 => ∃ zs : List Str, ds = [.lst (zs.map .str)] ∧ zs.length < 64 ∧ ∀ p, P (.adr p) (r1 ++ [lstA p ((srt zs).map .str)])
theorem d_sortO {X : Cx} {W : WX} {e : Expr} {p pos : Pos} {l : AL} (hg : Gl X "sorted") (hm : X.mg "sorted" = none) (ha : PDL X W [e] l) (he : starEach [e] X.env = (false, eval e X.env) :: starEach [] X.env := by rfl) (hpl : (backTo pos (starEach [] X.env)).any (·.1) = false := by rfl) :
    PD X W (.Call (.Name "sorted" p) [e] [] pos) (aSortO l) := imE (pe_callB cr_sortedS hg hm (by decide +kernel) ha (by decide) (by decide) he hpl) fun σ H Q q => by
  obtain ⟨XR, δ, r, P, o, h, k⟩ := q
  refine tdl_bind o h fun ds r1 vs H1 ⟨zs, ed, h64, h1⟩ o1 k1 i1 => ?_
  subst ed
  cases i1 with
  | cons i t =>
    cases t
    cases i with
    | lst n s al =>
      obtain ⟨rfl, hs⟩ := strs_allS al
      refine ⟨_, zs, rfl, SqL.of s, h64, fun ys p hp hy hn => ?_⟩
      obtain rfl : ys = srt zs := srt_eq hp (sorted_pair hy)
      obtain ⟨q1, q2⟩ := rok_new o1.r hn (all_strsS (N := mem r1) (H := H1) (K := X.K) fun z hz => hs z (srt_mem.mp hz))
      exact k _ _ _ _ (h1 p) (o1.step q2 q1) (k1.trans q2) (.adr p)
end G
namespace G
open PySem PySem.Spec L2
theorem mem_perm {r r' : Rs} (h : r.Perm r') (a : Addr) : mem r a ↔ mem r' a := by
  induction h with
  | nil => exact Iff.rfl
  | cons t _ ih => exact or_congr Iff.rfl ih
  | swap t u l =>
    show (u.M a ∨ t.M a ∨ mem l a) ↔ (t.M a ∨ u.M a ∨ mem l a)
    exact or_left_comm
  | trans _ _ ih1 ih2 => exact ih1.trans ih2
theorem hold_perm {K : PySem.W.Frag} {N : Addr → Prop} {H : Hp} {r r' : Rs} (h : r.Perm r') : hold K N r H → hold K N r' H := by
  induction h with
  | nil => exact id
  | cons t h ih => exact fun ⟨h1, h2, h3⟩ => ⟨h1, fun a z y => h2 a z ((mem_perm h a).mpr y), ih h3⟩
  | swap t u l =>
    rintro ⟨h1, h2, h3, h4, h5⟩
    exact ⟨h3, fun a z y => y.elim (fun y => h2 a y (.inl z)) (h4 a z), h1, fun a z y => h2 a z (.inr y), h5⟩
  | trans _ _ ih1 ih2 => exact fun h => ih2 (ih1 h)
theorem le.perm {r r' : Rs} (h : r.Perm r') : le r r' := ⟨fun a z => (mem_perm h a).mpr z, fun K H o => by
  have e : mem r = mem r' := funext fun a => propext (mem_perm h a)
  have o : hold K (mem r) r H := o
  rw [e] at o
  exact hold_perm h o⟩
theorem le.part {r r' t : Rs} (h : r.Perm (r' ++ t)) : le r r' := (le.perm h).trans le.drop
/-- a statement, told of fewer pieces -/
def sLe (t : AS) : AS := fun A δ r => ∃ r', le r r' ∧ t A δ r'
theorem s_le {X : Cx} {W : WX} {st : Stmt} {t : AS} (h : PSD X W st t) : PSD X W st (sLe t) := imS h fun D σ H ⟨δ, r, A, o, ⟨r', l, ht⟩, f⟩ =>
  ⟨δ, r', A, o.step l.kp (l.r _ _ o.r), ht, f.step l.kp⟩
end G
namespace G
open PySem PySem.Spec L2
structure oMaxL (ds : List D) (k : D → Prop) : Prop where
  ex : ∃ ns : List Int, ds = [.lst (ns.map .int)] ∧ 0 < ns.length ∧ ∀ m, m ∈ ns → (∀ y, y ∈ ns → y ≤ m) → k (.int m)
structure oMinL (ds : List D) (k : D → Prop) : Prop where
  ex : ∃ ns : List Int, ds = [.lst (ns.map .int)] ∧ 0 < ns.length ∧ ∀ m, m ∈ ns → (∀ y, y ∈ ns → m ≤ y) → k (.int m)
theorem c_maxL {X : Cx} (hc : X.calm = true := by rfl) : CallR X (.builtin "max") (rC X.K oMaxL) := by
  rintro pins s σ H vs us Q I rv ⟨r, ds, P, hr, i, ⟨ns, rfl, hn, ho⟩, k⟩
  cases i with
  | cons i t =>
    cases t
    cases i with
    | lst n h al =>
      have e := ints_all al
      subst e
      exact cr_max hc pins s σ H _ us Q I rv ⟨_, ns, rfl, SqL.of h, hn, fun m h1 h2 => k _ _ H (ho m h1 h2) (Ext.refl H) (.int _)⟩
theorem c_minL {X : Cx} (hc : X.calm = true := by rfl) : CallR X (.builtin "min") (rC X.K oMinL) := by
  rintro pins s σ H vs us Q I rv ⟨r, ds, P, hr, i, ⟨ns, rfl, hn, ho⟩, k⟩
  cases i with
  | cons i t =>
    cases t
    cases i with
    | lst n h al =>
      have e := ints_all al
      subst e
      exact cr_min hc pins s σ H _ us Q I rv ⟨_, ns, rfl, SqL.of h, hn, fun m h1 h2 => k _ _ H (ho m h1 h2) (Ext.refl H) (.int _)⟩
end G
namespace G
open PySem PySem.Spec L2
end G
namespace G
open PySem PySem.Spec L2
end G
namespace G
open PySem PySem.Spec L2
def gTL (is : List Nat) : AG := fun d δ Q => match d with | .lst ds => ds.length = is.length ∧ Q (setAll δ is ds) | _ => False
theorem g_lstT {X : Cx} {is : List Nat} {ts : List Expr} {kk : Nat} {pos : Pos} (hg : PGs X ts (gNames is)) (hc : X.calm = true := by rfl) (hn : (assignEach ts X.env).length = is.length := by rfl) (hst : (assignEach ts X.env).findIdx? (·.1) = none := by rfl) : PDG X (.Tuple ts kk pos) is (gTL is) :=
  imG (pg_lst hc hg hn hst) fun v σ H Q ⟨_, _, δ, r, d, P, o, i, g, k⟩ => by
    cases i with
    | lst n s al => exact ⟨_, _, rfl, .inl (.inl s), by rw [al.length]; exact g.1, names_agree (fun _ h => h) o al g.1 fun σ' o' a => k _ _ g.2 o' a⟩
    | _ => exact g.elim
end G
namespace G
open PySem PySem.Spec L2
end G
namespace G
open PySem PySem.Spec L2
end G
namespace G
open PySem PySem.Spec L2
end G
namespace G
open PySem PySem.Spec L2
open PyProof.Rows (envOfC)
end G
namespace G
open PySem PySem.Spec L2
end G
namespace G
open PySem PySem.Spec L2
open PyProof.Rows (envOfC)
def ClMD (P : Program) (w : World) (K : PySem.W.Frag) (mg : Str → Option Value) (base : Heap) (k : Nat) (C : Addr) (m : Str) (dd : List D) (sd : SpX) : Prop := ∃ f, Meth K C m f ∧ ∀ j, j ≤ dd.length → FR P w K mg base k f (fun ds r P XR => sd (ds ++ dd.drop j) r P XR)
section
variable {P : Program} {w : World} {K : PySem.W.Frag} {mg : Str → Option Value} {base : Heap} {C : Addr} {m qual : Str} {st : Stmt} {N ps : List Str} {dd : List D} {k j : Nat} {sd : SpX}
/-- called with all but the last dd.length - j values -/
theorem ClMD.at_ (h : ClMD P w K mg base k C m dd sd) (j : Nat) (hj : j ≤ dd.length) : ClM P w K mg base k C m (fun ds r P XR => sd (ds ++ dd.drop j) r P XR) := by
  obtain ⟨f, M, F⟩ := h
  exact ⟨f, M, F j hj⟩
end
end G
namespace G
open PySem PySem.Spec L2
open PyProof.Rows (envOfC)
end G
namespace G
open PySem PySem.Spec L2
open PyProof.Rows (envOfC)
end G
namespace G
open PySem PySem.Spec L2
open PyProof.Rows (envOfC)
end G
namespace G
open PySem PySem.Spec L2
open PyProof.Rows (envOfC)
mutual
/-- flat things and tuples of such -/
def tt : D → Bool
  | .non => true | .bl _ => true | .int _ => true | .str _ => true | .adr _ => false | .lst _ => false | .tup ds => tts ds | .ins _ _ _ => false | .dct _ _ => false
def tts : List D → Bool
  | [] => true
  | d :: ds => tt d && tts ds
end
end G
namespace G
open PySem PySem.Spec L2
section
variable {prog : PySem.Program} {w : PySem.World} {K : Type} [DecidableEq K] {knd : PySem.KeyKind prog w K} {A : Around} {E : Value → Shared → Prop} {s : Shared}
theorem Paired.len {α β : Type} {R : α → β → Prop} {xs : List α} {ys : List β} (h : Paired R xs ys) : xs.length = ys.length := by
  induction h with
  | nil => rfl
  | cons _ _ ih => rw [List.length_cons, List.length_cons, ih]
end
end G
namespace G
open PySem PySem.Spec L2
end G
namespace SSN
open PySem PySem.Spec PyProof.Rows
/-- how many unlike texts there are among the first i -/
def dcN (xs : List Str) (i : Nat) : Nat := ((List.range i).filter fun j => !((xs.take j).any (· == xs.getD j Str.empty))).length
theorem dcN_succ (xs : List Str) (i : Nat) : dcN xs (i + 1) = if ((xs.take i).any (· == xs.getD i Str.empty)) = true then dcN xs i else dcN xs i + 1 := by
  unfold dcN
  rw [List.range_succ, List.filter_append, List.length_append, List.filter_cons]
  cases (xs.take i).any (· == xs.getD i Str.empty) <;> simp
theorem dcN_le (xs : List Str) : ∀ i, dcN xs i ≤ i
  | 0 => Nat.le_refl _
  | i + 1 => by
    have := dcN_le xs i
    rw [dcN_succ]
    split <;> omega
theorem take_any {xs : List Str} {i : Nat} (hi : i < xs.length) (k : Str) : ((xs.take i).any (· == k) || decide (k = xs.getD i Str.empty)) = (xs.take (i + 1)).any (· == k) := by
  have e : xs[i]? = some (xs.getD i Str.empty) := by rw [List.getD_eq_getElem?_getD, List.getElem?_eq_getElem hi]; rfl
  rw [List.take_add_one, e, List.any_append]
  congr 1
  show decide (k = xs.getD i Str.empty) = ((xs.getD i Str.empty == k) || false)
  rw [Bool.or_false, Bool.eq_iff_iff, decide_eq_true_eq, beq_iff_eq]
  exact ⟨Eq.symm, Eq.symm⟩
section
variable {prog : Program} {w : World} {A : Around} {R : Result → Shared → Prop} {I : Addr} {fp wr : List Addr} {G : Array GenState → Array GenState → Prop} {n : Nat} {P : Nat → Value → Prop} {St : Nat → Shared → Prop}
theorem loopT (W : WalksS prog w A.in1 I fp wr G n P St) (S : Addr) (hSf : S ∉ fp) (xs : List Str) (hsz : xs.length = n) (hn : n + 1 < scanBound) (hval : ∀ i v, P i v → ∃ t, v = .str (xs.getD i Str.empty) t) :
    ∀ (k i : Nat) (s : Shared), n - i = k → i ≤ n → St i s → s.heap.SetOf (PySem.strKind prog w) S (fun k' => (xs.take i).any (· == k')) (dcN xs i) →
      (∀ s', Moved (S :: wr) G s s' → s'.heap.SetOf (PySem.strKind prog w) S (fun k' => (xs.take n).any (· == k')) (dcN xs n) → R (.ok (.ret .none)) s') → codeAny (model prog w) A (.builtin "set.update.loop" ⟨[.ref S, .ref I], []⟩) R s := by
  have hSw : S ∉ wr := fun h => hSf (W.sub _ h)
  have up : ∀ b ∈ wr, b ∈ S :: wr := fun b hb => List.mem_cons_of_mem _ hb
  intro k
  induction k with
  | zero =>
    intro i s hk hi hst hS hR
    have hin : i = n := by omega
    subst hin
    refine codeAny_builtin PyProof.Rows.F.entry_set_update_loop ?_
    rw [Around.under_plainId PyProof.Rows.F.plain_set_update_loop _]
    refine wpAny_bind (W.done s _ _ hst fun s' hm => ?_)
    exact wpAny_pure (hR s' (hm.mono up) (let ⟨o, es, ep, t, ho, r⟩ := hS; ⟨o, es, ep, t, hm.heap S _ hSw ho, r⟩))
  | succ k ih =>
    intro i s hk hi hst hS hR
    have hlt : i < n := by omega
    refine codeAny_builtin PyProof.Rows.F.entry_set_update_loop ?_
    rw [Around.under_plainId PyProof.Rows.F.plain_set_update_loop _]
    refine wpAny_bind (W.item i s _ _ hlt hst fun v s' hP hst' hm => ?_)
    obtain ⟨t, rfl⟩ := hval i v hP
    have hS' : s'.heap.SetOf (PySem.strKind prog w) S (fun k' => (xs.take i).any (· == k')) (dcN xs i) := let ⟨o, es, ep, tb, ho, r⟩ := hS; ⟨o, es, ep, tb, hm.heap S _ hSw ho, r⟩
    refine wpAny_bind (wpAny_holding ?_)
    unfold setAdd
    refine wpAny_holding (wpAny_bind ((PySem.strKind prog w).pyHash (k := xs.getD i Str.empty) (strKind_is _ _ _ _) ?_))
    have hd := dcN_le xs i
    refine wpAny_setAddHashed_of (knd := PySem.strKind prog w) (s := { s' with toks := s'.toks + 1 }) (strKind_is _ _ _ _) rfl hS' (by omega) fun h' hsb hS2 => ?_
    have hSi : h'.SetOf (PySem.strKind prog w) S (fun k' => (xs.take (i + 1)).any (· == k')) (dcN xs (i + 1)) := SetOf_congr hS2 (fun k' => take_any (by omega) k') (dcN_succ xs i).symm
    refine wpAny_pure ⟨plainId_quiet PyProof.Rows.F.plain_set_update_loop _, ih (i + 1) _ (by omega) hlt (W.frame _ s' _ _ hst' (Nat.le_succ _) fun b hb o e => ?_) hSi fun s'' hm'' hS'' => ?_⟩
    · rw [hsb.2 b (fun h : b = S => hSf (h ▸ hb))]; exact e
    · refine hR s'' (Moved.trans W.gtrans ((hm.mono up).then_heap (Nat.le_succ _) fun b o hb e => ?_) hm'') hS''
      rw [hsb.2 b (fun h : b = S => hb (h ▸ List.mem_cons_self))]; exact e
end
section
variable {prog : Program} {w : World} {A : Around} {E : Value → Shared → Prop} {s : Shared}
set_option maxHeartbeats 3200000 in
theorem call_setT {l : Addr} {items : Array Value} {xs : List Str} {Q : Value → Shared → Prop} (hh : A.handled = none) (hl : s.heap.IsList l items) (hi : PyProof.Rows.StrsAre items.toList xs) (hn1 : xs.length + 1 < scanBound)
    (h : ∀ (h' : Heap) (tk : Nat), h'.SetOf (PySem.strKind prog w) s.heap.objs.size (fun k' => (xs.take items.size).any (· == k')) (dcN xs items.size) → (∀ b o, b < s.heap.objs.size → s.heap.get? b = some o → h'.get? b = some o) → Q (.ref s.heap.objs.size) { s with heap := h', toks := tk }) :
    wpAny (model prog w) A (call (.type "set") [.ref l]) Q E s := by
  obtain ⟨c, tl, hmro⟩ := PySem.F.called_set.mro
  have q1 := PySem.F.called_set.made; have q2 := PySem.F.called_set.sub
  refine wpAny_call (codeAny_of_tree (wpAny_pure ⟨Code.quiet_builtin _ (by decide +kernel), codeAny_builtin PySem.F.entry_type_call ?_⟩))
  rw [Around.under_plain (weight_type_call_type "set" [.ref l] []) rfl]
  have q3 := PySem.F.called_set.notType; have q4 := PySem.F.called_set.canCreate; have q5 := PySem.F.typeCall_set_1 (.ref l)
  repeat (any_goals (first | assumption | wp_step))
  refine codeAny_mono (code_set_new_1 (.ref l) (E := E) (Q₁ := fun obj s₁ => ∃ led : Bool, obj = .ref s.heap.objs.size ∧ s₁ = { s with heap := s.heap.push { cls := .type "set", dict := none, data := .set #[] 0 (.fresh 0 0 led) } }) fun led => ⟨led, rfl, rfl⟩) fun r s₁ hr => ?_
  cases r with
  | error e => exact hr
  | ok fl =>
    cases fl with
    | ret obj =>
      obtain ⟨led, rfl, rfl⟩ := hr
      obtain ⟨ob, hob⟩ : ∃ ob : Obj, ob = { cls := .type "set", dict := none, data := .set #[] 0 (.fresh 0 0 led) } := ⟨_, rfl⟩
      have hS : (s.heap.push { cls := .type "set", dict := none, data := .set #[] 0 (.fresh 0 0 led) }).get? s.heap.objs.size = some { cls := .type "set", dict := none, data := .set #[] 0 (.fresh 0 0 led) } := Heap.get?_push_size _ rfl
      have hT : Shared.TypeIs { s with heap := s.heap.push { cls := .type "set", dict := none, data := .set #[] 0 (.fresh 0 0 led) } } (.ref s.heap.objs.size) "set" := ⟨_, hS, rfl⟩
      have q6 := PySem.F.called_set.init.lookup; have q7 := PySem.F.called_set.init.bind (.ref s.heap.objs.size)
      repeat (any_goals (first | assumption | wp_step))
      refine codeAny_mono (codeAny_call_builtin (R := wants (fun r s₂ => r = .none ∧ ∃ h' tk, s₂ = { s with heap := h', toks := tk } ∧ h'.SetOf (PySem.strKind prog w) s.heap.objs.size (fun k' => (xs.take items.size).any (· == k')) (dcN xs items.size) ∧ (∀ b o, b < s.heap.objs.size → s.heap.get? b = some o → h'.get? b = some o)) E) PySem.F.called_set.init.plain PySem.F.entry_set_init (check_set_init_1 hT ?_)) fun r₂ s₂ hr₂ => ?_
      · obtain ⟨ol, hol, hcl, nl, hdl⟩ := hl
        obtain ⟨ocls, odict, odata, oslots⟩ := ol
        simp only at hcl hdl
        subst hcl hdl
        have hol' : (s.heap.push { cls := .type "set", dict := none, data := .set #[] 0 (.fresh 0 0 led) }).get? l = some { cls := .type "list", dict := odict, data := .seq items nl, slots := oslots } := Heap.get?_push_of_some _ hol
        have q8 := PySem.F.sub_list_set; have q9 := PySem.F.sub_list_frozenset
        have q10 : (Value.type "list" == Value.type "dict") = false := by decide
        have hl1 : (s.heap.push { cls := .type "set", dict := none, data := .set #[] 0 (.fresh 0 0 led) }).IsList l items := ⟨_, hol', rfl, nl, rfl⟩
        unfold Builtin.«set.__init__» noKeywords Builtin.Frozenset.updateFrom
        generalize hPI : pyIter = PI
        wp_walk
        subst hPI
        refine wpAny_pyIter_list hl1 (wpAny_bind (wpAny_runValue ?_))
        have hlS : l < s.heap.objs.size := Heap.lt_size hol
        have hh3 : A.in1.in1.in1.handled = none := by simp [hh]
        have hneI : l ≠ (s.heap.push { cls := .type "set", dict := none, data := .set #[] 0 (.fresh 0 0 led) }).objs.size := by
          rw [Heap.size_push]
          exact Nat.ne_of_lt (Nat.lt_succ_of_lt hlS)
        have hSf : s.heap.objs.size ∉ [(s.heap.push { cls := .type "set", dict := none, data := .set #[] 0 (.fresh 0 0 led) }).objs.size, l] := by
          rw [Heap.size_push]; simp only [List.mem_cons, List.mem_singleton, List.not_mem_nil, or_false, not_or]
          exact ⟨Nat.ne_of_lt (Nat.lt_succ_self _), Nat.ne_of_gt hlS⟩
        have hsz : xs.length = items.size := by rw [← StrsAre.len_eq hi, Array.length_toList]
        refine loopT ((Walks.list hh3 _ l hneI items).toS) s.heap.objs.size hSf xs hsz (by omega) (fun i v hv => SS.strs_at hi i v (by rw [Array.getElem?_toList]; exact hv)) (items.size - 0) 0 _ (by omega) (Nat.zero_le _) ⟨⟨_, Heap.get?_push_size _ rfl, rfl, rfl⟩, (hl1.push _)⟩ ?_ ?_
        · have hget : ((s.heap.push { cls := .type "set", dict := none, data := .set #[] 0 (.fresh 0 0 led) }).push { cls := .type "list_iterator", data := .fields #[.ref l, .int 0 0] }).get? s.heap.objs.size = some { cls := .type "set", dict := none, data := .set #[] 0 (.fresh 0 0 led) } := Heap.get?_push_of_some _ hS
          exact PyProof.Rows.SetOf_congr ((PyProof.Rows.setObjOf_fresh (knd := PySem.strKind prog w) led).setOf hget (by unfold scanBound; omega)) (fun _ => rfl) rfl
        · intro s' hm hS'
          obtain ⟨h', g', d', tk', os'⟩ := s'
          obtain rfl : g' = s.gens := hm.gens
          obtain rfl : d' = s.drawn := hm.drawn
          obtain rfl : os' = s.os := hm.os
          refine wpAny_pure (wpAny_pure ⟨rfl, h', tk', rfl, hS', fun b o hb e => ?_⟩)
          have hb2 : b ≠ (s.heap.push { cls := .type "set", dict := none, data := .set #[] 0 (.fresh 0 0 led) }).objs.size := by
            rw [Heap.size_push]
            exact Nat.ne_of_lt (Nat.lt_succ_of_lt hb)
          exact hm.heap b o (by simp only [List.mem_cons, List.mem_singleton, List.not_mem_nil, or_false, not_or]; exact ⟨Nat.ne_of_lt hb, hb2⟩) (Heap.get?_push_of_some _ (Heap.get?_push_of_some _ e))
      · cases r₂ with
        | error e => exact hr₂
        | ok fl₂ =>
          cases fl₂ with
          | ret r =>
            obtain ⟨rfl, h', tk, rfl, hS', hk'⟩ := hr₂
            repeat (any_goals (first | assumption | wp_step))
            exact h _ _ hS' hk'
          | _ => exact hr₂.elim
    | _ => exact hr.elim
end
end SSN
namespace G
open PySem PySem.Spec L2
theorem vals_strs {K : PySem.W.Frag} {N : Addr → Prop} {H : Hp} : ∀ {xs : List Str} {vs : List V}, IsAll K N H vs (xs.map .str) → vs = xs.map V.str
  | [], _, .nil => rfl
  | x :: xs, _, .cons h t => by
    cases h
    rw [vals_strs t]
    rfl
def aLenSet (te : AT) : AT := fun x δ r P => te x δ r fun d r1 => ∃ xs : List Str, d = .lst (xs.map .str) ∧ xs.length ≤ 1000 ∧ P (.int (SSN.dcN xs xs.length : Nat)) r1
section
variable {X : Cx} {W : WX} {a e : Expr} {te : AT} {pos : Pos}
theorem d_lenSet {p p2 q : Pos} (hg : Gl X "len") (hm : X.mg "len" = none) (hg2 : Gl X "set") (hm2 : X.mg "set" = none) (ha : PD X W a te) (hc : X.calm = true := by rfl) (na : starEach [a] X.env = (false, eval a X.env) :: starEach [] X.env := by rfl) :
    PD X W (.Call (.Name "len" p) [.Call (.Name "set" p2) [a] [] q] [] pos) (aLenSet te) := by
  refine ⟨fun pins s σ H Q I ⟨XR, δ, r, P, ok, h, k⟩ => ?_⟩
  refine PyProof.Rows.Call_ (ld_blt I hg hm PySem.boot_len (PyProof.Rows.callWith_builtin1 (PyProof.Rows.args_cons (PyProof.Rows.Call_ (ld_blt I hg2 hm2 PyProof.Rows.boot_set ?_)) rfl) rfl rfl))
  refine PyProof.Rows.callWith_type1 (PyProof.Rows.args_cons (thn (ha.run pins s σ H _ I (td_bind (Q := fun x H1 => ∃ (l : Addr) (xs : List Str), x = .ref l ∧ SqL X.K H1 l (xs.map V.str) ∧ xs.length ≤ 1000 ∧ Q (.int (SSN.dcN xs xs.length : Nat)) H1) ok h fun d r1 v H1 h1 o1 k1 i1 => ?_)) fun v s1 ⟨x, H1, I1, r1, q1⟩ => PyProof.Rows.args_nil ?_) na) na rfl
  · obtain ⟨xs, rfl, hl, hp⟩ := h1
    cases i1 with
    | lst n s al =>
      obtain rfl := vals_strs al
      exact ⟨_, xs, rfl, SqL.of s, hl, k _ r1 _ H1 hp o1 k1 (.int _)⟩
  · obtain ⟨l, xs, rfl, hq, hl, q1⟩ := q1
    cases r1
    obtain ⟨its, r, pl, hz⟩ := I1.list hq
    have hlen : its.toArray.size = xs.length := by rw [List.size_toArray, ← r.length, List.length_map]
    refine SSN.call_setT (I1.ok.hd hc) pl.isList (by simpa using strsAre_of r) (by unfold scanBound; omega) fun h' tk hS hk => PyProof.Rows.args_nil ?_
    rw [hlen] at hS
    obtain ⟨o, es, ep, t, ho, hex, hd, _, _, _, hf, hn⟩ := hS
    have I2 : L2.Inv X pins σ H1 { s1 with heap := h', toks := tk } := I1.kept fun b o e => hk b o (Heap.lt_size e) e
    have := SSN.dcN_le xs xs.length
    exact call_len_set ho hex hd hf (by rw [hn]; omega) ⟨.int (SSN.dcN xs xs.length : Nat), H1, I2.tok _, ⟨_, by rw [hn]⟩, q1⟩
end
end G
namespace G
open PySem PySem.Spec L2
end G
namespace PySem.W
open PySem PySem.Spec PySem.Calls PyProof.Rows
end PySem.W
namespace L2
open PySem PySem.Spec PyProof.Rows
end L2
namespace G
open PySem PySem.Spec L2
/-- the exception's own dict is still told -/
def Hld (d : Option Addr) (r : Rs) : Prop := ∀ dx, d = some dx → ∃ fs ds pre post, r = pre ++ xdA dx fs ds :: post
theorem Hld.at_ {K : PySem.W.Frag} {d : Option Addr} {r : Rs} {H : Hp} (h : Hld d r) (o : Rok K r H) : ∀ dx, d = some dx → ∃ fs, H dx = some (.xd fs) := fun dx e => by
  obtain ⟨fs, ds, pre, post, rfl⟩ := h dx e
  obtain ⟨_, ⟨⟨kvs, h1, _, _⟩, _, _⟩, _⟩ := hold_append.mp (show hold K _ (pre ++ (xdA dx fs ds :: post)) H from o)
  exact ⟨kvs, h1⟩
end G
namespace G
open PySem PySem.Spec PyProof.Rows L2 LamX NdefX
end G
namespace G
open PySem PySem.Spec PyProof.Rows L2 LamX NdefX
end G
namespace G
open PySem PySem.Spec L2
end G
namespace G
open PySem PySem.Spec L2
open PyProof.Rows (envOfC)
def TabsAt (T : List (Addr × Str)) (H : Hp) : Prop := (T.map (·.1)).Nodup ∧ ∀ e ∈ T, H e.1 = some (.tbl #[])
theorem TabsAt.fresh {T : List (Addr × Str)} {H : Hp} {p : Addr} (h : TabsAt T H) (hp : H p = none) : p ∉ T.map (·.1) := fun z => by
  obtain ⟨e, he, rfl⟩ := List.mem_map.mp z
  rw [h.2 e he] at hp
  cases hp
end G
namespace G
open PySem PySem.Spec L2
end G
namespace G
open PySem PySem.Spec L2
end G
namespace G
open PySem PySem.Spec L2
/-- an exception at a of the class at C with its dict at dx, one field -/
def exA (a C dx : Addr) (fld : Str) (d : D) : At where
  M := fun b => b = a ∨ b = dx
  R := fun K N H => ∃ v, H a = some (exo a C (some dx)) ∧ H dx = some (exd dx [(fld, v)]) ∧ Is K N H v d
  loc := fun f g ⟨v, h1, h2, i⟩ => ⟨v, f _ _ (.inl rfl) h1, f _ _ (.inr rfl) h2, g _ _ i⟩
  anti := fun q ⟨v, h1, h2, i⟩ => ⟨v, h1, h2, is_anti q i⟩
  grow := fun hp ⟨v, h1, h2, i⟩ => ⟨v, h1, h2, is_growD hp i⟩
  al := fun ⟨v, h1, h2, _⟩ b z => z.elim (fun e => ⟨exo a C (some dx), e.symm ▸ h1⟩) fun e => ⟨exd dx [(fld, v)], e.symm ▸ h2⟩
/-- one without a field -/
def ex0A (a C : Addr) : At where
  M := fun b => b = a
  R := fun K N H => H a = some (exo a C none)
  loc := fun f g h => f _ _ rfl h
  anti := fun q h => h
  grow := fun hp h => h
  al := fun h b z => ⟨exo a C none, (show b = a from z).symm ▸ h⟩
end G
namespace L2
open PySem PySem.Spec PyProof.Rows G
/-- an error in the heap, with a dict or without -/
def ExoAt (H : Hp) (a D : Addr) : Prop := H a = some (exo a D none) ∨ ∃ dx fs, H a = some (exo a D (some dx)) ∧ H dx = some (exd dx fs)
end L2
namespace G
open PySem PySem.Spec L2
def ErrIn (r : Rs) (a D : Addr) : Prop := (∃ dx fld d pre post, r = pre ++ exA a D dx fld d :: post) ∨ ∃ pre post, r = pre ++ ex0A a D :: post
theorem ErrIn.at_ {K : PySem.W.Frag} {r : Rs} {H : Hp} {a D : Addr} (h : ErrIn r a D) (o : Rok K r H) : ExoAt H a D := by
  rcases h with ⟨dx, fld, d, pre, post, rfl⟩ | ⟨pre, post, rfl⟩
  · obtain ⟨v, e1, e2, _⟩ := mid_R o
    exact .inr ⟨dx, _, e1, e2⟩
  · exact .inl (mid_R (t := ex0A a D) o)
end G
namespace G
open PySem PySem.Spec L2 PySem.W PyProof.Rows
end G
namespace SXN
open PySem PySem.Spec PyProof.Rows L2 PySem.Froz
section
variable {P : Program} {w : World} {A : Around} {E : Value → Shared → Prop} {s : Shared}
def SetX (P : Program) (w : World) (h : Heap) (a : Addr) (l : List Str) : Prop := ∃ D : SD, h.get? a = some (sObj "set" D) ∧ TxOk P w D l ∧ l.Nodup ∧ Ris D.2.2.place.toList ∧ (w.params.followText "set-order" = true ∨ D.2.2.led = true)
theorem SetX.at_ {h h' : Heap} {a : Addr} {l : List Str} (R : SetX P w h a l) (k : ∀ o, h.get? a = some o → h'.get? a = some o) : SetX P w h' a l := by
  obtain ⟨D, ho, r⟩ := R
  exact ⟨D, k _ ho, r⟩
theorem setX_fresh {h : Heap} : SetX P w (h.push { cls := .type "set", dict := none, data := .set #[] 0 (.fresh 0 0 (!w.params.followText "set-order")) }) h.objs.size [] :=
  ⟨(#[], 0, .fresh 0 0 (!w.params.followText "set-order")), Heap.get?_push_size _ rfl, TxOk.nil (by rfl), List.nodup_nil, List.Pairwise.nil, by
    show _ ∨ (!w.params.followText "set-order") = true
    cases w.params.followText "set-order"
    · exact .inr rfl
    · exact .inl rfl⟩
theorem tail_ris {ep : Nat} {es1 : Array (Int × Value)} {t2 : SetTable} {wd : Bool} (r : Ris t2.place.toList) : Ris (tailTx ep es1 t2 wd).2.2.place.toList ∧ (tailTx ep es1 t2 wd).2.2.led = t2.led := by
  unfold tailTx
  split
  · exact ⟨relayAll_ris _ _ _, relayAll_led _ _ _⟩
  · exact ⟨r, rfl⟩
theorem addTx_ris {h : Int} {v : Value} {D : SD} (r : Ris D.2.2.place.toList) : Ris (addTx h v D).2.2.place.toList ∧ (addTx h v D).2.2.led = D.2.2.led := by
  have r1 := layNew_ris D.2.2 D.1 h v r
  have l1 := layNew_led D.2.2 D.1 h v
  unfold addTx
  split
  · obtain ⟨q1, q2⟩ := tail_ris (ep := D.2.1) (es1 := (layNew D.2.2 D.1 h v).1) (t2 := { (layNew D.2.2 D.1 h v).2.1 with plain := false }) (wd := (layNew D.2.2 D.1 h v).2.2.1) r1
    exact ⟨q1, q2.trans l1⟩
  · obtain ⟨q1, q2⟩ := tail_ris (ep := D.2.1) (es1 := (layNew D.2.2 D.1 h v).1) (t2 := (layNew D.2.2 D.1 h v).2.1) (wd := (layNew D.2.2 D.1 h v).2.2.1) r1
    exact ⟨q1, q2.trans l1⟩
/-- the texts behind an add -/
def addL (k : Str) (l : List Str) : List Str := if k ∈ l then l else k :: l
theorem addOld_x {a : Addr} {D : SD} {l : List Str} {k : Str} {u : Tok} {Q : Bool → Shared → Prop} (ho : s.heap.get? a = some (sObj "set" D)) (F : TxOk P w D l) (hk : k ∈ l) (hb : l.length + 1 < scanBound) (h : Q false s) : wpAny (model P w) A (setAddHashed a (.str k u) (hashStr w k)) Q E s := by
  obtain ⟨es, ep, t⟩ := D
  have hd : (sObj "set" (es, ep, t)).data = .set es ep t := rfl
  have hf : t.fits es.size = true := F.fit
  have hel : ElemsOf (strKind P w) es.toList := F.el
  have hsz : es.size = l.length := F.sz
  have hkey : (strKind P w).is k (.str k u) = true := is_str k u
  unfold setAddHashed setAddHashedIn
  refine wpAny_holding (wpAny_bind (wpAny_setState_of ho hd hf ?_))
  dsimp only
  rw [byScan_of rfl (by omega) hel]
  simp only [↓reduceIte]
  unfold setAddByScan
  refine wpAny_bind ?_
  refine wpAny_bind (wpAny_rule ?_)
  refine wpAny_bind (wpAny_setScan_of (knd := strKind P w) (k := k) hkey ho hd hf hel ?_)
  cases hfi : List.findIdx? (fun e => (strKind P w).is k e.2) es.toList with
  | none =>
    obtain ⟨e, he, z⟩ := (F.mem k).mp hk
    have := List.findIdx?_eq_none_iff.mp hfi e he
    rw [z] at this
    cases this
  | some j =>
    dsimp only
    exact wpAny_pure (wpAny_pure h)
theorem setX_add {a : Addr} {l : List Str} {k : Str} {u : Tok} {Q : Value → Shared → Prop} (R : SetX P w s.heap a l) (room : l.length + 1 < scanBound)
    (hQ : ∀ h', Heap.SameBut a s.heap h' → SetX P w h' a (addL k l) → Q .none { s with heap := h', toks := s.toks + 1 }) : wpAny (model P w) A (call (.builtin "set.add") [.ref a, .str k u]) Q E s := by
  obtain ⟨D, ho, F, nd, r, ld⟩ := R
  have hT : s.TypeIs (.ref a) "set" := ⟨_, ho, rfl⟩
  refine wpAny_call_entry PySem.F.slot_set_add hT PySem.F.entry_set_add ?_ (PySem.F.args_set_add_2 _ _)
  unfold Builtin.«set.add» Builtin.Frozenset.oneOther
  simp only [List.isEmpty_nil, bind_assoc]
  unfold Builtin.Frozenset.addrOf setAdd
  refine wpAny_bind (wpAny_pure ?_)
  try dsimp only
  refine wpAny_bind (wpAny_pure ?_)
  try dsimp only
  refine wpAny_bind ?_
  refine wpAny_holding ?_
  refine wpAny_bind ((strKind P w).pyHash (is_str k u) ?_)
  by_cases hk : k ∈ l
  · refine addOld_x (s := { s with toks := s.toks + 1 }) ho F hk room ?_
    show wpAny _ _ (ret Value.none) _ _ _
    refine wpAny_pure ⟨_, rfl, hQ s.heap (Heap.SameBut.refl a s.heap) ?_⟩
    unfold addL
    rw [if_pos hk]
    exact ⟨D, ho, F, nd, r, ld⟩
  · refine add_x (s := { s with toks := s.toks + 1 }) (T := "set") ho F hk room ?_
    show wpAny _ _ (ret Value.none) _ _ _
    refine wpAny_pure ⟨_, rfl, hQ _ ?_ ?_⟩
    · exact Heap.SameBut.update ..
    · unfold addL
      rw [if_neg hk]
      obtain ⟨q1, q2⟩ := addTx_ris (h := hashStr w k) (v := .str k u) r
      exact ⟨_, get_upd _ ho rfl, add_ok u F, List.nodup_cons.mpr ⟨hk, nd⟩, q1, ld.imp id fun z => q2.trans z⟩
theorem str_of {k : Str} {v : Value} (h : (strKind P w).is k v = true) : ∃ tk, v = .str k tk := by
  have h : Value.isStrOf k v = true := h
  cases v <;> simp [Value.isStrOf] at h
  exact ⟨_, by rw [h]⟩
theorem strs_mem : ∀ {l : List Value} {ss : List Str}, StrsAre l ss → ∀ {k : Str} {tk : Tok}, Value.str k tk ∈ l → k ∈ ss
  | _, _, .nil, _, _, h => by cases h
  | _, _, .cons _ _ q, k, tk, h => by
    rcases List.mem_cons.mp h with h | h
    · cases h
      exact List.mem_cons_self
    · exact List.mem_cons_of_mem _ (strs_mem q h)
theorem strs_len : ∀ {l : List Value} {ss : List Str}, StrsAre l ss → l.length = ss.length
  | _, _, .nil => rfl
  | _, _, .cons _ _ q => congrArg (· + 1) (strs_len q)
theorem perm_of : ∀ {l ss : List Str}, l.Nodup → (∀ k ∈ l, k ∈ ss) → ss.length = l.length → ss.Perm l
  | [], ss, _, _, e => by
    obtain rfl := List.length_eq_zero_iff.mp e
    exact .nil
  | k :: l, ss, nd, h, e => by
    obtain ⟨nk, nd⟩ := List.nodup_cons.mp nd
    have hk := h k List.mem_cons_self
    refine (List.perm_cons_erase hk).trans (.cons k (perm_of nd (fun x hx => ?_) ?_))
    · exact (List.mem_erase_of_ne (fun z : x = k => nk (z ▸ hx))).mpr (h x (List.mem_cons_of_mem _ hx))
    · rw [List.length_erase_of_mem hk, e]
      rfl
theorem strs_of : ∀ (l : List Value), (∀ v ∈ l, ∃ k tk, v = Value.str k tk) → ∃ ss : List Str, StrsAre l ss
  | [], _ => ⟨[], .nil⟩
  | v :: r, h => by
    obtain ⟨k, tk, rfl⟩ := h v List.mem_cons_self
    obtain ⟨ss, q⟩ := strs_of r fun x hx => h x (List.mem_cons_of_mem _ hx)
    exact ⟨k :: ss, .cons _ _ q⟩
theorem sorted_setX {a : Addr} {l : List Str} {Q : Value → Shared → Prop} (R : SetX P w s.heap a l) (hh : A.handled = none) (h64 : l.length < 64)
    (hQ : ∀ s' p (out : Array Value) (c : Nat) (ss : List Str), (∀ b o, s.heap.get? b = some o → s'.heap.get? b = some o) → s'.gens = s.gens → s'.os = s.os → s.heap.objs.size ≤ p →
      s'.heap.get? p = some (seqObj "list" out c) → StrsAre out.toList ss → sortedS ss = true → ss.Perm l → Q (.ref p) s') :
    wpAny (model P w) A (call (.builtin "sorted") [.ref a]) Q E s := by
  obtain ⟨⟨es, ep, t⟩, ho, F, nd, hr, hl⟩ := R
  have hel : ElemsOf (strKind P w) es.toList := F.el
  have hf : t.fits es.size = true := F.fit
  have hsz : es.size = l.length := F.sz
  have hb : es.size < scanBound := by rw [hsz]; exact Nat.lt_of_lt_of_le h64 (by decide)
  refine PySem.Calls.call_function_entry kind_sorted plain_sorted entry_sorted (args_sorted1 _) ?_
  unfold Builtin.«sorted»
  refine wpAny_bind (m := checkCount "sorted" 1 1 _) (wpAny_pure ?_)
  refine wpAny_bind (collect_set (A := A.in1) hh ⟨_, ho, rfl, rfl⟩ hf hb hr hl fun s1 vs k1 hz g1 o1 pm => ?_)
  have hvl : vs.length = l.length := by rw [pm.length_eq, List.length_map, Array.length_toList]; exact hsz
  obtain ⟨ss, hS⟩ := strs_of vs fun v hv => by
    obtain ⟨e, he, q⟩ := List.mem_map.mp (pm.mem_iff.mp hv)
    obtain ⟨⟨k, hk, _⟩, _⟩ := hel e he
    obtain ⟨tk, z⟩ := str_of hk
    exact ⟨k, tk, by rw [← q]; exact z⟩
  have hperm : ss.Perm l := perm_of nd (fun k hk => by
    obtain ⟨e, he, z⟩ := (F.mem k).mp hk
    obtain ⟨tk, z⟩ := str_of z
    exact strs_mem hS (k := k) (tk := tk) (pm.mem_iff.mpr (List.mem_map.mpr ⟨e, he, z⟩))) (by rw [← strs_len hS, hvl])
  refine wpAny_bind (wpAny_newList ?_ (by rw [hvl, sizeLine_eq]; omega))
  have hoL : (s1.heap.push (seqObj "list" vs.toArray 0)).get? s1.heap.objs.size = some (seqObj "list" vs.toArray 0) := Heap.get?_push_size _ rfl
  refine wpAny_bind (wpAny_holding (wpAny_call_entry slot_list_sort ⟨_, hoL, rfl⟩ entry_list_sort (list_sort_treeK strKind_oneLt hoL hS.keysOf (fun v₁ v₂ rest e => keyKind_strs (by rw [← e]; exact hS)) (by rw [hvl]; exact h64) fun st' hp hs => ⟨_, rfl, ?_⟩) (args_list_sort _)))
  obtain ⟨ss', a1, a2, a3⟩ := sorted_out_str hS hp hs
  obtain ⟨c, hc⟩ := sortedHeap_at (vs := vs) (out := (arrOf st').map (·.2)) hoL
  refine wpAny_pure ⟨_, rfl, hQ _ s1.heap.objs.size _ c ss' (fun b u e => ?_) g1 o1 hz hc a1 a3 (a2.trans hperm)⟩
  have q := k1 b u e
  have hlt := Heap.lt_size q
  show (sortedHeap (s1.heap.push (seqObj "list" vs.toArray 0)) s1.heap.objs.size vs _).get? b = some u
  rw [sortedHeap_old (Nat.ne_of_lt hlt) (by rw [size_push']; exact Nat.lt_succ_of_lt hlt)]
  exact Heap.get?_push_of_some _ q
end
end SXN
namespace SXN
open PySem PySem.Spec PyProof.Rows L2 PySem.Froz
def SetXO (P : Program) (w : World) (a : Addr) (l : List Str) : HO := .ext fun h => SetX P w h a l
theorem setXO_new {w : World} {P : Program} {H : Hp} {h : Heap} {a : Addr} {l : List Str} (R : SetX P w h a l) : ObjOk P w H h a (SetXO P w a l) := by
  have ⟨D, ho, _⟩ := R
  exact ⟨R, ⟨_, ho⟩, fun h1 h2 p k => SetX.at_ p k⟩
section
variable {X : Cx} {pins : List (Addr × Obj)} {σ : L2.St} {H : Hp} {s : Shared}
theorem setXO_get {a : Addr} {l : List Str} (I : Inv X pins σ H s) (ha : H a = some (SetXO X.prog X.w a l)) : SetX X.prog X.w s.heap a l := (I.hok a _ ha).1
theorem addX_ok {E : Value → Shared → Prop} {a : Addr} {l : List Str} {k : Str} {u : Tok} {Q : Value → Shared → Prop} (I : Inv X pins σ H s) (ha : H a = some (SetXO X.prog X.w a l)) (room : l.length + 1 < scanBound)
    (h : ∀ s', Inv X pins σ (upd H a (SetXO X.prog X.w a (addL k l))) s' → Q .none s') : wpAny (model X.prog X.w) X.A (call (.builtin "set.add") [.ref a, .str k u]) Q E s := by
  have R := setXO_get I ha
  refine setX_add R room fun h' sb new => ?_
  have he : ∃ u, h'.get? a = some u := by
    have ⟨_, ho, _⟩ := new
    exact ⟨_, ho⟩
  exact h _ (I.write (e := a) (t' := s.toks + 1) (by rw [ha]; trivial) (.inl rfl) (fun b u hb hu => (sb.2 b hb).trans hu) he (setXO_new new))
theorem vals_strs : ∀ {l : List Value} {ss : List Str}, StrsAre l ss → Vals (ss.map V.str) l
  | _, _, .nil => .nil
  | _, _, .cons _ _ q => .cons ⟨_, rfl⟩ (vals_strs q)
def rSortX (P : Program) (w : World) : List V → Hp → VK → Prop := fun xs H Q => ∃ (a : Addr) (l : List Str), xs = [.ref a] ∧ H a = some (SetXO P w a l) ∧ l.length < 64 ∧
  ∀ (ss : List Str) (p : Addr), sortedS ss = true → ss.Perm l → H p = none → Q (.ref p) (upd H p (.lst (ss.map V.str)))
theorem cr_sortX (hc : X.calm = true) : CallR X (.builtin "sorted") (rSortX X.prog X.w) := by
  intro pins s σ H vs us Q I r h
  obtain ⟨a, l, rfl, ha, h64, q⟩ := h
  rw [Vals.ref1 r]
  refine sorted_setX (setXO_get I ha) (I.ok.hd hc) h64 fun s' p out c ss k g o hp hg hi hs hm => ?_
  have hlen : (ss.map V.str).length ≤ sizeLine := by rw [List.length_map, hm.length_eq, sizeLine_eq]; omega
  have hn : H p = none := I.hok.fresh hp
  obtain ⟨h1, g1, d1, t1, o1⟩ := s'
  obtain ⟨h0, g0, d0, t0, o0⟩ := s
  dsimp only at k g o hp hg
  subst o
  exact ⟨.ref p, _, I.call (ch := []) (Un.laid (o := HO.lst (ss.map V.str)) k hp hn) (I.hok.laid (o := HO.lst (ss.map V.str)) k hp ⟨hlen, out.toList, c, vals_strs hi, hg⟩) (by rw [g]; exact I.bare) (fun _ z => nomatch z), rfl, q ss p hs hm hn⟩
end
end SXN
namespace SXN
open PySem PySem.Spec PyProof.Rows L2 PySem.Froz
/-- the empty set's object -/
abbrev noneYet (w : World) : Obj := { cls := .type "set", dict := none, data := .set #[] 0 (.fresh 0 0 (!w.params.followText "set-order")) }
/-- what one turn does: the item is stored, the tests asked, the text added -/
def txTurn (P : Program) (w : World) (g : TG) (tt : TT) (te : TE) (τ : L2.St) (vs : List Nat) (S : Addr) (Z : Hp → Prop) (x : V) (G : Hp) : Prop :=
  g x τ G fun τ2 G2 => wipe τ2 vs = τ ∧ tt τ2 G2 fun b G3 => (b = true → te τ2 G3 fun y G4 => ∃ (k : Str) (l : List Str), y = .str k ∧ G4 S = some (SetXO P w S l) ∧ l.length + 1 < scanBound ∧ Z (upd G4 S (SetXO P w S (addL k l)))) ∧ (b = false → Z G3)
/-- {text for target in iter if ..} -/
def tSx (P : Program) (w : World) (wi : TI) (g : TG) (tt : TT) (te : TE) (vs : List Nat) : TE := fun σ H Q => wi σ H fun J H1 => ∀ S, H1 S = none → ∃ V : Nat → Nat → Hp → Prop, (∃ n, V 0 n (upd H1 S (SetXO P w S []))) ∧
  ∀ i n G, V i n G → (J.stop i G ∧ Q (.ref S) G) ∨ (J.go i G ∧ ∃ Z : Hp → Prop, (∀ G', Z G' → ∃ m, m < n ∧ V (i + 1) m G') ∧ ∀ x G', J.yld i G x G' → txTurn P w g tt te (wipe σ vs) vs S Z x G')
section
variable {Y : Cx} {tg elt : Expr} {ifs : List Expr} {g : TG} {tt : TT} {te : TE} {J : It} {fp : List Addr} {it S : Addr} {tn : Nat → Heap → Prop}
/-- how it stands ahead of a turn -/
def Ahead (Y : Cx) (τ : L2.St) (fp : List Addr) (tn : Nat → Heap → Prop) (V : Nat → Nat → Hp → Prop) (n : Nat) (s : Shared) : Prop :=
  ∃ i G, V i n G ∧ Inv Y [] τ G s ∧ (∀ b ∈ fp, G b = none) ∧ tn i s.heap
theorem pinned_at {fp : List Addr} {h : Heap} {b : Addr} {o : Obj} {σ : L2.St} {G : Hp} {s : Shared} (I : Inv Y ([] ++ pinsAt fp h) σ G s) (hb : b ∈ fp) (e : h.get? b = some o) : s.heap.get? b = some o ∧ G b = none :=
  have q := I.pin (b, o) (List.mem_append_right _ (List.mem_append_right _ (mem_pinsAt hb e)))
  ⟨q.1, q.2.1⟩
theorem turn_sx {V : Nat → Nat → Hp → Prop} {τ : L2.St} {vs : List Nat} (hc : Y.calm = true) (T : Turn Y.prog Y.w Y.K tg J fp it tn) (pg : PG Y tg g) (pt : PTs Y ifs tt) (pe : PE Y elt te) (hxe : Y.xe = fun _ _ => False)
    (ok : ∀ G : Hp, (∀ b ∈ fp, G b = none) → ∀ b ∈ fp, FpOk Y [] G b) (hw : ∀ τ2 : L2.St, wipe τ2 vs = τ → τ.length = τ2.length ∧ ∀ (j : Nat) v, τ[j]? = some (some v) → τ2[j]? = some (some v))
    {i n : Nat} {G : Hp} {s : Shared} {Z : Hp → Prop} (I : Inv Y [] τ G s) (hn : ∀ b ∈ fp, G b = none) (st : tn i s.heap) (go : J.go i G) (hZ : ∀ G', Z G' → ∃ m, m < n ∧ V (i + 1) m G') (step : ∀ x G', J.yld i G x G' → txTurn Y.prog Y.w g tt te τ vs S Z x G') :
    wpAny (model Y.prog Y.w) Y.A (pyNext (.ref it)) (fun r s1 => ∃ v, r = some v ∧ wpAny (model Y.prog Y.w) Y.A (letOwnedTupleGo tg (.ref it) v) (fun _ s2 => wpAny (model Y.prog Y.w) Y.A (assign tg Y.env v) (fun _ s3 =>
      wpAny (model Y.prog Y.w) Y.A (forIn ifs true fun c r => if r = true then do let ok ← isTrue c Y.env (eval c Y.env); pure (ForInStep.yield ok) else pure (ForInStep.yield r)) (fun b s4 =>
        (b = true → wpAny (model Y.prog Y.w) Y.A (eval elt Y.env) (fun x s5 => wpAny (model Y.prog Y.w) Y.A (call (.builtin "set.add") [.ref S, x]) (fun _ s6 => ∃ m, m < n ∧ Ahead Y τ fp tn V m s6) (fun _ _ => False) s5) (fun _ _ => False) s4) ∧ (b = false → ∃ m, m < n ∧ Ahead Y τ fp tn V m s4)) (fun _ _ => False) s3) (fun _ _ => False) s2) (fun _ _ => False) s1) (fun _ _ => False) s := by
  refine thn (T.item Y rfl rfl rfl hc i [] s τ G (fun _ _ => False) I (ok G hn) st go) ?_
  rintro _ s1 ⟨v, rfl, h1⟩
  refine ⟨v, rfl, thn h1 ?_⟩
  rintro _ s2 ⟨x, G2, I2, rv, hy, st2, n2⟩
  have ob := T.obj _ _ st2
  have z1 := pg.run _ s2 _ G2 x v _ (I2.pinned (ok G2 n2) ob) rv (step x G2 hy)
  rw [hxe] at z1
  refine thn z1 ?_
  rintro _ s3 ⟨τ3, G3, I3, hw3, h3⟩
  obtain ⟨hl, hs⟩ := hw τ3 hw3
  have z2 := pt.run _ s3 τ3 G3 _ I3 h3
  rw [hxe] at z2
  refine thn z2 ?_
  rintro b s4 ⟨G4, I4, h4, h5⟩
  have back : ∀ {s' : Shared} {G' : Hp}, Inv Y ([] ++ pinsAt fp s2.heap) τ3 G' s' → Z G' → ∃ m, m < n ∧ Ahead Y τ fp tn V m s' := fun {s' G'} I' z => by
    obtain ⟨m, hm, hv⟩ := hZ G' z
    refine ⟨m, hm, i + 1, G', hv, (I'.unpinned (pins := [])).weak hl hs, fun b hb => ?_, T.keep _ _ _ st2 fun b hb o e => (pinned_at I' hb e).1⟩
    obtain ⟨o, e, _⟩ := ob b hb
    exact (pinned_at I' hb e).2
  refine ⟨fun e => ?_, fun e => back I4 (h5 e)⟩
  have z3 := pe.run _ s4 τ3 G4 _ I4 (h4 e)
  rw [hxe] at z3
  refine thn z3 ?_
  rintro z s5 ⟨yv, G5, I5, rz, k, l, rfl, hS, room, hz⟩
  obtain ⟨u, rfl⟩ : ∃ u, z = Value.str k u := rz
  exact addX_ok I5 hS room fun s6 I6 => back I6 hz
end
section
variable {X : Cx}
theorem pe_sx {elt tg iter : Expr} {ifs : List Expr} {scope : Scope} {own : List (PySem.Str × Nat)} {pos : Pos} {wi : TI} {g : TG} {tt : TT} {te : TE} (hc : X.calm = true) (hN : X.N.Nodup) (hi : PI X tg iter wi) (ok : BlkOk X.N X.env.scope scope own)
    (hg : ∀ (s : Shared) (H : Hp) (C : Addr) (cl : List (PySem.Str × Addr)) (fp : List Addr), PG (X.blk s H scope (compEnvC scope cl C X.env) fp) tg g) (ht : ∀ (s : Shared) (H : Hp) (C : Addr) (cl : List (PySem.Str × Addr)) (fp : List Addr), PTs (X.blk s H scope (compEnvC scope cl C X.env) fp) ifs tt)
    (he : ∀ (s : Shared) (H : Hp) (C : Addr) (cl : List (PySem.Str × Addr)) (fp : List Addr), PE (X.blk s H scope (compEnvC scope cl C X.env) fp) elt te) (hs : ∀ x, foldedSetIterable iter X.env x = pure x := by intro _; rfl) :
    PE X (.SetComp elt [⟨tg, iter, ifs, 0⟩] scope pos) (tSx X.prog X.w wi g tt te (own.map (·.2))) := by
  constructor
  intro pins s σ H Q I h
  rw [PpSet.eval_SetComp]
  have fr : ∀ y ∈ scope.names, y.2 = .free → ∃ c, X.env.cells.lookup y.1 = some c := by
    intro y hy e
    exact (ok.free y hy e).elim (fun k => I.ok.has _ (.inl k)) fun k => I.ok.has _ (.inr k)
  refine wpAny_comprehension_free (use := none) rfl hs (closure_ok fr) ok.kind (fun y hy e => by rw [ok.uniq y hy, e]) (thn (hi.run pins s σ H _ I h) fun xv s1 hx => thn hx ?_)
  rintro _ s2 ⟨it, fp, tn, J, H2, rfl, I2, T, st2, f2, q⟩
  refine PpSet.newSet_ok (newEnv_comp ?_)
  -- the state behind the set's making
  obtain ⟨s3, e3⟩ : ∃ s3 : Shared, s3 = { s2 with heap := s2.heap.push (noneYet X.w) } := ⟨_, rfl⟩
  obtain ⟨S, eS⟩ : ∃ S, S = s2.heap.objs.size := ⟨_, rfl⟩
  have nS : H2 S = none := I2.hok.fresh (Nat.le_of_eq eS.symm)
  obtain ⟨V, ⟨n0, v0⟩, turn⟩ := q S nS
  obtain ⟨H3, eH⟩ : ∃ H3, H3 = upd H2 S (SetXO X.prog X.w S []) := ⟨_, rfl⟩
  have keep : ∀ b o, s2.heap.get? b = some o → s3.heap.get? b = some o := fun b o e => by rw [e3]; exact Heap.get?_push_of_some _ e
  have I3 : Inv X pins σ H3 s3 := by
    rw [e3, eH]
    refine I2.laid (t' := s2.toks) (fun b o e => Heap.get?_push_of_some _ e) (Nat.le_of_eq eS.symm) ?_
    rw [eS]
    exact setXO_new setX_fresh
  have lt2 : ∀ b ∈ fp, b < s2.heap.objs.size := fun b hb => (T.obj _ _ st2 b hb).elim fun o z => Heap.lt_size z.1
  have f3 : ∀ b ∈ fp, FpOk X pins H3 b ∧ b < s3.heap.objs.size := by
    intro b hb
    have lt := lt2 b hb
    have sz : s3.heap.objs.size = s2.heap.objs.size + 1 := by rw [e3]; exact Heap.size_push ..
    refine ⟨⟨?_, (f2 b hb).2⟩, by rw [sz]; exact Nat.lt_succ_of_lt lt⟩
    rw [eH, upd_ne (by rw [eS]; exact Nat.ne_of_lt lt)]
    exact (f2 b hb).1
  have I4 := block_start I3 ok hN f3
  obtain ⟨ce, ec⟩ : ∃ ce, ce = compEnvC scope (cellsFrom (s3.heap.objs.size + 1) scope.names (cloFrom X.env.cells scope.names [])) s3.heap.objs.size X.env := ⟨_, rfl⟩
  obtain ⟨s4, e4⟩ : ∃ s4 : Shared, s4 = { s3 with heap := pushCells (s3.heap.push { cls := .type "dict", data := .dict #[] }) scope.names } := ⟨_, rfl⟩
  have pg := hg s3 H3 s3.heap.objs.size (cellsFrom (s3.heap.objs.size + 1) scope.names (cloFrom X.env.cells scope.names [])) fp
  have pt := ht s3 H3 s3.heap.objs.size (cellsFrom (s3.heap.objs.size + 1) scope.names (cloFrom X.env.cells scope.names [])) fp
  have pe := he s3 H3 s3.heap.objs.size (cellsFrom (s3.heap.objs.size + 1) scope.names (cloFrom X.env.cells scope.names [])) fp
  rw [← ec] at I4 pg pt pe
  rw [← e4] at I4
  have st4 : tn 0 s4.heap := T.keep _ _ _ st2 fun b _ o e => by rw [e4]; exact pushCells_keeps _ _ _ _ (Heap.get?_push_of_some _ (keep b o e))
  have cL : ce.locals = s3.heap.objs.size := by rw [ec]; rfl
  have okF : ∀ G : Hp, (∀ b ∈ fp, G b = none) → ∀ b ∈ fp, FpOk (X.blk s3 H3 scope ce fp) [] G b := by
    intro G hn b hb
    exact ⟨hn b hb, (I4.ok.exf b hb).1, I4.ok.exfs b hb, .inl hb, fun x c e => (I4.ok.exf b hb).2 x c e, fun p hp => by cases hp⟩
  suffices loop : codeAny (model X.prog X.w) X.A (.compLoop (.SetComp elt [⟨tg, iter, ifs, 0⟩] scope pos) 0 (.ref it) (.ref S) ce) (compPost (model X.prog X.w) X.A X.xe none (EP X pins σ Q) (.ref S) s3.heap.objs.size) s4 by
    rw [e4, ec, e3, eS] at loop
    rw [e4, e3] at st4
    exact PpSet.codeAny_compStart_set loop (T.self X.A 0 _ _ _ st4 loop)
  refine PpSet.compLoopS_any (Ahead (X.blk s3 H3 scope ce fp) (wipe σ (own.map (·.2))) fp tn V) ?_ n0 ⟨0, H3, by rw [eH]; exact v0, I4, fun b hb => (f3 b hb).1.1, st4⟩
  rintro n s5 ⟨i, G, hv, I5, n5, st5⟩
  rcases turn i n G hv with ⟨stop, done⟩ | ⟨go, Z, hZ, step⟩
  · refine thnF (T.done (X.blk s3 H3 scope ce fp) rfl rfl rfl hc i [] s5 _ G (fun _ _ => False) I5 (okF G n5) st5 stop) ?_
    rintro _ s6 ⟨rfl, I6⟩
    have I7 : Inv X pins σ G s6 := I3.call' (ch := fp) I6.os I6.base I6.hok I6.bare fun b hb => ⟨(f3 b hb).1.2.2.2.1, (f3 b hb).1.2.1, (f3 b hb).1.2.2.2.2.1, (f3 b hb).1.2.2.2.2.2⟩
    have nC : G s3.heap.objs.size = none := by rw [← cL]; exact I6.free
    obtain ⟨m, ns, _⟩ := I6.loc
    have ns : s6.heap.Ns ce.locals m := ns
    rw [cL] at ns
    obtain ⟨f0, f1, f2', f4, f5, f6⟩ := I3.fpOk (Nat.le_refl _) nC
    exact ⟨m, ns, fun h'' sb => ⟨.ref S, G, I7.turned (t' := s6.toks) (fun b o hb e => (sb.2 b hb).trans e) f0 f1 f4 f5 f6, rfl, done⟩⟩
  · refine thnF (turn_sx (Y := X.blk s3 H3 scope ce fp) hc T pg pt pe rfl okF (fun τ2 e => ⟨by rw [← e, wipe_length], fun j v z => by rw [← e] at z; exact (wipe_some z).1⟩) I5 n5 st5 go hZ step) ?_
    rintro _ s6 ⟨v, rfl, h6⟩
    refine thnF h6 fun _ s7 h7 => thnF h7 fun _ s8 h8 => thnF h8 ?_
    rintro b s9 ⟨h9, h10⟩
    cases b with
    | true =>
      rw [if_pos rfl]
      exact thnF (h9 rfl) fun x s10 h11 => thnF h11 fun _ s11 z => z
    | false =>
      rw [if_neg Bool.false_ne_true]
      exact h10 rfl
end
end SXN
namespace G
open PySem PySem.Spec L2
/-- a set of texts of our own at p -/
def setA (P : Program) (w : World) (p : Addr) (l : List Str) : At where
  M := fun a => a = p
  R := fun _ _ H => H p = some (SXN.SetXO P w p l)
  loc := fun f _ h => f _ _ rfl h
  anti := fun _ h => h
  grow := fun _ h => h
  al := fun {_ _ H} h a z => ⟨_, (congrArg H (show a = p from z)).trans h⟩
section
variable {K : PySem.W.Frag} {P : Program} {w : World}
theorem rok_plusX {r : Rs} {H : Hp} {p : Addr} (h : Rok K r H) (hp : H p = none) : Rok K (r ++ [setA P w p []]) (upd H p (SXN.SetXO P w p [])) ∧ Kp K r H (r ++ [setA P w p []]) (upd H p (SXN.SetXO P w p [])) := by
  have e : ∀ a, mem (r ++ [setA P w p []]) a → mem r a ∨ a = p := fun a z => (mem_append.mp z).elim .inl fun z => z.elim (fun (y : a = p) => .inr y) False.elim
  refine ⟨hold_append.mpr ⟨hold_anti e (hold_ext (Ext.new hp) (hold_grow hp h)), ⟨upd_same, fun _ _ z => z, True.intro⟩, fun a m z => ?_⟩, fun v d i => is_anti e (is_ext (Ext.new hp) _ _ (is_grow hp i))⟩
  have : a = p := z.elim (fun z => z) False.elim
  subst this
  exact not_al h hp m
theorem rok_addX {r : Rs} {H : Hp} {p : Addr} {acc acc' : List Str} (h : Rok K (r ++ [setA P w p acc]) H) : H p = some (SXN.SetXO P w p acc) ∧
    Rok K (r ++ [setA P w p acc']) (upd H p (SXN.SetXO P w p acc')) ∧ ∀ v e, Is K (mem (r ++ [setA P w p acc])) H v e → Is K (mem (r ++ [setA P w p acc'])) (upd H p (SXN.SetXO P w p acc')) v e := by
  obtain ⟨h1, ⟨h2, _, _⟩, h5⟩ := hold_append.mp h
  have h2 : H p = some (SXN.SetXO P w p acc) := h2
  have me : mem (r ++ [setA P w p acc]) = mem (r ++ [setA P w p acc']) := by
    funext a
    exact propext ((mem_append).trans (mem_append (r := r) (r' := [setA P w p acc'])).symm)
  have hN : mem (r ++ [setA P w p acc]) p := mem_append.mpr (.inr (.inl rfl))
  have go : ∀ w' e, Is K (mem (r ++ [setA P w p acc])) H w' e → Is K (mem (r ++ [setA P w p acc])) (upd H p (SXN.SetXO P w p acc')) w' e := fun w' e q => is_otherO hN h2 (fun xs => ⟨(fun e => by cases e), fun _ e => by cases e⟩) q
  refine ⟨h2, hold_append.mpr ⟨?_, ⟨upd_same, fun _ _ z => z, True.intro⟩, h5⟩, fun w e q => me ▸ go w e q⟩
  rw [← me]
  refine hold_loc (fun b o m q => ?_) go h1
  rw [upd_ne (fun e => h5 b m (.inl e))]
  exact q
theorem rok_doneX {r : Rs} {H : Hp} {p : Addr} {acc : List Str} (h : Rok K (r ++ [setA P w p acc]) H) : Rok K r H ∧ Kp K (r ++ [setA P w p acc]) H r H := by
  obtain ⟨h1, _, _⟩ := hold_append.mp h
  exact ⟨hold_anti (fun a z => mem_append.mpr (.inl z)) h1, fun _ _ => is_anti fun a z => mem_append.mpr (.inl z)⟩
structure aScK (P : Program) (w : World) (x : XT) (g : AG) (tt : AB) (te : AT) (δw : Dl) (ds : List D) (r1 : Rs) (Pk : PK1) : Prop where
  ex : ∃ I : Nat → List Str → Rs → Prop, I 0 [] r1 ∧
  (∀ (p : Addr) i d acc r', ds[i]? = some d → I i acc r' → g d δw fun δ2 => tt x δ2 (r' ++ [setA P w p acc]) fun b r2 =>
    (b = true → te x δ2 r2 fun y r3 => ∃ k, y = .str k ∧ acc.length ≤ 1000 ∧ ∃ r4, le r3 (r4 ++ [setA P w p acc]) ∧ I (i + 1) (SXN.addL k acc) r4) ∧ (b = false → ∃ r4, le r2 (r4 ++ [setA P w p acc]) ∧ I (i + 1) acc r4)) ∧
  ∀ acc r', I ds.length acc r' → acc.length < 64 ∧ Pk (.lst ((srt acc).map .str)) r'
/-- sorted({text for target in iter if ..}) -/
def aSortSc (P : Program) (w : World) (ti : AI) (g : AG) (tt : AB) (te : AT) (vs : List Nat) : AT := fun x δ r Pk => ti x δ r fun ds r1 => aScK P w x g tt te (wipeD δ vs) ds r1 Pk
theorem addL_mem {k z : Str} {l : List Str} (h : z ∈ SXN.addL k l) : z = k ∨ z ∈ l := by
  unfold SXN.addL at h
  split at h
  · exact .inr h
  · exact List.mem_cons.mp h
theorem td_sc {W : WX} {ti : AI} {g : AG} {tt : AB} {te : AT} {vs js : List Nat} (hj : ∀ j ∈ js, j ∈ vs) {σ : L2.St} {H : Hp} {Q : VK} (q : TD K W (aSortSc P w ti g tt te vs) σ H Q) :
    SXN.tSx P w (TDI K W ti) (TDG K js g) (TDB K W tt) (TD K W te) vs σ H fun v H1 => SXN.rSortX P w [v] H1 Q := by
  obtain ⟨XR, δ, r, Pk, o, h, k⟩ := q
  refine ⟨XR, δ, r, _, o, h, fun ds r1 J H1 ⟨⟨I, h0, hst, hd⟩⟩ o1 k1 wk p hp => ?_⟩
  obtain ⟨s1, s2⟩ := rok_plusX (P := P) (w := w) o1.r hp
  refine ⟨fun i m H' => m = ds.length - i ∧ i ≤ ds.length ∧ ∃ acc r', (∀ z ∈ acc, sok z) ∧ I i acc r' ∧ Rok K (r' ++ [setA P w p acc]) H' ∧ Kp K r1 H1 (r' ++ [setA P w p acc]) H', ⟨ds.length, by simp, Nat.zero_le _, [], r1, (fun z hz => by cases hz), h0, s1, s2⟩, ?_⟩
  rintro i m H' ⟨rfl, hi, acc, r', hok, hI, ro, kp⟩
  by_cases hlt : i < ds.length
  · obtain ⟨hgo, hy⟩ := (wk i _ H' kp ro).1 hlt
    refine .inr ⟨hgo, fun H2 => ∃ acc r2, (∀ z ∈ acc, sok z) ∧ I (i + 1) acc r2 ∧ Rok K (r2 ++ [setA P w p acc]) H2 ∧ Kp K r1 H1 (r2 ++ [setA P w p acc]) H2, fun H2 ⟨acc, r2, q0, q1, q2, q3⟩ => ⟨ds.length - (i + 1), by omega, rfl, hlt, acc, r2, q0, q1, q2, q3⟩, fun x H2 y => ?_⟩
    obtain ⟨ex, d, hd', ix⟩ := hy x H2 y
    have k2 := kp.trans (Kp.ext ex)
    have o2 : Ok K W XR (r' ++ [setA P w p acc]) (wipeD δ vs) (wipe σ vs) H2 := (o1.step k2 (ro.ext ex)).wipe vs
    refine ⟨W, XR, wipeD δ vs, _, d, _, o2, ix, hst p i d acc r' hd' hI, fun δ2 σ2 q o3 ag => ⟨wipe_agree ag hj, XR, δ2, _, _, o3, q, fun b r3 H3 q3 o4 k4 => ⟨fun e => ?_, fun e => ?_⟩⟩⟩
    · refine td_bind o4 (q3.1 e) fun y r5 v H5 ⟨z, e1, sz, r6, l6, h5⟩ o5 k5 i5 => ?_
      subst e1
      cases i5 with
      | str hs =>
        obtain ⟨e1, e3, e4⟩ := rok_addX (acc' := SXN.addL z acc) (le_rok l6 o5.r)
        refine ⟨z, acc, rfl, e1, by unfold PySem.scanBound; omega, SXN.addL z acc, r6, fun y hy => ?_, h5, e3, fun v' d' z => e4 _ _ (is_anti l6.m (k5 _ _ (k4 _ _ (k2 _ _ z))))⟩
        rcases addL_mem hy with rfl | hy
        · exact hs
        · exact hok y hy
    · obtain ⟨r6, l6, h5⟩ := q3.2 e
      exact ⟨acc, r6, hok, h5, le_rok l6 o4.r, fun v' d' z => is_anti l6.m (k4 _ _ (k2 _ _ z))⟩
  · have e : i = ds.length := by omega
    obtain ⟨d1, d3⟩ := rok_doneX ro
    obtain ⟨h64, hp⟩ := hd acc r' (e ▸ hI)
    obtain ⟨z1, _, _⟩ := rok_addX (acc' := acc) ro
    refine .inl ⟨(wk i _ H' kp ro).2 e, p, acc, rfl, z1, h64, fun ss q hs pm hn => ?_⟩
    obtain rfl : ss = srt acc := srt_eq pm (sorted_pair hs)
    have o3 := o1.step (kp.trans d3) d1
    exact k _ r' _ _ hp (o3.new hn) (((k1.trans kp).trans d3).trans (Kp.ext (Ext.new hn))) (new_lst d1 hn (all_strsS fun z hz => hok z (srt_mem.mp hz)))
end
section
variable {X : Cx} {W : WX}
theorem d_sortSc {elt tg iter : Expr} {ifs : List Expr} {scope : Scope} {own : List (Str × Nat)} {pos spos p : Pos} {js : List Nat} {wi : AI} {g : AG} {tt : AB} {te : AT} (hN : X.N.Nodup) (hi : PDI X W tg iter wi) (ok : BlkOk X.N X.env.scope scope own)
    (hg : ∀ (s : Shared) (H : Hp) (C : Addr) (cl : List (Str × Addr)) (fp : List Addr), PDG (X.blk s H scope (compEnvC scope cl C X.env) fp) tg js g) (ht : ∀ (s : Shared) (H : Hp) (C : Addr) (cl : List (Str × Addr)) (fp : List Addr), PTs (X.blk s H scope (compEnvC scope cl C X.env) fp) ifs (TDB X.K W tt))
    (he : ∀ (s : Shared) (H : Hp) (C : Addr) (cl : List (Str × Addr)) (fp : List Addr), PD (X.blk s H scope (compEnvC scope cl C X.env) fp) W elt te) (hgl : Gl X "sorted") (hm : X.mg "sorted" = none) (hj : ∀ j ∈ js, j ∈ own.map (·.2) := by decide) (hc : X.calm = true := by rfl) (hs : ∀ x, foldedSetIterable iter X.env x = pure x := by intro _; rfl)
    (hse : starEach [.SetComp elt [⟨tg, iter, ifs, 0⟩] scope pos] X.env = [(false, eval (.SetComp elt [⟨tg, iter, ifs, 0⟩] scope pos) X.env)] := by rfl) :
    PD X W (.Call (.Name "sorted" p) [.SetComp elt [⟨tg, iter, ifs, 0⟩] scope pos] [] spos) (aSortSc X.prog X.w wi g tt te (own.map (·.2))) :=
  imE (pe_callB (SXN.cr_sortX hc) hgl hm (by decide +kernel) (pa_cons (SXN.pe_sx (g := TDG X.K js g) (tt := TDB X.K W tt) (te := TD X.K W te) hc hN hi ok hg ht he hs) pa_nil hse) (by decide) (by decide) hse) fun _ _ _ q => td_sc hj q
end
end G
namespace Q
open PySem PySem.Spec L2 G
open PyProof.Rows (envOfC)
def top (i : Nat) : Stmt := PySem.Challenge.pw_quietprobes_k33_settings_combined.main.body.getD i (.Pass ⟨0, 0, 0, 0⟩)
abbrev s__wall : Stmt := top 0
abbrev s_BadName___init__ : Stmt := inClass (top 3) 0
abbrev s_BadMode___init__ : Stmt := inClass (top 4) 0
abbrev s_Twice___init__ : Stmt := inClass (top 5) 0
abbrev s_is_name : Stmt := top 9
abbrev s_rank : Stmt := top 12
abbrev s_greater_mode : Stmt := top 13
abbrev s_lesser_mode : Stmt := top 14
abbrev s_is_mode : Stmt := top 15
abbrev s_setting_with : Stmt := top 16
abbrev s_Setting___init__ : Stmt := inClass (top 17) 3
abbrev s_Setting___getitem__ : Stmt := inClass (top 17) 4
abbrev s_Setting___iter__ : Stmt := inClass (top 17) 5
abbrev s_Setting___setitem__ : Stmt := inClass (top 17) 6
abbrev s_Setting___len__ : Stmt := inClass (top 17) 7
abbrev s_Setting___contains__ : Stmt := inClass (top 17) 8
abbrev s_Setting___eq__ : Stmt := inClass (top 17) 9
abbrev s_Setting___or__ : Stmt := inClass (top 17) 10
abbrev s_Setting___ior__ : Stmt := inClass (top 17) 11
abbrev s_Setting___and__ : Stmt := inClass (top 17) 12
abbrev s_Setting___sub__ : Stmt := inClass (top 17) 13
abbrev s_Setting___xor__ : Stmt := inClass (top 17) 14
abbrev s_Setting_names : Stmt := inClass (top 17) 15
abbrev s_Setting_is_within : Stmt := inClass (top 17) 16
abbrev s_Setting_duplicate : Stmt := inClass (top 17) 17
abbrev s_Setting_every : Stmt := inClass (top 17) 18
abbrev s__law_pool : Stmt := top 19
abbrev s__law_draw : Stmt := top 20
abbrev s__law_names : Stmt := top 21
abbrev s__law_random_modes : Stmt := top 22
abbrev s__law_setting : Stmt := top 23
abbrev s__law_same : Stmt := top 24
abbrev s__law_holds : Stmt := top 25
abbrev s__law_rank : Stmt := top 26
abbrev s__law_both : Stmt := top 27
abbrev s__law_results : Stmt := top 28
abbrev s__law_cut : Stmt := top 29
abbrev s_law : Stmt := top 30
section
variable {P : Program} {w : World} {K : PySem.W.Frag} {mg : Str → Option Value} {base : Heap}
abbrev N__law_draw : List Str := ["_law_pool_here", "_law_many", "_law_cell", "_law_code", "_law_digit", "_law_far", "_law_mixed"]
theorem sc__law_draw : FnScope N__law_draw ["_law_pool_here", "_law_many"] (defScope s__law_draw) := ⟨rfl, rfl, rfl, by decide +kernel, rfl, by decide +kernel, by decide +kernel⟩
theorem emod_lt' {a m : Int} (h : 0 < m) : 0 ≤ a % m ∧ a % m < m := ⟨Int.emod_nonneg a (by omega), Int.emod_lt_of_pos a h⟩
theorem c__law_draw (B : Bl mg) (Dx : Dfn K mg "_law_draw" s__law_draw ["_law_pool_here", "_law_many"]) : Cl P w K mg base 1 "_law_draw" ["_law_pool_here", "_law_many"] spDraw := by
  obtain ⟨f, fd, F, g, b⟩ := Dx
  refine cl_cx0 (f := f) (fd := fd) ?_ g F.kp b
  have sc := sc__law_draw
  refine F.ok sc (fun vs H Q E h => ?_) (fun cdv A outer s H vs Q E hr h => ?_)
  · obtain ⟨r, ds, P', XR, ro, hi, ⟨p, a, m, N, X, rfl, _⟩, _, _⟩ := h
    exact hi.length
  · obtain ⟨r, ds, P', XR, ro, hi, ⟨p, a, m, N, X, rfl, rfl, ⟨hm, hm2⟩, hN, hP⟩, hQ, _⟩ := h
    obtain ⟨rfl⟩ : vs = [.ref p, .int m] := by
      match vs, hi with
      | [_, _], .cons (.adr _) (.cons (.int _) .nil) => rfl
    have fin : ∀ (k : Int) (H' : Hp), 0 ≤ k → k < m → (∀ b o, b ≠ p → b ≠ a → H b = some o → H' b = some o) → (poolA p a (N + 1)).R K (mem (poolA p a (N + 1) :: X)) H' → Q (.int k) H' := fun k H' h0 h1 hk ht =>
      let ⟨q1, q2⟩ := pool_step ro hk ht
      hQ _ _ _ _ (hP k h0 h1) q1 q2 (.int k)
    obtain ⟨⟨ne, ns, c1, c2, c3, h1, h2, g1, g2, g2', g3, g3', gn⟩, _, _⟩ := ro
    have ix : ∀ {X : Cx} {a b : Expr} {ta tb : TE} {pos : Pos}, PE X a ta → PE X b tb → PlainIx b → PE X (.Subscript a b pos) (tOp (rIxL X.K) ta tb) := fun ha hb hs => pe_ix ix_list ha hb hs
    refine ⟨_, pss_cons (ps_augS (pv 0) pe_int pget_list pe_int ip_add set_list)
      (Evl.pss_cut (ps_if (PW.pt (pw_and (pt_cmpR op_eq (ix (pv 0) pe_int (fun _ _ => rfl)) pe_int (nomark _)) (pw_and1 (pt_truth (ix (pv 0) pe_int (fun _ _ => rfl)) (by intro _; rfl)))))
        (pss_cons (ps_set (i := 2) sc.nd rfl (.inl rfl) (pe_callTy call_int1 (by rfl) B.int (by decide +kernel) (pa_cons (pe_bm PySem.F.plainAttrs_list PySem.F.slot_list_pop PySem.F.type_list_pop mt_popAt (ix (pv 0) pe_int (fun _ _ => rfl)) (pa_cons pe_int pa_nil)) pa_nil)))
        (pss_cons (ps_set (i := 3) sc.nd rfl (.inl rfl) (pe_ifExp (pt_cmpR op_ge (pv 2) pe_int (nomark _)) (pe_op op_mul pe_int (pv 2)) (pe_op op_sub (pe_un un_neg pe_int) (pe_op op_mul pe_int (pv 2)))))
        (pss_one (ps_if (pt_cmpR op_ge (pv 3) (pe_op op_pow pe_int pe_int) (nomark _))
          (pss_one (ps_asg (pv 3) (pg_sub (pv 0) pe_int set_list)))
          (pss_one (ps_asg (pe_op op_mod (pe_callTy call_int1 (by rfl) B.int (by decide +kernel) (pa_cons (pe_op op_add (pe_op op_add (pe_op op_mul (ix (pv 0) pe_int (fun _ _ => rfl)) pe_int) (pe_op op_mul (pv 3) pe_int)) pe_int) pa_nil)) pe_int) (pg_sub (pv 0) pe_int set_list)))))))
        pss_nil)
      (pss_cons (ps_if (pt_cmpR op_gt (ix (pv 0) pe_int (fun _ _ => rfl)) pe_int (nomark _))
        (pss_cons (ps_set (i := 4) sc.nd rfl (.inl rfl) (pe_op op_mod (pe_callTy call_int1 (by rfl) B.int (by decide +kernel) (pa_cons (ix (pv 0) pe_int (fun _ _ => rfl)) pa_nil)) (pv 1)))
        (pss_cons (ps_asg (pe_op op_fdivW (ix (pv 0) pe_int (fun _ _ => rfl)) (pv 1)) (pg_sub (pv 0) pe_int set_list))
        (pss_one (ps_ret (pv 4))))) pss_nil)
      (pss_cons (ps_set (i := 5) sc.nd rfl (.inl rfl) (pe_op op_add (pe_op op_mul (ix (pv 0) pe_int (fun _ _ => rfl)) pe_int) (pe_op op_mul (pe_op op_mul (ix (pv 0) pe_int (fun _ _ => rfl)) (ix (pv 0) pe_int (fun _ _ => rfl))) pe_int)))
      (pss_cons (ps_set (i := 6) sc.nd rfl (.inl rfl) (pe_op op_mod (pe_callTy call_int1 (by rfl) B.int (by decide +kernel) (pa_cons (pe_op op_add (pe_op op_mul (ix (pv 0) pe_int (fun _ _ => rfl)) pe_int) (pv 5)) pa_nil)) pe_int))
      (pss_one (ps_ret (pe_ifExp (pt_truth (ix (pv 0) pe_int (fun _ _ => rfl)) (by intro _; rfl)) (pe_op op_mod (pe_op op_mod (pe_callTy call_int1 (by rfl) B.int (by decide +kernel) (pa_cons (pe_op op_fdivW (pe_op op_mul (pv 6) pe_int) pe_int) pa_nil)) pe_int) (pv 1)) pe_int))))))), ?_⟩
    -- _law_pool_here[2] += 1
    refine ⟨_, rfl, p, _, 2, .int c2, rfl, rfl, by decide, SqL.of h1, rfl, c2, 1, rfl, rfl, p, _, 2, 2, rfl, rfl, h1, rfl, ?_⟩
    let c2' := c2 + 1
    have k1 : (upd H p (.lst ([V.ref a, .int c1, .int c2, .int c3].set 2 (.int (c2 + 1))))) p = some (.lst [.ref a, .int c1, .int (c2 + 1), .int c3]) := upd_same
    have k2 : (upd H p (.lst ([V.ref a, .int c1, .int c2, .int c3].set 2 (.int (c2 + 1))))) a = some (.lst (ns.map V.int)) := by rw [upd_ne (Ne.symm ne)]; exact h2
    have k3 : ∀ b o, b ≠ p → b ≠ a → H b = some o → (upd H p (.lst ([V.ref a, .int c1, .int c2, .int c3].set 2 (.int (c2 + 1))))) b = some o := fun b o n1 _ e => by rw [upd_ne n1]; exact e
    generalize upd H p (.lst ([V.ref a, .int c1, .int c2, .int c3].set 2 (.int (c2 + 1)))) = H1 at k1 k2 k3
    refine ⟨fun σ' H' => ∃ (x y : Option V) (ns' : List Int) (d1 d3 : Int), σ' = [some (.ref p), some (.int m), x, y, none, none, none] ∧ H' p = some (.lst [.ref a, .int d1, .int (c2 + 1), .int d3]) ∧ H' a = some (.lst (ns'.map V.int)) ∧ 0 ≤ d1 ∧ 0 ≤ d3 ∧ d3 < 2147483629 ∧ ns'.length ≤ 63 ∧
      ∀ b o, b ≠ p → b ≠ a → H b = some o → H' b = some o, ?_, ?_⟩
    · -- the pool takes one more of the script
      refine ⟨_, rfl, p, _, 1, .int c1, rfl, rfl, SqL.of k1, rfl, rfl, _, rfl, ?_⟩
      refine ite2 (fun hc => ?_) (fun hc => ?_)
      · refine ⟨_, rfl, p, _, 0, .ref a, rfl, rfl, SqL.of k1, rfl, _, .inl ⟨_, SqL.of k2, rfl⟩, ?_⟩
        refine ite2 (fun he => ?_) (fun he => ?_)
        · cases ns with
          | nil => cases he
          | cons n0 ns =>
            refine ⟨_, rfl, p, _, 0, .ref a, rfl, rfl, SqL.of k1, rfl, .inl ⟨rfl, _, SqL.of k2⟩, a, _, 0, 0, .int n0, rfl, rfl, k2, by decide, by decide, PySem.StrLaws.seqIndex_nonneg (Int.le_refl 0) (by rw [List.length_map, List.length_cons]; omega), rfl, .inl ⟨n0, rfl, ?_⟩⟩
            have k1' : (upd H1 a (.lst ((List.map V.int (n0 :: ns)).eraseIdx 0))) p = some (.lst [.ref a, .int c1, .int (c2 + 1), .int c3]) := by rw [upd_ne ne]; exact k1
            have k2' : (upd H1 a (.lst ((List.map V.int (n0 :: ns)).eraseIdx 0))) a = some (.lst (ns.map V.int)) := upd_same
            have k3' : ∀ b o, b ≠ p → b ≠ a → H b = some o → (upd H1 a (.lst ((List.map V.int (n0 :: ns)).eraseIdx 0))) b = some o := fun b o n1 n2 e => by rw [upd_ne n2]; exact k3 b o n1 n2 e
            generalize upd H1 a (.lst ((List.map V.int (n0 :: ns)).eraseIdx 0)) = H2 at k1' k2' k3'
            have gl : ns.length ≤ 63 := Nat.le_trans (Nat.le_succ _) gn
            -- code
            refine ⟨_, rfl, _, _, rfl, rfl, _, rfl, ?_⟩
            refine ite2 (fun h => ?_) (fun h => ?_)
            refine ⟨_, rfl, 2, n0, rfl, rfl, .inl ⟨by decide, by decide⟩, ?_⟩
            have hcd : 0 ≤ 2 * n0 := by
              have := of_decide_eq_true h
              omega
            show gName 3 (.int (2 * n0)) _ _ _
            generalize 2 * n0 = cd at hcd ⊢
            rotate_left
            refine ⟨1, rfl, _, rfl, 2, n0, rfl, rfl, .inl ⟨by decide, by decide⟩, -1, 2 * n0, rfl, rfl, ?_⟩
            have hcd : 0 ≤ -1 - 2 * n0 := by
              have : ¬ (0 ≤ n0) := fun z => h (decide_eq_true z)
              omega
            show gName 3 (.int (-1 - 2 * n0)) _ _ _
            generalize -1 - 2 * n0 = cd at hcd ⊢
            all_goals
              refine ⟨_, rfl, 10, 18, rfl, rfl, ⟨by decide, by decide, by decide⟩, _, _, rfl, rfl, _, rfl, ?_⟩
              refine ite2 (fun h => ?_) (fun h => ?_)
              · refine ⟨_, rfl, _, rfl, p, _, 1, 1, rfl, rfl, k1', rfl, ?_⟩
                exact ⟨_, _, ns, cd, c3, rfl, upd_same, by rw [upd_ne (Ne.symm ne)]; exact k2', hcd, g3, g3', gl, fun b o n1 n2 e => by rw [upd_ne n1]; exact k3' b o n1 n2 e⟩
              · refine ⟨_, rfl, p, _, 3, .int c3, rfl, rfl, SqL.of k1', rfl, c3, 48271, rfl, rfl, .inr ⟨by decide, by decide⟩, _, rfl, cd, 69621, rfl, rfl, .inr ⟨by decide, by decide⟩, _, _, rfl, rfl, _, _, rfl, rfl, .inl ⟨_, rfl, _, _, rfl, rfl, (by decide : (0 : Int) < 2147483629), ?_⟩⟩
                refine ⟨_, rfl, p, _, 3, 3, rfl, rfl, k1', rfl, ?_⟩
                exact ⟨_, _, ns, c1, _, rfl, upd_same, by rw [upd_ne (Ne.symm ne)]; exact k2', g1, (emod_lt' (by decide)).1, (emod_lt' (by decide)).2, gl, fun b o n1 n2 e => by rw [upd_ne n1]; exact k3' b o n1 n2 e⟩
        · exact ⟨_, _, ns, c1, c3, rfl, k1, k2, g1, g3, g3', gn, k3⟩
      · exact ⟨_, _, ns, c1, c3, rfl, k1, k2, g1, g3, g3', gn, k3⟩
    · -- the digit
      rintro σ' H' ⟨x, y, ns', d1, d3, rfl, k1, k2, e1, e3, e3', en, k3⟩
      have ok : ∀ d, 0 ≤ d → ∀ H'', H'' p = some (.lst [.ref a, .int d, .int (c2 + 1), .int d3]) → H'' a = some (.lst (ns'.map V.int)) → (poolA p a (N + 1)).R K (mem (poolA p a (N + 1) :: X)) H'' := fun d hd H'' q1 q2 => ⟨ne, ns', d, c2 + 1, d3, q1, q2, hd, by omega, by omega, e3, e3', en⟩
      refine ⟨_, rfl, p, _, 1, .int d1, rfl, rfl, SqL.of k1, rfl, _, _, rfl, rfl, _, rfl, ?_⟩
      refine ite2 (fun h => ?_) (fun h => ?_)
      · have hd : 0 < d1 := of_decide_eq_true h
        refine ⟨_, rfl, p, _, 1, .int d1, rfl, rfl, SqL.of k1, rfl, .inl ⟨_, rfl, _, rfl, _, _, rfl, rfl, hm, ?_⟩⟩
        refine ⟨_, rfl, p, _, 1, .int d1, rfl, rfl, SqL.of k1, rfl, _, rfl, d1, m, rfl, rfl, wide_div hm (b := 200) (by omega) (by decide) (by decide), ?_⟩
        refine ⟨_, rfl, p, _, 1, 1, rfl, rfl, k1, rfl, ?_⟩
        refine ⟨_, rfl, fin _ _ (emod_lt' hm).1 (emod_lt' hm).2 (fun b o n1 n2 e => by rw [upd_ne n1]; exact k3 b o n1 n2 e) (ok (d1 / m) (Int.ediv_nonneg (by omega) (by omega)) _ upd_same (by rw [upd_ne (Ne.symm ne)]; exact k2))⟩
      · have b2 : CMul (c2 + 1) (c2 + 1) := .inl ⟨by omega, by omega⟩
        refine ⟨_, rfl, p, _, 2, .int (c2 + 1), rfl, rfl, SqL.of k1, rfl, _, 40692, rfl, rfl, .inr ⟨by decide, by decide⟩, _, rfl, p, _, 2, .int (c2 + 1), rfl, rfl, SqL.of k1, rfl, _, rfl, p, _, 2, .int (c2 + 1), rfl, rfl, SqL.of k1, rfl, _, _, rfl, rfl, b2, _, 3, rfl, rfl, .inr ⟨by decide, by decide⟩, _, _, rfl, rfl, ?_⟩
        refine ⟨_, rfl, p, _, 3, .int d3, rfl, rfl, SqL.of k1, rfl, _, 16807, rfl, rfl, .inr ⟨by decide, by decide⟩, _, rfl, _, _, rfl, rfl, .inl ⟨_, rfl, _, _, rfl, rfl, (by decide : (0 : Int) < 2147483647), ?_⟩⟩
        refine ⟨_, rfl, p, _, 3, .int d3, rfl, rfl, SqL.of k1, rfl, _, rfl, ?_⟩
        refine ite2 (fun h => ?_) (fun h => ?_)
        · refine ⟨_, rfl, _, 48271, rfl, rfl, .inr ⟨by decide, by decide⟩, _, 7, rfl, rfl, wide_div (by decide) (b := 10) (by decide) (by decide) (by decide), .inl ⟨_, rfl, _, _, rfl, rfl, (by decide : (0 : Int) < 2147483629), _, rfl, _, _, rfl, rfl, hm, ?_⟩⟩
          exact fin _ _ (emod_lt' hm).1 (emod_lt' hm).2 k3 (ok d1 e1 _ k1 k2)
        · exact fin 0 _ (Int.le_refl _) hm k3 (ok d1 e1 _ k1 k2)
abbrev N__law_pool : List Str := ["_law_script"]
theorem sc__law_pool : FnScope N__law_pool ["_law_script"] (defScope s__law_pool) := ⟨rfl, rfl, rfl, by decide +kernel, rfl, by decide +kernel, by decide +kernel⟩
theorem cut_map {α : Type} (f : α → V) (xs : List α) (lo hi : Option Int) : ∃ ys : List α, cutV (xs.map f) lo hi = ys.map f ∧ ys.length ≤ xs.length := by
  unfold cutV
  refine ⟨(xs.drop (HT.sIx (xs.map f).length 0 lo)).take (HT.sIx (xs.map f).length (xs.map f).length hi - HT.sIx (xs.map f).length 0 lo), by rw [List.map_take, List.map_drop], ?_⟩
  rw [List.length_take, List.length_drop]
  omega
theorem c__law_pool (B : Bl mg) (Dx : Dfn K mg "_law_pool" s__law_pool ["_law_script"]) : ∃ f fd, FnOk P w K mg base CX0 1 f fd ["_law_script"] (spPool K) ∧ mg "_law_pool" = some (.ref f) ∧ PySem.W.keepIn K (.ref f) = true ∧ Binds K fd ["_law_script"] [] := by
  obtain ⟨f, fd, F, g, b⟩ := Dx
  refine ⟨f, fd, ?_, g, F.kp, b⟩
  have sc := sc__law_pool
  refine F.ok sc (fun vs H Q E h => ?_) (fun cdv A outer s H vs Q E hr h => ?_)
  · obtain ⟨a, ns, rfl, _⟩ := h
    rfl
  · obtain ⟨a, ns, rfl, hS, hl, hQ⟩ := h
    refine ⟨_, pss_one (ps_ret (pe_lst (pa_cons (pe_callTy call_list_of (by rfl) B.list (by decide +kernel) (pa_cons (pe_slice sl_list (pv 0) po_none (po_some pe_int)) pa_nil)) (pa_cons pe_int (pa_cons pe_int (pa_cons pe_int pa_nil)))))), ?_⟩
    obtain ⟨ms, e, hm⟩ := cut_map V.int ns none (some 63)
    refine ⟨_, rfl, _, rfl, a, _, rfl, hS, fun q hq => ?_⟩
    rw [e]
    refine ⟨q, _, rfl, .inl (SqL.of upd_same), fun l hl2 => ⟨(by decide : 4 ≤ sizeLine), fun p hp => ?_⟩⟩
    have hlp : l ≠ p := ne_of_none (H := upd (upd H q (.lst (ms.map V.int))) l (.lst (ms.map V.int))) upd_same hp
    refine hQ p l _ ⟨⟨Ne.symm hlp, ms, 0, 0, 0, upd_same, ?_, by decide, by decide, by decide, by decide, by decide, by omega⟩, fun _ _ z => z, True.intro⟩
    rw [upd_ne hlp, upd_same]
def dif (xs ys : List D) (d : D) : Bool := match d with | .int i => (match xs[i.toNat]?, ys[i.toNat]? with | some x, some y => !same x y | _, _ => false) | _ => false
theorem dif_all {xs ys : List D} (hl : xs.length = ys.length) : (((List.range ys.length).map fun i : Nat => D.int (i : Int)).filter (dif xs ys)).isEmpty = sames xs ys := by
  cases q : sames xs ys with
  | true =>
    rw [List.isEmpty_iff, List.filter_eq_nil_iff]
    intro d hd
    obtain ⟨i, hi, rfl⟩ := List.mem_map.mp hd
    have hi := List.mem_range.mp hi
    have e1 : xs[i]? = some xs[i] := List.getElem?_eq_getElem (by omega)
    have e2 : ys[i]? = some ys[i] := List.getElem?_eq_getElem hi
    show ¬ (match xs[((i : Nat) : Int).toNat]?, ys[((i : Nat) : Int).toNat]? with | some x, some y => !same x y | _, _ => false) = true
    rw [Int.toNat_natCast, e1, e2]
    dsimp only
    rw [sames_at q e1 e2]
    decide
  | false =>
    rw [Bool.eq_false_iff, Ne, List.isEmpty_iff, List.filter_eq_nil_iff]
    intro h
    have : sames xs ys = true := sames_of hl fun j x y ex ey => by
      have hj := (List.getElem?_eq_some_iff.mp ey).1
      have := h (.int (j : Nat)) (List.mem_map.mpr ⟨j, List.mem_range.mpr hj, rfl⟩)
      have : ¬ (match xs[((j : Nat) : Int).toNat]?, ys[((j : Nat) : Int).toNat]? with | some x, some y => !same x y | _, _ => false) = true := this
      rw [Int.toNat_natCast, ex, ey] at this
      dsimp only at this
      simpa using this
    rw [this] at q
    cases q
theorem same_ll {xs ys : List D} : G.same (.lst xs) (.lst ys) = sames xs ys := by simp only [G.same]
theorem same_tt {xs ys : List D} : G.same (.tup xs) (.tup ys) = sames xs ys := by simp only [G.same]
abbrev N__law_same : List Str := ["_law_actual", "_law_due", "_law_k"]
theorem sc__law_same : FnScope N__law_same ["_law_actual", "_law_due"] (defScope s__law_same) := ⟨rfl, rfl, rfl, by decide +kernel, rfl, by decide +kernel, by decide +kernel⟩
theorem c__law_same (B : Bl mg) (Dx : Dfn K mg "_law_same" s__law_same ["_law_actual", "_law_due"]) : ∀ n : Nat, Cl P w K mg base n "_law_same" ["_law_actual", "_law_due"] (spSame n)
  | 0 => cl_never Dx fun ds r P' XR ⟨a, b, _, _, _, _, z, _⟩ => by omega
  | n + 1 => by
    have sc := sc__law_same
    have C__law_same := c__law_same B Dx n
    refine cl_of Dx sc (fun ds r P' XR ⟨a, b, e, _⟩ => by rw [e]; rfl) (fun f cdv A outer s H E hr tk po => ?_)
    have hu := hr.units
    refine ⟨_, (ss_cons (s_if (b_tru (d_isi2 .list .tuple (by rfl) B.isi (dv 1) (by rfl) B.list (by rfl) B.tuple))
  (ss_cons (s_if (b_cmp (p_ne hu) (d_isi .list (by rfl) B.isi (dv 0) (by rfl) B.list) (d_isi .list (by rfl) B.isi (dv 1) (by rfl) B.list))
  (ss_one (s_ret d_bl))
  ss_nil)
  (ss_cons (s_if (b_w (w_or (b_not (b_tru (d_isi2 .list .tuple (by rfl) B.isi (dv 0) (by rfl) B.list (by rfl) B.tuple))) (w_or1 (b_cmp (p_ne hu) (d_blt c_len (by rfl) B.len (dl_cons (dv 0) dl_nil)) (d_blt c_len (by rfl) B.len (dl_cons (dv 1) dl_nil))))))
  (ss_one (s_ret d_bl))
  ss_nil)
  (ss_one (s_ret (d_cmp (p_eq hu) (d_lc (js := [2]) (own := [("_law_k", 2)]) sc.nd (i_r1 (by rfl) B.range (dl_cons (d_blt c_len (by rfl) B.len (dl_cons (dv 1) dl_nil)) dl_nil)) (blkOk_by (own := [("_law_k", 2)]) (N := N__law_same) (sc := defScope s__law_same) (by decide +kernel)) (fun _ _ _ _ _ => (g_name (i := 2) sc.nd)) (fun _ _ _ _ _ => (pts_1 (b_not (b_tru (d_fnN C__law_same hr (dl_cons (d_ix (dv 0) (dv 2)) (dl_cons (d_ix (dv 1) (dv 2)) dl_nil))))))) (fun _ _ _ _ _ => (dv 2))) (d_lst dl_nil))))))
  ss_nil)
  (ss_cons (s_if (b_w (w_or (b_cmp p_is (dv 1) d_non) (w_or1 (b_cmp p_is (dv 0) d_non))))
  (ss_one (s_ret (d_and (d_cmp p_is (dv 1) d_non) (d_one (d_cmp p_is (dv 0) d_non)))))
  ss_nil)
  (ss_cons (s_if (b_cmp (p_ne hu) (d_isi .bool (by rfl) B.isi (dv 0) (by rfl) B.bool) (d_isi .bool (by rfl) B.isi (dv 1) (by rfl) B.bool))
  (ss_one (s_ret d_bl))
  ss_nil)
  (ss_cons (s_if (b_cmp (p_ne hu) (d_isi .int (by rfl) B.isi (dv 0) (by rfl) B.int) (d_isi .int (by rfl) B.isi (dv 1) (by rfl) B.int))
  (ss_one (s_ret d_bl))
  ss_nil)
  (ss_cons (s_if (b_w (w_or (b_tru (d_isi2 .list .tuple (by rfl) B.isi (dv 0) (by rfl) B.list (by rfl) B.tuple)) (w_or1 (b_cmp (p_ne hu) (d_isi .str (by rfl) B.isi (dv 0) (by rfl) B.str) (d_isi .str (by rfl) B.isi (dv 1) (by rfl) B.str)))))
  (ss_one (s_ret d_bl))
  ss_nil)
  (ss_one (s_ret (d_cmp (p_eq hu) (dv 0) (dv 1))))))))), fun ds r P' XR h => ?_⟩
    obtain ⟨a, b, rfl, pa, pb, da, db, h⟩ := h
    replace h := fit.of h
    cases b with
    | adr x => cases pb
    | ins _ _ _ => cases pb
    | dct _ _ => cases pb
    | lst ys =>
      refine brT ?_
      cases a <;> first | (cases pa; done) | skip
      case lst xs =>
        refine ⟨Nat.zero_le _, Nat.zero_le _, brF (brF fun ly lx => ⟨Nat.zero_le _, Nat.zero_le _, ?_⟩)⟩
        by_cases hl : xs.length = ys.length
        rotate_left
        · refine brt (ne_len hl) ?_
          have : sames xs ys = false := by
            cases q : sames xs ys with
            | false => rfl
            | true => exact absurd (sames_len q) hl
          rw [same_ll, this] at h
          exact h
        refine brf (eq_len hl) ?_
        have pbl := (plain_lst pb).1
        replace pa := (plain_lst pa).2
        replace pb := (plain_lst pb).2
        simp only [dep] at da db
        rw [sizeLine_eq] at ly
        refine fun _ => ⟨⟨by omega, by omega⟩, ?_⟩
        refine lc_fm (dif xs ys) (fun d => d) (by unfold small; simp; omega) (fun e he r2 Q1 Q2 q1 q2 => ?_) ?_
        · obtain ⟨i, hi, rfl⟩ := List.mem_map.mp he
          have hi : i < ys.length := by simpa using hi
          have e1 : xs[i]? = some xs[i] := List.getElem?_eq_getElem (by omega)
          have e2 : ys[i]? = some ys[i] := List.getElem?_eq_getElem hi
          have ed : dif xs ys (.int (i : Nat)) = !same xs[i] ys[i] := by
            show (match xs[((i : Nat) : Int).toNat]?, ys[((i : Nat) : Int).toNat]? with | some x, some y => !same x y | _, _ => false) = _
            rw [Int.toNat_natCast, e1, e2]
          refine ix_l (atI_nat e1) (ix_l (atI_nat e2) ⟨_, _, rfl, plains_at pa e1, plains_at pb e2, by have := deps_at e1; omega, by have := deps_at e2; omega, ?_⟩)
          exact ⟨fun z => q1 (ed.trans z), fun z => q2 (ed.trans z)⟩
        · rw [List.map_id']
          have dd : deps (((List.range ((ys.length : Nat) : Int).toNat).map fun i : Nat => D.int (i : Int)).filter (dif xs ys)) ≤ 0 := by
            have := deps_le (k := 0) (ds := ((List.range ((ys.length : Nat) : Int).toNat).map fun i : Nat => D.int (i : Int)).filter (dif xs ys)) fun d hd => by
              obtain ⟨i, _, rfl⟩ := List.mem_map.mp (List.mem_filter.mp hd).1
              exact Nat.le_refl _
            exact this
          refine ⟨Nat.le_of_ble_eq_true rfl, ?_, Nat.le_of_ble_eq_true rfl, ?_⟩
          · show deps _ + 1 ≤ 64
            omega
          · rw [eq_nil, Int.toNat_natCast, dif_all hl]
            rw [same_ll] at h
            exact h
      case tup xs => exact ⟨Nat.zero_le _, Nat.zero_le _, brT h⟩
      all_goals exact ⟨Nat.zero_le _, Nat.zero_le _, brT h⟩
    | tup ys =>
      refine brT ?_
      cases a <;> first | (cases pa; done) | skip
      case tup xs =>
        refine ⟨Nat.zero_le _, Nat.zero_le _, brF (brF fun ly lx => ⟨Nat.zero_le _, Nat.zero_le _, ?_⟩)⟩
        by_cases hl : xs.length = ys.length
        rotate_left
        · refine brt (ne_len hl) ?_
          have : sames xs ys = false := by
            cases q : sames xs ys with
            | false => rfl
            | true => exact absurd (sames_len q) hl
          rw [same_tt, this] at h
          exact h
        refine brf (eq_len hl) ?_
        have pbl := (plain_tup pb).1
        replace pa := (plain_tup pa).2
        replace pb := (plain_tup pb).2
        simp only [dep] at da db
        rw [sizeLine_eq] at ly
        refine fun _ => ⟨⟨by omega, by omega⟩, ?_⟩
        refine lc_fm (dif xs ys) (fun d => d) (by unfold small; simp; omega) (fun e he r2 Q1 Q2 q1 q2 => ?_) ?_
        · obtain ⟨i, hi, rfl⟩ := List.mem_map.mp he
          have hi : i < ys.length := by simpa using hi
          have e1 : xs[i]? = some xs[i] := List.getElem?_eq_getElem (by omega)
          have e2 : ys[i]? = some ys[i] := List.getElem?_eq_getElem hi
          have ed : dif xs ys (.int (i : Nat)) = !same xs[i] ys[i] := by
            show (match xs[((i : Nat) : Int).toNat]?, ys[((i : Nat) : Int).toNat]? with | some x, some y => !same x y | _, _ => false) = _
            rw [Int.toNat_natCast, e1, e2]
          refine ix_t (atI_nat e1) (ix_t (atI_nat e2) ⟨_, _, rfl, plains_at pa e1, plains_at pb e2, by have := deps_at e1; omega, by have := deps_at e2; omega, ?_⟩)
          exact ⟨fun z => q1 (ed.trans z), fun z => q2 (ed.trans z)⟩
        · rw [List.map_id']
          have dd : deps (((List.range ((ys.length : Nat) : Int).toNat).map fun i : Nat => D.int (i : Int)).filter (dif xs ys)) ≤ 0 := by
            have := deps_le (k := 0) (ds := ((List.range ((ys.length : Nat) : Int).toNat).map fun i : Nat => D.int (i : Int)).filter (dif xs ys)) fun d hd => by
              obtain ⟨i, _, rfl⟩ := List.mem_map.mp (List.mem_filter.mp hd).1
              exact Nat.le_refl _
            exact this
          refine ⟨Nat.le_of_ble_eq_true rfl, ?_, Nat.le_of_ble_eq_true rfl, ?_⟩
          · show deps _ + 1 ≤ 64
            omega
          · rw [eq_nil, Int.toNat_natCast, dif_all hl]
            rw [same_tt] at h
            exact h
      case lst xs => exact ⟨Nat.zero_le _, Nat.zero_le _, brT h⟩
      all_goals exact ⟨Nat.zero_le _, Nat.zero_le _, brF (brT (brT h))⟩
    | non =>
      refine brF (brT (brT (brT ?_)))
      cases a <;> first | (cases pa; done) | exact h
    | bl x =>
      refine brF (brF ?_)
      cases a <;> first | (cases pa; done) | skip
      case non => exact brT (brF h)
      case bl y => cases x <;> cases y <;> exact brF ⟨Nat.zero_le _, Nat.zero_le _, brF ⟨Nat.zero_le _, Nat.zero_le _, brF (brF ⟨Nat.zero_le _, Nat.zero_le _, brF ⟨Nat.zero_le _, Nat.zero_le _, h⟩⟩)⟩⟩
      all_goals exact brF ⟨Nat.zero_le _, Nat.zero_le _, brT h⟩
    | str x =>
      refine brF (brF ?_)
      cases a <;> first | (cases pa; done) | skip
      case non => exact brT (brF h)
      case str y => exact brF ⟨Nat.zero_le _, Nat.zero_le _, brF ⟨Nat.zero_le _, Nat.zero_le _, brF (brF ⟨Nat.zero_le _, Nat.zero_le _, brF ⟨Nat.zero_le _, Nat.zero_le _, h⟩⟩)⟩⟩
      case bl y => exact brF ⟨Nat.zero_le _, Nat.zero_le _, brT h⟩
      case int y => exact brF ⟨Nat.zero_le _, Nat.zero_le _, brF ⟨Nat.zero_le _, Nat.zero_le _, brT h⟩⟩
      all_goals exact brF ⟨Nat.zero_le _, Nat.zero_le _, brF ⟨Nat.zero_le _, Nat.zero_le _, brF (brT (brT h))⟩⟩
    | int x =>
      refine brF (brF ?_)
      cases a <;> first | (cases pa; done) | skip
      case non => exact brT (brF h)
      case int y => exact brF ⟨Nat.zero_le _, Nat.zero_le _, brF ⟨Nat.zero_le _, Nat.zero_le _, brF (brF ⟨Nat.zero_le _, Nat.zero_le _, brF ⟨Nat.zero_le _, Nat.zero_le _, h⟩⟩)⟩⟩
      case bl y => exact brF ⟨Nat.zero_le _, Nat.zero_le _, brT h⟩
      all_goals exact brF ⟨Nat.zero_le _, Nat.zero_le _, brF ⟨Nat.zero_le _, Nat.zero_le _, brT h⟩⟩
abbrev N_is_name : List Str := ["value", "letter"]
theorem sc_is_name : FnScope N_is_name ["value"] (defScope s_is_name) := ⟨rfl, rfl, rfl, by decide +kernel, rfl, by decide +kernel, by decide +kernel⟩
theorem c_is_name (B : Bl mg) (gL : GS mg "LETTERS" abc) (gM : GI mg "MOST_LETTERS" 8) (Dx : Dfn K mg "is_name" s_is_name ["value"]) : Cl P w K mg base 1 "is_name" ["value"] spIsName := by
  have sc := sc_is_name
  refine cl_of Dx sc (fun ds r P' XR ⟨d, e, _⟩ => by rw [e]; rfl) (fun f cdv A outer s H E hr tk po => ?_)
  have hi := u65 hr
  refine ⟨_, (ss_cons (s_if (b_w (w_or (b_not (b_tru (d_isi .str (by rfl) B.isi (dv 0) (by rfl) B.str))) (w_or1 (b_not (b_chain p_le p_le d_int (d_blt c_len (by rfl) B.len (dl_cons (dv 0) dl_nil)) (d_gI gM))))))
  (ss_one (s_ret d_bl))
  ss_nil)
  (ss_one (s_ret (d_blt c_all (by rfl) B.all (dl_cons (d_lc (js := [1]) (own := [("letter", 1)]) sc.nd (i_str (dv 0)) (blkOk_by (own := [("letter", 1)]) (N := N_is_name) (sc := defScope s_is_name) (by decide +kernel)) (fun _ _ _ _ _ => (g_name (i := 1) sc.nd)) (fun _ _ _ _ _ => pts_no) (fun _ _ _ _ _ => (d_cmp (p_in hi) (dv 1) (d_gS gL)))) dl_nil))))), fun ds r P' XR h => ?_⟩
  obtain ⟨d, rfl, pd, h⟩ := h
  replace h := fit.of h
  cases d with
  | adr => cases pd
  | ins => cases pd
  | dct => cases pd
  | str z =>
    refine brF ?_
    have hb : ∀ b, isNm z = b → fit P' (.bl b) r := fun b e => e ▸ h
    refine ⟨fun (h1 : decide ((1 : Int) ≤ ((z.length : Nat) : Int)) = true) => ⟨fun (h2 : (!decide (((z.length : Nat) : Int) ≤ 8)) = true) => ?_, fun (h2 : (!decide (((z.length : Nat) : Int) ≤ 8)) = false) => ?_⟩, fun (h1 : decide ((1 : Int) ≤ ((z.length : Nat) : Int)) = false) => brT ?_⟩
    · refine hb _ ?_
      have : ¬ z.length ≤ 8 := fun q => by
        have q2 : ((z.length : Nat) : Int) ≤ 8 := by omega
        rw [decide_eq_true q2] at h2
        cases h2
      unfold isNm
      rw [decide_eq_false this, Bool.and_false, Bool.false_and]
    · have l8 : z.length ≤ 8 := by
        have : ((z.length : Nat) : Int) ≤ 8 := by
          cases q : decide (((z.length : Nat) : Int) ≤ 8) with
          | true => exact of_decide_eq_true q
          | false => rw [q] at h2; cases h2
        omega
      have l1 : 1 ≤ z.length := by
        have : (1 : Int) ≤ ((z.length : Nat) : Int) := of_decide_eq_true h1
        omega
      refine lc_map (fun d => .bl (match d with | .str w => (match sub1 w with | some c => decide (c ∈ tl abc) | none => false) | _ => false)) ?_ ?_ ?_
      · rw [List.length_map]
        show (tl z).length ≤ 1000000
        rw [← len_tl]
        omega
      · intro d hd r' P'' q
        obtain ⟨c, hc, rfl⟩ := List.mem_map.mp hd
        exact ⟨q⟩
      · have e : (List.map (fun c => D.str ⟨#[c]⟩) (tl z)).map (fun d => D.bl (match d with | .str w => (match sub1 w with | some c => decide (c ∈ tl abc) | none => false) | _ => false)) = (tl z).map fun c => D.bl (isLet c) := by
          rw [List.map_map]
          congr 1
          funext c
          show D.bl (decide (c ∈ tl abc)) = _
          rw [isLet_abc]
        rw [e]
        refine oAll_of (f := fun bs => bs.all id) (k := fun d => fit P' d r) (bls_of isLet (tl z)) ?_
        refine hb _ ?_
        unfold isNm
        rw [decide_eq_true l1, decide_eq_true l8, List.all_map]
        rfl
    · refine hb _ ?_
      have : ¬ 1 ≤ z.length := fun q => by
        have q2 : (1 : Int) ≤ ((z.length : Nat) : Int) := by omega
        rw [decide_eq_true q2] at h1
        cases h1
      unfold isNm
      rw [decide_eq_false this, Bool.false_and, Bool.false_and]
  | _ => exact brT (brT h)
def spNames : SpX := fun ds r P _ => ∃ (p a : Addr) (N : Nat) (X : Rs) (m : Nat), ds = [.adr p, .int (m : Nat)] ∧ r = poolA p a N :: X ∧ N < 1000000 ∧ m ≤ 26 ∧ ∀ zs : List Str, zs.length = m → zs.Nodup → (∀ z ∈ zs, isNm z = true) → P (.lst (zs.map .str)) (poolA p a (N + 2 + 8 * m) :: X)
theorem nm_app1 {c : Nat} {cs : List Nat} (hc : isLet c = true) (hl : cs.length ≤ 7) (h : ∀ x ∈ cs, isLet x = true) : isNm (⟨#[c]⟩ ++ tJoin "" (cs.map sg)) = true ∧ isNm (tJoin "" (cs.map sg) ++ ⟨#[c]⟩) = true ∧ tl ((⟨#[c]⟩ : Str) ++ tJoin "" (cs.map sg)) = c :: cs ∧ tl (tJoin "" (cs.map sg) ++ (⟨#[c]⟩ : Str)) = cs ++ [c] := by
  have t1 : tl ((⟨#[c]⟩ : Str) ++ tJoin "" (cs.map sg)) = c :: cs := by
    show ((#[c] : Array Nat) ++ (tJoin "" (cs.map sg)).cps).toList = _
    rw [Array.toList_append]
    show [c] ++ tl (tJoin ⟨#[]⟩ (cs.map sg)) = _
    rw [tl_signs]
    rfl
  have t2 : tl (tJoin "" (cs.map sg) ++ (⟨#[c]⟩ : Str)) = cs ++ [c] := by
    show ((tJoin "" (cs.map sg)).cps ++ (#[c] : Array Nat)).toList = _
    rw [Array.toList_append]
    show tl (tJoin ⟨#[]⟩ (cs.map sg)) ++ [c] = _
    rw [tl_signs]
  refine ⟨?_, ?_, t1, t2⟩
  · unfold isNm
    rw [len_tl, t1, List.length_cons]
    simp only [Bool.and_eq_true, decide_eq_true_eq, List.all_eq_true]
    exact ⟨⟨by omega, by omega⟩, fun x hx => (List.mem_cons.mp hx).elim (fun e => e ▸ hc) (h x)⟩
  · unfold isNm
    rw [len_tl, t2, List.length_append, List.length_singleton]
    simp only [Bool.and_eq_true, decide_eq_true_eq, List.all_eq_true]
    exact ⟨⟨by omega, by omega⟩, fun x hx => (List.mem_append.mp hx).elim (h x) fun q => (List.mem_singleton.mp q) ▸ hc⟩
theorem abc_let {i c : Nat} (h : (tl abc)[i]? = some c) : c = 97 + i ∧ isLet c = true := by
  have q : ((List.range 26).all fun n => decide ((tl abc)[n]? = some (97 + n))) = true := by decide +kernel
  have l : (tl abc).length = 26 := by decide +kernel
  have hi := (List.getElem?_eq_some_iff.mp h).1
  rw [l] at hi
  have e := of_decide_eq_true (List.all_eq_true.mp q i (List.mem_range.mpr hi))
  rw [h] at e
  have e := Option.some.inj e
  subst e
  refine ⟨rfl, ?_⟩
  unfold isLet
  rw [decide_eq_true (by omega), decide_eq_true (by omega)]
  rfl
abbrev N__law_names : List Str := ["_law_pool_here", "_law_many", "_law_letters", "_law_size", "_law_front", "_law_names_here", "_law_k", "_law_word", "_law_j"]
theorem sc__law_names : FnScope N__law_names ["_law_pool_here", "_law_many"] (defScope s__law_names) := ⟨rfl, rfl, rfl, by decide +kernel, rfl, by decide +kernel, by decide +kernel⟩
theorem c__law_names (B : Bl mg) (C__law_draw : Cl P w K mg base 1 "_law_draw" ["_law_pool_here", "_law_many"] spDraw) (Dx : Dfn K mg "_law_names" s__law_names ["_law_pool_here", "_law_many"]) : Cl P w K mg base 2 "_law_names" ["_law_pool_here", "_law_many"] spNames := by
  have sc := sc__law_names
  refine cl_of Dx sc (fun ds r P' XR ⟨_, _, _, _, _, e, _⟩ => by rw [e]; rfl) (fun f cdv A outer s H E hr tk po => ⟨_, (ss_cons (s_set (i := 2) sc.nd d_str)
  (ss_cons (s_set (i := 3) sc.nd (d_fn C__law_draw tk hr (dl_cons (dv 0) (dl_cons d_int dl_nil))))
  (ss_cons (s_set (i := 4) sc.nd (d_fn C__law_draw tk hr (dl_cons (dv 0) (dl_cons d_int dl_nil))))
  (ss_cons (s_set (i := 5) sc.nd (d_lstO dl_nil))
  (ss_cons (s_for (i_r1 (by rfl) B.range (dl_cons (dv 1) dl_nil)) (g_name (i := 6) sc.nd)
  (ss_cons (s_set (i := 7) sc.nd (d_join d_str (d_lc (js := [8]) (own := [("_law_j", 8)]) sc.nd (i_r1 (by rfl) B.range (dl_cons (dv 3) dl_nil)) (blkOk_by (own := [("_law_j", 8)]) (N := N__law_names) (sc := defScope s__law_names) (by decide +kernel)) (fun _ _ _ _ _ => (g_name (i := 8) sc.nd)) (fun _ _ _ _ _ => pts_no) (fun _ _ _ _ _ => (d_ix (dv 2) (d_fnN C__law_draw hr (dl_cons (dv 0) (dl_cons d_int dl_nil))))))))
  (ss_one (s_expr (d_app (dv 5) (dl_cons (d_if (b_tru (dv 4)) (d_bin p_add (d_ix (dv 2) (dv 6)) (dv 7)) (d_bin p_add (dv 7) (d_ix (dv 2) (dv 6)))) dl_nil))))) po)
  (ss_one (s_melt 5 (s_ret (dv 5))))))))), fun ds r P' XR h => ?_⟩)
  obtain ⟨p, a, N, X, m, rfl, rfl, hN, hm, hP⟩ := h
  refine ⟨p, a, 8, N, X, rfl, rfl, ⟨by decide, by decide⟩, by omega, fun sz s0 s8 => ⟨p, a, 2, N + 1, X, rfl, rfl, ⟨by decide, by decide⟩, by omega, fun fr f0 f2 => ⟨Nat.zero_le _, fun q => ⟨⟨by omega, by omega⟩, ?_⟩⟩⟩⟩
  obtain ⟨sz, rfl⟩ : ∃ n : Nat, sz = n := ⟨sz.toNat, by omega⟩
  refine ⟨fun i δ r' => (∃ e6 e7 e8, δ = [some (.adr p), some (.int (m : Nat)), some (.str abc), some (.int sz), some (.int fr), some (.adr q), e6, e7, e8]) ∧ ∃ (zs : List Str) (n : Nat), r' = poolA p a n :: (X ++ [lstA q (zs.map .str)]) ∧ n ≤ N + 2 + 8 * i ∧ zs.length = i ∧ zs.Nodup ∧ (∀ z ∈ zs, isNm z = true) ∧ ∀ j z, zs[j]? = some z → (fr ≠ 0 → (tl z).head? = some (97 + j)) ∧ (fr = 0 → (tl z).getLast? = some (97 + j)), ⟨⟨_, _, _, rfl⟩, [], _, rfl, Nat.le_refl _, rfl, List.nodup_nil, fun _ h => (by cases h), fun j z h => (by cases h)⟩, ?_, ?_⟩
  · rintro i d δ r' hd ⟨⟨e6, e7, e8, rfl⟩, zs, n, rfl, hn, hzl, hnd, hnm, hch⟩
    have hi : i < m := by
      have := (List.getElem?_eq_some_iff.mp hd).1
      rw [List.length_map, List.length_range] at this
      omega
    rw [List.getElem?_map, List.getElem?_range (by omega)] at hd
    cases hd
    refine ⟨⟨by omega, by omega⟩, ⟨fun j acc r' => ∃ cs : List Nat, acc = cs.map (fun c => D.str (sg c)) ∧ cs.length = j ∧ (∀ c ∈ cs, isLet c = true) ∧ r' = poolA p a (n + j) :: (X ++ [lstA q (zs.map .str)]), ⟨[], rfl, rfl, fun _ h => (by cases h), rfl⟩, ?_, ?_⟩⟩
    · rintro pp j d acc r' hd ⟨cs, rfl, hc, hl, rfl⟩
      have hj : j < sz := by
        have := (List.getElem?_eq_some_iff.mp hd).1
        rw [List.length_map, List.length_range] at this
        omega
      refine brT ⟨p, a, 26, _, _, rfl, rfl, ⟨by decide, by decide⟩, by omega, fun k k0 k1 => ?_⟩
      obtain ⟨c, hat, hc2⟩ := abc_at k0 k1
      refine ix_s hat ⟨?_, poolA p a (n + j + 1) :: (X ++ [lstA q (zs.map .str)]), le.refl, cs ++ [c], by rw [List.map_append]; rfl, by rw [List.length_append, hc]; rfl, fun x hx => (List.mem_append.mp hx).elim (hl x) fun h => (List.mem_singleton.mp h) ▸ hc2, rfl⟩
      rw [List.length_map, hc]
      unfold small
      omega
    · rintro acc r' ⟨cs, rfl, hc, hl, rfl⟩
      rw [List.length_map, List.length_range] at hc
      have hc : cs.length = sz := by omega
      have hc7 : cs.length ≤ 7 := by omega
      have lr : (List.map (fun i : Nat => D.int (i : Int)) (List.range ((sz : Int)).toNat)).length = sz := by rw [List.length_map, List.length_range]; omega
      refine join_l (strL_sg cs) (by rw [sum_ones, List.length_map]; show cs.length + cs.length * 0 ≤ 1000000; omega) ?_
      have l26 : (tl abc).length = 26 := by decide +kernel
      have hlt : i < (tl abc).length := by omega
      obtain ⟨c, hcat⟩ : ∃ c, (tl abc)[i]? = some c := ⟨_, List.getElem?_eq_getElem hlt⟩
      obtain ⟨ec, hlc⟩ := abc_let hcat
      obtain ⟨n1, n2, t1, t2⟩ := nm_app1 hlc hc7 hl
      have fin : ∀ z : Str, isNm z = true → (fr ≠ 0 → (tl z).head? = some (97 + i)) → (fr = 0 → (tl z).getLast? = some (97 + i)) → (zs ++ [z]).length = i + 1 ∧ (zs ++ [z]).Nodup ∧ (∀ z' ∈ zs ++ [z], isNm z' = true) ∧ ∀ j z', (zs ++ [z])[j]? = some z' → (fr ≠ 0 → (tl z').head? = some (97 + j)) ∧ (fr = 0 → (tl z').getLast? = some (97 + j)) := fun z hz h1 h2 => by
        have hch2 : ∀ j z', (zs ++ [z])[j]? = some z' → (fr ≠ 0 → (tl z').head? = some (97 + j)) ∧ (fr = 0 → (tl z').getLast? = some (97 + j)) := fun j z' hj => by
          rw [List.getElem?_append] at hj
          split at hj
          · exact hch j z' hj
          · rename_i hn
            have hj0 : j - zs.length = 0 := by
              have := (List.getElem?_eq_some_iff.mp hj).1
              rw [List.length_singleton] at this
              omega
            rw [hj0] at hj
            cases hj
            have : j = i := by omega
            subst this
            exact ⟨h1, h2⟩
        refine ⟨by rw [List.length_append, List.length_singleton, hzl], ?_, fun z' hz' => (List.mem_append.mp hz').elim (hnm z') fun h => (List.mem_singleton.mp h) ▸ hz, hch2⟩
        refine List.nodup_append.mpr ⟨hnd, by simp, fun x hx y hy e => ?_⟩
        rw [List.mem_singleton] at hy
        subst hy
        subst e
        obtain ⟨j, hj⟩ := List.mem_iff_getElem?.mp hx
        have hjl := (List.getElem?_eq_some_iff.mp hj).1
        obtain ⟨q1, q2⟩ := hch j x hj
        by_cases hf : fr = 0
        · have := (q2 hf).symm.trans (h2 hf)
          have := Option.some.inj this
          omega
        · have := (q1 hf).symm.trans (h1 hf)
          have := Option.some.inj this
          omega
      have sz8 : (tJoin "" (cs.map sg)).length ≤ 7 := by show (tJoin ⟨#[]⟩ (cs.map sg)).length ≤ 7; rw [len_tl, tl_signs]; exact hc7
      refine ⟨q, zs.map .str, rfl, ⟨_ :: X, [], rfl⟩, fun z => ?_, fun z => ?_⟩
      · have hf : fr ≠ 0 := by simpa using z
        refine ix_s (L2.atI_nat hcat) ?_
        refine ⟨by show 1 + _ ≤ _; omega, ⟨_ :: X, zs.map .str, [], .str _, rfl, rfl, by unfold small; rw [List.length_map]; omega, ⟨_, _, _, rfl⟩, zs ++ [_], _, by rw [List.map_append]; rfl, by omega, fin _ n1 (fun _ => by rw [t1, ec]; rfl) (fun e => absurd e hf)⟩⟩
      · have hf : fr = 0 := by simpa using z
        refine ix_s (L2.atI_nat hcat) ?_
        refine ⟨by show _ + 1 ≤ _; omega, ⟨_ :: X, zs.map .str, [], .str _, rfl, rfl, by unfold small; rw [List.length_map]; omega, ⟨_, _, _, rfl⟩, zs ++ [_], _, by rw [List.map_append]; rfl, by omega, fin _ n2 (fun e => absurd hf e) (fun _ => by rw [t2, ec]; simp)⟩⟩
  · rintro δ r' ⟨⟨e6, e7, e8, rfl⟩, zs, n, rfl, hn, hzl, hnd, hnm, hch⟩
    rw [List.length_map, List.length_range] at hzl hn
    have hzl : zs.length = m := by omega
    refine ⟨q, zs.map .str, _ :: X, [], rfl, rfl, ?_⟩
    rw [List.append_nil]
    exact ⟨_, pool_mono (by omega), hP zs hzl hnd hnm⟩
theorem any_at {w : Str} {l : List Str} (h : w ∈ l) : (l.any fun y => y == w) = true := List.any_eq_true.mpr ⟨w, h, beq_self_eq_true w⟩
def modesL : List Str := ["out", "deaf", "on"]
def isModeD (d : D) : Bool := match d with | .str z => modesL.any fun y => y == z | _ => false
def spIsMode : SpX := fun ds r P _ => ∃ d, ds = [d] ∧ plain d = true ∧ P (.bl (isModeD d)) r
abbrev N_is_mode : List Str := ["mode"]
theorem sc_is_mode : FnScope N_is_mode ["mode"] (defScope s_is_mode) := ⟨rfl, rfl, rfl, by decide +kernel, rfl, by decide +kernel, by decide +kernel⟩
theorem c_is_mode (B : Bl mg) (gM : GT K mg "MODES" modesL) (Dx : Dfn K mg "is_mode" s_is_mode ["mode"]) : Cl P w K mg base 1 "is_mode" ["mode"] spIsMode := by
  have sc := sc_is_mode
  refine cl_of Dx sc (fun ds r P' XR ⟨d, e, _⟩ => by rw [e]; rfl) (fun f cdv A outer s H E hr tk po => ?_)
  have hi := u65 hr
  refine ⟨_, (ss_one (s_ret (d_and (d_isi .str (by rfl) B.isi (dv 0) (by rfl) B.str) (d_one (d_cmp (p_in hi) (dv 0) (d_gT gM)))))), fun ds r P' XR h => ?_⟩
  obtain ⟨d, rfl, pd, h⟩ := h
  replace h := fit.of h
  cases d with
  | str z => exact brT (oIn_t (xs := modesL) h)
  | adr => cases pd
  | ins => cases pd
  | dct => cases pd
  | _ => exact brF h
def rankS (m : Str) : Int := if m = "out" then 0 else if m = "deaf" then 1 else 2
def spRank : SpX := fun ds r P _ => ∃ m, ds = [.str m] ∧ m ∈ modesL ∧ P (.int (rankS m)) r
abbrev N_rank : List Str := ["mode"]
theorem sc_rank : FnScope N_rank ["mode"] (defScope s_rank) := ⟨rfl, rfl, rfl, by decide +kernel, rfl, by decide +kernel, by decide +kernel⟩
theorem c_rank (B : Bl mg) (Dx : Dfn K mg "rank" s_rank ["mode"]) : Cl P w K mg base 1 "rank" ["mode"] spRank := by
  have sc := sc_rank
  refine cl_of Dx sc (fun ds r P' XR ⟨d, e, _⟩ => by rw [e]; rfl) (fun f cdv A outer s H E hr tk po => ?_)
  have hi := u65 hr
  refine ⟨_, (ss_one (s_ret (d_dix hi (d_dispF (dp_cons d_str d_int (dp_cons d_str d_int (dp_cons d_str d_int dp_nil)))) (dv 0)))), fun ds r P' XR h => ?_⟩
  obtain ⟨m, rfl, hm, h⟩ := h
  replace h := fit.of h
  unfold modesL at hm
  simp only [List.mem_cons, List.not_mem_nil, or_false] at hm
  rcases hm with rfl | rfl | rfl
  · exact fun p => ⟨r, _, rfl, rfl, Nat.le_of_ble_eq_true rfl, .fro rfl ⟨_, rfl, h⟩⟩
  · exact fun p => ⟨r, _, rfl, rfl, Nat.le_of_ble_eq_true rfl, .fro rfl ⟨_, rfl, h⟩⟩
  · exact fun p => ⟨r, _, rfl, rfl, Nat.le_of_ble_eq_true rfl, .fro rfl ⟨_, rfl, h⟩⟩
abbrev StV := SetV "chosen"
def stF : List Str := ["chosen"]
structure StOk (l : List (Str × Str)) : Prop where
  nd : (l.map (·.1)).Nodup
  nm : ∀ e ∈ l, isNm e.1 = true
  md : ∀ e ∈ l, e.2 = "on" ∨ e.2 = "deaf"
  ln : l.length ≤ 60
theorem StOk.sok {l : List (Str × Str)} (h : StOk l) : ∀ e ∈ l, sok e.1 := fun e he => isNm_sok (h.nm e he)
def mdAt (l : List (Str × Str)) (z : Str) : Str := (sGet l z).getD "out"
def spStGet (CS CB : Addr) : SpX := fun ds r P XR => ∃ (s n : D) (l : List (Str × Str)), ds = [s, n] ∧ StV CS r s l ∧ plain n = true ∧ ((∃ z, n = .str z ∧ isNm z = true ∧ P (.str (mdAt l z)) r) ∨ (isNameD n = false ∧ XR CB ["name"] [n] r))
abbrev N_Setting___getitem__ : List Str := ["self", "name"]
theorem sc_Setting___getitem__ : FnScope N_Setting___getitem__ ["self", "name"] (defScope s_Setting___getitem__) := ⟨rfl, rfl, rfl, by decide +kernel, rfl, by decide +kernel, by decide +kernel⟩
theorem c_Setting_getitem {CS CB : Addr} (B : Bl mg) (X_BadName : ErrX P w K mg base "BadName" CB "name") (C_is_name : Cl P w K mg base 1 "is_name" ["value"] spIsName) (K_Setting : KCls K mg "Setting" CS stF) (Dx : DfG K CS "__getitem__" "Setting.__getitem__" s_Setting___getitem__ ["self", "name"]) : ClG P w K mg base 3 CS "__getitem__" (spStGet CS CB) := by
  have sc := sc_Setting___getitem__
  refine clg_of Dx sc (fun ds r P' XR ⟨_, _, _, e, _⟩ => by rw [e]; rfl) (fun f cdv A outer s H E hr tk po => ?_)
  have hu := hr.units
  have hi := u65 hr
  refine ⟨_, (ss_cons (s_if (b_not (b_tru (d_fn C_is_name tk hr (dl_cons (dv 1) dl_nil))))
  (ss_one (s_raise X_BadName.c tk hr (dl_cons (dv 1) dl_nil)))
  ss_nil)
  (ss_one (s_ret (d_dgt2 hi (d_fld (dv 0)) (dv 1) d_str ⟨rfl, rfl, rfl, rfl⟩)))), fun ds r P' XR h => ?_⟩
  obtain ⟨s, n, l, rfl, hs, pn, h⟩ := h
  refine ⟨n, rfl, pn, ?_⟩
  rcases h with ⟨z, rfl, hz, h⟩ | ⟨hn, h⟩
  · refine brf (by show (!isNm z) = false; rw [hz]; rfl) ?_
    refine hs.fld fun cd hc => ⟨hc.dc, sm_dget hc ?_⟩
    have e : ((sGet l z).map D.str).getD (.str "out") = .str (mdAt l z) := by unfold mdAt; cases sGet l z <;> rfl
    rw [e]
    exact fit.of h
  · exact brt (by rw [hn]; rfl) ⟨n, rfl, fitX.of (δ := []) h⟩
def stPut (l : List (Str × Str)) (z m : Str) : List (Str × Str) := if m = "out" then mDrop l z else mPut l z m
def spStPut (CS CB CM : Addr) : SpX := fun ds r P XR => ∃ (a c : Addr) (n m : D) (l : List (Str × Str)) (pre post : Rs), ds = [.adr a, n, m] ∧ r = pre ++ dctA c (sm l) :: post ∧ insA a CS stF [.adr c] ∈ r ∧ l.length ≤ 1000 ∧ plain n = true ∧ plain m = true ∧
  ((∃ z y, n = .str z ∧ m = .str y ∧ isNm z = true ∧ y ∈ modesL ∧ P .non (pre ++ dctA c (sm (stPut l z y)) :: post)) ∨ (isNameD n = false ∧ XR CB ["name"] [n] r) ∨ (isNameD n = true ∧ isModeD m = false ∧ XR CM ["mode"] [m] r))
abbrev N_Setting___setitem__ : List Str := ["self", "name", "mode"]
theorem sc_Setting___setitem__ : FnScope N_Setting___setitem__ ["self", "name", "mode"] (defScope s_Setting___setitem__) := ⟨rfl, rfl, rfl, by decide +kernel, rfl, by decide +kernel, by decide +kernel⟩
set_option maxHeartbeats 1000000 in
theorem c_Setting_setitem {CS CB CM : Addr} (B : Bl mg) (X_BadName : ErrX P w K mg base "BadName" CB "name") (X_BadMode : ErrX P w K mg base "BadMode" CM "mode") (C_is_name : Cl P w K mg base 1 "is_name" ["value"] spIsName) (C_is_mode : Cl P w K mg base 1 "is_mode" ["mode"] spIsMode) (K_Setting : KCls K mg "Setting" CS stF) (Dx : DfSi K CS "Setting.__setitem__" s_Setting___setitem__ ["self", "name", "mode"]) : ClSi P w K mg base 3 CS (spStPut CS CB CM) := by
  have sc := sc_Setting___setitem__
  refine clsi_of Dx sc (fun ds r P' XR ⟨_, _, _, _, _, _, _, e, _⟩ => by rw [e]; rfl) (fun f cdv A outer s H E hr tk po => ?_)
  have hu := hr.units
  have hi := u65 hr
  refine ⟨_, (ss_cons (s_if (b_not (b_tru (d_fn C_is_name tk hr (dl_cons (dv 1) dl_nil))))
  (ss_one (s_raise X_BadName.c tk hr (dl_cons (dv 1) dl_nil)))
  ss_nil)
  (ss_cons (s_if (b_not (b_tru (d_fn C_is_mode tk hr (dl_cons (dv 2) dl_nil))))
  (ss_one (s_raise X_BadMode.c tk hr (dl_cons (dv 2) dl_nil)))
  ss_nil)
  (ss_one (s_if (b_cmp (p_eq hu) (dv 2) d_str)
  (ss_one (s_expr (d_dpop2 (d_fld (dv 0)) (dv 1) d_non ⟨rfl, rfl, rfl, rfl⟩)))
  (ss_one (s_dput hi (d_fld (dv 0)) (dv 1) (dv 2))))))), fun ds r P' XR h => ?_⟩
  obtain ⟨a, c, n, m, l, pre, post, rfl, rfl, hin, hl, pn, pm, h⟩ := h
  refine ⟨n, rfl, pn, ?_⟩
  have hs : StV CS (pre ++ dctA c (sm l) :: post) (.adr a) l := .own hin (List.mem_append.mpr (.inr List.mem_cons_self))
  rcases h with ⟨z, y, rfl, rfl, hz, hy, h⟩ | ⟨hn, h⟩ | ⟨hn, hm, h⟩
  · refine brf (by show (!isNm z) = false; rw [hz]; rfl) ⟨.str y, rfl, rfl, ?_⟩
    have hym : isModeD (.str y) = true := any_at hy
    refine brf (by show (!isModeD (.str y)) = false; rw [hym]; rfl) ⟨Nat.zero_le _, Nat.zero_le _, ?_⟩
    obtain ⟨p2, q2, e2⟩ := app_mem hin
    have e0 : ixF stF "chosen" = some 0 := rfl
    unfold stPut at h
    by_cases ho : y = "out"
    · rw [if_pos ho] at h
      refine brt (by rw [ho, eqD_str]; exact beq_self_eq_true _) ?_
      refine .own p2 q2 0 _ e2 e0 rfl ⟨.inl ⟨c, _, rfl, .inl ⟨pre, post, rfl⟩⟩, .mk pre post (sm l) (.inr z) rfl rfl ?_⟩
      rw [sm_get, sm_drop]
      cases hg : sGet l z with
      | some m => exact fit.of h
      | none =>
        have : mDrop l z = l := by
          unfold mDrop
          refine List.filter_eq_self.mpr fun e he => decide_eq_true fun k => ?_
          exact sGet_none.mp hg (List.mem_map.mpr ⟨e, he, k⟩)
        rw [this] at h
        exact fit.of h
    · rw [if_neg ho] at h
      refine brf (by rw [eqD_str]; exact beq_eq_false_iff_ne.mpr ho) ?_
      refine .own p2 q2 0 _ e2 e0 rfl (.mk pre post (sm l) (.inr z) rfl rfl (by unfold small; rw [sm_len]; omega) ?_)
      rw [sm_put]
      exact fit.of h
  · exact brt (by rw [hn]; rfl) ⟨n, rfl, fitX.of (δ := []) h⟩
  · refine brf (by rw [hn]; rfl) ⟨m, rfl, pm, brt (by rw [hm]; rfl) ⟨m, rfl, fitX.of (δ := []) h⟩⟩
def spStLen (CS : Addr) : SpX := fun ds r P _ => ∃ (s : D) (l : List (Str × Str)), ds = [s] ∧ StV CS r s l ∧ P (.int (l.length : Nat)) r
abbrev N_Setting___len__ : List Str := ["self"]
theorem sc_Setting___len__ : FnScope N_Setting___len__ ["self"] (defScope s_Setting___len__) := ⟨rfl, rfl, rfl, by decide +kernel, rfl, by decide +kernel, by decide +kernel⟩
theorem c_Setting_len {CS : Addr} (B : Bl mg) (K_Setting : KCls K mg "Setting" CS stF) (Dx : DfG K CS "__len__" "Setting.__len__" s_Setting___len__ ["self"]) : ClG P w K mg base 1 CS "__len__" (spStLen CS) := by
  have sc := sc_Setting___len__
  refine clg_of Dx sc (fun ds r P' XR ⟨_, _, e, _⟩ => by rw [e]; rfl) (fun f cdv A outer s H E hr tk po => ?_)
  have hu := hr.units
  refine ⟨_, (ss_one (s_ret (d_blt2 c_lenDv (by rfl) B.len (dl_cons (d_fld (dv 0)) dl_nil)))), fun ds r P' XR h => ?_⟩
  obtain ⟨s, l, rfl, hs, h⟩ := h
  refine hs.fld fun cd hc => ⟨_, _, rfl, hc, ?_⟩
  rw [sm_len]
  exact fit.of h
def inSt (l : List (Str × Str)) (n : D) : Bool := match n with | .str z => isNm z && (sGet l z).isSome | _ => false
def spStIn (CS : Addr) : SpX := fun ds r P _ => ∃ (s n : D) (l : List (Str × Str)), ds = [s, n] ∧ StV CS r s l ∧ plain n = true ∧ P (.bl (inSt l n)) r
abbrev N_Setting___contains__ : List Str := ["self", "name"]
theorem sc_Setting___contains__ : FnScope N_Setting___contains__ ["self", "name"] (defScope s_Setting___contains__) := ⟨rfl, rfl, rfl, by decide +kernel, rfl, by decide +kernel, by decide +kernel⟩
theorem c_Setting_contains {CS : Addr} (B : Bl mg) (K_Setting : KCls K mg "Setting" CS stF) (C_is_name : Cl P w K mg base 1 "is_name" ["value"] spIsName) (Dx : DfI K CS "Setting.__contains__" s_Setting___contains__ ["self", "name"]) : ClI P w K mg base 2 CS (spStIn CS) := by
  have sc := sc_Setting___contains__
  refine cli_of Dx sc (fun ds r P' XR ⟨_, _, _, e, _⟩ => by rw [e]; rfl) (fun f cdv A outer s H E hr tk po => ?_)
  have hu := hr.units
  have hi := u65 hr
  refine ⟨_, (ss_one (s_ret (d_and (d_fn C_is_name tk hr (dl_cons (dv 1) dl_nil)) (d_one (d_cmpO (p_din hi) (dv 1) (d_fld (dv 0))))))), fun ds r P' XR h => ?_⟩
  obtain ⟨s, n, l, rfl, hs, pn, h⟩ := h
  replace h := fit.of h
  refine ⟨n, rfl, pn, ?_⟩
  cases hn : isNameD n with
  | false =>
    refine brF ?_
    have : inSt l n = false := by cases n <;> first | rfl | (show (isNm _ && _) = false; rw [show isNm _ = false from hn]; rfl)
    rw [this] at h
    exact h
  | true =>
    cases n with
    | str z =>
      refine brT (hs.fld fun cd hc => ⟨sm_dget hc ?_⟩)
      have : inSt l (.str z) = (sGet l z).isSome := by show (isNm z && _) = _; rw [show isNm z = true from hn]; rfl
      rw [this] at h
      rw [Option.isSome_map, cond_false]
      exact h
    | _ => cases hn
def spStNames (CS : Addr) : SpX := fun ds r P _ => ∃ (s : D) (l : List (Str × Str)), ds = [s] ∧ StV CS r s l ∧ StOk l ∧ ∀ p, P (.adr p) (r ++ [lstA p ((srt (l.map (·.1))).map .str)])
abbrev N_Setting_names : List Str := ["self"]
theorem sc_Setting_names : FnScope N_Setting_names ["self"] (defScope s_Setting_names) := ⟨rfl, rfl, rfl, by decide +kernel, rfl, by decide +kernel, by decide +kernel⟩
theorem c_Setting_names {CS : Addr} (B : Bl mg) (K_Setting : KCls K mg "Setting" CS stF) (Dx : DfM K CS "names" "Setting.names" s_Setting_names ["self"]) : ClM P w K mg base 1 CS "names" (spStNames CS) := by
  have sc := sc_Setting_names
  refine clm_of Dx sc (fun ds r P' XR ⟨_, _, e, _⟩ => by rw [e]; rfl) (fun f cdv A outer s H E hr tk po => ?_)
  have hu := hr.units
  refine ⟨_, (ss_one (s_ret (d_sortO (by rfl) B.sorted (dl_cons (d_ty2 c_listDc (by rfl) B.list (dl_cons (d_fld (dv 0)) dl_nil)) dl_nil)))), fun ds r P' XR h => ?_⟩
  obtain ⟨s, l, rfl, hs, ok, h⟩ := h
  exact hs.fld fun cd hc => ⟨_, _, rfl, hc, sm_sok ok.sok, l.map (·.1), by rw [sm_keys], by rw [List.length_map]; have := ok.ln; omega, fun p => fit.of (h p)⟩
def spStEq (CS : Addr) : SpX := fun ds r P _ => ∃ (s o : D) (l : List (Str × Str)), ds = [s, o] ∧ StV CS r s l ∧ ((∃ m, StV CS r o m ∧ P (.bl (eqS l m)) r) ∨ (nad o = true ∧ P (.bl false) r))
abbrev N_Setting___eq__ : List Str := ["self", "other"]
theorem sc_Setting___eq__ : FnScope N_Setting___eq__ ["self", "other"] (defScope s_Setting___eq__) := ⟨rfl, rfl, rfl, by decide +kernel, rfl, by decide +kernel, by decide +kernel⟩
theorem c_Setting_eq {CS : Addr} (B : Bl mg) (K_Setting : KCls K mg "Setting" CS stF) (Dx : DfE K CS "Setting.__eq__" s_Setting___eq__ ["self", "other"]) : ClE P w K mg base 1 CS (spStEq CS) := by
  have sc := sc_Setting___eq__
  refine cle_of Dx sc (fun ds r P' XR ⟨_, _, _, e, _⟩ => by rw [e]; rfl) (fun f cdv A outer s H E hr tk po => ?_)
  have hu := hr.units
  have hi := u65 hr
  have hc1 := Nat.lt_of_le_of_lt (Nat.le_add_right _ 65) hi
  refine ⟨_, (ss_one (s_ret (d_and (d_isC K_Setting.isk (by rfl) B.isi (dv 1) K_Setting.g) (d_one (d_cmpO (eq_dct hc1) (d_fld (dv 0)) (d_fld (dv 1))))))), fun ds r P' XR h => ?_⟩
  obtain ⟨s, o, l, rfl, hs, h⟩ := h
  rcases h with ⟨m, ho, h⟩ | ⟨hn, h⟩
  · refine .yes ho.isC (brT (hs.fld fun cd hc => ho.fld fun ce he => ⟨l, m, hc, he, ?_⟩))
    rw [cond_false]
    exact fit.of h
  · exact .no hn (brF (fit.of h))
def mkSt (onz dfz : List Str) : List (Str × Str) := onz.map (fun z => (z, ("on" : Str))) ++ dfz.map fun z => (z, ("deaf" : Str))
def twA : List Str → List Str → Option Str
  | _, [] => none
  | seen, z :: zs => if z ∈ seen then some z else twA (seen ++ [z]) zs
theorem twA_none : ∀ {zs seen : List Str}, twA seen zs = none ↔ zs.Nodup ∧ ∀ z ∈ zs, z ∉ seen
  | [], seen => ⟨fun _ => ⟨List.nodup_nil, fun _ h => (by cases h)⟩, fun _ => rfl⟩
  | z :: zs, seen => by
    show (if z ∈ seen then some z else twA (seen ++ [z]) zs) = none ↔ _
    by_cases h : z ∈ seen
    · rw [if_pos h]
      exact ⟨(fun e => by cases e), fun q => absurd h (q.2 z List.mem_cons_self)⟩
    · rw [if_neg h, twA_none, List.nodup_cons]
      constructor
      · rintro ⟨h1, h2⟩
        refine ⟨⟨fun m => h2 z m (List.mem_append.mpr (.inr (List.mem_singleton.mpr rfl))), h1⟩, fun y hy => ?_⟩
        rcases List.mem_cons.mp hy with rfl | hy
        · exact h
        · exact fun k => h2 y hy (List.mem_append.mpr (.inl k))
      · rintro ⟨⟨h1, h2⟩, h3⟩
        refine ⟨h2, fun y hy k => ?_⟩
        rcases List.mem_append.mp k with k | k
        · exact h3 y (List.mem_cons_of_mem _ hy) k
        · rw [List.mem_singleton.mp k] at hy
          exact h1 hy
theorem mkSt_keys (onz dfz : List Str) : (mkSt onz dfz).map (·.1) = onz ++ dfz := by
  unfold mkSt
  rw [List.map_append, List.map_map, List.map_map]
  show onz.map id ++ dfz.map id = _
  rw [List.map_id, List.map_id]
theorem mkSt_get {onz dfz : List Str} (z : Str) : sGet (mkSt onz dfz) z = if z ∈ onz then some ("on" : Str) else if z ∈ dfz then some ("deaf" : Str) else none := by
  unfold mkSt
  rw [sGet_app]
  have key : ∀ (m : Str) (zs : List Str), sGet (zs.map fun z => (z, m)) z = if z ∈ zs then some m else none := fun m zs => by
    induction zs with
    | nil => rfl
    | cons y zs ih =>
      rw [List.map_cons, sGet_cons, ih]
      by_cases h : y = z
      · rw [if_pos h, if_pos (by rw [h]; exact List.mem_cons_self)]
      · rw [if_neg h]
        by_cases q : z ∈ zs
        · rw [if_pos q, if_pos (List.mem_cons_of_mem _ q)]
        · rw [if_neg q, if_neg fun k => (List.mem_cons.mp k).elim (fun e => h e.symm) q]
  rw [key, key]
  by_cases h : z ∈ onz
  · rw [if_pos h, if_pos h]; rfl
  · rw [if_neg h, if_neg h]; rfl
theorem mPut_new {l : List (Str × Str)} {z m : Str} (h : z ∉ l.map (·.1)) : mPut l z m = l ++ [(z, m)] := by
  unfold mPut
  rw [if_neg fun k => h (by
    obtain ⟨e, h1, h2⟩ := List.any_eq_true.mp k
    exact List.mem_map.mpr ⟨e, h1, of_decide_eq_true h2⟩)]
theorem find_at {α : Type} {p : α → Bool} {l : List α} {i : Nat} {d : α} (hb : ∀ (j : Nat) (x : α), j < i → l[j]? = some x → p x = false) (hd : l[i]? = some d) (h : p d = true) : l.find? p = some d := by
  induction l generalizing i with
  | nil => cases hd
  | cons a l ih =>
    rw [List.find?_cons]
    cases i with
    | zero => cases hd; rw [h]
    | succ i =>
      rw [hb 0 a (Nat.succ_pos _) rfl]
      exact ih (fun j x hj hx => hb (j + 1) x (Nat.succ_lt_succ hj) hx) hd
theorem depsS (zs : List Str) : deps (zs.map D.str) ≤ 0 := G.deps_le (k := 0) fun d hd => by
  obtain ⟨z, _, rfl⟩ := List.mem_map.mp hd
  exact Nat.le_refl _
theorem cutU2 (n : Nat) (xs : List D) : cutD xs none (some (n : Int)) = xs.take n := by
  unfold cutD
  have e : HT.sIx xs.length xs.length (some (n : Int)) = min n xs.length := HT.sIx_nat xs.length xs.length n
  rw [e, HT.sIx_none, List.drop_zero, Nat.sub_zero]
  exact List.take_eq_take_iff.mpr (by omega)
def spStInit (CS CB CT : Addr) : SpX := fun ds r P XR => ∃ (a : Addr) (dq : D) (on df : List D) (r0 : Rs), ds = [.adr a, dq, .tup on] ∧ r = r0 ++ [insA a CS [] []] ∧ SeqV r dq df ∧ (∀ d ∈ on ++ df, plain d = true) ∧ (on ++ df).length ≤ 60 ∧
  ((∃ x, (on ++ df).find? (fun d => !isNameD d) = some x ∧ XR CB ["name"] [x] r) ∨ (∃ onz dfz : List Str, on = onz.map .str ∧ df = dfz.map .str ∧ (∀ z ∈ onz ++ dfz, isNm z = true) ∧
    ((twA [] (onz ++ dfz) = none ∧ ∀ c, P .non (r0 ++ [insA a CS stF [.adr c], dctA c (sm (mkSt onz dfz))])) ∨ (∃ x, twA [] (onz ++ dfz) = some x ∧ XR CT ["name"] [.str x] r))))
abbrev N_Setting___init__ : List Str := ["self", "deaf", "on", "names", "name", "at"]
theorem sc_Setting___init__ : FnScope N_Setting___init__ ["self", "deaf", "on"] (defScope s_Setting___init__) := ⟨rfl, rfl, rfl, by decide +kernel, rfl, by decide +kernel, by decide +kernel⟩
set_option maxHeartbeats 2000000 in
theorem c_Setting_init {CS CB CT : Addr} (B : Bl mg) (X_BadName : ErrX P w K mg base "BadName" CB "name") (X_Twice : ErrX P w K mg base "Twice" CT "name") (C_is_name : Cl P w K mg base 1 "is_name" ["value"] spIsName) (K_Setting : KCls K mg "Setting" CS stF) (Dx : DfNK K CS "Setting.__init__" s_Setting___init__ ["self"] "deaf" "on" (.tup [])) : ClNK P w K mg base 3 CS "deaf" (.tup []) (spStInit CS CB CT) := by
  have sc := sc_Setting___init__
  refine clnk_of Dx sc (fun f cdv A outer s H E hr tk po => ?_)
  have hu := hr.units
  have hi := u65 hr
  refine ⟨_, (ss_cons (s_set (i := 3) sc.nd (d_lst (dl_star (dv 2) (dl_starE (dv 1) dl_nil))))
  (ss_cons (s_for (i_list (dv 3)) (g_name (i := 4) sc.nd)
  (ss_one (s_if (b_not (b_tru (d_fn C_is_name tk hr (dl_cons (dv 4) dl_nil))))
  (ss_one (s_raise X_BadName.c tk hr (dl_cons (dv 4) dl_nil)))
  ss_nil)) po)
  (ss_cons (s_for (i_enum (by rfl) B.enum (dl_cons (dv 3) dl_nil)) (g_tup (is := [5, 4]) (pgs_n (i := 5) sc.nd (pgs_n (i := 4) sc.nd pgs_nil)))
  (ss_one (s_if (b_cmp (p_in hi) (dv 4) (d_sl (dv 3) o_no (o_some (dv 5))))
  (ss_one (s_raise X_Twice.c tk hr (dl_cons (dv 4) dl_nil)))
  ss_nil)) po)
  (ss_one (s_put (K_Setting.no "chosen" (by decide)) (dv 0) (d_dc (js := [4]) (own := [("name", 4)]) sc.nd (i_list (dv 3)) (blkOk_by (own := [("name", 4)]) (N := N_Setting___init__) (sc := defScope s_Setting___init__) (by decide +kernel)) (fun _ _ _ _ _ => (g_name (i := 4) sc.nd)) (fun _ _ _ _ _ => pts_no) (fun _ _ _ _ _ => (dv 4)) (fun _ _ _ _ _ => (d_if (b_cmp (p_in hi) (dv 4) (dv 2)) d_str d_str)))))))), fun ds r P' XR h => ?_⟩
  obtain ⟨a, dq, on, df, r0, rfl, rfl, hseq, hpl, hl, h⟩ := h
  refine ⟨df, hseq, by unfold small; rw [List.append_nil]; omega, ?_⟩
  rw [List.append_nil]
  obtain ⟨N, hN⟩ : ∃ N, N = on ++ df := ⟨_, rfl⟩
  rw [← hN] at hpl hl ⊢
  refine ⟨fun i δ r' => (∃ x4, δ = [some (.adr a), some dq, some (.tup on), some (.lst N), x4, none]) ∧ r' = r0 ++ [insA a CS [] []] ∧ ∀ (j : Nat) (x : D), j < i → N[j]? = some x → isNameD x = true, ⟨⟨_, rfl⟩, rfl, fun j x hj => absurd hj (Nat.not_lt_zero _)⟩, ?_, ?_⟩
  · rintro i d δ r' hd ⟨⟨x4, rfl⟩, rfl, hb⟩
    refine ⟨d, rfl, hpl d (List.mem_of_getElem? hd), ?_⟩
    cases hn : isNameD d with
    | true =>
      refine brF ⟨⟨_, rfl⟩, rfl, fun j x hj hx => ?_⟩
      by_cases hji : j = i
      · subst hji
        rw [hd] at hx
        cases hx
        exact hn
      · exact hb j x (by omega) hx
    | false =>
      refine brT ?_
      rcases h with ⟨x, hx, h⟩ | ⟨onz, dfz, rfl, rfl, hz, _⟩
      · have := find_at (p := fun d => !isNameD d) (fun j x hj hx => by show (!isNameD x) = false; rw [hb j x hj hx]; rfl) hd (by show (!isNameD d) = true; rw [hn]; rfl)
        rw [← hN, this] at hx
        cases hx
        exact ⟨d, rfl, fitX.of (δ := []) h⟩
      · rw [hN, ← List.map_append] at hd
        obtain ⟨z, hzz, rfl⟩ := List.mem_map.mp (List.mem_of_getElem? hd)
        rw [show isNameD (.str z) = true from hz z hzz] at hn
        cases hn
  rintro δ r' ⟨⟨x4, rfl⟩, rfl, hall⟩
  rcases h with ⟨x, hx, _⟩ | ⟨onz, dfz, rfl, rfl, hz, h⟩
  · exfalso
    rw [← hN] at hx
    have h1 := List.mem_of_find?_eq_some hx
    have h2 := List.find?_some hx
    obtain ⟨j, hj⟩ := List.mem_iff_getElem?.mp h1
    rw [hall j x (List.getElem?_eq_some_iff.mp hj).1 hj] at h2
    cases h2
  rw [← List.map_append] at hN
  obtain ⟨zs, hzs⟩ : ∃ zs, zs = onz ++ dfz := ⟨_, rfl⟩
  rw [← hzs] at hz h hN
  subst hN
  rw [List.length_map] at hl
  refine ⟨fun i δ r' => (∃ x4 x5, δ = [some (.adr a), some dq, some (.tup (onz.map .str)), some (.lst (zs.map .str)), x4, x5]) ∧ r' = r0 ++ [insA a CS [] []] ∧ twA [] zs = twA (zs.take i) (zs.drop i), ⟨⟨_, _, rfl⟩, rfl, rfl⟩, ?_, ?_⟩
  · rintro i d δ r' hd ⟨⟨x4, x5, rfl⟩, rfl, ht⟩
    have hi2 : i < zs.length := by
      have := (List.getElem?_eq_some_iff.mp hd).1
      rw [List.length_map, List.length_range, List.length_map] at this
      exact this
    rw [List.getElem?_map, List.getElem?_range (by rw [List.length_map]; exact hi2)] at hd
    cases hd
    obtain ⟨z, hzi⟩ : ∃ z, zs[i]? = some z := ⟨_, List.getElem?_eq_getElem hi2⟩
    have eg : (zs.map D.str).getD i .non = .str z := by rw [List.getD_eq_getElem?_getD, List.getElem?_map, hzi]; rfl
    dsimp only
    rw [eg]
    refine ⟨rfl, sl_l ?_⟩
    rw [cutU2, ← List.map_take]
    refine ⟨⟨Nat.zero_le _, Nat.le_trans (depsS _) (by decide), ?_⟩⟩
    rw [cond_false, memD_str]
    have ed : zs.drop i = z :: zs.drop (i + 1) := by
      rw [List.drop_eq_getElem_cons hi2]
      congr 1
      exact (List.getElem?_eq_some_iff.mp hzi).2
    have et : twA (zs.take i) (zs.drop i) = if z ∈ zs.take i then some z else twA (zs.take i ++ [z]) (zs.drop (i + 1)) := by rw [ed]; rfl
    rw [et] at ht
    by_cases hm : z ∈ zs.take i
    · rw [if_pos hm] at ht
      refine brt (any_at hm) ?_
      rcases h with ⟨h1, _⟩ | ⟨x, h1, h⟩
      · rw [ht] at h1; cases h1
      · rw [ht] at h1
        cases h1
        exact ⟨.str z, rfl, fitX.of (δ := []) h⟩
    · rw [if_neg hm] at ht
      refine brf ?_ ⟨⟨_, _, rfl⟩, rfl, ?_⟩
      · rw [Bool.eq_false_iff]
        intro q
        obtain ⟨y, hy, e⟩ := List.any_eq_true.mp q
        exact hm (eq_of_beq e ▸ hy)
      · rw [ht, List.take_add_one, hzi]
        rfl
  rintro δ r' ⟨⟨x4, x5, rfl⟩, rfl, ht⟩
  rw [List.length_map, List.length_range, List.length_map, List.drop_of_length_le (Nat.le_refl _)] at ht
  have hnone : twA [] zs = none := ht
  have h : ∀ c, P' .non (r0 ++ [insA a CS stF [.adr c], dctA c (sm (mkSt onz dfz))]) := by
    rcases h with ⟨_, h⟩ | ⟨x, h1, _⟩
    · exact h
    · rw [hnone] at h1; cases h1
  have hnd : zs.Nodup := (twA_none.mp hnone).1
  have hnd2 : ∀ z ∈ dfz, z ∉ onz := fun z h1 h2 => by
    rw [hzs] at hnd
    exact (List.nodup_append.mp hnd).2.2 z h2 z h1 rfl
  refine ⟨fun i acc r' => acc = sm ((mkSt onz dfz).take i) ∧ r' = r0 ++ [insA a CS [] []], ⟨rfl, rfl⟩, ?_, ?_⟩
  · rintro p i d acc r' hd ⟨rfl, rfl⟩
    rw [List.getElem?_map] at hd
    obtain ⟨z, hzi, rfl⟩ := Option.map_eq_some_iff.mp hd
    have hi2 := (List.getElem?_eq_some_iff.mp hzi).1
    have hk : ((mkSt onz dfz).map (·.1))[i]? = some z := by rw [mkSt_keys, ← hzs]; exact hzi
    rw [List.getElem?_map] at hk
    obtain ⟨e, he, hez⟩ := Option.map_eq_some_iff.mp hk
    have hm : ∀ b : Bool, (onz.any fun y => y == z) = b → e.2 = if b then "on" else "deaf" := fun b hb => by
      have hg : sGet (mkSt onz dfz) z = some e.2 := sGet_of (by rw [mkSt_keys, ← hzs]; exact hnd) (by rw [← hez]; exact List.mem_of_getElem? he)
      rw [mkSt_get] at hg
      cases b with
      | true =>
        obtain ⟨y, hy, q⟩ := List.any_eq_true.mp hb
        rw [if_pos (eq_of_beq q ▸ hy)] at hg
        exact (Option.some.inj hg).symm
      | false =>
        have hno : z ∉ onz := fun k => by rw [any_at k] at hb; cases hb
        rw [if_neg hno] at hg
        split at hg
        · exact (Option.some.inj hg).symm
        · cases hg
    have hnew : z ∉ ((mkSt onz dfz).take i).map (·.1) := by
      rw [List.map_take, mkSt_keys, ← hzs]
      intro k
      obtain ⟨j, hj⟩ := List.mem_iff_getElem?.mp k
      have hji : j < i := by
        have := (List.getElem?_eq_some_iff.mp hj).1
        rw [List.length_take] at this
        omega
      rw [List.getElem?_take_of_lt hji] at hj
      have := (List.getElem?_inj (by omega) hnd).mp (hj.trans hzi.symm)
      omega
    have step : ∀ m : Str, e.2 = m → dPut (sm ((mkSt onz dfz).take i)) (.inr z) (.str m) = sm ((mkSt onz dfz).take (i + 1)) := fun m em => by
      rw [sm_put, mPut_new hnew, List.take_add_one, he]
      show sm (_ ++ [(z, m)]) = sm (_ ++ [e])
      rw [← em, ← hez]
    have sml : small ((sm ((mkSt onz dfz).take i)).length + 1) := by
      unfold small
      rw [sm_len, List.length_take]
      omega
    refine brT ⟨⟨rfl, flat_strs _, ?_⟩⟩
    rw [cond_false, memD_str]
    cases hb : onz.any fun y => y == z with
    | true => exact brT ⟨.inr z, rfl, sml, _, rfl, by rw [step "on" (hm true hb)], rfl⟩
    | false => exact brF ⟨.inr z, rfl, sml, _, rfl, by rw [step "deaf" (hm false hb)], rfl⟩
  · rintro c acc r' ⟨rfl, rfl⟩
    rw [List.length_map, show zs.length = (mkSt onz dfz).length by rw [hzs, ← mkSt_keys, List.length_map], List.take_length]
    have e3 : (r0 ++ [insA a CS [] []]) ++ [dctA c (sm (mkSt onz dfz))] = r0 ++ insA a CS [] [] :: [dctA c (sm (mkSt onz dfz))] := by rw [List.append_assoc]; rfl
    refine .new r0 [dctA c (sm (mkSt onz dfz))] e3 rfl (by decide) ?_
    exact fit.of (h c)
structure WOk (l : List (Str × Str)) : Prop where
  nd : (l.map (·.1)).Nodup
  nm : ∀ e ∈ l, isNm e.1 = true
  md : ∀ e ∈ l, e.2 ∈ modesL
  ln : l.length ≤ 60
theorem WOk.sok {l : List (Str × Str)} (h : WOk l) : ∀ e ∈ l, sok e.1 := fun e he => isNm_sok (h.nm e he)
theorem StOk.wok {l : List (Str × Str)} (h : StOk l) : WOk l := ⟨h.nd, h.nm, fun e he => by
  rcases h.md e he with q | q <;> rw [q] <;> decide, h.ln⟩
def wh (l : List (Str × Str)) (m : Str) : List Str := (srt (l.map (·.1))).filter fun z => sGet l z == some m
def norm (l : List (Str × Str)) : List (Str × Str) := mkSt (wh l "on") (wh l "deaf")
theorem wh_mem {l : List (Str × Str)} {m z : Str} : z ∈ wh l m ↔ sGet l z = some m := by
  unfold wh
  rw [List.mem_filter, srt_mem]
  constructor
  · exact fun h => eq_of_beq h.2
  · intro h
    refine ⟨?_, by rw [h]; exact beq_self_eq_true _⟩
    exact List.mem_map.mpr ⟨_, sGet_mem h, rfl⟩
theorem wh_nd {l : List (Str × Str)} (h : WOk l) (m : Str) : (wh l m).Nodup := (srt_nodup h.nd).filter _
theorem norm_nd {l : List (Str × Str)} (h : WOk l) : (wh l "on" ++ wh l "deaf").Nodup := List.nodup_append.mpr ⟨wh_nd h _, wh_nd h _, fun a ha b hb e => by
  rw [wh_mem] at ha hb
  rw [← e, ha] at hb
  exact absurd (Option.some.inj hb) (by decide)⟩
theorem norm_nm {l : List (Str × Str)} (h : WOk l) : ∀ z ∈ wh l "on" ++ wh l "deaf", isNm z = true := fun z hz => by
  have key : ∀ m, z ∈ wh l m → isNm z = true := fun m hm => h.nm _ (sGet_mem (wh_mem.mp hm))
  exact (List.mem_append.mp hz).elim (key _) (key _)
theorem filt2 {α : Type} {p q : α → Bool} : ∀ {zs : List α}, (∀ x ∈ zs, p x = true → q x = false) → (zs.filter p).length + (zs.filter q).length ≤ zs.length
  | [], _ => Nat.le_refl _
  | x :: zs, h => by
    have ih := filt2 fun y hy => h y (List.mem_cons_of_mem _ hy)
    rw [List.filter_cons, List.filter_cons]
    cases hp : p x with
    | true =>
      rw [h x List.mem_cons_self hp, if_pos rfl, if_neg (by decide), List.length_cons, List.length_cons]
      omega
    | false =>
      rw [if_neg (by decide)]
      split
      · rw [List.length_cons, List.length_cons]; omega
      · rw [List.length_cons]; omega
theorem norm_sub (l : List (Str × Str)) : (wh l "on" ++ wh l "deaf").length ≤ l.length := by
  rw [List.length_append]
  unfold wh
  have := filt2 (p := fun z => sGet l z == some "on") (q := fun z => sGet l z == some "deaf") (zs := srt (l.map (·.1))) fun x _ hx => by
    rw [eq_of_beq hx]
    decide
  rw [srt_len, List.length_map] at this
  exact this
theorem norm_get {l : List (Str × Str)} (h : WOk l) (z : Str) : sGet (norm l) z = if mdAt l z = "out" then none else some (mdAt l z) := by
  unfold norm
  rw [mkSt_get]
  have hm : mdAt l z = (sGet l z).getD "out" := rfl
  cases hg : sGet l z with
  | none =>
    have no : ∀ m, z ∉ wh l m := fun m k => by rw [wh_mem, hg] at k; cases k
    rw [if_neg (no _), if_neg (no _), if_pos (by rw [hm, hg]; rfl)]
  | some m =>
    have hmd := h.md _ (sGet_mem hg)
    have e : mdAt l z = m := by rw [hm, hg]; rfl
    rw [e]
    unfold modesL at hmd
    simp only [List.mem_cons, List.not_mem_nil, or_false] at hmd
    rcases hmd with q | q | q
    · have q : m = "out" := q
      subst q
      rw [if_neg fun k => by rw [wh_mem, hg] at k; exact absurd (Option.some.inj k) (by decide), if_neg fun k => by rw [wh_mem, hg] at k; exact absurd (Option.some.inj k) (by decide), if_pos rfl]
    · have q : m = "deaf" := q
      subst q
      rw [if_neg fun k => by rw [wh_mem, hg] at k; exact absurd (Option.some.inj k) (by decide), if_pos (wh_mem.mpr hg), if_neg (by decide)]
    · have q : m = "on" := q
      subst q
      rw [if_pos (wh_mem.mpr hg), if_neg (by decide)]
theorem norm_ok {l : List (Str × Str)} (h : WOk l) : StOk (norm l) := by
  have hk : (norm l).map (·.1) = wh l "on" ++ wh l "deaf" := mkSt_keys _ _
  refine ⟨by rw [hk]; exact norm_nd h, fun e he => norm_nm h _ (by rw [← hk]; exact List.mem_map.mpr ⟨e, he, rfl⟩), fun e he => ?_, ?_⟩
  · unfold norm mkSt at he
    rcases List.mem_append.mp he with he | he
    · obtain ⟨z, _, rfl⟩ := List.mem_map.mp he
      exact .inl rfl
    · obtain ⟨z, _, rfl⟩ := List.mem_map.mp he
      exact .inr rfl
  · have := norm_sub l
    rw [← hk, List.length_map] at this
    exact Nat.le_trans this h.ln
theorem norm_at {l : List (Str × Str)} (h : WOk l) (z : Str) : mdAt (norm l) z = mdAt l z := by
  have e : mdAt (norm l) z = (sGet (norm l) z).getD "out" := rfl
  rw [e, norm_get h]
  by_cases q : mdAt l z = "out"
  · rw [if_pos q, q]; rfl
  · rw [if_neg q]; rfl
def isM (l : List (Str × Str)) (m : Str) (d : D) : Bool := match d with | .str z => sGet l z == some m | _ => false
def spStWith (CS : Addr) : SpX := fun ds r P _ => ∃ (d : D) (l : List (Str × Str)), ds = [d] ∧ DctV r d (sm l) ∧ WOk l ∧ ∀ a c, P (.adr a) (r ++ [insA a CS stF [.adr c], dctA c (sm (norm l))])
abbrev N_setting_with : List Str := ["modes", "on", "name", "deaf"]
theorem sc_setting_with : FnScope N_setting_with ["modes"] (defScope s_setting_with) := ⟨rfl, rfl, rfl, by decide +kernel, rfl, by decide +kernel, by decide +kernel⟩
set_option maxHeartbeats 1000000 in
theorem c_setting_with {CS CB CT : Addr} (B : Bl mg) (K_Setting : KCls K mg "Setting" CS stF) (NK_Setting : ClNK P w K mg base 3 CS "deaf" (.tup []) (spStInit CS CB CT)) (Dx : Dfn K mg "setting_with" s_setting_with ["modes"]) : Cl P w K mg base 5 "setting_with" ["modes"] (spStWith CS) := by
  have sc := sc_setting_with
  refine cl_of Dx sc (fun ds r P' XR ⟨_, _, e, _⟩ => by rw [e]; rfl) (fun f cdv A outer s H E hr tk po => ?_)
  have hu := hr.units
  have hi := u65 hr
  refine ⟨_, (ss_cons (s_setLc (i := 1) (js := [2]) (own := [("name", 2)]) sc.nd (i_list (d_blt c_sortedS (by rfl) B.sorted (dl_cons (d_ty2 c_listDc (by rfl) B.list (dl_cons (dv 0) dl_nil)) dl_nil))) (blkOk_by (own := [("name", 2)]) (N := N_setting_with) (sc := defScope s_setting_with) (by decide +kernel)) (fun _ _ _ _ _ => (g_name (i := 2) sc.nd)) (fun _ _ _ _ _ => (pts_1 (b_cmp (p_eq hu) (d_dix hi (dv 0) (dv 2)) d_str))) (fun _ _ _ _ _ => (dv 2)) (sw_true rfl rfl rfl (by decide +kernel)))
  (ss_cons (s_setLc (i := 3) (js := [2]) (own := [("name", 2)]) sc.nd (i_list (d_blt c_sortedS (by rfl) B.sorted (dl_cons (d_ty2 c_listDc (by rfl) B.list (dl_cons (dv 0) dl_nil)) dl_nil))) (blkOk_by (own := [("name", 2)]) (N := N_setting_with) (sc := defScope s_setting_with) (by decide +kernel)) (fun _ _ _ _ _ => (g_name (i := 2) sc.nd)) (fun _ _ _ _ _ => (pts_1 (b_cmp (p_eq hu) (d_dix hi (dv 0) (dv 2)) d_str))) (fun _ _ _ _ _ => (dv 2)) (sw_true rfl rfl rfl (by decide +kernel)))
  (ss_one (s_ret (d_mkSK NK_Setting K_Setting tk hr (dv 1) (dv 3)))))), fun ds r P' XR h => ?_⟩
  obtain ⟨d, l, rfl, hd, ok, h⟩ := h
  have hln := ok.ln
  have item : ∀ {z : Str}, z ∈ srt (l.map (·.1)) → ∃ m, sGet l z = some m := fun {z} hz => by
    cases hg : sGet l z with
    | some m => exact ⟨m, rfl⟩
    | none => exact absurd (srt_mem.mp hz) (sGet_none.mp hg)
  have ef : ∀ m : Str, ((srt (l.map (·.1))).map D.str).filter (isM l m) = (wh l m).map .str := fun m => by
    rw [List.filter_map]
    rfl
  refine ⟨_, _, rfl, hd, sm_sok ok.sok, ⟨l.map (·.1), by rw [sm_keys], by rw [List.length_map]; omega, ?_⟩⟩
  refine lc_fmR (isM l "on") (fun d => d) (by unfold small; rw [List.length_map, srt_len, List.length_map]; omega) (fun x hx r3 Q1 Q2 g1 g2 => ?_) ?_
  · obtain ⟨z, hz, rfl⟩ := List.mem_map.mp hx
    obtain ⟨m, hm⟩ := item hz
    refine sm_dget (hd.mono fun t ht => List.mem_append.mpr (.inl ht)) ?_
    rw [hm]
    refine ⟨.str m, rfl, Nat.zero_le _, Nat.zero_le _, ?_⟩
    have e : eqD (.str m) (.str "on") = isM l "on" (.str z) := by
      rw [eqD_str]
      show (m == "on") = (sGet l z == some ("on" : Str))
      rw [hm]
      rfl
    rw [e]
    exact ⟨g1, g2⟩
  rw [List.map_id', ef]
  refine ⟨_, _, rfl, hd, sm_sok ok.sok, ⟨l.map (·.1), by rw [sm_keys], by rw [List.length_map]; omega, ?_⟩⟩
  refine lc_fmR (isM l "deaf") (fun d => d) (by unfold small; rw [List.length_map, srt_len, List.length_map]; omega) (fun x hx r3 Q1 Q2 g1 g2 => ?_) ?_
  · obtain ⟨z, hz, rfl⟩ := List.mem_map.mp hx
    obtain ⟨m, hm⟩ := item hz
    refine sm_dget (hd.mono fun t ht => List.mem_append.mpr (.inl ht)) ?_
    rw [hm]
    refine ⟨.str m, rfl, Nat.zero_le _, Nat.zero_le _, ?_⟩
    have e : eqD (.str m) (.str "deaf") = isM l "deaf" (.str z) := by
      rw [eqD_str]
      show (m == "deaf") = (sGet l z == some ("deaf" : Str))
      rw [hm]
      rfl
    rw [e]
    exact ⟨g1, g2⟩
  rw [List.map_id', ef]
  have hsub := norm_sub l
  rw [List.length_append] at hsub
  refine ⟨_, .inl rfl, fun a => ⟨[.adr a], (wh l "on").map .str, .lst ((wh l "deaf").map .str), rfl, rfl, by rw [List.length_map]; omega, ?_⟩⟩
  refine ⟨a, .lst ((wh l "deaf").map .str), (wh l "on").map .str, (wh l "deaf").map .str, r, rfl, rfl, .lst _, fun d hd => ?_, by rw [List.length_append, List.length_map, List.length_map]; omega, .inr ⟨wh l "on", wh l "deaf", rfl, rfl, norm_nm ok, .inl ⟨twA_none.mpr ⟨norm_nd ok, fun _ _ h => (by cases h)⟩, fun c => ⟨rfl, fit.of (h a c)⟩⟩⟩⟩
  rw [← List.map_append] at hd
  obtain ⟨z, _, rfl⟩ := List.mem_map.mp hd
  rfl
/-- _law_same of an own list -/
def spSameLO (n : Nat) : SpX := fun ds r P _ => ∃ (q : Addr) (xs ys : List D), ds = [.adr q, .lst ys] ∧ Own r q xs ∧ plains xs = true ∧ plain (.lst ys) = true ∧ deps xs ≤ 63 ∧ deps ys < n ∧ P (.bl (sames xs ys)) r
theorem c__law_sameLO (B : Bl mg) (n : Nat) (C__law_same : Cl P w K mg base n "_law_same" ["_law_actual", "_law_due"] (spSame n)) (Dx : Dfn K mg "_law_same" s__law_same ["_law_actual", "_law_due"]) : Cl P w K mg base (n + 1) "_law_same" ["_law_actual", "_law_due"] (spSameLO n) := by
  have sc := sc__law_same
  refine cl_of Dx sc (fun ds r P' XR ⟨_, _, _, e, _⟩ => by rw [e]; rfl) (fun f cdv A outer s H E hr tk po => ?_)
  have hu := hr.units
  refine ⟨_, (ss_cons (s_if (b_tru (d_isi2 .list .tuple (by rfl) B.isi (dv 1) (by rfl) B.list (by rfl) B.tuple))
  (ss_cons (s_if (b_cmp (p_ne hu) (d_isiO .list (by rfl) B.isi (dv 0) (by rfl) B.list) (d_isi .list (by rfl) B.isi (dv 1) (by rfl) B.list))
  (ss_one (s_ret d_bl))
  ss_nil)
  (ss_cons (s_if (b_w (w_or (b_not (b_tru (d_isiO2 .list .tuple (by rfl) B.isi (dv 0) (by rfl) B.list (by rfl) B.tuple))) (w_or1 (b_cmp (p_ne hu) (d_blt2 c_lenO (by rfl) B.len (dl_cons (dv 0) dl_nil)) (d_blt c_len (by rfl) B.len (dl_cons (dv 1) dl_nil))))))
  (ss_one (s_ret d_bl))
  ss_nil)
  (ss_one (s_ret (d_cmp (p_eq hu) (d_lc (js := [2]) (own := [("_law_k", 2)]) sc.nd (i_r1 (by rfl) B.range (dl_cons (d_blt c_len (by rfl) B.len (dl_cons (dv 1) dl_nil)) dl_nil)) (blkOk_by (own := [("_law_k", 2)]) (N := N__law_same) (sc := defScope s__law_same) (by decide +kernel)) (fun _ _ _ _ _ => (g_name (i := 2) sc.nd)) (fun _ _ _ _ _ => (pts_1 (b_not (b_tru (d_fnN C__law_same hr (dl_cons (d_ixO (dv 0) (dv 2)) (dl_cons (d_ix (dv 1) (dv 2)) dl_nil))))))) (fun _ _ _ _ _ => (dv 2))) (d_lst dl_nil))))))
  ss_nil)
  (ss_cons (s_if (b_w (w_or (b_cmp p_is (dv 1) d_non) (w_or1 (b_cmp p_is (dv 0) d_non))))
  (ss_one (s_ret (d_and (d_cmp p_is (dv 1) d_non) (d_one (d_cmp p_is (dv 0) d_non)))))
  ss_nil)
  (ss_cons (s_if (b_cmp (p_ne hu) (d_isiO .bool (by rfl) B.isi (dv 0) (by rfl) B.bool) (d_isi .bool (by rfl) B.isi (dv 1) (by rfl) B.bool))
  (ss_one (s_ret d_bl))
  ss_nil)
  (ss_cons (s_if (b_cmp (p_ne hu) (d_isiO .int (by rfl) B.isi (dv 0) (by rfl) B.int) (d_isi .int (by rfl) B.isi (dv 1) (by rfl) B.int))
  (ss_one (s_ret d_bl))
  ss_nil)
  (ss_cons (s_if (b_w (w_or (b_tru (d_isiO2 .list .tuple (by rfl) B.isi (dv 0) (by rfl) B.list (by rfl) B.tuple)) (w_or1 (b_cmp (p_ne hu) (d_isiO .str (by rfl) B.isi (dv 0) (by rfl) B.str) (d_isi .str (by rfl) B.isi (dv 1) (by rfl) B.str)))))
  (ss_one (s_ret d_bl))
  ss_nil)
  (ss_one (s_ret (d_cmpO (p_eqO hu) (dv 0) (dv 1))))))))), fun ds r P' XR h => ?_⟩
  obtain ⟨q, xs, ys, rfl, ow, pa, pb, da, db, h⟩ := h
  replace h := fit.of h
  refine brT ⟨q, xs, rfl, ow, Nat.zero_le _, Nat.zero_le _, brF ⟨q, xs, rfl, ow, brF ⟨q, xs, rfl, ow, fun lx ly => ⟨Nat.zero_le _, Nat.zero_le _, ?_⟩⟩⟩⟩
  by_cases hl : xs.length = ys.length
  rotate_left
  · refine brt (ne_len hl) ?_
    have : sames xs ys = false := by
      cases q : sames xs ys with
      | false => rfl
      | true => exact absurd (sames_len q) hl
    rw [this] at h
    exact h
  refine brf (eq_len hl) ?_
  have pbl := (plain_lst pb).1
  replace pb := (plain_lst pb).2
  rw [sizeLine_eq] at ly
  refine fun _ => ⟨⟨by omega, by omega⟩, ?_⟩
  refine lc_fmR (dif xs ys) (fun d => d) (by unfold small; simp; omega) (fun e he T Q1 Q2 q1 q2 => ?_) ?_
  · obtain ⟨i, hi, rfl⟩ := List.mem_map.mp he
    have hi : i < ys.length := by simpa using hi
    have e1 : xs[i]? = some xs[i] := List.getElem?_eq_getElem (by omega)
    have e2 : ys[i]? = some ys[i] := List.getElem?_eq_getElem hi
    have ed : dif xs ys (.int (i : Nat)) = !same xs[i] ys[i] := by
      show (match xs[((i : Nat) : Int).toNat]?, ys[((i : Nat) : Int).toNat]? with | some x, some y => !same x y | _, _ => false) = _
      rw [Int.toNat_natCast, e1, e2]
    refine ⟨q, xs, _, _, rfl, rfl, own_more ow, atI_nat e1, ix_l (atI_nat e2) ⟨_, _, rfl, plains_at pa e1, plains_at pb e2, by have := deps_at e1; omega, by have := deps_at e2; omega, ?_⟩⟩
    exact ⟨fun z => q1 (ed.trans z), fun z => q2 (ed.trans z)⟩
  · rw [List.map_id']
    have dd : deps (((List.range ((ys.length : Nat) : Int).toNat).map fun i : Nat => D.int (i : Int)).filter (dif xs ys)) ≤ 0 := by
      have := G.deps_le (k := 0) (ds := ((List.range ((ys.length : Nat) : Int).toNat).map fun i : Nat => D.int (i : Int)).filter (dif xs ys)) fun d hd => by
        obtain ⟨i, _, rfl⟩ := List.mem_map.mp (List.mem_filter.mp hd).1
        exact Nat.le_refl _
      exact this
    refine ⟨Nat.le_of_ble_eq_true rfl, ?_, Nat.le_of_ble_eq_true rfl, ?_⟩
    · show deps _ + 1 ≤ 64
      omega
    · rw [eq_nil, Int.toNat_natCast, dif_all hl]
      exact h
theorem pickM {c : Int} (h0 : 0 ≤ c) (h1 : c < 3) : ∃ m, m ∈ modesL ∧ atI [D.str "out", .str "deaf", .str "on"] c = some (.str m) := by
  obtain ⟨n, rfl⟩ : ∃ n : Nat, c = n := ⟨c.toNat, by omega⟩
  have hn : n < 3 := by omega
  match n, hn with
  | 0, _ => exact ⟨"out", by decide, L2.atI_nat rfl⟩
  | 1, _ => exact ⟨"deaf", by decide, L2.atI_nat rfl⟩
  | 2, _ => exact ⟨"on", by decide, L2.atI_nat rfl⟩
def spRandM : SpX := fun ds r P _ => ∃ (p a : Addr) (N : Nat) (X : Rs) (zs : List Str), ds = [.adr p, .lst (zs.map .str)] ∧ r = poolA p a N :: X ∧ N < 10000000 ∧ zs.Nodup ∧ zs.length ≤ 60 ∧ ∀ (q : Addr) (ms : List (Str × Str)), ms.map (·.1) = zs → (∀ e ∈ ms, e.2 ∈ modesL) → P (.adr q) (poolA p a (N + zs.length) :: (X ++ [dctA q (sm ms)]))
abbrev N__law_random_modes : List Str := ["_law_pool_here", "_law_names_here", "_law_modes", "_law_name"]
theorem sc__law_random_modes : FnScope N__law_random_modes ["_law_pool_here", "_law_names_here"] (defScope s__law_random_modes) := ⟨rfl, rfl, rfl, by decide +kernel, rfl, by decide +kernel, by decide +kernel⟩
theorem c__law_random_modes (B : Bl mg) (C__law_draw : Cl P w K mg base 1 "_law_draw" ["_law_pool_here", "_law_many"] spDraw) (Dx : Dfn K mg "_law_random_modes" s__law_random_modes ["_law_pool_here", "_law_names_here"]) : Cl P w K mg base 2 "_law_random_modes" ["_law_pool_here", "_law_names_here"] spRandM := by
  have sc := sc__law_random_modes
  refine cl_of Dx sc (fun ds r P' XR ⟨_, _, _, _, _, e, _⟩ => by rw [e]; rfl) (fun f cdv A outer s H E hr tk po => ?_)
  have hu := hr.units
  have hi := u65 hr
  refine ⟨_, (ss_cons (s_set (i := 2) sc.nd d_dnew)
  (ss_cons (s_for (i_list (dv 1)) (g_name (i := 3) sc.nd)
  (ss_one (s_dput hi (dv 2) (dv 3) (d_ix (d_lst (dl_cons d_str (dl_cons d_str (dl_cons d_str dl_nil)))) (d_fn C__law_draw tk hr (dl_cons (dv 0) (dl_cons d_int dl_nil)))))) po)
  (ss_one (s_ret (dv 2))))), fun ds r P' XR h => ?_⟩
  obtain ⟨p, a, N, X, zs, rfl, rfl, hN, hnd, hl, h⟩ := h
  intro q
  refine ⟨fun i δ r' => (∃ x3, δ = [some (.adr p), some (.lst (zs.map .str)), some (.adr q), x3]) ∧ ∃ ms : List (Str × Str), r' = poolA p a (N + i) :: (X ++ [dctA q (sm ms)]) ∧ ms.map (·.1) = zs.take i ∧ ∀ e ∈ ms, e.2 ∈ modesL, ⟨⟨_, rfl⟩, [], rfl, rfl, fun _ h => (by cases h)⟩, ?_, ?_⟩
  · rintro i d δ r' hd ⟨⟨x3, rfl⟩, ms, rfl, hk, hm⟩
    rw [List.getElem?_map] at hd
    obtain ⟨z, hz, rfl⟩ := Option.map_eq_some_iff.mp hd
    have hi2 := (List.getElem?_eq_some_iff.mp hz).1
    refine ⟨Nat.le_of_ble_eq_true rfl, p, a, 3, N + i, _, rfl, rfl, ⟨by decide, by decide⟩, by omega, fun c c0 c1 => ?_⟩
    obtain ⟨m, hm2, hat⟩ := pickM c0 c1
    have hnew : z ∉ ms.map (·.1) := by
      rw [hk]
      intro k
      obtain ⟨j, hj⟩ := List.mem_iff_getElem?.mp k
      have hji : j < i := by
        have := (List.getElem?_eq_some_iff.mp hj).1
        rw [List.length_take] at this
        omega
      rw [List.getElem?_take_of_lt hji] at hj
      have := (List.getElem?_inj (by omega) hnd).mp (hj.trans hz.symm)
      omega
    have hlen : ms.length ≤ 60 := by
      have := congrArg List.length hk
      rw [List.length_map, List.length_take] at this
      omega
    refine ix_l hat (.mk (poolA p a (N + (i + 1)) :: X) [] (sm ms) (.inr z) rfl rfl (by unfold small; rw [sm_len]; omega) ⟨⟨_, rfl⟩, ms ++ [(z, m)], by rw [sm_put, mPut_new hnew]; rfl, ?_, fun e he => ?_⟩)
    · rw [List.map_append, hk, List.take_add_one, hz]
      rfl
    · rcases List.mem_append.mp he with he | he
      · exact hm e he
      · rw [List.mem_singleton.mp he]; exact hm2
  · rintro δ r' ⟨⟨x3, rfl⟩, ms, rfl, hk, hm⟩
    rw [List.length_map] at hk ⊢
    rw [List.take_length] at hk
    exact fit.of (h q ms hk hm)
def stOf (ms : List (Str × Str)) : List (Str × Str) := ms.filter fun e => decide (e.2 ≠ "out")
/-- what a setting's modes are, told by a dict of all modes -/
structure Agr (l ms : List (Str × Str)) : Prop where
  lo : StOk l
  mo : WOk ms
  at_ : ∀ z, mdAt l z = mdAt ms z
theorem StOk.get {l : List (Str × Str)} (h : StOk l) (z : Str) : sGet l z = if mdAt l z = "out" then none else some (mdAt l z) := by
  have e : mdAt l z = (sGet l z).getD "out" := rfl
  cases hg : sGet l z with
  | none => rw [if_pos (by rw [e, hg]; rfl)]
  | some m =>
    have e2 : mdAt l z = m := by rw [e, hg]; rfl
    have := h.md _ (sGet_mem hg)
    rw [e2, if_neg fun k => by subst k; rcases this with q | q <;> exact absurd (show ("out" : Str) = _ from q) (by decide)]
theorem mdAt_in {l : List (Str × Str)} (h : WOk l) (z : Str) : mdAt l z ∈ modesL := by
  have e : mdAt l z = (sGet l z).getD "out" := rfl
  rw [e]
  cases hg : sGet l z with
  | none => decide
  | some m => exact h.md _ (sGet_mem hg)
def dueS (ms : List (Str × Str)) : List Str := srt ((ms.map (·.1)).filter fun z => decide (mdAt ms z ≠ "out"))
theorem Agr.keys {l ms : List (Str × Str)} (h : Agr l ms) : (l.map (·.1)).Perm ((ms.map (·.1)).filter fun z => decide (mdAt ms z ≠ "out")) := by
  refine (List.perm_ext_iff_of_nodup h.lo.nd (h.mo.nd.filter _)).mpr fun z => ?_
  rw [List.mem_filter, decide_eq_true_eq, ← h.at_]
  have h1 : z ∈ l.map (·.1) ↔ mdAt l z ≠ "out" := by
    have g := h.lo.get z
    by_cases q : mdAt l z = "out"
    · rw [if_pos q] at g
      exact ⟨fun k => absurd k (sGet_none.mp g), fun k => absurd q k⟩
    · rw [if_neg q] at g
      exact ⟨fun _ => q, fun _ => List.mem_map.mpr ⟨_, sGet_mem g, rfl⟩⟩
  rw [h1]
  refine ⟨fun k => ⟨?_, k⟩, fun k => k.2⟩
  rw [h.at_] at k
  have e : mdAt ms z = (sGet ms z).getD "out" := rfl
  cases hg : sGet ms z with
  | none => rw [e, hg] at k; exact absurd rfl k
  | some m => exact List.mem_map.mpr ⟨_, sGet_mem hg, rfl⟩
theorem Agr.due {l ms : List (Str × Str)} (h : Agr l ms) : srt (l.map (·.1)) = dueS ms := srt_congr h.keys
theorem Agr.len {l ms : List (Str × Str)} (h : Agr l ms) : l.length = (dueS ms).length := by
  unfold dueS
  rw [srt_len, ← h.keys.length_eq, List.length_map]
theorem plainS (zs : List Str) : plains (zs.map D.str) = true := plains_of fun d hd => by
  obtain ⟨z, _, rfl⟩ := List.mem_map.mp hd
  rfl
theorem same_str {a b : Str} (e : a = b) : G.same (.str a) (.str b) = true := by rw [e]; exact same_refl _ rfl
def spHolds (CS : Addr) : SpX := fun ds r P _ => ∃ (s : D) (q : Addr) (l ms : List (Str × Str)) (zs : List Str) (pre post : Rs), ds = [s, .adr q, .lst (zs.map .str)] ∧ r = pre ++ dctA q (sm ms) :: post ∧ StV CS r s l ∧ Agr l ms ∧ (∀ z ∈ zs, isNm z = true) ∧ zs.length ≤ 100 ∧ P (.bl true) r
abbrev N__law_holds : List Str := ["_law_setting_here", "_law_modes", "_law_names_here", "_law_due", "_law_name", "_law_grade", "_law_told"]
theorem sc__law_holds : FnScope N__law_holds ["_law_setting_here", "_law_modes", "_law_names_here"] (defScope s__law_holds) := ⟨rfl, rfl, rfl, by decide +kernel, rfl, by decide +kernel, by decide +kernel⟩
set_option maxHeartbeats 2000000 in
theorem c__law_holds {CS CB : Addr} (B : Bl mg) (K_Setting : KCls K mg "Setting" CS stF) (I_Setting : ClG P w K mg base 3 CS "__getitem__" (spStGet CS CB)) (N_in_Setting : ClI P w K mg base 2 CS (spStIn CS)) (M_Setting_names : ClM P w K mg base 1 CS "names" (spStNames CS)) (L_Setting : ClG P w K mg base 1 CS "__len__" (spStLen CS)) (T_Setting : ClL P w K mg base 1 CS (spStLen CS))
    (C__law_same : Cl P w K mg base 4 "_law_same" ["_law_actual", "_law_due"] (spSame 4)) (C__law_sameO : Cl P w K mg base 5 "_law_same" ["_law_actual", "_law_due"] (spSameLO 4)) (Dx : Dfn K mg "_law_holds" s__law_holds ["_law_setting_here", "_law_modes", "_law_names_here"]) : Cl P w K mg base 6 "_law_holds" ["_law_setting_here", "_law_modes", "_law_names_here"] (spHolds CS) := by
  have sc := sc__law_holds
  refine cl_of Dx sc (fun ds r P' XR ⟨_, _, _, _, _, _, _, e, _⟩ => by rw [e]; rfl) (fun f cdv A outer s H E hr tk po => ?_)
  have hu := hr.units
  have hi := u65 hr
  refine ⟨_, (ss_cons (s_set (i := 3) sc.nd (d_blt c_sortedS (by rfl) B.sorted (dl_cons (d_lcD 1 (js := [4]) (own := [("_law_name", 4)]) sc.nd (blkOk_by (own := [("_law_name", 4)]) (N := N__law_holds) (sc := defScope s__law_holds) (by decide +kernel)) (fun _ _ _ _ _ => (g_name (i := 4) sc.nd)) (fun _ _ _ _ _ => (pts_1 (b_cmp (p_ne hu) (d_dix hi (dv 1) (dv 4)) d_str))) (fun _ _ _ _ _ => (dv 4))) dl_nil)))
  (ss_cons (s_for (i_list (dv 2)) (g_name (i := 4) sc.nd)
  (ss_cons (s_set (i := 5) sc.nd (d_dgt2 hi (dv 1) (dv 4) d_str ⟨rfl, rfl, rfl, rfl⟩))
  (ss_one (s_if (b_w (w_or (b_not (b_tru (d_fn C__law_same tk hr (dl_cons (d_gix I_Setting tk hr (dv 0) (dv 4)) (dl_cons (dv 5) dl_nil))))) (w_or1 (b_cmp (p_ne hu) (d_ini N_in_Setting hr (dv 4) (dv 0)) (d_cmp (p_ne hu) (dv 5) d_str)))))
  (ss_one (s_ret d_bl))
  ss_nil))) po)
  (ss_cons (s_set (i := 6) sc.nd (d_mt0 M_Setting_names tk hr (dv 0)))
  (ss_cons (s_if (b_w (w_or (b_not (b_tru (d_fn C__law_sameO tk hr (dl_cons (dv 6) (dl_cons (dv 3) dl_nil))))) (w_or1 (b_not (b_tru (d_fn C__law_same tk hr (dl_cons (d_lenI L_Setting hr (by rfl) B.len (dl_cons (dv 0) dl_nil)) (dl_cons (d_blt c_len (by rfl) B.len (dl_cons (dv 3) dl_nil)) dl_nil))))))))
  (ss_one (s_ret d_bl))
  ss_nil)
  (ss_cons (s_expr (d_app (dv 6) (dl_cons d_str dl_nil)))
  (ss_one (s_ret (d_and (d_fn C__law_same tk hr (dl_cons (d_move (d_mt0 M_Setting_names tk hr (dv 0))) (dl_cons (dv 3) dl_nil))) (d_one (d_cmp (p_eq hu) (d_boolI T_Setting hr (by rfl) B.bool (dl_cons (dv 0) dl_nil)) (d_cmp (p_ne hu) (dv 3) (d_lst dl_nil)))))))))))), fun ds r P' XR h => ?_⟩
  obtain ⟨s, q, l, ms, zs, pre, post, rfl, rfl, hs, ag, hz, hzl, h⟩ := h
  have hln := ag.mo.ln
  have hget : ∀ {e : Str × Str}, e ∈ ms → mdAt ms e.1 = e.2 := fun {e} he => by
    have : mdAt ms e.1 = (sGet ms e.1).getD "out" := rfl
    rw [this, sGet_of ag.mo.nd he]
    rfl
  refine ⟨q, sm ms, pre, post, rfl, rfl, sm_sok ag.mo.sok, fun od xs => ⟨fun j acc r' => acc = (((ms.map (·.1)).take j).filter fun z => decide (mdAt ms z ≠ "out")).map D.str ∧ r' = pre ++ lckA q od xs (sm ms) :: post, ⟨rfl, rfl⟩, ?_, ?_, ?_⟩⟩
  · rintro j acc r' ⟨_, rfl⟩
    exact ⟨pre, post, rfl⟩
  · rintro p j k d acc r' hk ⟨rfl, rfl⟩
    unfold sm at hk
    rw [List.getElem?_map] at hk
    obtain ⟨e, he, hke⟩ := Option.map_eq_some_iff.mp hk
    cases hke
    have hem := List.mem_of_getElem? he
    have hget := hget hem
    have hgs : sGet ms e.1 = some e.2 := sGet_of ag.mo.nd hem
    have hj := (List.getElem?_eq_some_iff.mp he).1
    have hk1 : (ms.map (·.1))[j]? = some e.1 := by rw [List.getElem?_map, he]; rfl
    have hdv : DctV ((pre ++ lckA q od xs (sm ms) :: post) ++ [lstA p ((((ms.map (·.1)).take j).filter fun z => decide (mdAt ms z ≠ "out")).map D.str)]) (.adr q) (sm ms) := .inl ⟨q, rfl, .inr ⟨pre, post ++ [_], od, xs, by rw [List.append_assoc]; rfl⟩⟩
    have etake : ((ms.map (·.1)).take (j + 1)).filter (fun z => decide (mdAt ms z ≠ "out")) = ((ms.map (·.1)).take j).filter (fun z => decide (mdAt ms z ≠ "out")) ++ if decide (e.2 ≠ "out") = true then [e.1] else [] := by
      rw [List.take_add_one, hk1, List.filter_append]
      congr 1
      show List.filter _ [e.1] = _
      rw [List.filter_cons, hget]
      rfl
    refine sm_dget hdv ?_
    rw [hgs]
    refine ⟨.str e.2, rfl, Nat.zero_le _, Nat.zero_le _, ?_⟩
    rw [eqD_str]
    by_cases ho : e.2 = "out"
    · refine brf (by rw [ho]; rfl) ⟨_, le.refl, ?_, rfl⟩
      rw [etake, if_neg (by rw [decide_eq_true_eq]; exact fun k => k ho), List.append_nil]
    · refine brt (by rw [beq_eq_false_iff_ne.mpr ho]; rfl) ⟨?_, _, le.refl, ?_, rfl⟩
      · unfold small
        rw [List.length_map]
        have := List.length_filter_le (fun z => decide (mdAt ms z ≠ "out")) ((ms.map (·.1)).take j)
        rw [List.length_take, List.length_map] at this
        omega
      · rw [etake, if_pos (decide_eq_true ho), List.map_append]
        rfl
  · rintro acc r' ⟨rfl, rfl⟩
    refine ⟨pre, post, rfl, ?_⟩
    rw [sm_len, List.take_of_length_le (by rw [List.length_map]; exact Nat.le_refl _)]
    have hdl : (dueS ms).length ≤ 60 := by rw [← ag.len]; exact ag.lo.ln
    refine ⟨_, rfl, ?_, ?_⟩
    · have := List.length_filter_le (fun z => decide (mdAt ms z ≠ "out")) (ms.map (·.1))
      rw [List.length_map] at this
      omega
    rw [show srt ((ms.map (·.1)).filter fun z => decide (mdAt ms z ≠ "out")) = dueS ms from rfl]
    obtain ⟨r, hr0⟩ : ∃ r, r = pre ++ dctA q (sm ms) :: post := ⟨_, rfl⟩
    rw [← hr0] at hs h ⊢
    have hdv : DctV r (.adr q) (sm ms) := .inl ⟨q, rfl, .inl ⟨pre, post, hr0⟩⟩
    refine ⟨fun i δ r' => (∃ x4 x5, δ = [some s, some (.adr q), some (.lst (zs.map .str)), some (.lst ((dueS ms).map .str)), x4, x5, none]) ∧ r' = r, ⟨⟨_, _, rfl⟩, rfl⟩, ?_, ?_⟩
    · rintro i d δ r' hd ⟨⟨x4, x5, rfl⟩, rfl⟩
      obtain ⟨z, hzm, rfl⟩ := List.mem_map.mp (List.mem_of_getElem? hd)
      have e1 : ((sGet ms z).map D.str).getD (.str "out") = .str (mdAt ms z) := by unfold mdAt; cases sGet ms z <;> rfl
      refine ⟨hdv.dc, sm_dget hdv ?_⟩
      rw [e1]
      refine ⟨hs.isC, s, .str z, l, rfl, hs, rfl, .inl ⟨z, rfl, hz z hzm, ?_⟩⟩
      refine ⟨_, _, rfl, rfl, rfl, Nat.zero_le _, Nat.zero_lt_succ _, brf (by rw [same_str (ag.at_ z)]; rfl) ?_⟩
      refine ⟨hs.isC, s, .str z, l, rfl, hs, rfl, _, rfl, Nat.zero_le _, Nat.zero_le _, Nat.zero_le _, Nat.zero_le _, ?_⟩
      have e2 : inSt l (.str z) = decide (mdAt ms z ≠ "out") := by
        show (isNm z && (sGet l z).isSome) = _
        rw [hz z hzm, ag.lo.get z, ag.at_ z]
        by_cases k : mdAt ms z = "out"
        · rw [if_pos k, k]; rfl
        · rw [if_neg k, decide_eq_true k]; rfl
      have e3 : (!eqD (.str (mdAt ms z)) (.str "out")) = decide (mdAt ms z ≠ "out") := by
        rw [eqD_str]
        by_cases k : mdAt ms z = "out"
        · rw [k]; rfl
        · rw [decide_eq_true k, beq_eq_false_iff_ne.mpr k]; rfl
      rw [cond_false, e2, e3]
      have e4 : ∀ b : Bool, eqD (.bl b) (.bl b) = true := fun b => by cases b <;> rfl
      exact brf (by rw [e4]; rfl) ⟨⟨_, _, rfl⟩, rfl⟩
    · rintro δ r' ⟨⟨x4, x5, rfl⟩, rfl⟩
      refine ⟨hs.isC, s, l, rfl, hs, ag.lo, fun p => ?_⟩
      rw [ag.due]
      have hs2 : ∀ {t : Rs}, StV CS (r' ++ t) s l := fun {t} => hs.mono fun u hu => List.mem_append.mpr (.inl hu)
      have pD : plain (.lst ((dueS ms).map .str)) = true := plain_of_lst (by rw [List.length_map]; omega) (plainS _)
      refine ⟨p, (dueS ms).map .str, (dueS ms).map .str, rfl, Own.last, plainS _, pD, Nat.le_trans (depsS _) (by decide), Nat.lt_of_le_of_lt (depsS _) (by decide), ?_⟩
      rw [show sames ((dueS ms).map D.str) ((dueS ms).map D.str) = true from same_refl (.lst ((dueS ms).map D.str)) pD]
      refine brF ⟨_, rfl, hs2.isC, s, l, rfl, hs2, l.length, rfl, by have := ag.lo.ln; omega, fun _ => ?_⟩
      rw [List.length_map, ag.len]
      refine ⟨_, _, rfl, rfl, rfl, Nat.zero_le _, Nat.zero_lt_succ _, brf (by rw [show G.same (.int ((dueS ms).length : Nat)) (.int ((dueS ms).length : Nat)) = true from same_refl _ rfl]; rfl) ?_⟩
      refine ⟨p, _, rfl, Own.last, r', _, [], .str "x", rfl, rfl, by unfold small; rw [List.length_map]; omega, ?_⟩
      refine ⟨hs2.isC, s, l, rfl, hs2, ag.lo, fun p2 => ?_⟩
      rw [ag.due]
      refine ⟨p2, (dueS ms).map .str, (r' ++ [lstA p ((dueS ms).map D.str ++ [.str "x"])]), [], rfl, rfl, ?_⟩
      refine ⟨_, _, rfl, pD, pD, by show deps _ + 1 ≤ 64; have := depsS (dueS ms); omega, by show deps _ + 1 < 4; have := depsS (dueS ms); omega, ?_⟩
      rw [show G.same (.lst ((dueS ms).map D.str)) (.lst ((dueS ms).map D.str)) = true from same_refl _ pD, List.append_nil]
      refine brT ⟨_, rfl, hs2.isC, s, l, rfl, hs2, l.length, rfl, by have := ag.lo.ln; omega, ?_⟩
      refine ⟨Nat.zero_le _, by show deps _ + 1 ≤ 64; have := depsS (dueS ms); omega, Nat.le_of_ble_eq_true rfl, ?_⟩
      have e5 : (!eqD (.lst ((dueS ms).map D.str)) (.lst [])) = decide ((dueS ms).length ≠ 0) := by
        cases dueS ms with
        | nil => rfl
        | cons _ _ => rfl
      rw [ag.len, e5]
      refine ⟨Nat.zero_le _, Nat.zero_le _, ?_⟩
      rw [show eqD (.bl (decide ((dueS ms).length ≠ 0))) (.bl (decide ((dueS ms).length ≠ 0))) = true by generalize decide ((dueS ms).length ≠ 0) = b; cases b <;> rfl]
      exact ⟨r', le.drop, h⟩
def spMkSt (CS : Addr) : SpX := fun ds r P _ => ∃ (q : Addr) (ms : List (Str × Str)) (pre post : Rs), ds = [.adr q] ∧ r = pre ++ dctA q (sm ms) :: post ∧ WOk ms ∧ (∀ e ∈ ms, isNm e.1 = true) ∧ ∀ a c, P (.adr a) (r ++ [insA a CS stF [.adr c], dctA c (sm (stOf ms))])
abbrev N__law_setting : List Str := ["_law_modes", "_law_setting_here", "_law_name"]
theorem sc__law_setting : FnScope N__law_setting ["_law_modes"] (defScope s__law_setting) := ⟨rfl, rfl, rfl, by decide +kernel, rfl, by decide +kernel, by decide +kernel⟩
theorem c__law_setting {CS CB CM CT : Addr} (B : Bl mg) (K_Setting : KCls K mg "Setting" CS stF) (NK_Setting : ClNK P w K mg base 3 CS "deaf" (.tup []) (spStInit CS CB CT)) (Si_Setting : ClSi P w K mg base 3 CS (spStPut CS CB CM)) (Dx : Dfn K mg "_law_setting" s__law_setting ["_law_modes"]) : Cl P w K mg base 5 "_law_setting" ["_law_modes"] (spMkSt CS) := by
  have sc := sc__law_setting
  refine cl_of Dx sc (fun ds r P' XR ⟨_, _, _, _, e, _⟩ => by rw [e]; rfl) (fun f cdv A outer s H E hr tk po => ?_)
  have hu := hr.units
  have hi := u65 hr
  have N_Setting := NK_Setting.n
  refine ⟨_, (ss_cons (s_set (i := 1) sc.nd (d_mk0 N_Setting K_Setting tk hr))
  (ss_cons (s_forD 0 (g_name (i := 2) sc.nd)
  (ss_one (s_if (b_cmp (p_ne hu) (d_dix hi (dv 0) (dv 2)) d_str)
  (ss_one (s_setit Si_Setting tk hr (dv 1) (dv 2) (d_dix hi (dv 0) (dv 2))))
  ss_nil)) po)
  (ss_one (s_ret (dv 1))))), fun ds r P' XR h => ?_⟩
  obtain ⟨q, ms, pre, post, rfl, rfl, hm, hz, h⟩ := h
  intro a
  refine ⟨[.adr a], [], rfl, rfl, Nat.zero_le _, [.adr a], .tup [], rfl, rfl, a, .tup [], [], [], pre ++ dctA q (sm ms) :: post, rfl, rfl, .tup _, fun d hd => (by cases hd), Nat.zero_le _, .inr ⟨[], [], rfl, rfl, fun z hz => (by cases hz), .inl ⟨rfl, fun c => ⟨rfl, ?_⟩⟩⟩⟩
  have hln := hm.ln
  refine ⟨q, sm ms, pre, post ++ [insA a CS stF [.adr c], dctA c (sm [])], rfl, by rw [List.append_assoc]; rfl, sm_sok hm.sok, fun od xs => ⟨fun j δ r' => (∃ x2, δ = [some (.adr q), some (.adr a), x2]) ∧ r' = (pre ++ lckA q od xs (sm ms) :: (post ++ [insA a CS stF [.adr c]])) ++ [dctA c (sm (stOf (ms.take j)))], ⟨⟨_, rfl⟩, ?_⟩, ?_, ?_, ?_⟩⟩
  · rw [List.append_assoc, List.cons_append, List.append_assoc]
    rfl
  · rintro j δ r' ⟨_, rfl⟩
    exact ⟨pre, _, by rw [List.append_assoc]; rfl⟩
  · rintro j k d δ r' hk ⟨⟨x2, rfl⟩, rfl⟩
    unfold sm at hk
    rw [List.getElem?_map] at hk
    obtain ⟨e, he, hke⟩ := Option.map_eq_some_iff.mp hk
    cases hke
    have hem := List.mem_of_getElem? he
    have hgs : sGet ms e.1 = some e.2 := sGet_of hm.nd hem
    have hdv : DctV ((pre ++ lckA q od xs (sm ms) :: (post ++ [insA a CS stF [.adr c]])) ++ [dctA c (sm (stOf (ms.take j)))]) (.adr q) (sm ms) := .inl ⟨q, rfl, .inr ⟨pre, (post ++ [insA a CS stF [.adr c]]) ++ [dctA c (sm (stOf (ms.take j)))], od, xs, by rw [List.append_assoc]; rfl⟩⟩
    have etake : stOf (ms.take (j + 1)) = stOf (ms.take j) ++ if decide (e.2 ≠ "out") = true then [e] else [] := by
      unfold stOf
      rw [List.take_add_one, he, List.filter_append]
      congr 1
      show List.filter _ [e] = _
      rw [List.filter_cons]
      rfl
    have hnin : e.1 ∉ (stOf (ms.take j)).map (·.1) := fun k => by
      obtain ⟨e2, h1, h2⟩ := List.mem_map.mp k
      obtain ⟨i, hi⟩ := List.mem_iff_getElem?.mp (List.mem_filter.mp h1).1
      have hij : i < j := by
        have := (List.getElem?_eq_some_iff.mp hi).1
        rw [List.length_take] at this
        omega
      rw [List.getElem?_take_of_lt hij] at hi
      have hil := (List.getElem?_eq_some_iff.mp hi).1
      have : i = j := (List.getElem?_inj (by rw [List.length_map]; exact hil) hm.nd).mp (by rw [List.getElem?_map, List.getElem?_map, hi, he]; exact congrArg some h2)
      omega
    have hlt : (stOf (ms.take j)).length ≤ 60 := by
      refine Nat.le_trans (List.length_filter_le _ _) ?_
      rw [List.length_take]
      omega
    refine sm_dget hdv ?_
    rw [hgs]
    refine ⟨.str e.2, rfl, Nat.zero_le _, Nat.zero_le _, ?_⟩
    rw [eqD_str]
    by_cases ho : e.2 = "out"
    · refine brf (by rw [ho]; rfl) ⟨⟨_, rfl⟩, ?_⟩
      rw [etake, if_neg (by rw [decide_eq_true_eq]; exact fun k => k ho), List.append_nil]
    · refine brt (by rw [beq_eq_false_iff_ne.mpr ho]; rfl) ?_
      refine sm_dget hdv ?_
      rw [hgs]
      refine ⟨.str e.2, rfl, ?_⟩
      have hin : insA a CS stF [.adr c] ∈ (pre ++ lckA q od xs (sm ms) :: (post ++ [insA a CS stF [.adr c]])) ++ [dctA c (sm (stOf (ms.take j)))] := List.mem_append.mpr (.inl (List.mem_append.mpr (.inr (List.mem_cons_of_mem _ (List.mem_append.mpr (.inr List.mem_cons_self))))))
      have hdc : StV CS ((pre ++ lckA q od xs (sm ms) :: (post ++ [insA a CS stF [.adr c]])) ++ [dctA c (sm (stOf (ms.take j)))]) (.adr a) (stOf (ms.take j)) := .own hin (List.mem_append.mpr (.inr List.mem_cons_self))
      refine ⟨hdc.isC, a, c, .str e.1, .str e.2, stOf (ms.take j), pre ++ lckA q od xs (sm ms) :: (post ++ [insA a CS stF [.adr c]]), [], rfl, rfl, hin, Nat.le_trans hlt (by decide), rfl, rfl, .inl ⟨e.1, e.2, rfl, rfl, hz e hem, hm.md e hem, ⟨_, rfl⟩, ?_⟩⟩
      rw [etake, if_pos (decide_eq_true ho)]
      unfold stPut
      rw [if_neg ho, mPut_new hnin]
  · rintro δ r' ⟨⟨x2, rfl⟩, rfl⟩
    refine ⟨pre, (post ++ [insA a CS stF [.adr c]]) ++ [dctA c (sm (stOf (ms.take (sm ms).length)))], by rw [List.append_assoc]; rfl, ?_⟩
    rw [sm_len, List.take_length]
    have h := h a c
    rw [show pre ++ dctA q (sm ms) :: ((post ++ [insA a CS stF [.adr c]]) ++ [dctA c (sm (stOf ms))]) = (pre ++ dctA q (sm ms) :: post) ++ [insA a CS stF [.adr c], dctA c (sm (stOf ms))] by simp]
    exact fit.of h
structure StO (l : List (Str × Str)) : Prop where
  nd : (l.map (·.1)).Nodup
  nm : ∀ e ∈ l, isNm e.1 = true
  md : ∀ e ∈ l, e.2 = "on" ∨ e.2 = "deaf"
theorem StOk.o {l : List (Str × Str)} (h : StOk l) : StO l := ⟨h.nd, h.nm, h.md⟩
theorem mPut_mem {l : List (Str × Str)} {z m : Str} {e : Str × Str} (h : e ∈ mPut l z m) : e ∈ l ∨ e = (z, m) := by
  unfold mPut at h
  split at h
  · obtain ⟨x, hx, rfl⟩ := List.mem_map.mp h
    by_cases k : x.1 = z
    · rw [if_pos k]; exact .inr (by rw [k])
    · rw [if_neg k]; exact .inl hx
  · rcases List.mem_append.mp h with h | h
    · exact .inl h
    · exact .inr (List.mem_singleton.mp h)
theorem mPut_nd {l : List (Str × Str)} (h : (l.map (·.1)).Nodup) (z m : Str) : ((mPut l z m).map (·.1)).Nodup := by
  rw [mPut_keys]
  split
  · exact h
  · rename_i k
    exact List.nodup_append.mpr ⟨h, by simp, fun a ha b hb e => k (by rw [List.mem_singleton.mp hb] at e; rw [← e]; exact ha)⟩
theorem StO.put {l : List (Str × Str)} (h : StO l) {z m : Str} (hz : isNm z = true) (hm : m = "on" ∨ m = "deaf") : StO (mPut l z m) :=
  ⟨mPut_nd h.nd _ _, fun e he => (mPut_mem he).elim (h.nm e) fun k => by rw [k]; exact hz, fun e he => (mPut_mem he).elim (h.md e) fun k => by rw [k]; exact hm⟩
theorem StO.drop {l : List (Str × Str)} (h : StO l) (z : Str) : StO (mDrop l z) :=
  ⟨by rw [mDrop_keys]; exact h.nd.filter _, fun e he => h.nm e (List.mem_filter.mp he).1, fun e he => h.md e (List.mem_filter.mp he).1⟩
theorem mdAt_out {l : List (Str × Str)} {z : Str} (h : z ∉ l.map (·.1)) : mdAt l z = "out" := by
  have : mdAt l z = (sGet l z).getD "out" := rfl
  rw [this, sGet_none.mpr h]
  rfl
theorem StO.get {l : List (Str × Str)} (h : StO l) (z : Str) : sGet l z = if mdAt l z = "out" then none else some (mdAt l z) := by
  have e : mdAt l z = (sGet l z).getD "out" := rfl
  cases hg : sGet l z with
  | none => rw [if_pos (by rw [e, hg]; rfl)]
  | some m =>
    have e2 : mdAt l z = m := by rw [e, hg]; rfl
    have := h.md _ (sGet_mem hg)
    rw [e2, if_neg fun k => by subst k; rcases this with q | q <;> exact absurd (show ("out" : Str) = _ from q) (by decide)]
theorem StO.agr {l ms : List (Str × Str)} (h : StO l) (hm : WOk ms) (at_ : ∀ z, mdAt l z = mdAt ms z) : Agr l ms := by
  have hp : (l.map (·.1)).Perm ((ms.map (·.1)).filter fun z => decide (mdAt ms z ≠ "out")) := by
    refine (List.perm_ext_iff_of_nodup h.nd (hm.nd.filter _)).mpr fun z => ?_
    rw [List.mem_filter, decide_eq_true_eq, ← at_]
    have h1 : z ∈ l.map (·.1) ↔ mdAt l z ≠ "out" := by
      have g := h.get z
      by_cases q : mdAt l z = "out"
      · rw [if_pos q] at g
        exact ⟨fun k => absurd k (sGet_none.mp g), fun k => absurd q k⟩
      · rw [if_neg q] at g
        exact ⟨fun _ => q, fun _ => List.mem_map.mpr ⟨_, sGet_mem g, rfl⟩⟩
    rw [h1]
    refine ⟨fun k => ⟨?_, k⟩, fun k => k.2⟩
    rw [at_] at k
    exact Classical.byContradiction fun q => k (mdAt_out q)
  refine ⟨⟨h.nd, h.nm, h.md, ?_⟩, hm, at_⟩
  have e := hp.length_eq
  have e2 := List.length_filter_le (fun z => decide (mdAt ms z ≠ "out")) (ms.map (·.1))
  rw [List.length_map] at e e2
  have := hm.ln
  omega
theorem Agr.of {ms : List (Str × Str)} (h : WOk ms) : Agr (stOf ms) ms := by
  refine StO.agr ⟨?_, fun e he => h.nm e (List.mem_filter.mp he).1, fun e he => ?_⟩ h fun z => ?_
  · exact List.Nodup.sublist (List.Sublist.map _ List.filter_sublist) h.nd
  · have h1 := h.md e (List.mem_filter.mp he).1
    have h2 := of_decide_eq_true (List.mem_filter.mp he).2
    rcases List.mem_cons.mp h1 with k | k
    · exact absurd k h2
    rcases List.mem_cons.mp k with k | k
    · exact .inr k
    · exact .inl (List.mem_singleton.mp k)
  · have e1 : mdAt ms z = (sGet ms z).getD "out" := rfl
    cases hg : sGet ms z with
    | none =>
      rw [e1, hg]
      refine mdAt_out fun k => ?_
      obtain ⟨e, he, rfl⟩ := List.mem_map.mp k
      exact sGet_none.mp hg (List.mem_map.mpr ⟨e, (List.mem_filter.mp he).1, rfl⟩)
    | some m =>
      rw [e1, hg]
      have hmem := sGet_mem hg
      by_cases ho : m = "out"
      · rw [ho]
        refine mdAt_out fun k => ?_
        obtain ⟨e, he, hez⟩ := List.mem_map.mp k
        have h2 := sGet_of h.nd (show (e.1, e.2) ∈ ms from (List.mem_filter.mp he).1)
        rw [hez, hg] at h2
        have h3 := of_decide_eq_true (List.mem_filter.mp he).2
        rw [← Option.some.inj h2] at h3
        exact h3 ho
      · have e2 : mdAt (stOf ms) z = (sGet (stOf ms) z).getD "out" := rfl
        have e3 : sGet (stOf ms) z = some m := sGet_of (l := stOf ms) (List.Nodup.sublist (List.Sublist.map _ List.filter_sublist) h.nd) (List.mem_filter.mpr ⟨hmem, decide_eq_true ho⟩)
        rw [e2, e3]
theorem sGet_mdAt {l : List (Str × Str)} {z : Str} (h : z ∈ l.map (·.1)) : sGet l z = some (mdAt l z) := by
  have e : mdAt l z = (sGet l z).getD "out" := rfl
  cases hg : sGet l z with
  | none => exact absurd h (sGet_none.mp hg)
  | some m => rw [e, hg]; rfl
theorem nd_len : ∀ {l zs : List Str}, l.Nodup → (∀ z ∈ l, z ∈ zs) → l.length ≤ zs.length
  | [], _, _, _ => Nat.zero_le _
  | a :: l, zs, h, k => by
    have ha := k a List.mem_cons_self
    have h2 := List.nodup_cons.mp h
    have ih := nd_len (zs := zs.erase a) h2.2 fun z hz => (List.mem_erase_of_ne fun e => h2.1 (show a ∈ l by rw [← e]; exact hz)).mpr (k z (List.mem_cons_of_mem _ hz))
    rw [List.length_erase_of_mem ha] at ih
    have : 0 < zs.length := List.length_pos_of_mem ha
    rw [List.length_cons]
    omega
def greS (x y : Str) : Str := if rankS x > rankS y then x else y
def lesS (x y : Str) : Str := if rankS x > rankS y then y else x
def spGre : SpX := fun ds r P _ => ∃ x y, ds = [.str x, .str y] ∧ x ∈ modesL ∧ y ∈ modesL ∧ P (.str (greS x y)) r
def spLes : SpX := fun ds r P _ => ∃ x y, ds = [.str x, .str y] ∧ x ∈ modesL ∧ y ∈ modesL ∧ P (.str (lesS x y)) r
abbrev N_greater_mode : List Str := ["one", "other"]
theorem sc_greater_mode : FnScope N_greater_mode ["one", "other"] (defScope s_greater_mode) := ⟨rfl, rfl, rfl, by decide +kernel, rfl, by decide +kernel, by decide +kernel⟩
theorem c_greater_mode (C_rank : Cl P w K mg base 1 "rank" ["mode"] spRank) (Dx : Dfn K mg "greater_mode" s_greater_mode ["one", "other"]) : Cl P w K mg base 2 "greater_mode" ["one", "other"] spGre := by
  have sc := sc_greater_mode
  refine cl_of Dx sc (fun ds r P' XR ⟨_, _, e, _⟩ => by rw [e]; rfl) (fun f cdv A outer s H E hr tk po => ?_)
  have hu := hr.units
  have hi := u65 hr
  refine ⟨_, (ss_one (s_ret (d_if (b_cmp p_gt (d_fn C_rank tk hr (dl_cons (dv 0) dl_nil)) (d_fn C_rank tk hr (dl_cons (dv 1) dl_nil))) (dv 0) (dv 1)))), fun ds r P' XR h => ?_⟩
  obtain ⟨x, y, rfl, hx, hy, h⟩ := h
  refine ⟨x, rfl, hx, y, rfl, hy, ?_⟩
  unfold greS at h
  by_cases k : rankS x > rankS y
  · rw [if_pos k] at h
    exact brt (decide_eq_true k) (fit.of h)
  · rw [if_neg k] at h
    exact brf (decide_eq_false k) (fit.of h)
abbrev N_lesser_mode : List Str := ["one", "other"]
theorem sc_lesser_mode : FnScope N_lesser_mode ["one", "other"] (defScope s_lesser_mode) := ⟨rfl, rfl, rfl, by decide +kernel, rfl, by decide +kernel, by decide +kernel⟩
theorem c_lesser_mode (C_rank : Cl P w K mg base 1 "rank" ["mode"] spRank) (Dx : Dfn K mg "lesser_mode" s_lesser_mode ["one", "other"]) : Cl P w K mg base 2 "lesser_mode" ["one", "other"] spLes := by
  have sc := sc_lesser_mode
  refine cl_of Dx sc (fun ds r P' XR ⟨_, _, e, _⟩ => by rw [e]; rfl) (fun f cdv A outer s H E hr tk po => ?_)
  have hu := hr.units
  have hi := u65 hr
  refine ⟨_, (ss_one (s_ret (d_if (b_cmp p_gt (d_fn C_rank tk hr (dl_cons (dv 0) dl_nil)) (d_fn C_rank tk hr (dl_cons (dv 1) dl_nil))) (dv 1) (dv 0)))), fun ds r P' XR h => ?_⟩
  obtain ⟨x, y, rfl, hx, hy, h⟩ := h
  refine ⟨x, rfl, hx, y, rfl, hy, ?_⟩
  unfold lesS at h
  by_cases k : rankS x > rankS y
  · rw [if_pos k] at h
    exact brt (decide_eq_true k) (fit.of h)
  · rw [if_neg k] at h
    exact brf (decide_eq_false k) (fit.of h)
/-- a dict that is being filled: of the names of ns that c takes, z's is g z -/
structure Pa (c : Str → Bool) (g : Str → Str) (ns : List Str) (i : Nat) (X : List (Str × Str)) : Prop where
  nd : (X.map (·.1)).Nodup
  mm : ∀ e ∈ X, e.1 ∈ ns ∧ c e.1 = true ∧ e.2 = g e.1
  al : ∀ z ∈ ns.take i, c z = true → z ∈ X.map (·.1)
theorem Pa.nil {c : Str → Bool} {g : Str → Str} {ns : List Str} : Pa c g ns 0 [] := ⟨List.nodup_nil, fun _ h => (by cases h), fun z h => (by rw [List.take_zero] at h; cases h)⟩
theorem Pa.put {c : Str → Bool} {g : Str → Str} {ns : List Str} {i : Nat} {X : List (Str × Str)} {z : Str} (h : Pa c g ns i X) (hz : ns[i]? = some z) (hc : c z = true) : Pa c g ns (i + 1) (mPut X z (g z)) := by
  refine ⟨mPut_nd h.nd _ _, fun e he => ?_, fun y hy hcy => ?_⟩
  · rcases mPut_mem he with k | k
    · exact h.mm e k
    · rw [k]; exact ⟨List.mem_of_getElem? hz, hc, rfl⟩
  · rw [mPut_keys]
    rw [List.take_add_one, hz] at hy
    rcases List.mem_append.mp hy with k | k
    · split
      · exact h.al y k hcy
      · exact List.mem_append.mpr (.inl (h.al y k hcy))
    · rw [List.mem_singleton.mp k]
      split
      · assumption
      · exact List.mem_append.mpr (.inr List.mem_cons_self)
theorem Pa.skip {c : Str → Bool} {g : Str → Str} {ns : List Str} {i : Nat} {X : List (Str × Str)} {z : Str} (h : Pa c g ns i X) (hz : ns[i]? = some z) (hc : c z = false) : Pa c g ns (i + 1) X := by
  refine ⟨h.nd, h.mm, fun y hy hcy => ?_⟩
  rw [List.take_add_one, hz] at hy
  rcases List.mem_append.mp hy with k | k
  · exact h.al y k hcy
  · rw [List.mem_singleton.mp k, hc] at hcy
    cases hcy
theorem Pa.at_ {c : Str → Bool} {g : Str → Str} {ns : List Str} {X : List (Str × Str)} (h : Pa c g ns ns.length X) (y : Str) : mdAt X y = if y ∈ ns ∧ c y = true then g y else ("out" : Str) := by
  by_cases k : y ∈ ns ∧ c y = true
  · rw [if_pos k]
    have hm := h.al y (by rw [List.take_length]; exact k.1) k.2
    obtain ⟨e, he, rfl⟩ := List.mem_map.mp hm
    have : mdAt X e.1 = (sGet X e.1).getD "out" := rfl
    rw [this, sGet_of h.nd he]
    exact (h.mm e he).2.2
  · rw [if_neg k]
    refine mdAt_out fun q => k ?_
    obtain ⟨e, he, rfl⟩ := List.mem_map.mp q
    exact ⟨(h.mm e he).1, (h.mm e he).2.1⟩
/-- both settings' names are among at most sixty -/
def Few (l lo : List (Str × Str)) : Prop := ∃ zs : List Str, zs.length ≤ 60 ∧ (∀ e ∈ l, e.1 ∈ zs) ∧ ∀ e ∈ lo, e.1 ∈ zs
theorem Pa.ln {c : Str → Bool} {g : Str → Str} {ns zs : List Str} {i : Nat} {X : List (Str × Str)} (h : Pa c g ns i X) (hn : ∀ z ∈ ns, z ∈ zs) : X.length ≤ zs.length := by
  have := nd_len h.nd fun z hz => by
    obtain ⟨e, he, rfl⟩ := List.mem_map.mp hz
    exact hn _ (h.mm e he).1
  rw [List.length_map] at this
  exact this
theorem greS_mem {x y : Str} (hx : x ∈ modesL) (hy : y ∈ modesL) : greS x y ∈ modesL := by
  unfold greS
  split <;> assumption
theorem lesS_mem {x y : Str} (hx : x ∈ modesL) (hy : y ∈ modesL) : lesS x y ∈ modesL := by
  unfold lesS
  split <;> assumption
def spStOp (CS : Addr) (f : Str → Str → Str) : SpX := fun ds r P _ => ∃ (s o : D) (l lo : List (Str × Str)), ds = [s, o] ∧ StV CS r s l ∧ StV CS r o lo ∧ StOk l ∧ StOk lo ∧ Few l lo ∧ ∀ a c l', StOk l' → (∀ z, mdAt l' z = f (mdAt l z) (mdAt lo z)) → P (.adr a) (r ++ [insA a CS stF [.adr c], dctA c (sm l')])
abbrev N_Setting___or__ : List Str := ["self", "other", "names", "name"]
theorem sc_Setting___or__ : FnScope N_Setting___or__ ["self", "other"] (defScope s_Setting___or__) := ⟨rfl, rfl, rfl, by decide +kernel, rfl, by decide +kernel, by decide +kernel⟩
theorem c_Setting_or {CS CB : Addr} (B : Bl mg) (K_Setting : KCls K mg "Setting" CS stF) (C_greater_mode : Cl P w K mg base 2 "greater_mode" ["one", "other"] spGre) (C_setting_with : Cl P w K mg base 5 "setting_with" ["modes"] (spStWith CS)) (I_Setting : ClG P w K mg base 3 CS "__getitem__" (spStGet CS CB)) (Dx : DfOp K CS "__or__" "Setting.__or__" s_Setting___or__ ["self", "other"]) : ClOp P w K mg base 6 CS "__or__" (spStOp CS greS) := by
  have sc := sc_Setting___or__
  refine clop_of Dx sc (fun ds r P' XR ⟨_, _, _, _, e, _⟩ => by rw [e]; rfl) (fun f cdv A outer s H E hr tk po => ?_)
  have hu := hr.units
  have hi := u65 hr
  refine ⟨_, (ss_cons (s_set (i := 2) sc.nd (d_bin p_add (d_ty2 c_listDc (by rfl) B.list (dl_cons (d_fld (dv 0)) dl_nil)) (d_ty2 c_listDc (by rfl) B.list (dl_cons (d_fld (dv 1)) dl_nil))))
  (ss_one (s_ret (d_fn C_setting_with tk hr (dl_cons (d_dc (js := [3]) (own := [("name", 3)]) sc.nd (i_list (dv 2)) (blkOk_by (own := [("name", 3)]) (N := N_Setting___or__) (sc := defScope s_Setting___or__) (by decide +kernel)) (fun _ _ _ _ _ => (g_name (i := 3) sc.nd)) (fun _ _ _ _ _ => pts_no) (fun _ _ _ _ _ => (dv 3)) (fun _ _ _ _ _ => (d_fnN C_greater_mode hr (dl_cons (d_gixN I_Setting hr (dv 0) (dv 3)) (dl_cons (d_gixN I_Setting hr (dv 1) (dv 3)) dl_nil))))) dl_nil))))), fun ds r P' XR h => ?_⟩
  obtain ⟨s, o, l, lo, rfl, hs, ho, hl, hlo, ⟨zs, hzs, hz1, hz2⟩, h⟩ := h
  have hln := hl.ln
  have hlon := hlo.ln
  refine hs.fld fun cd hcd => ⟨cd, sm l, rfl, hcd, sm_sok hl.sok, ho.fld fun cd2 hcd2 => ⟨cd2, sm lo, rfl, hcd2, sm_sok hlo.sok, ?_⟩⟩
  rw [sm_keys, sm_keys]
  refine ⟨by unfold small; rw [List.length_map, List.length_map, List.length_map, List.length_map]; have := sizeLine_eq; omega, ?_⟩
  rw [← List.map_append]
  obtain ⟨ns, hns⟩ : ∃ ns, ns = l.map (·.1) ++ lo.map (·.1) := ⟨_, rfl⟩
  rw [← hns]
  have hnz : ∀ z ∈ ns, z ∈ zs ∧ isNm z = true := fun z hz => by
    rw [hns] at hz
    rcases List.mem_append.mp hz with k | k
    · obtain ⟨e, he, rfl⟩ := List.mem_map.mp k
      exact ⟨hz1 e he, hl.nm e he⟩
    · obtain ⟨e, he, rfl⟩ := List.mem_map.mp k
      exact ⟨hz2 e he, hlo.nm e he⟩
  refine ⟨fun i acc r' => r' = r ∧ ∃ X, acc = sm X ∧ Pa (fun _ => true) (fun z => greS (mdAt l z) (mdAt lo z)) ns i X, ⟨rfl, [], rfl, .nil⟩, ?_, ?_⟩
  · rintro p i d acc r' hd ⟨rfl, X, rfl, hX⟩
    rw [List.getElem?_map] at hd
    obtain ⟨z, hzi, rfl⟩ := Option.map_eq_some_iff.mp hd
    have hzn := (hnz z (List.mem_of_getElem? hzi)).2
    have hs2 : StV CS (r' ++ [dctA p (sm X)]) s l := hs.mono fun t ht => List.mem_append.mpr (.inl ht)
    have ho2 : StV CS (r' ++ [dctA p (sm X)]) o lo := ho.mono fun t ht => List.mem_append.mpr (.inl ht)
    have hXl := hX.ln (zs := zs) fun z hz => (hnz z hz).1
    refine brT ⟨hs2.isC, s, .str z, l, rfl, hs2, rfl, .inl ⟨z, rfl, hzn, ho2.isC, o, .str z, lo, rfl, ho2, rfl, .inl ⟨z, rfl, hzn, ?_⟩⟩⟩
    refine ⟨_, _, rfl, mdAt_in hl.wok z, mdAt_in hlo.wok z, ?_⟩
    refine ⟨.inr z, rfl, by unfold small; rw [sm_len]; have := sizeLine_eq; omega, r', rfl, rfl, mPut X z (greS (mdAt l z) (mdAt lo z)), sm_put _ _ _, hX.put hzi rfl⟩
  · rintro p acc r' ⟨rfl, X, rfl, hX⟩
    rw [List.length_map] at hX
    have hXl := hX.ln (zs := zs) fun z hz => (hnz z hz).1
    have hw : WOk X := ⟨hX.nd, fun e he => (hnz _ (hX.mm e he).1).2, fun e he => by rw [(hX.mm e he).2.2]; exact greS_mem (mdAt_in hl.wok _) (mdAt_in hlo.wok _), by omega⟩
    refine ⟨.adr p, X, rfl, .own (List.mem_append.mpr (.inr List.mem_cons_self)), hw, fun a c => ?_⟩
    refine ⟨_, le.part (t := [dctA p (sm X)]) ?_, h a c (norm X) (norm_ok hw) fun z => ?_⟩
    · rw [List.append_assoc, List.append_assoc]
      exact .append_left _ List.perm_append_comm
    · rw [norm_at hw, hX.at_]
      by_cases k : z ∈ ns
      · rw [if_pos ⟨k, rfl⟩]
      · rw [if_neg fun q => k q.1]
        rw [hns] at k
        rw [mdAt_out (l := l) fun q => k (List.mem_append.mpr (.inl q)), mdAt_out (l := lo) fun q => k (List.mem_append.mpr (.inr q))]
        rfl
abbrev N_Setting___and__ : List Str := ["self", "other", "names", "name"]
theorem sc_Setting___and__ : FnScope N_Setting___and__ ["self", "other"] (defScope s_Setting___and__) := ⟨rfl, rfl, rfl, by decide +kernel, rfl, by decide +kernel, by decide +kernel⟩
theorem c_Setting_and {CS CB : Addr} (B : Bl mg) (K_Setting : KCls K mg "Setting" CS stF) (C_lesser_mode : Cl P w K mg base 2 "lesser_mode" ["one", "other"] spLes) (C_setting_with : Cl P w K mg base 5 "setting_with" ["modes"] (spStWith CS)) (I_Setting : ClG P w K mg base 3 CS "__getitem__" (spStGet CS CB)) (Dx : DfOp K CS "__and__" "Setting.__and__" s_Setting___and__ ["self", "other"]) : ClOp P w K mg base 6 CS "__and__" (spStOp CS lesS) := by
  have sc := sc_Setting___and__
  refine clop_of Dx sc (fun ds r P' XR ⟨_, _, _, _, e, _⟩ => by rw [e]; rfl) (fun f cdv A outer s H E hr tk po => ?_)
  have hu := hr.units
  have hi := u65 hr
  refine ⟨_, (ss_cons (s_set (i := 2) sc.nd (d_ty2 c_listDc (by rfl) B.list (dl_cons (d_fld (dv 0)) dl_nil)))
  (ss_one (s_ret (d_fn C_setting_with tk hr (dl_cons (d_dc (js := [3]) (own := [("name", 3)]) sc.nd (i_list (dv 2)) (blkOk_by (own := [("name", 3)]) (N := N_Setting___and__) (sc := defScope s_Setting___and__) (by decide +kernel)) (fun _ _ _ _ _ => (g_name (i := 3) sc.nd)) (fun _ _ _ _ _ => pts_no) (fun _ _ _ _ _ => (dv 3)) (fun _ _ _ _ _ => (d_fnN C_lesser_mode hr (dl_cons (d_gixN I_Setting hr (dv 0) (dv 3)) (dl_cons (d_gixN I_Setting hr (dv 1) (dv 3)) dl_nil))))) dl_nil))))), fun ds r P' XR h => ?_⟩
  obtain ⟨s, o, l, lo, rfl, hs, ho, hl, hlo, ⟨zs, hzs, hz1, hz2⟩, h⟩ := h
  have hln := hl.ln
  refine hs.fld fun cd hcd => ⟨cd, sm l, rfl, hcd, sm_sok hl.sok, ?_⟩
  rw [sm_keys]
  obtain ⟨ns, hns⟩ : ∃ ns, ns = l.map (·.1) := ⟨_, rfl⟩
  rw [← hns]
  have hnz : ∀ z ∈ ns, z ∈ zs ∧ isNm z = true := fun z hz => by
    rw [hns] at hz
    obtain ⟨e, he, rfl⟩ := List.mem_map.mp hz
    exact ⟨hz1 e he, hl.nm e he⟩
  refine ⟨fun i acc r' => r' = r ∧ ∃ X, acc = sm X ∧ Pa (fun _ => true) (fun z => lesS (mdAt l z) (mdAt lo z)) ns i X, ⟨rfl, [], rfl, .nil⟩, ?_, ?_⟩
  · rintro p i d acc r' hd ⟨rfl, X, rfl, hX⟩
    rw [List.getElem?_map] at hd
    obtain ⟨z, hzi, rfl⟩ := Option.map_eq_some_iff.mp hd
    have hzn := (hnz z (List.mem_of_getElem? hzi)).2
    have hs2 : StV CS (r' ++ [dctA p (sm X)]) s l := hs.mono fun t ht => List.mem_append.mpr (.inl ht)
    have ho2 : StV CS (r' ++ [dctA p (sm X)]) o lo := ho.mono fun t ht => List.mem_append.mpr (.inl ht)
    have hXl := hX.ln (zs := zs) fun z hz => (hnz z hz).1
    refine brT ⟨hs2.isC, s, .str z, l, rfl, hs2, rfl, .inl ⟨z, rfl, hzn, ho2.isC, o, .str z, lo, rfl, ho2, rfl, .inl ⟨z, rfl, hzn, ?_⟩⟩⟩
    refine ⟨_, _, rfl, mdAt_in hl.wok z, mdAt_in hlo.wok z, ?_⟩
    refine ⟨.inr z, rfl, by unfold small; rw [sm_len]; have := sizeLine_eq; omega, r', rfl, rfl, mPut X z (lesS (mdAt l z) (mdAt lo z)), sm_put _ _ _, hX.put hzi rfl⟩
  · rintro p acc r' ⟨rfl, X, rfl, hX⟩
    rw [List.length_map] at hX
    have hXl := hX.ln (zs := zs) fun z hz => (hnz z hz).1
    have hw : WOk X := ⟨hX.nd, fun e he => (hnz _ (hX.mm e he).1).2, fun e he => by rw [(hX.mm e he).2.2]; exact lesS_mem (mdAt_in hl.wok _) (mdAt_in hlo.wok _), by omega⟩
    refine ⟨.adr p, X, rfl, .own (List.mem_append.mpr (.inr List.mem_cons_self)), hw, fun a c => ?_⟩
    refine ⟨_, le.part (t := [dctA p (sm X)]) ?_, h a c (norm X) (norm_ok hw) fun z => ?_⟩
    · rw [List.append_assoc, List.append_assoc]
      exact .append_left _ List.perm_append_comm
    · rw [norm_at hw, hX.at_]
      by_cases k : z ∈ ns
      · rw [if_pos ⟨k, rfl⟩]
      · rw [if_neg fun q => k q.1]
        rw [hns] at k
        rw [mdAt_out (l := l) k]
        unfold lesS
        rw [if_neg]
        have : 0 ≤ rankS (mdAt lo z) := by
          unfold rankS
          split
          · decide
          · split <;> decide
        show ¬ (0 > rankS (mdAt lo z))
        omega
def subM (x y : Str) : Str := if y = "out" then x else "out"
abbrev N_Setting___sub__ : List Str := ["self", "other", "name"]
theorem sc_Setting___sub__ : FnScope N_Setting___sub__ ["self", "other"] (defScope s_Setting___sub__) := ⟨rfl, rfl, rfl, by decide +kernel, rfl, by decide +kernel, by decide +kernel⟩
theorem c_Setting_sub {CS : Addr} (B : Bl mg) (K_Setting : KCls K mg "Setting" CS stF) (C_setting_with : Cl P w K mg base 5 "setting_with" ["modes"] (spStWith CS)) (Dx : DfOp K CS "__sub__" "Setting.__sub__" s_Setting___sub__ ["self", "other"]) : ClOp P w K mg base 6 CS "__sub__" (spStOp CS subM) := by
  have sc := sc_Setting___sub__
  refine clop_of Dx sc (fun ds r P' XR ⟨_, _, _, _, e, _⟩ => by rw [e]; rfl) (fun f cdv A outer s H E hr tk po => ?_)
  have hu := hr.units
  have hi := u65 hr
  refine ⟨_, (ss_one (s_ret (d_fn C_setting_with tk hr (dl_cons (d_dc (js := [2]) (own := [("name", 2)]) sc.nd (i_list (d_ty2 c_listDc (by rfl) B.list (dl_cons (d_fld (dv 0)) dl_nil))) (blkOk_by (own := [("name", 2)]) (N := N_Setting___sub__) (sc := defScope s_Setting___sub__) (by decide +kernel)) (fun _ _ _ _ _ => (g_name (i := 2) sc.nd)) (fun _ _ _ _ _ => (pts_1 (b_cmpO (p_dnin hi) (dv 2) (d_fld (dv 1))))) (fun _ _ _ _ _ => (dv 2)) (fun _ _ _ _ _ => (d_dix hi (d_fld (dv 0)) (dv 2)))) dl_nil)))), fun ds r P' XR h => ?_⟩
  obtain ⟨s, o, l, lo, rfl, hs, ho, hl, hlo, ⟨zs, hzs, hz1, hz2⟩, h⟩ := h
  have hln := hl.ln
  refine hs.fld fun cd hcd => ⟨cd, sm l, rfl, hcd, sm_sok hl.sok, ?_⟩
  rw [sm_keys]
  obtain ⟨ns, hns⟩ : ∃ ns, ns = l.map (·.1) := ⟨_, rfl⟩
  rw [← hns]
  have hnz : ∀ z ∈ ns, z ∈ zs ∧ isNm z = true := fun z hz => by
    rw [hns] at hz
    obtain ⟨e, he, rfl⟩ := List.mem_map.mp hz
    exact ⟨hz1 e he, hl.nm e he⟩
  refine ⟨fun i acc r' => r' = r ∧ ∃ X, acc = sm X ∧ Pa (fun z => decide (mdAt lo z = "out")) (fun z => mdAt l z) ns i X, ⟨rfl, [], rfl, .nil⟩, ?_, ?_⟩
  · rintro p i d acc r' hd ⟨rfl, X, rfl, hX⟩
    rw [List.getElem?_map] at hd
    obtain ⟨z, hzi, rfl⟩ := Option.map_eq_some_iff.mp hd
    have hzm := List.mem_of_getElem? hzi
    have hs2 : StV CS (r' ++ [dctA p (sm X)]) s l := hs.mono fun t ht => List.mem_append.mpr (.inl ht)
    have ho2 : StV CS (r' ++ [dctA p (sm X)]) o lo := ho.mono fun t ht => List.mem_append.mpr (.inl ht)
    have hXl := hX.ln (zs := zs) fun z hz => (hnz z hz).1
    refine ho2.fld fun cd2 hcd2 => ⟨sm_dget hcd2 ?_⟩
    rw [hlo.o.get z]
    by_cases q : mdAt lo z = "out"
    · rw [if_pos q]
      refine brt rfl (hs2.fld fun cd3 h3 => sm_dget h3 ?_)
      rw [sGet_mdAt (by rw [← hns]; exact hzm)]
      exact ⟨.str (mdAt l z), rfl, .inr z, rfl, by unfold small; rw [sm_len]; have := sizeLine_eq; omega, r', rfl, rfl, mPut X z (mdAt l z), sm_put _ _ _, hX.put hzi (decide_eq_true q)⟩
    · rw [if_neg q]
      exact brf rfl ⟨r', rfl, rfl, X, rfl, hX.skip hzi (decide_eq_false q)⟩
  · rintro p acc r' ⟨rfl, X, rfl, hX⟩
    rw [List.length_map] at hX
    have hXl := hX.ln (zs := zs) fun z hz => (hnz z hz).1
    have hw : WOk X := ⟨hX.nd, fun e he => (hnz _ (hX.mm e he).1).2, fun e he => by rw [(hX.mm e he).2.2]; exact mdAt_in hl.wok _, by omega⟩
    refine ⟨.adr p, X, rfl, .own (List.mem_append.mpr (.inr List.mem_cons_self)), hw, fun a c => ?_⟩
    refine ⟨_, le.part (t := [dctA p (sm X)]) ?_, h a c (norm X) (norm_ok hw) fun z => ?_⟩
    · rw [List.append_assoc, List.append_assoc]
      exact .append_left _ List.perm_append_comm
    · rw [norm_at hw, hX.at_]
      unfold subM
      by_cases k : z ∈ ns
      · by_cases q : mdAt lo z = "out"
        · rw [if_pos ⟨k, decide_eq_true q⟩, if_pos q]
        · rw [if_neg fun y => q (of_decide_eq_true y.2), if_neg q]
      · rw [if_neg fun q => k q.1]
        rw [hns] at k
        rw [mdAt_out (l := l) k]
        split <;> rfl
def spStWin (CS : Addr) : SpX := fun ds r P _ => ∃ (s o : D) (l lo : List (Str × Str)), ds = [s, o] ∧ StV CS r s l ∧ StV CS r o lo ∧ StOk l ∧ StOk lo ∧ P (.bl ((l.map (·.1)).all fun z => decide (rankS (mdAt l z) ≤ rankS (mdAt lo z)))) r
abbrev N_Setting_is_within : List Str := ["self", "other", "name"]
theorem sc_Setting_is_within : FnScope N_Setting_is_within ["self", "other"] (defScope s_Setting_is_within) := ⟨rfl, rfl, rfl, by decide +kernel, rfl, by decide +kernel, by decide +kernel⟩
theorem c_Setting_within {CS CB : Addr} (B : Bl mg) (K_Setting : KCls K mg "Setting" CS stF) (C_rank : Cl P w K mg base 1 "rank" ["mode"] spRank) (I_Setting : ClG P w K mg base 3 CS "__getitem__" (spStGet CS CB)) (Dx : DfM K CS "is_within" "Setting.is_within" s_Setting_is_within ["self", "other"]) : ClM P w K mg base 5 CS "is_within" (spStWin CS) := by
  have sc := sc_Setting_is_within
  refine clm_of Dx sc (fun ds r P' XR ⟨_, _, _, _, e, _⟩ => by rw [e]; rfl) (fun f cdv A outer s H E hr tk po => ?_)
  have hu := hr.units
  have hi := u65 hr
  refine ⟨_, (ss_one (s_ret (d_blt c_all (by rfl) B.all (dl_cons (d_lc (js := [2]) (own := [("name", 2)]) sc.nd (i_list (d_ty2 c_listDc (by rfl) B.list (dl_cons (d_fld (dv 0)) dl_nil))) (blkOk_by (own := [("name", 2)]) (N := N_Setting_is_within) (sc := defScope s_Setting_is_within) (by decide +kernel)) (fun _ _ _ _ _ => (g_name (i := 2) sc.nd)) (fun _ _ _ _ _ => pts_no) (fun _ _ _ _ _ => (d_cmp p_le (d_fnN C_rank hr (dl_cons (d_dix hi (d_fld (dv 0)) (dv 2)) dl_nil)) (d_fnN C_rank hr (dl_cons (d_gixN I_Setting hr (dv 1) (dv 2)) dl_nil))))) dl_nil)))), fun ds r P' XR h => ?_⟩
  obtain ⟨s, o, l, lo, rfl, hs, ho, hl, hlo, h⟩ := h
  refine hs.fld fun cd hcd => ⟨cd, sm l, rfl, hcd, sm_sok hl.sok, ?_⟩
  rw [sm_keys]
  refine lc_mapR (fun d => match d with | .str z => .bl (decide (rankS (mdAt l z) ≤ rankS (mdAt lo z))) | _ => .non) (by unfold small; rw [List.length_map, List.length_map]; have := hl.ln; have := sizeLine_eq; omega) (fun d hd p acc P2 hP => ?_) ?_
  · obtain ⟨z, hzm, rfl⟩ := List.mem_map.mp hd
    obtain ⟨e, he, rfl⟩ := List.mem_map.mp hzm
    have hs2 : StV CS (r ++ [lstA p acc]) s l := hs.mono fun t ht => List.mem_append.mpr (.inl ht)
    have ho2 : StV CS (r ++ [lstA p acc]) o lo := ho.mono fun t ht => List.mem_append.mpr (.inl ht)
    refine hs2.fld fun cd2 hcd2 => sm_dget hcd2 ?_
    rw [sGet_mdAt hzm]
    exact ⟨.str (mdAt l e.1), rfl, _, rfl, mdAt_in hl.wok _, ho2.isC, o, .str e.1, lo, rfl, ho2, rfl, .inl ⟨e.1, rfl, hl.nm e he, _, rfl, mdAt_in hlo.wok _, hP⟩⟩
  · have eb : ∀ zs : List Str, bls ((zs.map D.str).map fun d => match d with | .str z => D.bl (decide (rankS (mdAt l z) ≤ rankS (mdAt lo z))) | _ => .non) = some (zs.map fun z => decide (rankS (mdAt l z) ≤ rankS (mdAt lo z))) := fun zs => by
      rw [List.map_map]
      exact bls_of (fun z => decide (rankS (mdAt l z) ≤ rankS (mdAt lo z))) zs
    refine ⟨?_⟩
    show (match bls _ with | some bs => _ | none => False)
    rw [eb]
    have e2 : ((l.map (·.1)).map fun z => decide (rankS (mdAt l z) ≤ rankS (mdAt lo z))).all id = (l.map (·.1)).all fun z => decide (rankS (mdAt l z) ≤ rankS (mdAt lo z)) := by rw [List.all_map]; rfl
    rw [← e2] at h
    exact fit.of h
def spStXor (CS : Addr) : SpX := fun ds r P _ => ∃ (s o : D) (l lo : List (Str × Str)) (zs : List Str), ds = [s, o] ∧ StV CS r s l ∧ StV CS r o lo ∧ StOk l ∧ StOk lo ∧ Few l lo ∧ zs.Nodup ∧ (∀ z, z ∈ zs ↔ mdAt l z ≠ mdAt lo z) ∧ P (.lst ((srt zs).map .str)) r
theorem addL_in {k z : Str} {l : List Str} : z ∈ SXN.addL k l ↔ z = k ∨ z ∈ l := by
  unfold SXN.addL
  split
  · exact ⟨.inr, fun h => h.elim (fun e => e ▸ (by assumption)) id⟩
  · exact List.mem_cons
theorem addL_nd {k : Str} {l : List Str} (h : l.Nodup) : (SXN.addL k l).Nodup := by
  unfold SXN.addL
  split
  · exact h
  · exact List.nodup_cons.mpr ⟨by assumption, h⟩
abbrev N_Setting___xor__ : List Str := ["self", "other", "names", "name"]
theorem sc_Setting___xor__ : FnScope N_Setting___xor__ ["self", "other"] (defScope s_Setting___xor__) := ⟨rfl, rfl, rfl, by decide +kernel, rfl, by decide +kernel, by decide +kernel⟩
theorem c_Setting_xor {CS CB : Addr} (B : Bl mg) (K_Setting : KCls K mg "Setting" CS stF) (I_Setting : ClG P w K mg base 3 CS "__getitem__" (spStGet CS CB)) (Dx : DfOp K CS "__xor__" "Setting.__xor__" s_Setting___xor__ ["self", "other"]) : ClOp P w K mg base 6 CS "__xor__" (spStXor CS) := by
  have sc := sc_Setting___xor__
  refine clop_of Dx sc (fun ds r P' XR ⟨_, _, _, _, _, e, _⟩ => by rw [e]; rfl) (fun f cdv A outer s H E hr tk po => ?_)
  have hu := hr.units
  have hi := u65 hr
  refine ⟨_, (ss_cons (s_set (i := 2) sc.nd (d_bin p_add (d_ty2 c_listDc (by rfl) B.list (dl_cons (d_fld (dv 0)) dl_nil)) (d_ty2 c_listDc (by rfl) B.list (dl_cons (d_fld (dv 1)) dl_nil))))
  (ss_one (s_ret (d_sortSc (js := [3]) (own := [("name", 3)]) sc.nd (i_list (dv 2)) (blkOk_by (own := [("name", 3)]) (N := N_Setting___xor__) (sc := defScope s_Setting___xor__) (by decide +kernel)) (fun _ _ _ _ _ => (g_name (i := 3) sc.nd)) (fun _ _ _ _ _ => (pts_1 (b_cmp (p_ne hu) (d_gixN I_Setting hr (dv 0) (dv 3)) (d_gixN I_Setting hr (dv 1) (dv 3))))) (fun _ _ _ _ _ => (dv 3)) (by rfl) B.sorted)))), fun ds r P' XR h => ?_⟩
  obtain ⟨s, o, l, lo, zs, rfl, hs, ho, hl, hlo, ⟨ws, hws, hw1, hw2⟩, hnd, hzs, h⟩ := h
  have hln := hl.ln
  have hlon := hlo.ln
  refine hs.fld fun cd hcd => ⟨cd, sm l, rfl, hcd, sm_sok hl.sok, ho.fld fun cd2 hcd2 => ⟨cd2, sm lo, rfl, hcd2, sm_sok hlo.sok, ?_⟩⟩
  rw [sm_keys, sm_keys]
  refine ⟨by unfold small; rw [List.length_map, List.length_map, List.length_map, List.length_map]; have := sizeLine_eq; omega, ?_⟩
  rw [← List.map_append]
  obtain ⟨ns, hns⟩ : ∃ ns, ns = l.map (·.1) ++ lo.map (·.1) := ⟨_, rfl⟩
  rw [← hns]
  have hnz : ∀ z ∈ ns, z ∈ ws ∧ isNm z = true := fun z hz => by
    rw [hns] at hz
    rcases List.mem_append.mp hz with k | k
    · obtain ⟨e, he, rfl⟩ := List.mem_map.mp k
      exact ⟨hw1 e he, hl.nm e he⟩
    · obtain ⟨e, he, rfl⟩ := List.mem_map.mp k
      exact ⟨hw2 e he, hlo.nm e he⟩
  refine ⟨⟨fun i acc r' => r' = r ∧ acc.Nodup ∧ ∀ z, z ∈ acc ↔ z ∈ ns.take i ∧ mdAt l z ≠ mdAt lo z, ⟨rfl, List.nodup_nil, fun z => ⟨fun k => (by cases k), fun k => (by rw [List.take_zero] at k; cases k.1)⟩⟩, ?_, ?_⟩⟩
  · rintro p i d acc r' hd ⟨rfl, hn, hm⟩
    rw [List.getElem?_map] at hd
    obtain ⟨z, hzi, rfl⟩ := Option.map_eq_some_iff.mp hd
    have hzn := (hnz z (List.mem_of_getElem? hzi)).2
    have hs2 : StV CS (r' ++ [setA P w p acc]) s l := hs.mono fun t ht => List.mem_append.mpr (.inl ht)
    have ho2 : StV CS (r' ++ [setA P w p acc]) o lo := ho.mono fun t ht => List.mem_append.mpr (.inl ht)
    have hal : acc.length ≤ 60 := Nat.le_trans (nd_len hn fun y hy => (hnz y (List.mem_of_mem_take ((hm y).mp hy).1)).1) hws
    have htk : ns.take (i + 1) = ns.take i ++ [z] := by rw [List.take_add_one, hzi]; rfl
    refine ⟨hs2.isC, s, .str z, l, rfl, hs2, rfl, .inl ⟨z, rfl, hzn, ho2.isC, o, .str z, lo, rfl, ho2, rfl, .inl ⟨z, rfl, hzn, ?_⟩⟩⟩
    refine ⟨Nat.zero_le _, Nat.zero_le _, ?_⟩
    rw [eqD_str]
    by_cases q : mdAt l z = mdAt lo z
    · refine brf (by rw [q, beq_self_eq_true]; rfl) ⟨r', le.refl, rfl, hn, fun y => ?_⟩
      rw [hm, htk, List.mem_append, List.mem_singleton]
      exact ⟨fun k => ⟨.inl k.1, k.2⟩, fun k => ⟨k.1.elim id fun e => absurd (e ▸ q) k.2, k.2⟩⟩
    · refine brt (by rw [beq_eq_false_iff_ne.mpr q]; rfl) ⟨z, rfl, by omega, r', le.refl, rfl, addL_nd hn, fun y => ?_⟩
      rw [addL_in, hm, htk, List.mem_append, List.mem_singleton]
      exact ⟨fun k => k.elim (fun e => ⟨.inr e, e ▸ q⟩) fun k => ⟨.inl k.1, k.2⟩, fun k => k.1.elim (fun m => .inr ⟨m, k.2⟩) .inl⟩
  · rintro acc r' ⟨rfl, hn, hm⟩
    rw [List.length_map, List.take_length] at hm
    have hal : acc.length ≤ 60 := Nat.le_trans (nd_len hn fun y hy => (hnz y ((hm y).mp hy).1).1) hws
    refine ⟨by omega, ?_⟩
    have hp : acc.Perm zs := (List.perm_ext_iff_of_nodup hn hnd).mpr fun y => by
      rw [hm, hzs]
      refine ⟨fun k => k.2, fun k => ⟨?_, k⟩⟩
      rw [hns]
      refine Classical.byContradiction fun c => k ?_
      rw [mdAt_out (l := l) fun q => c (List.mem_append.mpr (.inl q)), mdAt_out (l := lo) fun q => c (List.mem_append.mpr (.inr q))]
    rw [srt_congr hp]
    exact fit.of h
abbrev N__law_rank : List Str := ["_law_mode"]
theorem sc__law_rank : FnScope N__law_rank ["_law_mode"] (defScope s__law_rank) := ⟨rfl, rfl, rfl, by decide +kernel, rfl, by decide +kernel, by decide +kernel⟩
def spLRank : SpX := fun ds r P _ => ∃ m, ds = [.str m] ∧ m ∈ modesL ∧ P (.int (rankS m)) r
theorem c__law_rank (B : Bl mg) (Dx : Dfn K mg "_law_rank" s__law_rank ["_law_mode"]) : Cl P w K mg base 1 "_law_rank" ["_law_mode"] spLRank := by
  have sc := sc__law_rank
  refine cl_of Dx sc (fun ds r P' XR ⟨_, e, _⟩ => by rw [e]; rfl) (fun f cdv A outer s H E hr tk po => ?_)
  have hu := hr.units
  have hi := u65 hr
  refine ⟨_, (ss_one (s_ret (d_index (d_lst (dl_cons d_str (dl_cons d_str (dl_cons d_str dl_nil)))) (dl_cons (dv 0) dl_nil)))), fun ds r P' XR h => ?_⟩
  obtain ⟨m, rfl, hm, h⟩ := h
  replace h := fit.of h
  unfold modesL at hm
  simp only [List.mem_cons, List.not_mem_nil, or_false] at hm
  rcases hm with rfl | rfl | rfl
  · exact ⟨Nat.le_of_ble_eq_true rfl, modesL, _, 0, rfl, rfl, rfl, by decide, h⟩
  · exact ⟨Nat.le_of_ble_eq_true rfl, modesL, _, 1, rfl, rfl, rfl, by decide, h⟩
  · exact ⟨Nat.le_of_ble_eq_true rfl, modesL, _, 2, rfl, rfl, rfl, by decide, h⟩
def bothS (b : Bool) (x y : Str) : Str := if b then greS x y else lesS x y
theorem rank_at {x : Str} (hx : x ∈ modesL) : atI (modesL.map D.str) (rankS x) = some (.str x) := by
  have key : ∀ x ∈ modesL, ∃ k, k < 3 ∧ rankS x = ((k : Nat) : Int) ∧ modesL[k]? = some x := by decide
  obtain ⟨k, _, h1, h2⟩ := key x hx
  rw [h1]
  exact L2.atI_nat (by rw [List.getElem?_map, h2]; rfl)
theorem gre_max {x y : Str} {m : Int} (hm : m ∈ [rankS x, rankS y]) (h : ∀ z ∈ [rankS x, rankS y], z ≤ m) : m = rankS (greS x y) := by
  have h1 := h _ (.head _)
  have h2 := h _ (.tail _ (.head _))
  unfold greS
  simp only [List.mem_cons, List.not_mem_nil, or_false] at hm
  split <;> rcases hm with e | e <;> omega
theorem les_min {x y : Str} {m : Int} (hm : m ∈ [rankS x, rankS y]) (h : ∀ z ∈ [rankS x, rankS y], m ≤ z) : m = rankS (lesS x y) := by
  have h1 := h _ (.head _)
  have h2 := h _ (.tail _ (.head _))
  unfold lesS
  simp only [List.mem_cons, List.not_mem_nil, or_false] at hm
  split <;> rcases hm with e | e <;> omega
theorem take_new {zs : List Str} {i : Nat} {z : Str} (hn : zs.Nodup) (h : zs[i]? = some z) : z ∉ zs.take i := fun q => by
  obtain ⟨j, hj⟩ := List.mem_iff_getElem?.mp q
  have hlt : j < i := by
    have := (List.getElem?_eq_some_iff.mp hj).1
    rw [List.length_take] at this
    omega
  rw [List.getElem?_take_of_lt hlt] at hj
  have := (List.getElem?_inj (List.getElem?_eq_some_iff.mp hj).1 hn).mp (hj.trans h.symm)
  omega
/-- a dict of all names, filled name by name -/
def dic (g : Str → Str) (zs : List Str) : List (Str × Str) := zs.map fun z => (z, g z)
theorem dic_keys (g : Str → Str) (zs : List Str) : (dic g zs).map (·.1) = zs := by
  unfold dic
  rw [List.map_map]
  exact List.map_id zs
theorem dic_put {g : Str → Str} {zs : List Str} {i : Nat} {z : Str} (hn : zs.Nodup) (h : zs[i]? = some z) : mPut (dic g (zs.take i)) z (g z) = dic g (zs.take (i + 1)) := by
  rw [mPut_new (by rw [dic_keys]; exact take_new hn h), List.take_add_one, h]
  unfold dic
  rw [List.map_append]
  rfl
theorem dic_len (g : Str → Str) (zs : List Str) : (dic g zs).length = zs.length := List.length_map _
theorem dic_at {g : Str → Str} {zs : List Str} (hn : zs.Nodup) (z : Str) : mdAt (dic g zs) z = if z ∈ zs then g z else ("out" : Str) := by
  by_cases h : z ∈ zs
  · rw [if_pos h]
    have : mdAt (dic g zs) z = (sGet (dic g zs) z).getD "out" := rfl
    rw [this, sGet_of (l := dic g zs) (m := g z) (by rw [dic_keys]; exact hn) (List.mem_map.mpr ⟨z, h, rfl⟩)]
    rfl
  · rw [if_neg h, mdAt_out (by rw [dic_keys]; exact h)]
theorem dic_ok {g : Str → Str} {zs : List Str} (hn : zs.Nodup) (hz : ∀ z ∈ zs, isNm z = true) (hl : zs.length ≤ 60) (hg : ∀ z ∈ zs, g z ∈ modesL) : WOk (dic g zs) := by
  refine ⟨by rw [dic_keys]; exact hn, fun e he => ?_, fun e he => ?_, by rw [dic_len]; exact hl⟩
  · obtain ⟨z, h, rfl⟩ := List.mem_map.mp he
    exact hz z h
  · obtain ⟨z, h, rfl⟩ := List.mem_map.mp he
    exact hg z h
abbrev N__law_both : List Str := ["_law_one", "_law_other", "_law_names_here", "_law_greater", "_law_modes", "_law_name", "_law_ranks"]
theorem sc__law_both : FnScope N__law_both ["_law_one", "_law_other", "_law_names_here", "_law_greater"] (defScope s__law_both) := ⟨rfl, rfl, rfl, by decide +kernel, rfl, by decide +kernel, by decide +kernel⟩
def spBoth : SpX := fun ds r P _ => ∃ (q1 q2 : Addr) (m1 m2 : List (Str × Str)) (zs : List Str) (b : Bool), ds = [.adr q1, .adr q2, .lst (zs.map .str), .bl b] ∧ dctA q1 (sm m1) ∈ r ∧ dctA q2 (sm m2) ∈ r ∧ WOk m1 ∧ WOk m2 ∧ m1.map (·.1) = zs ∧ m2.map (·.1) = zs ∧
  ∀ q, P (.adr q) (r ++ [dctA q (sm (dic (fun z => bothS b (mdAt m1 z) (mdAt m2 z)) zs))])
theorem c__law_both (B : Bl mg) (C__law_rank : Cl P w K mg base 1 "_law_rank" ["_law_mode"] spLRank) (Dx : Dfn K mg "_law_both" s__law_both ["_law_one", "_law_other", "_law_names_here", "_law_greater"]) : Cl P w K mg base 2 "_law_both" ["_law_one", "_law_other", "_law_names_here", "_law_greater"] spBoth := by
  have sc := sc__law_both
  refine cl_of Dx sc (fun ds r P' XR ⟨_, _, _, _, _, _, e, _⟩ => by rw [e]; rfl) (fun f cdv A outer s H E hr tk po => ?_)
  have hu := hr.units
  have hi := u65 hr
  refine ⟨_, (ss_cons (s_set (i := 4) sc.nd d_dnew)
  (ss_cons (s_for (i_list (dv 2)) (g_name (i := 5) sc.nd)
  (ss_cons (s_set (i := 6) sc.nd (d_lst (dl_cons (d_fn C__law_rank tk hr (dl_cons (d_dix hi (dv 0) (dv 5)) dl_nil)) (dl_cons (d_fn C__law_rank tk hr (dl_cons (d_dix hi (dv 1) (dv 5)) dl_nil)) dl_nil))))
  (ss_one (s_dput hi (dv 4) (dv 5) (d_ix (d_lst (dl_cons d_str (dl_cons d_str (dl_cons d_str dl_nil)))) (d_if (b_tru (dv 3)) (d_blt c_maxL (by rfl) B.max (dl_cons (dv 6) dl_nil)) (d_blt c_minL (by rfl) B.min (dl_cons (dv 6) dl_nil))))))) po)
  (ss_one (s_ret (dv 4))))), fun ds r P' XR h => ?_⟩
  obtain ⟨q1, q2, m1, m2, zs, b, rfl, h1, h2, w1, w2, k1, k2, h⟩ := h
  have hnd : zs.Nodup := k1 ▸ w1.nd
  have hzl : zs.length ≤ 60 := by have := w1.ln; rw [← k1, List.length_map]; exact this
  intro q
  refine ⟨fun i δ r' => (∃ x5 x6, δ = [some (.adr q1), some (.adr q2), some (.lst (zs.map .str)), some (.bl b), some (.adr q), x5, x6]) ∧ r' = r ++ [dctA q (sm (dic (fun z => bothS b (mdAt m1 z) (mdAt m2 z)) (zs.take i)))], ⟨⟨_, _, rfl⟩, rfl⟩, ?_, ?_⟩
  · rintro i d δ r' hd ⟨⟨x5, x6, rfl⟩, rfl⟩
    rw [List.getElem?_map] at hd
    obtain ⟨z, hz, rfl⟩ := Option.map_eq_some_iff.mp hd
    have hzm := List.mem_of_getElem? hz
    have d1 : ∀ t : Rs, DctV (r ++ t) (.adr q1) (sm m1) := fun t => .own (List.mem_append.mpr (.inl h1))
    have d2 : ∀ t : Rs, DctV (r ++ t) (.adr q2) (sm m2) := fun t => .own (List.mem_append.mpr (.inl h2))
    refine sm_dget (d1 _) ?_
    rw [sGet_mdAt (by rw [k1]; exact hzm)]
    refine ⟨.str (mdAt m1 z), rfl, _, rfl, mdAt_in w1 z, sm_dget (d2 _) ?_⟩
    rw [sGet_mdAt (by rw [k2]; exact hzm)]
    refine ⟨.str (mdAt m2 z), rfl, _, rfl, mdAt_in w2 z, Nat.le_of_ble_eq_true rfl, ?_⟩
    refine ⟨Nat.le_of_ble_eq_true rfl, ?_⟩
    cases b with
    | true =>
      refine brT ⟨⟨[rankS (mdAt m1 z), rankS (mdAt m2 z)], rfl, Nat.zero_lt_succ _, fun m hm hx => ?_⟩⟩
      rw [gre_max hm hx]
      refine ix_l (rank_at (greS_mem (mdAt_in w1 z) (mdAt_in w2 z))) ?_
      refine .mk r [] (sm (dic (fun z => bothS true (mdAt m1 z) (mdAt m2 z)) (zs.take i))) (.inr z) rfl rfl (by unfold small; rw [sm_len, dic_len, List.length_take]; omega) ?_
      rw [sm_put, show greS (mdAt m1 z) (mdAt m2 z) = (fun z => bothS true (mdAt m1 z) (mdAt m2 z)) z from rfl, dic_put hnd hz]
      exact ⟨⟨_, _, rfl⟩, rfl⟩
    | false =>
      refine brF ⟨⟨[rankS (mdAt m1 z), rankS (mdAt m2 z)], rfl, Nat.zero_lt_succ _, fun m hm hx => ?_⟩⟩
      rw [les_min hm hx]
      refine ix_l (rank_at (lesS_mem (mdAt_in w1 z) (mdAt_in w2 z))) ?_
      refine .mk r [] (sm (dic (fun z => bothS false (mdAt m1 z) (mdAt m2 z)) (zs.take i))) (.inr z) rfl rfl (by unfold small; rw [sm_len, dic_len, List.length_take]; omega) ?_
      rw [sm_put, show lesS (mdAt m1 z) (mdAt m2 z) = (fun z => bothS false (mdAt m1 z) (mdAt m2 z)) z from rfl, dic_put hnd hz]
      exact ⟨⟨_, _, rfl⟩, rfl⟩
  · rintro δ r' ⟨⟨x5, x6, rfl⟩, rfl⟩
    rw [List.length_map, List.take_length]
    exact fit.of (h q)
abbrev N__law_results : List Str := ["_law_one", "_law_other", "_law_first", "_law_second", "_law_names_here", "_law_less", "_law_name", "_law_found"]
theorem sc__law_results : FnScope N__law_results ["_law_one", "_law_other", "_law_first", "_law_second", "_law_names_here"] (defScope s__law_results) := ⟨rfl, rfl, rfl, by decide +kernel, rfl, by decide +kernel, by decide +kernel⟩
def spResults (CS : Addr) : SpX := fun ds r P _ => ∃ (q1 q2 : Addr) (s o : D) (m1 m2 l lo : List (Str × Str)) (zs : List Str), ds = [.adr q1, .adr q2, s, o, .lst (zs.map .str)] ∧ dctA q1 (sm m1) ∈ r ∧ dctA q2 (sm m2) ∈ r ∧ StV CS r s l ∧ StV CS r o lo ∧ Agr l m1 ∧ Agr lo m2 ∧ m1.map (·.1) = zs ∧ m2.map (·.1) = zs ∧
  ∀ (q0 a1 c1 p1 a2 c2 p2 a3 c3 : Addr) (L1 L2 L3 : List (Str × Str)), StOk L1 → StOk L2 → StOk L3 → (∀ z, mdAt L1 z = greS (mdAt l z) (mdAt lo z)) → (∀ z, mdAt L2 z = lesS (mdAt l z) (mdAt lo z)) → (∀ z, mdAt L3 z = subM (mdAt l z) (mdAt lo z)) →
    P (.lst [.lst [.adr a1, .adr p1], .lst [.adr a2, .adr p2], .lst [.adr a3, .adr q0]])
      (r ++ [dctA q0 (sm (dic (fun z => subM (mdAt m1 z) (mdAt m2 z)) zs)), insA a1 CS stF [.adr c1], dctA c1 (sm L1), dctA p1 (sm (dic (fun z => bothS true (mdAt m1 z) (mdAt m2 z)) zs)), insA a2 CS stF [.adr c2], dctA c2 (sm L2), dctA p2 (sm (dic (fun z => bothS false (mdAt m1 z) (mdAt m2 z)) zs)), insA a3 CS stF [.adr c3], dctA c3 (sm L3)])
set_option maxHeartbeats 2000000 in
theorem c__law_results {CS : Addr} (B : Bl mg) (K_Setting : KCls K mg "Setting" CS stF) (Op_Setting_or : ClOp P w K mg base 6 CS "__or__" (spStOp CS greS)) (Op_Setting_and : ClOp P w K mg base 6 CS "__and__" (spStOp CS lesS)) (Op_Setting_sub : ClOp P w K mg base 6 CS "__sub__" (spStOp CS subM)) (C__law_both : Cl P w K mg base 2 "_law_both" ["_law_one", "_law_other", "_law_names_here", "_law_greater"] spBoth)
    (Dx : Dfn K mg "_law_results" s__law_results ["_law_one", "_law_other", "_law_first", "_law_second", "_law_names_here"]) : Cl P w K mg base 7 "_law_results" ["_law_one", "_law_other", "_law_first", "_law_second", "_law_names_here"] (spResults CS) := by
  have sc := sc__law_results
  refine cl_of Dx sc (fun ds r P' XR ⟨_, _, _, _, _, _, _, _, _, e, _⟩ => by rw [e]; rfl) (fun f cdv A outer s H E hr tk po => ?_)
  have hu := hr.units
  have hi := u65 hr
  refine ⟨_, (ss_cons (s_set (i := 5) sc.nd d_dnew)
  (ss_cons (s_for (i_list (dv 4)) (g_name (i := 6) sc.nd)
  (ss_one (s_dput hi (dv 5) (dv 6) (d_if (b_cmp (p_eq hu) (d_dix hi (dv 1) (dv 6)) d_str) (d_dix hi (dv 0) (dv 6)) d_str))) po)
  (ss_cons (s_set (i := 7) sc.nd (d_lstO (dl_cons (d_lst (dl_cons (d_op Op_Setting_or tk hr (dv 2) (dv 3)) (dl_cons (d_fn C__law_both tk hr (dl_cons (dv 0) (dl_cons (dv 1) (dl_cons (dv 4) (dl_cons d_bl dl_nil))))) dl_nil))) dl_nil)))
  (ss_cons (s_expr (d_app (dv 7) (dl_cons (d_lst (dl_cons (d_op Op_Setting_and tk hr (dv 2) (dv 3)) (dl_cons (d_fn C__law_both tk hr (dl_cons (dv 0) (dl_cons (dv 1) (dl_cons (dv 4) (dl_cons d_bl dl_nil))))) dl_nil))) dl_nil)))
  (ss_one (s_melt 7 (s_ret (d_bin p_add (dv 7) (d_lst (dl_cons (d_lst (dl_cons (d_op Op_Setting_sub tk hr (dv 2) (dv 3)) (dl_cons (dv 5) dl_nil))) dl_nil)))))))))), fun ds r P' XR h => ?_⟩
  obtain ⟨q1, q2, s, o, m1, m2, l, lo, zs, rfl, h1, h2, hs, ho, ag1, ag2, k1, k2, h⟩ := h
  have w1 := ag1.mo
  have w2 := ag2.mo
  have hnd : zs.Nodup := k1 ▸ w1.nd
  have hzl : zs.length ≤ 60 := by have := w1.ln; rw [← k1, List.length_map]; exact this
  intro q
  refine ⟨fun i δ r' => (∃ x6, δ = [some (.adr q1), some (.adr q2), some s, some o, some (.lst (zs.map .str)), some (.adr q), x6, none]) ∧ r' = r ++ [dctA q (sm (dic (fun z => subM (mdAt m1 z) (mdAt m2 z)) (zs.take i)))], ⟨⟨_, rfl⟩, rfl⟩, ?_, ?_⟩
  · rintro i d δ r' hd ⟨⟨x6, rfl⟩, rfl⟩
    rw [List.getElem?_map] at hd
    obtain ⟨z, hz, rfl⟩ := Option.map_eq_some_iff.mp hd
    have hzm := List.mem_of_getElem? hz
    have d1 : ∀ t : Rs, DctV (r ++ t) (.adr q1) (sm m1) := fun t => .own (List.mem_append.mpr (.inl h1))
    have d2 : ∀ t : Rs, DctV (r ++ t) (.adr q2) (sm m2) := fun t => .own (List.mem_append.mpr (.inl h2))
    refine sm_dget (d2 _) ?_
    rw [sGet_mdAt (by rw [k2]; exact hzm)]
    refine ⟨.str (mdAt m2 z), rfl, Nat.zero_le _, Nat.zero_le _, ?_⟩
    rw [eqD_str]
    have e2 := dic_put (g := fun z => subM (mdAt m1 z) (mdAt m2 z)) hnd hz
    by_cases ho2 : mdAt m2 z = "out"
    · refine brt (by rw [ho2]; rfl) (sm_dget (d1 _) ?_)
      rw [sGet_mdAt (by rw [k1]; exact hzm)]
      refine ⟨.str (mdAt m1 z), rfl, ?_⟩
      refine .mk r [] (sm (dic (fun z => subM (mdAt m1 z) (mdAt m2 z)) (zs.take i))) (.inr z) rfl rfl (by unfold small; rw [sm_len, dic_len, List.length_take]; omega) ?_
      rw [show subM (mdAt m1 z) (mdAt m2 z) = mdAt m1 z from if_pos ho2] at e2
      rw [sm_put, e2]
      exact ⟨⟨_, rfl⟩, rfl⟩
    · refine brf (beq_eq_false_iff_ne.mpr ho2) ?_
      refine .mk r [] (sm (dic (fun z => subM (mdAt m1 z) (mdAt m2 z)) (zs.take i))) (.inr z) rfl rfl (by unfold small; rw [sm_len, dic_len, List.length_take]; omega) ?_
      rw [show subM (mdAt m1 z) (mdAt m2 z) = "out" from if_neg ho2] at e2
      rw [sm_put, e2]
      exact ⟨⟨_, rfl⟩, rfl⟩
  · rintro δ r' ⟨⟨x6, rfl⟩, rfl⟩
    rw [List.length_map, List.take_length]
    have up : ∀ (t : Rs) u, u ∈ r → u ∈ r ++ t := fun t u hu => List.mem_append.mpr (.inl hu)
    have few : Few l lo := ⟨zs, hzl, fun e he => by have := (ag1.keys.mem_iff (a := e.1)).mp (List.mem_map.mpr ⟨e, he, rfl⟩); rw [k1] at this; exact (List.mem_filter.mp this).1, fun e he => by have := (ag2.keys.mem_iff (a := e.1)).mp (List.mem_map.mpr ⟨e, he, rfl⟩); rw [k2] at this; exact (List.mem_filter.mp this).1⟩
    refine ⟨(hs.mono (up _)).isC, (ho.mono (up _)).isC, s, o, l, lo, rfl, hs.mono (up _), ho.mono (up _), ag1.lo, ag2.lo, few, fun a1 c1 L1 ok1 at1 => ?_⟩
    have up2 : ∀ (t : Rs) u, u ∈ r → u ∈ r ++ t := up
    refine ⟨q1, q2, m1, m2, zs, true, rfl, ?_, ?_, w1, w2, k1, k2, fun p1 => ?_⟩
    · simp only [List.append_assoc]; exact up _ _ h1
    · simp only [List.append_assoc]; exact up _ _ h2
    refine ⟨Nat.le_of_ble_eq_true rfl, Nat.le_of_ble_eq_true rfl, fun f => ?_⟩
    obtain ⟨R1, hR1⟩ : ∃ R1, R1 = r ++ [dctA q (sm (dic (fun z => subM (mdAt m1 z) (mdAt m2 z)) zs)), insA a1 CS stF [D.adr c1], dctA c1 (sm L1), dctA p1 (sm (dic (fun z => bothS true (mdAt m1 z) (mdAt m2 z)) zs))] := ⟨_, rfl⟩
    have eR1 : r ++ [dctA q (sm (dic (fun z => subM (mdAt m1 z) (mdAt m2 z)) zs))] ++ [insA a1 CS stF [D.adr c1], dctA c1 (sm L1)] ++ [dctA p1 (sm (dic (fun z => bothS true (mdAt m1 z) (mdAt m2 z)) zs))] = R1 := by rw [hR1]; simp only [List.append_assoc]; rfl
    rw [eR1]
    have in1 : ∀ (t : Rs) u, u ∈ r → u ∈ R1 ++ t := fun t u hu => List.mem_append.mpr (.inl (by rw [hR1]; exact up _ u hu))
    refine ⟨f, _, rfl, Own.last, (hs.mono (in1 _)).isC, (ho.mono (in1 _)).isC, s, o, l, lo, rfl, hs.mono (in1 _), ho.mono (in1 _), ag1.lo, ag2.lo, few, fun a2 c2 L2 ok2 at2 => ?_⟩
    refine ⟨q1, q2, m1, m2, zs, false, rfl, ?_, ?_, w1, w2, k1, k2, fun p2 => ?_⟩
    · rw [List.append_assoc]; exact in1 _ _ h1
    · rw [List.append_assoc]; exact in1 _ _ h2
    refine ⟨Nat.le_of_ble_eq_true rfl, R1, _, [insA a2 CS stF [D.adr c2], dctA c2 (sm L2), dctA p2 (sm (dic (fun z => bothS false (mdAt m1 z) (mdAt m2 z)) zs))], _, rfl, by simp only [List.append_assoc]; rfl, Nat.le_of_ble_eq_true rfl, ?_⟩
    refine ⟨f, _, R1, _, rfl, rfl, ?_⟩
    refine ⟨(hs.mono (in1 _)).isC, (ho.mono (in1 _)).isC, s, o, l, lo, rfl, hs.mono (in1 _), ho.mono (in1 _), ag1.lo, ag2.lo, few, fun a3 c3 L3 ok3 at3 => ?_⟩
    refine ⟨Nat.le_of_ble_eq_true rfl, Nat.le_of_ble_eq_true rfl, Nat.le_of_ble_eq_true rfl, ?_⟩
    refine fit.of (Eq.mp (congrArg (P' _) ?_) (h q a1 c1 p1 a2 c2 p2 a3 c3 L1 L2 L3 ok1 ok2 ok3 at1 at2 at3))
    rw [hR1]
    simp only [List.append_assoc]
    rfl
theorem dcN_all {xs : List Str} : ∀ {i : Nat}, i ≤ xs.length → SSN.dcN xs i = i → (xs.take i).Nodup
  | 0, _, _ => by rw [List.take_zero]; exact List.nodup_nil
  | i + 1, hi, h => by
    rw [SSN.dcN_succ] at h
    have hle := SSN.dcN_le xs i
    by_cases k : ((xs.take i).any (· == xs.getD i Str.empty)) = true
    · rw [if_pos k] at h; omega
    · rw [if_neg k] at h
      have e : xs[i]? = some xs[i] := List.getElem?_eq_getElem hi
      rw [List.take_add_one, e]
      refine List.nodup_append.mpr ⟨dcN_all (by omega) (by omega), by simp, fun a ha b hb e2 => k ?_⟩
      rw [List.mem_singleton.mp hb] at e2
      rw [List.getD_eq_getElem?_getD, e]
      exact List.any_eq_true.mpr ⟨a, ha, by rw [e2]; exact beq_self_eq_true _⟩
theorem tl_cutS (z : Str) (k : Nat) : tl (cutS z none (some (k : Int))) = (tl z).take k := by
  show ((z.cps.toList.drop (HT.sIx z.length 0 none)).take (HT.sIx z.length z.length (some (k : Int)) - HT.sIx z.length 0 none)).toArray.toList = _
  rw [List.toList_toArray, HT.sIx_nat, HT.sIx_none, List.drop_zero, Nat.sub_zero]
  have e : z.length = (tl z).length := len_tl z
  show (tl z).take (min k z.length) = _
  rw [e, List.take_eq_take_min (i := k)]
theorem isNm_cutS {z : Str} {k : Nat} (h : isNm z = true) (hk : 1 ≤ k) : isNm (cutS z none (some (k : Int))) = true := by
  unfold isNm at h ⊢
  rw [len_tl] at h ⊢
  rw [tl_cutS, List.length_take]
  simp only [Bool.and_eq_true, decide_eq_true_eq, List.all_eq_true] at h ⊢
  exact ⟨⟨by omega, by omega⟩, fun x hx => h.2 x (List.mem_of_mem_take hx)⟩
abbrev N__law_cut : List Str := ["_law_pool_here", "_law_names_here", "_law_cut_here", "_law_word"]
theorem sc__law_cut : FnScope N__law_cut ["_law_pool_here", "_law_names_here"] (defScope s__law_cut) := ⟨rfl, rfl, rfl, by decide +kernel, rfl, by decide +kernel, by decide +kernel⟩
def spCut : SpX := fun ds r P _ => ∃ (p a : Addr) (N : Nat) (X : Rs) (zs : List Str), ds = [.adr p, .lst (zs.map .str)] ∧ r = poolA p a N :: X ∧ N < 1000000 ∧ zs.length ≤ 26 ∧ zs.Nodup ∧ (∀ z ∈ zs, isNm z = true) ∧ ∀ ws : List Str, ws.length = zs.length → ws.Nodup → (∀ z ∈ ws, isNm z = true) → P (.lst (ws.map .str)) (poolA p a (N + zs.length) :: X)
theorem c__law_cut (B : Bl mg) (C__law_draw : Cl P w K mg base 1 "_law_draw" ["_law_pool_here", "_law_many"] spDraw) (Dx : Dfn K mg "_law_cut" s__law_cut ["_law_pool_here", "_law_names_here"]) : Cl P w K mg base 2 "_law_cut" ["_law_pool_here", "_law_names_here"] spCut := by
  have sc := sc__law_cut
  refine cl_of Dx sc (fun ds r P' XR ⟨_, _, _, _, _, e, _⟩ => by rw [e]; rfl) (fun f cdv A outer s H E hr tk po => ?_)
  have hu := hr.units
  have hi := u65 hr
  refine ⟨_, (ss_cons (s_setLc (i := 2) (js := [3]) (own := [("_law_word", 3)]) sc.nd (i_list (dv 1)) (blkOk_by (own := [("_law_word", 3)]) (N := N__law_cut) (sc := defScope s__law_cut) (by decide +kernel)) (fun _ _ _ _ _ => (g_name (i := 3) sc.nd)) (fun _ _ _ _ _ => pts_no) (fun _ _ _ _ _ => (d_sl (dv 3) o_no (o_some (d_bin p_add d_int (d_fnN C__law_draw hr (dl_cons (dv 0) (dl_cons (d_blt c_len (by rfl) B.len (dl_cons (dv 3) dl_nil)) dl_nil))))))) (sw_true rfl rfl rfl (by decide +kernel)))
  (ss_one (s_ret (d_if (b_cmp (p_eq hu) (d_lenSet (by rfl) B.len (by rfl) B.set (dv 2)) (d_blt c_len (by rfl) B.len (dl_cons (dv 2) dl_nil))) (dv 2) (dv 1))))), fun ds r P' XR h => ?_⟩
  obtain ⟨p, a, N, X, zs, rfl, rfl, hN, hzl, hnd, hz, h⟩ := h
  refine ⟨fun i acc r' => ∃ ws : List Str, ws.length = i ∧ acc = ws.map .str ∧ (∀ z ∈ ws, isNm z = true) ∧ r' = poolA p a (N + i) :: X, ⟨[], rfl, rfl, fun _ h => (by cases h), rfl⟩, ?_, ?_⟩
  · rintro pl i d acc r' hd ⟨ws, hwl, rfl, hw, rfl⟩
    rw [List.getElem?_map] at hd
    obtain ⟨z, hzi, rfl⟩ := Option.map_eq_some_iff.mp hd
    have hi2 := (List.getElem?_eq_some_iff.mp hzi).1
    have hzn := hz z (List.mem_of_getElem? hzi)
    have hzl1 : 1 ≤ z.length ∧ z.length ≤ 8 := by
      unfold isNm at hzn
      simp only [Bool.and_eq_true, decide_eq_true_eq] at hzn
      exact hzn.1
    refine brT ⟨p, a, _, N + i, _, rfl, rfl, ⟨by omega, by omega⟩, by omega, fun c c0 c1 => ?_⟩
    obtain ⟨k, rfl⟩ : ∃ k : Nat, c = k := ⟨c.toNat, by omega⟩
    refine sl_s ⟨by unfold small; rw [List.length_map, hwl]; omega, poolA p a (N + (i + 1)) :: X, le.refl, ws ++ [cutS z none (some ((1 + k : Nat) : Int))], by rw [List.length_append, hwl]; rfl, ?_, fun y hy => ?_, rfl⟩
    · rw [List.map_append]; rfl
    · rcases List.mem_append.mp hy with hy | hy
      · exact hw y hy
      · rw [List.mem_singleton.mp hy]
        exact isNm_cutS hzn (by omega)
  · rintro acc r' ⟨ws, hwl, rfl, hw, rfl⟩
    rw [List.length_map] at hwl
    rw [List.length_map]
    have hws : small (ws.map D.str).length := by unfold small; rw [List.length_map]; omega
    refine ⟨ws, rfl, by omega, ?_⟩
    refine fun hsz => ⟨Nat.zero_le _, Nat.zero_le _, ?_⟩
    rw [eqD_int, List.length_map]
    by_cases hd : SSN.dcN ws ws.length = ws.length
    · refine brt (decide_eq_true (by rw [hd])) (fit.of (h ws hwl ?_ hw))
      have := dcN_all (Nat.le_refl _) hd
      rwa [List.take_length] at this
    · exact brf (decide_eq_false fun e => hd (by omega)) (fit.of (h zs rfl hnd hz))
theorem StOk.keyA {l : List (Str × Str)} (h : StOk l) (z : Str) : z ∈ l.map (·.1) ↔ mdAt l z ≠ "out" := by
  have g := h.get z
  by_cases q : mdAt l z = "out"
  · rw [if_pos q] at g
    exact ⟨fun k => absurd k (sGet_none.mp g), fun k => absurd q k⟩
  · rw [if_neg q] at g
    exact ⟨fun _ => q, fun _ => List.mem_map.mpr ⟨_, sGet_mem g, rfl⟩⟩
theorem eqS_iff {l m : List (Str × Str)} (hl : StOk l) (hm : StOk m) : eqS l m = true ↔ ∀ z, mdAt l z = mdAt m z := by
  have val : ∀ {e : Str × Str}, e ∈ l → mdAt l e.1 = e.2 := fun {e} he => by
    have : mdAt l e.1 = (sGet l e.1).getD "out" := rfl
    rw [this, sGet_of hl.nd he]
    rfl
  unfold eqS
  rw [Bool.and_eq_true]
  constructor
  · rintro ⟨h1, h2⟩
    have h1 : l.length = m.length := beq_iff_eq.mp h1
    have at1 : ∀ e ∈ l, mdAt m e.1 = e.2 := fun e he => by
      have := beq_iff_eq.mp (List.all_eq_true.mp h2 e he)
      have q : mdAt m e.1 = (sGet m e.1).getD "out" := rfl
      rw [q, this]
      rfl
    have sub : ∀ z ∈ l.map (·.1), z ∈ m.map (·.1) := fun z hz => by
      obtain ⟨e, he, rfl⟩ := List.mem_map.mp hz
      rw [hm.keyA, at1 e he, ← val he]
      exact (hl.keyA e.1).mp hz
    have pm : (l.map (·.1)).Perm (m.map (·.1)) := (SXN.perm_of hm.nd (fun k hk => by
      refine Classical.byContradiction fun c => ?_
      have := nd_len (l := k :: l.map (·.1)) (zs := m.map (·.1)) (List.nodup_cons.mpr ⟨c, hl.nd⟩) fun z hz => (List.mem_cons.mp hz).elim (fun e => e ▸ hk) (sub z)
      rw [List.length_cons, List.length_map, List.length_map] at this
      omega) (by rw [List.length_map, List.length_map]; exact h1))
    intro z
    by_cases hz : z ∈ l.map (·.1)
    · obtain ⟨e, he, rfl⟩ := List.mem_map.mp hz
      rw [at1 e he, val he]
    · rw [mdAt_out hz, mdAt_out (l := m) fun q => hz (pm.mem_iff.mpr q)]
  · intro h
    refine ⟨beq_iff_eq.mpr ?_, List.all_eq_true.mpr fun e he => ?_⟩
    · have h1 := nd_len hl.nd fun z hz => (hm.keyA z).mpr (by rw [← h]; exact (hl.keyA z).mp hz)
      have h2 := nd_len hm.nd fun z hz => (hl.keyA z).mpr (by rw [h]; exact (hm.keyA z).mp hz)
      rw [List.length_map, List.length_map] at h1 h2
      omega
    · have hk : e.1 ∈ l.map (·.1) := List.mem_map.mpr ⟨e, he, rfl⟩
      have hk2 := (hm.keyA e.1).mpr (by rw [← h]; exact (hl.keyA e.1).mp hk)
      rw [sGet_mdAt hk2, ← h, val he]
      exact beq_self_eq_true _
/-- the names whose modes are unlike -/
def unl (m1 m2 : List (Str × Str)) (zs : List Str) : List Str := zs.filter fun z => decide (mdAt m1 z ≠ mdAt m2 z)
/-- the names whose mode is greater in the first -/
def abv (m1 m2 : List (Str × Str)) (zs : List Str) : List Str := zs.filter fun z => decide (rankS (mdAt m1 z) > rankS (mdAt m2 z))
section
variable {l lo m1 m2 : List (Str × Str)} {zs : List Str}
theorem unl_mem (a1 : Agr l m1) (a2 : Agr lo m2) (k1 : m1.map (·.1) = zs) (k2 : m2.map (·.1) = zs) (z : Str) : z ∈ unl m1 m2 zs ↔ mdAt l z ≠ mdAt lo z := by
  unfold unl
  rw [List.mem_filter, decide_eq_true_eq, a1.at_, a2.at_]
  refine ⟨fun k => k.2, fun k => ⟨Classical.byContradiction fun c => k ?_, k⟩⟩
  rw [mdAt_out (l := m1) (by rw [k1]; exact c), mdAt_out (l := m2) (by rw [k2]; exact c)]
theorem eqS_unl (a1 : Agr l m1) (a2 : Agr lo m2) (k1 : m1.map (·.1) = zs) (k2 : m2.map (·.1) = zs) : eqS l lo = (unl m1 m2 zs).isEmpty := by
  rw [Bool.eq_iff_iff, eqS_iff a1.lo a2.lo, List.isEmpty_iff, List.eq_nil_iff_forall_not_mem]
  refine ⟨fun h z hz => (unl_mem a1 a2 k1 k2 z).mp hz (h z), fun h z => Classical.byContradiction fun c => h z ((unl_mem a1 a2 k1 k2 z).mpr c)⟩
theorem rank_out (x : Str) : 0 ≤ rankS x := by
  unfold rankS
  split
  · decide
  · split <;> decide
theorem within_abv (a1 : Agr l m1) (a2 : Agr lo m2) (k1 : m1.map (·.1) = zs) : ((l.map (·.1)).all fun z => decide (rankS (mdAt l z) ≤ rankS (mdAt lo z))) = (abv m1 m2 zs).isEmpty := by
  rw [Bool.eq_iff_iff, List.all_eq_true, List.isEmpty_iff, List.eq_nil_iff_forall_not_mem]
  constructor
  · intro h z hz
    obtain ⟨hz1, hz2⟩ := List.mem_filter.mp hz
    have hz2 := of_decide_eq_true hz2
    rw [← a1.at_, ← a2.at_] at hz2
    by_cases q : mdAt l z = "out"
    · rw [q] at hz2
      have := rank_out (mdAt lo z)
      have : rankS "out" = 0 := rfl
      omega
    · have := of_decide_eq_true (h z ((a1.lo.keyA z).mpr q))
      omega
  · intro h z hz
    refine decide_eq_true ?_
    have hzz : z ∈ zs := by
      have := (a1.keys.mem_iff (a := z)).mp hz
      rw [k1] at this
      exact (List.mem_filter.mp this).1
    refine Int.not_lt.mp fun c => h z (List.mem_filter.mpr ⟨hzz, decide_eq_true ?_⟩)
    rw [← a1.at_, ← a2.at_]
    exact c
theorem agr_dic {L : List (Str × Str)} {g : Str → Str} (hL : StOk L) (hn : zs.Nodup) (hz : ∀ z ∈ zs, isNm z = true) (hl : zs.length ≤ 60) (hg : ∀ z, g z ∈ modesL) (h1 : ∀ z ∈ zs, mdAt L z = g z) (h2 : ∀ z, z ∉ zs → mdAt L z = "out") : Agr L (dic g zs) :=
  ⟨hL, dic_ok hn hz hl fun z _ => hg z, fun z => by
    rw [dic_at hn]
    by_cases k : z ∈ zs
    · rw [if_pos k, h1 z k]
    · rw [if_neg k, h2 z k]⟩
end
/-- the pieces of the three results, in order; the i-th and those behind it are as they were told -/
structure Nine (CS q0 a1 c1 p1 a2 c2 p2 a3 c3 : Addr) (M0 M1 M2 : List (Str × Str)) (i : Nat) (X : Rs) : Prop where
  ex : ∃ L1 L2 L3, X = [dctA q0 (sm M0), insA a1 CS stF [.adr c1], dctA c1 (sm L1), dctA p1 (sm M1), insA a2 CS stF [.adr c2], dctA c2 (sm L2), dctA p2 (sm M2), insA a3 CS stF [.adr c3], dctA c3 (sm L3)] ∧ (i = 0 → Agr L1 M1) ∧ (i ≤ 1 → Agr L2 M2) ∧ (i ≤ 2 → Agr L3 M0)
theorem Nine.step {CS q0 a1 c1 p1 a2 c2 p2 a3 c3 : Addr} {M0 M1 M2 : List (Str × Str)} {i : Nat} {X : Rs} {d : D} (h : Nine CS q0 a1 c1 p1 a2 c2 p2 a3 c3 M0 M1 M2 i X) (hd : ([D.lst [.adr a1, .adr p1], .lst [.adr a2, .adr p2], .lst [.adr a3, .adr q0]] : List D)[i]? = some d) :
    ∃ (A1 A2 : Rs) (a c q : Addr) (L M : List (Str × Str)), d = .lst [.adr a, .adr q] ∧ X = A1 ++ insA a CS stF [.adr c] :: dctA c (sm L) :: A2 ∧ dctA q (sm M) ∈ X ∧ Agr L M ∧ ∀ L', Nine CS q0 a1 c1 p1 a2 c2 p2 a3 c3 M0 M1 M2 (i + 1) (A1 ++ insA a CS stF [.adr c] :: dctA c (sm L') :: A2) := by
  obtain ⟨L1, L2, L3, rfl, h1, h2, h3⟩ := h.ex
  match i, hd with
  | 0, hd =>
    cases hd
    exact ⟨[dctA q0 (sm M0)], [dctA p1 (sm M1), insA a2 CS stF [.adr c2], dctA c2 (sm L2), dctA p2 (sm M2), insA a3 CS stF [.adr c3], dctA c3 (sm L3)], a1, c1, p1, L1, M1, rfl, rfl, .tail _ (.tail _ (.tail _ (.head _))), h1 rfl,
      fun L' => ⟨L', L2, L3, rfl, fun z => (by omega), fun _ => h2 (by omega), fun _ => h3 (by omega)⟩⟩
  | 1, hd =>
    cases hd
    exact ⟨[dctA q0 (sm M0), insA a1 CS stF [.adr c1], dctA c1 (sm L1), dctA p1 (sm M1)], [dctA p2 (sm M2), insA a3 CS stF [.adr c3], dctA c3 (sm L3)], a2, c2, p2, L2, M2, rfl, rfl, .tail _ (.tail _ (.tail _ (.tail _ (.tail _ (.tail _ (.head _)))))), h2 (by omega),
      fun L' => ⟨L1, L', L3, rfl, fun z => (by omega), fun z => (by omega), fun _ => h3 (by omega)⟩⟩
  | 2, hd =>
    cases hd
    exact ⟨[dctA q0 (sm M0), insA a1 CS stF [.adr c1], dctA c1 (sm L1), dctA p1 (sm M1), insA a2 CS stF [.adr c2], dctA c2 (sm L2), dctA p2 (sm M2)], [], a3, c3, q0, L3, M0, rfl, rfl, .head _, h3 (by omega),
      fun L' => ⟨L1, L2, L', rfl, fun z => (by omega), fun z => (by omega), fun z => (by omega)⟩⟩
  | i + 3, hd => cases hd
structure Bk where
  q : Addr
  a : Addr
  c : Addr
  m : List (Str × Str)
  l : List (Str × Str)
def bkS (CS : Addr) (bs : List Bk) : Rs := bs.map (fun b => dctA b.q (sm b.m)) ++ bs.flatMap fun b => [insA b.a CS stF [.adr b.c], dctA b.c (sm b.l)]
theorem bk_q {CS : Addr} {bs : List Bk} {b : Bk} (h : b ∈ bs) : dctA b.q (sm b.m) ∈ bkS CS bs := List.mem_append.mpr (.inl (List.mem_map.mpr ⟨b, h, rfl⟩))
theorem bk_s {CS : Addr} {bs : List Bk} {b : Bk} {r : Rs} (h : b ∈ bs) (hr : ∀ t ∈ bkS CS bs, t ∈ r) : StV CS r (.adr b.a) b.l :=
  .own (hr _ (List.mem_append.mpr (.inr (List.mem_flatMap.mpr ⟨b, h, .head _⟩)))) (hr _ (List.mem_append.mpr (.inr (List.mem_flatMap.mpr ⟨b, h, .tail _ (.head _)⟩))))
abbrev N_law : List Str := ["_law_script", "_law_pool_here", "_law_names_here", "_law_models", "_law_k", "_law_settings", "_law_modes", "_law_turn", "_law_a", "_law_b", "_law_one", "_law_other", "_law_unlike", "_law_above", "_law_result", "_law_name"]
theorem sc_law : FnScope N_law ["_law_script"] (defScope s_law) := ⟨rfl, rfl, rfl, by decide +kernel, rfl, by decide +kernel, by decide +kernel⟩
set_option maxHeartbeats 4000000 in
theorem ok_law {CS CB CM fl fp : Addr} {fd fdp : FuncData} (F : Fun K "law" "law" s_law fl fd) (GP : FnOk P w K mg base CX0 1 fp fdp ["_law_script"] (spPool K)) (gP : mg "_law_pool" = some (.ref fp)) (kP : PySem.W.keepIn K (.ref fp) = true) (bP : Binds K fdp ["_law_script"] [])
    (B : Bl mg) (C__law_draw : Cl P w K mg base 1 "_law_draw" ["_law_pool_here", "_law_many"] spDraw) (C__law_names : Cl P w K mg base 2 "_law_names" ["_law_pool_here", "_law_many"] spNames) (C__law_cut : Cl P w K mg base 2 "_law_cut" ["_law_pool_here", "_law_names_here"] spCut) (C__law_random_modes : Cl P w K mg base 2 "_law_random_modes" ["_law_pool_here", "_law_names_here"] spRandM)
    (C__law_setting : Cl P w K mg base 5 "_law_setting" ["_law_modes"] (spMkSt CS)) (C__law_results : Cl P w K mg base 7 "_law_results" ["_law_one", "_law_other", "_law_first", "_law_second", "_law_names_here"] (spResults CS)) (Si_Setting : ClSi P w K mg base 3 CS (spStPut CS CB CM)) (Op_Setting_xor : ClOp P w K mg base 6 CS "__xor__" (spStXor CS)) (E_Setting : ClE P w K mg base 1 CS (spStEq CS)) (M_Setting_is_within : ClM P w K mg base 5 CS "is_within" (spStWin CS))
    (C__law_rank : Cl P w K mg base 1 "_law_rank" ["_law_mode"] spLRank) (C__law_same : Cl P w K mg base 4 "_law_same" ["_law_actual", "_law_due"] (spSame 4)) (C__law_holds : Cl P w K mg base 6 "_law_holds" ["_law_setting_here", "_law_modes", "_law_names_here"] (spHolds CS)) :
    FnOk P w K mg base CX0 8 fl fd ["_law_script"] (spLaw K) := by
  have sc := sc_law
  refine F.ok sc (fun vs H Q E h => ?_) (fun cdv A outer s H vs Q E hr h => ?_)
  · obtain ⟨a, ns, rfl, _⟩ := h
    rfl
  obtain ⟨a, ns, rfl, hS, hl, hQ⟩ := h
  have hu := hr.units
  have hi := u65 hr
  refine ⟨_, pss_cons (ps_set (i := 1) sc.nd rfl (.inr rfl) (pe_call GP (hr.mono (by decide)) (by rfl) gP kP bP .nil pass0 (pa_cons (pv 0) pa_nil))) ((ss_cons (s_set (i := 2) sc.nd (d_fn C__law_cut takes0 hr (dl_cons (dv 1) (dl_cons (d_fn C__law_names takes0 hr (dl_cons (dv 1) (dl_cons (d_bin p_add d_int (d_fn C__law_draw takes0 hr (dl_cons (dv 1) (dl_cons d_int dl_nil)))) dl_nil))) dl_nil))))
  (ss_cons (s_setLc (i := 3) (js := [4]) (own := [("_law_k", 4)]) sc.nd (i_r1 (by rfl) B.range (dl_cons d_int dl_nil)) (blkOk_by (own := [("_law_k", 4)]) (N := N_law) (sc := defScope s_law) (by decide +kernel)) (fun _ _ _ _ _ => (g_name (i := 4) sc.nd)) (fun _ _ _ _ _ => pts_no) (fun _ _ _ _ _ => (d_fnN C__law_random_modes hr (dl_cons (dv 1) (dl_cons (dv 2) dl_nil)))) (sw_true rfl rfl rfl (by decide +kernel)))
  (ss_cons (s_setLc (i := 5) (js := [6]) (own := [("_law_modes", 6)]) sc.nd (i_list (dv 3)) (blkOk_by (own := [("_law_modes", 6)]) (N := N_law) (sc := defScope s_law) (by decide +kernel)) (fun _ _ _ _ _ => (g_name (i := 6) sc.nd)) (fun _ _ _ _ _ => pts_no) (fun _ _ _ _ _ => (d_fnN C__law_setting hr (dl_cons (dv 6) dl_nil))) (sw_true rfl rfl rfl (by decide +kernel)))
  (ss_cons (s_for (i_r1 (by rfl) B.range (dl_cons d_int dl_nil)) (g_name (i := 7) sc.nd)
  (ss_cons (s_set (i := 8) sc.nd (d_fn C__law_draw takes0 hr (dl_cons (dv 1) (dl_cons d_int dl_nil))))
  (ss_cons (s_set (i := 9) sc.nd (d_fn C__law_draw takes0 hr (dl_cons (dv 1) (dl_cons d_int dl_nil))))
  (ss_cons (s_set (i := 10) sc.nd (d_ix (dv 3) (dv 8)))
  (ss_cons (s_set (i := 11) sc.nd (d_ix (dv 3) (dv 9)))
  (ss_cons (s_for (i_list (d_fn C__law_results takes0 hr (dl_cons (dv 10) (dl_cons (dv 11) (dl_cons (d_ix (dv 5) (dv 8)) (dl_cons (d_ix (dv 5) (dv 9)) (dl_cons (dv 2) dl_nil))))))) (g_lstT (is := [14, 6]) (pgs_n (i := 14) sc.nd (pgs_n (i := 6) sc.nd pgs_nil)))
  (ss_cons (s_if (b_not (b_tru (d_fn C__law_holds takes0 hr (dl_cons (dv 14) (dl_cons (dv 6) (dl_cons (dv 2) dl_nil))))))
  (ss_one (s_ret d_bl))
  ss_nil)
  (ss_cons (s_set (i := 15) sc.nd (d_ix (dv 2) (d_fn C__law_draw takes0 hr (dl_cons (dv 1) (dl_cons (d_blt c_len (by rfl) B.len (dl_cons (dv 2) dl_nil)) dl_nil)))))
  (ss_one (s_setit Si_Setting takes0 hr (dv 14) (dv 15) (d_ix (d_lst (dl_cons d_str (dl_cons d_str (dl_cons d_str dl_nil)))) (d_fn C__law_draw takes0 hr (dl_cons (dv 1) (dl_cons d_int dl_nil)))))))) PassesOwn.never)
  (ss_cons (s_le (s_set (i := 12) sc.nd (d_blt c_sortedS (by rfl) B.sorted (dl_cons (d_lc (js := [15]) (own := [("_law_name", 15)]) sc.nd (i_list (dv 2)) (blkOk_by (own := [("_law_name", 15)]) (N := N_law) (sc := defScope s_law) (by decide +kernel)) (fun _ _ _ _ _ => (g_name (i := 15) sc.nd)) (fun _ _ _ _ _ => (pts_1 (b_cmp (p_ne hu) (d_dix hi (dv 10) (dv 15)) (d_dix hi (dv 11) (dv 15))))) (fun _ _ _ _ _ => (dv 15))) dl_nil))))
  (ss_cons (s_if (b_w (w_or (b_not (b_tru (d_fn C__law_same takes0 hr (dl_cons (d_op Op_Setting_xor takes0 hr (d_ix (dv 5) (dv 8)) (d_ix (dv 5) (dv 9))) (dl_cons (dv 12) dl_nil))))) (w_or1 (b_cmp (p_ne hu) (d_eqi E_Setting hr (d_ix (dv 5) (dv 8)) (d_ix (dv 5) (dv 9))) (d_cmp (p_eq hu) (dv 12) (d_lst dl_nil))))))
  (ss_one (s_ret d_bl))
  ss_nil)
  (ss_cons (s_setLc (i := 13) (js := [15]) (own := [("_law_name", 15)]) sc.nd (i_list (dv 2)) (blkOk_by (own := [("_law_name", 15)]) (N := N_law) (sc := defScope s_law) (by decide +kernel)) (fun _ _ _ _ _ => (g_name (i := 15) sc.nd)) (fun _ _ _ _ _ => (pts_1 (b_cmp p_gt (d_fnN C__law_rank hr (dl_cons (d_dix hi (dv 10) (dv 15)) dl_nil)) (d_fnN C__law_rank hr (dl_cons (d_dix hi (dv 11) (dv 15)) dl_nil))))) (fun _ _ _ _ _ => (dv 15)) (sw_true rfl rfl rfl (by decide +kernel)))
  (ss_cons (s_if (b_not (b_tru (d_fn C__law_same takes0 hr (dl_cons (d_mt M_Setting_is_within takes0 hr (d_ix (dv 5) (dv 8)) (dl_cons (d_ix (dv 5) (dv 9)) dl_nil)) (dl_cons (d_cmp (p_eq hu) (dv 13) (d_lst dl_nil)) dl_nil)))))
  (ss_one (s_ret d_bl))
  ss_nil)
  (ss_one (s_for (i_r1 (by rfl) B.range (dl_cons d_int dl_nil)) (g_name (i := 4) sc.nd)
  (ss_one (s_if (b_not (b_tru (d_fn C__law_holds takes0 hr (dl_cons (d_ix (dv 5) (dv 4)) (dl_cons (d_ix (dv 3) (dv 4)) (dl_cons (dv 2) dl_nil))))))
  (ss_one (s_ret d_bl))
  ss_nil)) PassesOwn.never))))))))))) PassesOwn.never)
  (ss_one (s_ret d_bl)))))) : PBD _ W0 _ _), ?_⟩
  refine ⟨_, rfl, a, ns, rfl, hS, hl, fun p a' H' ro => law_go ro hQ ?_⟩
  refine ⟨p, a', 6, 0, [], rfl, rfl, ⟨by decide, by decide⟩, by decide, fun c0 c00 c01 => ?_⟩
  obtain ⟨m0, rfl⟩ : ∃ m0 : Nat, c0 = m0 := ⟨c0.toNat, by omega⟩
  refine ⟨p, a', 0 + 1, [], 1 + m0, rfl, rfl, by decide, by omega, fun ys hyl hyn hyz => ?_⟩
  refine ⟨p, a', _, [], ys, rfl, rfl, by omega, by omega, hyn, hyz, fun zs hzl hnd hz => ?_⟩
  obtain ⟨n5, hn5⟩ : ∃ n5, n5 = 0 + 1 + 2 + 8 * (1 + m0) + ys.length := ⟨_, rfl⟩
  rw [← hn5]
  have hzl : zs.length = 1 + m0 := by omega
  have h5 : n5 ≤ 100 := by omega
  have h60 : zs.length ≤ 60 := by omega
  have h100 : zs.length ≤ 100 := by omega
  -- three models
  refine ⟨⟨by decide, by decide⟩, fun i acc r' => ∃ ms : List (Addr × List (Str × Str)), ms.length = i ∧ acc = ms.map (fun e => D.adr e.1) ∧ (∀ e ∈ ms, WOk e.2 ∧ e.2.map (·.1) = zs) ∧ r' = poolA p a' (n5 + zs.length * i) :: ms.map fun e => dctA e.1 (sm e.2), ⟨[], rfl, rfl, fun _ h => (by cases h), rfl⟩, ?_, ?_⟩
  · rintro pl i d acc r' hd ⟨ms, hmi, rfl, hms, rfl⟩
    have hi3 : i < 3 := by have := (List.getElem?_eq_some_iff.mp hd).1; rw [List.length_map, List.length_range] at this; exact this
    have hNi : n5 + zs.length * i ≤ 1000 := by have := Nat.mul_le_mul h60 (Nat.le_of_lt hi3); omega
    refine brT ⟨p, a', n5 + zs.length * i, _, zs, rfl, rfl, by omega, hnd, h60, fun q m hk hm => ⟨by unfold small; rw [List.length_map, hmi]; omega, poolA p a' (n5 + zs.length * (i + 1)) :: (ms ++ [(q, m)]).map (fun e => dctA e.1 (sm e.2)), ?_, ms ++ [(q, m)], ?_, ?_, ?_, rfl⟩⟩
    · refine .trans (le.perm ?_) .refl
      rw [List.map_append, Nat.mul_succ, ← Nat.add_assoc]
      refine .cons _ ?_
      show List.Perm ((_ ++ _) ++ _) ((_ ++ _) ++ _)
      rw [List.append_assoc, List.append_assoc]
      exact .append_left _ List.perm_append_comm
    · rw [List.length_append, hmi]; rfl
    · rw [List.map_append]; rfl
    · intro e he
      rcases List.mem_append.mp he with he | he
      · exact hms e he
      · rw [List.mem_singleton.mp he]
        refine ⟨⟨by rw [hk]; exact hnd, fun e he => hz _ (by rw [← hk]; exact List.mem_map.mpr ⟨e, he, rfl⟩), hm, ?_⟩, hk⟩
        have := congrArg List.length hk
        rw [List.length_map] at this
        show m.length ≤ 60
        omega
  rintro acc r' ⟨ms, hml, rfl, hms, rfl⟩
  have hml : ms.length = 3 := by rw [hml, List.length_map, List.length_range]; rfl
  obtain ⟨n6, hn6, h6⟩ : ∃ n6, n6 = n5 + zs.length * (List.map (fun i => D.int (i : Nat)) (List.range (Int.toNat 3))).length ∧ n6 ≤ 1000 := ⟨_, rfl, by rw [List.length_map, List.length_range]; show n5 + zs.length * 3 ≤ 1000; omega⟩
  rw [← hn6]
  -- three settings
  refine ⟨fun i acc r' => ∃ bs : List Bk, bs.length = i ∧ acc = bs.map (fun b => D.adr b.a) ∧ bs.map (fun b => (b.q, b.m)) = ms.take i ∧ (∀ b ∈ bs, Agr b.l b.m) ∧ r' = poolA p a' n6 :: (ms.map (fun e => dctA e.1 (sm e.2)) ++ bs.flatMap fun b => [insA b.a CS stF [.adr b.c], dctA b.c (sm b.l)]), ⟨[], rfl, rfl, rfl, fun _ h => (by cases h), by rw [List.flatMap_nil, List.append_nil]⟩, ?_, ?_⟩
  · rintro pl i d acc r' hd ⟨bs, hbi, rfl, hbm, hag, rfl⟩
    rw [List.getElem?_map] at hd
    obtain ⟨e, he, rfl⟩ := Option.map_eq_some_iff.mp hd
    have hi3 : i < 3 := by have := (List.getElem?_eq_some_iff.mp he).1; omega
    have hme := List.mem_of_getElem? he
    have hw := (hms e hme).1
    have hd1 : dctA e.1 (sm e.2) ∈ (poolA p a' n6 :: (ms.map (fun e => dctA e.1 (sm e.2)) ++ bs.flatMap fun b : Bk => [insA b.a CS stF [.adr b.c], dctA b.c (sm b.l)])) ++ [lstA pl (bs.map fun b => D.adr b.a)] := List.mem_append.mpr (.inl (.tail _ (List.mem_append.mpr (.inl (List.mem_map.mpr ⟨e, hme, rfl⟩)))))
    obtain ⟨pre, post, er⟩ := app_mem hd1
    refine brT ⟨e.1, e.2, pre, post, rfl, er, hw, hw.nm, fun a2 c2 => ⟨by unfold small; rw [List.length_map, hbi]; omega, poolA p a' n6 :: (ms.map (fun e => dctA e.1 (sm e.2)) ++ (bs ++ [(⟨e.1, a2, c2, e.2, stOf e.2⟩ : Bk)]).flatMap fun b : Bk => [insA b.a CS stF [.adr b.c], dctA b.c (sm b.l)]), ?_, bs ++ [⟨e.1, a2, c2, e.2, stOf e.2⟩], ?_, ?_, ?_, ?_, rfl⟩⟩
    · refine .trans (le.perm ?_) .refl
      rw [List.flatMap_append]
      refine .cons _ ?_
      show List.Perm (((_ ++ _) ++ _) ++ _) ((_ ++ (_ ++ _)) ++ _)
      rw [List.append_assoc, List.append_assoc, List.append_assoc, List.append_assoc]
      exact .append_left _ (.append_left _ List.perm_append_comm)
    · rw [List.length_append, hbi]; rfl
    · rw [List.map_append]; rfl
    · rw [List.map_append, hbm, List.take_add_one, he]; rfl
    · intro b hb
      rcases List.mem_append.mp hb with hb | hb
      · exact hag b hb
      · rw [List.mem_singleton.mp hb]
        exact Agr.of hw
  rintro acc r' ⟨bs, hbl, rfl, hbm, hag, rfl⟩
  rw [List.length_map] at hbl hbm
  rw [List.take_length] at hbm
  have hbl : bs.length = 3 := hbl.trans hml
  have hks : ∀ b ∈ bs, b.m.map (·.1) = zs := fun b hb => (hms (b.q, b.m) (by rw [← hbm]; exact List.mem_map.mpr ⟨b, hb, rfl⟩)).2
  have e1 : ms.map (fun e => dctA e.1 (sm e.2)) = bs.map fun b => dctA b.q (sm b.m) := by rw [← hbm, List.map_map]; rfl
  have e2 : ms.map (fun e => D.adr e.1) = bs.map fun b => D.adr b.q := by rw [← hbm, List.map_map]; rfl
  obtain ⟨Y, hY⟩ : ∃ Y, Y = bkS CS bs := ⟨_, rfl⟩
  rw [e1, e2, show (bs.map (fun b => dctA b.q (sm b.m)) ++ bs.flatMap fun b => [insA b.a CS stF [.adr b.c], dctA b.c (sm b.l)]) = Y from hY.symm]
  clear e1 e2
  have hq : ∀ (b : Bk) (n : Nat) (t : Rs), b ∈ bs → dctA b.q (sm b.m) ∈ (poolA p a' n :: Y) ++ t := fun b n t hb => List.mem_append.mpr (.inl (.tail _ (by rw [hY]; exact bk_q hb)))
  have hst : ∀ (b : Bk) (n : Nat) (t : Rs), b ∈ bs → StV CS ((poolA p a' n :: Y) ++ t) (.adr b.a) b.l := fun b n t hb => bk_s hb fun u hu => List.mem_append.mpr (.inl (.tail _ (by rw [hY]; exact hu)))
  have atq : ∀ {k : Nat} {b : Bk}, bs[k]? = some b → atI (bs.map fun b => D.adr b.q) (k : Int) = some (.adr b.q) := fun h => L2.atI_nat (by rw [List.getElem?_map, h]; rfl)
  have ata : ∀ {k : Nat} {b : Bk}, bs[k]? = some b → atI (bs.map fun b => D.adr b.a) (k : Int) = some (.adr b.a) := fun h => L2.atI_nat (by rw [List.getElem?_map, h]; rfl)
  refine ⟨⟨by decide, by decide⟩, fun i δ r' => (∃ x4 x6 x7 x8 x9 x10 x11 x12 x13 x14 x15, δ = [none, some (.adr p), some (.lst (zs.map .str)), some (.lst (bs.map fun b => D.adr b.q)), x4, some (.lst (bs.map fun b => D.adr b.a)), x6, x7, x8, x9, x10, x11, x12, x13, x14, x15]) ∧ ∃ n, n ≤ 1000 + 100 * i ∧ r' = poolA p a' n :: Y, ⟨⟨_, _, _, _, _, _, _, _, _, _, _, rfl⟩, n6, by omega, rfl⟩, ?_, ?_⟩
  · rintro i d δ r' hd ⟨⟨x4, x6, x7, x8, x9, x10, x11, x12, x13, x14, x15, rfl⟩, N, hN, rfl⟩
    have hi3 : i < 3 := by have := (List.getElem?_eq_some_iff.mp hd).1; rw [List.length_map, List.length_range] at this; exact this
    refine ⟨p, a', 3, N, Y, rfl, rfl, ⟨by decide, by decide⟩, by omega, fun c c0 c1 => ?_⟩
    obtain ⟨j, rfl⟩ : ∃ j : Nat, c = j := ⟨c.toNat, by omega⟩
    refine ⟨p, a', 3, N + 1, Y, rfl, rfl, ⟨by decide, by decide⟩, by omega, fun c c2 c3 => ?_⟩
    obtain ⟨k, rfl⟩ : ∃ k : Nat, c = k := ⟨c.toNat, by omega⟩
    obtain ⟨bj, hj⟩ : ∃ b, bs[j]? = some b := ⟨bs[j], List.getElem?_eq_getElem (by omega)⟩
    obtain ⟨bk, hk⟩ : ∃ b, bs[k]? = some b := ⟨bs[k], List.getElem?_eq_getElem (by omega)⟩
    have mj := List.mem_of_getElem? hj
    have mk := List.mem_of_getElem? hk
    refine ix_l (atq hj) (ix_l (atq hk) ?_)
    have aj := hag bj mj
    have ak := hag bk mk
    have kj := hks bj mj
    have kk := hks bk mk
    have hq0 : ∀ (b : Bk) (n : Nat), b ∈ bs → dctA b.q (sm b.m) ∈ poolA p a' n :: Y := fun b n hb => .tail _ (by rw [hY]; exact bk_q hb)
    have hst0 : ∀ (b : Bk) (n : Nat), b ∈ bs → StV CS (poolA p a' n :: Y) (.adr b.a) b.l := fun b n hb => bk_s hb fun u hu => .tail _ (by rw [hY]; exact hu)
    refine ix_l (ata hj) (ix_l (ata hk) ⟨bj.q, bk.q, .adr bj.a, .adr bk.a, bj.m, bk.m, bj.l, bk.l, zs, rfl, hq0 _ _ mj, hq0 _ _ mk, hst0 _ _ mj, hst0 _ _ mk, aj, ak, kj, kk, fun q0 a1 c1 p1 a2 c2 p2 a3 c3 U1 U2 U3 o1 o2 o3 t1 t2 t3 => ?_⟩)
    obtain ⟨M0, hM0⟩ : ∃ M0, M0 = dic (fun z => subM (mdAt bj.m z) (mdAt bk.m z)) zs := ⟨_, rfl⟩
    obtain ⟨M1, hM1⟩ : ∃ M1, M1 = dic (fun z => bothS true (mdAt bj.m z) (mdAt bk.m z)) zs := ⟨_, rfl⟩
    obtain ⟨M2, hM2⟩ : ∃ M2, M2 = dic (fun z => bothS false (mdAt bj.m z) (mdAt bk.m z)) zs := ⟨_, rfl⟩
    rw [← hM0, ← hM1, ← hM2]
    have outs : ∀ {b : Bk}, b ∈ bs → ∀ z, z ∉ zs → mdAt b.m z = "out" := fun {b} hb z hz => mdAt_out (by rw [hks b hb]; exact hz)
    have g1 : Agr U1 M1 := by
      rw [hM1]
      exact agr_dic o1 hnd hz h60 (fun z => greS_mem (mdAt_in aj.mo z) (mdAt_in ak.mo z)) (fun z _ => by rw [t1, aj.at_, ak.at_]; rfl) fun z hzn => by rw [t1, aj.at_, ak.at_, outs mj z hzn, outs mk z hzn]; rfl
    have g2 : Agr U2 M2 := by
      rw [hM2]
      exact agr_dic o2 hnd hz h60 (fun z => lesS_mem (mdAt_in aj.mo z) (mdAt_in ak.mo z)) (fun z _ => by rw [t2, aj.at_, ak.at_]; rfl) fun z hzn => by rw [t2, aj.at_, ak.at_, outs mj z hzn, outs mk z hzn]; rfl
    have g3 : Agr U3 M0 := by
      rw [hM0]
      refine agr_dic o3 hnd hz h60 (fun z => ?_) (fun z _ => by rw [t3, aj.at_, ak.at_]) fun z hzn => by rw [t3, aj.at_, ak.at_, outs mj z hzn, outs mk z hzn]; rfl
      show (if _ then _ else _) ∈ modesL
      split
      · exact mdAt_in aj.mo z
      · decide
    refine ⟨fun i2 δ r' => (∃ x4 x6 x14 x15, δ = [none, some (.adr p), some (.lst (zs.map .str)), some (.lst (bs.map fun b => D.adr b.q)), x4, some (.lst (bs.map fun b => D.adr b.a)), x6, some d, some (.int (j : Nat)), some (.int (k : Nat)), some (.adr bj.q), some (.adr bk.q), x12, x13, x14, x15]) ∧ ∃ X9, Nine CS q0 a1 c1 p1 a2 c2 p2 a3 c3 M0 M1 M2 i2 X9 ∧ r' = (poolA p a' (N + 2 + 2 * i2) :: Y) ++ X9, ⟨⟨_, _, _, _, rfl⟩, _, ⟨U1, U2, U3, rfl, fun _ => g1, fun _ => g2, fun _ => g3⟩, rfl⟩, ?_, ?_⟩
    · rintro i2 d2 δ r' hd2 ⟨⟨x4, x6, x14, x15, rfl⟩, X9, hX, rfl⟩
      have hi2 : i2 < 3 := by have := (List.getElem?_eq_some_iff.mp hd2).1; exact this
      obtain ⟨A1, A2, a0, cc, qq, L, M, rfl, hX9, hMm, hA, hnext⟩ := hX.step hd2
      refine ⟨rfl, ?_⟩
      have hi1 : insA a0 CS stF [D.adr cc] ∈ X9 := by rw [hX9]; exact List.mem_append.mpr (.inr (.head _))
      have hi2' : dctA cc (sm L) ∈ X9 := by rw [hX9]; exact List.mem_append.mpr (.inr (.tail _ (.head _)))
      obtain ⟨v1, w1, ev⟩ := app_mem (show dctA qq (sm M) ∈ (poolA p a' (N + 2 + 2 * i2) :: Y) ++ X9 from List.mem_append.mpr (.inr hMm))
      refine ⟨_, _, L, M, zs, v1, w1, rfl, ev, .own (List.mem_append.mpr (.inr hi1)) (List.mem_append.mpr (.inr hi2')), hA, hz, h100, brF ?_⟩
      refine fun _ => ⟨p, a', _, N + 2 + 2 * i2, Y ++ X9, rfl, rfl, ⟨by rw [List.length_map]; omega, by rw [List.length_map]; omega⟩, by omega, fun c c0 c1 => ?_⟩
      rw [List.length_map] at c1
      obtain ⟨o, rfl⟩ : ∃ o : Nat, c = o := ⟨c.toNat, by omega⟩
      obtain ⟨z, hzo⟩ : ∃ z, zs[o]? = some z := ⟨zs[o], List.getElem?_eq_getElem (by omega)⟩
      refine ix_l (L2.atI_nat (by rw [List.getElem?_map, hzo]; rfl)) ?_
      refine ⟨Nat.le_of_ble_eq_true rfl, p, a', 3, _, _, rfl, rfl, ⟨by decide, by decide⟩, by omega, fun c c0 c1 => ?_⟩
      obtain ⟨y, hym, hat⟩ := pickM c0 c1
      refine ix_l hat ?_
      have hin : insA a0 CS stF [D.adr cc] ∈ poolA p a' (N + 2 + 2 * i2 + 1 + 1) :: (Y ++ X9) := .tail _ (List.mem_append.mpr (.inr hi1))
      refine ⟨SetV.isC (l := L) (.own hin (.tail _ (List.mem_append.mpr (.inr hi2')))), a0, cc, .str z, .str y, L, poolA p a' (N + 2 + 2 * i2 + 1 + 1) :: (Y ++ A1 ++ [insA a0 CS stF [D.adr cc]]), A2, rfl, ?_, hin, ?_, rfl, rfl, .inl ⟨z, y, rfl, rfl, hz z (List.mem_of_getElem? hzo), hym, ?_⟩⟩
      · rw [hX9]
        show poolA _ _ _ :: (_ ++ (_ ++ _)) = poolA _ _ _ :: ((_ ++ _ ++ [_]) ++ _)
        rw [List.append_assoc, List.append_assoc]
        rfl
      · have := hA.lo.ln
        omega
      refine ⟨⟨_, _, _, _, rfl⟩, _, hnext (stPut L z y), ?_⟩
      show poolA _ _ _ :: ((_ ++ _ ++ [_]) ++ _) = poolA _ _ _ :: (_ ++ (_ ++ _))
      rw [List.append_assoc, List.append_assoc]
      rfl
    · rintro δ r' ⟨⟨x4, x6, x14, x15, rfl⟩, X9, hX, rfl⟩
      obtain ⟨N2, hN2, hN2'⟩ : ∃ N2, N2 = N + 2 + 2 * [D.lst [D.adr a1, D.adr p1], D.lst [D.adr a2, D.adr p2], D.lst [D.adr a3, D.adr q0]].length ∧ N2 ≤ 1000 + 100 * (i + 1) := ⟨_, rfl, by show N + 2 + 2 * 3 ≤ _; omega⟩
      rw [← hN2]
      refine ⟨_, le.drop, ?_⟩
      have up : ∀ (b : Bk) (t : Rs), b ∈ bs → DctV ((poolA p a' N2 :: Y) ++ t) (.adr b.q) (sm b.m) := fun b t hb => .own (hq b N2 t hb)
      refine lc_fmR (fun d => match d with | .str z => decide (mdAt bj.m z ≠ mdAt bk.m z) | _ => false) (fun d => d) (by unfold small; rw [List.length_map]; omega) (fun x hx T Q1 Q2 g1 g2 => ?_) ?_
      · obtain ⟨z, hzm, rfl⟩ := List.mem_map.mp hx
        refine sm_dget (up bj T mj) ?_
        rw [sGet_mdAt (by rw [kj]; exact hzm)]
        refine ⟨.str _, rfl, sm_dget (up bk T mk) ?_⟩
        rw [sGet_mdAt (by rw [kk]; exact hzm)]
        refine ⟨.str _, rfl, Nat.zero_le _, Nat.zero_le _, ?_⟩
        rw [eqD_str, show (!(mdAt bj.m z == mdAt bk.m z)) = decide (mdAt bj.m z ≠ mdAt bk.m z) by
          by_cases q : mdAt bj.m z = mdAt bk.m z
          · rw [q, beq_self_eq_true, decide_eq_false (fun k => k rfl)]; rfl
          · rw [beq_eq_false_iff_ne.mpr q, decide_eq_true q]; rfl]
        exact ⟨g1, g2⟩
      have ef : ((zs.map D.str).filter fun d => match d with | .str z => decide (mdAt bj.m z ≠ mdAt bk.m z) | _ => false) = (unl bj.m bk.m zs).map .str := by
        rw [List.filter_map]; rfl
      rw [List.map_id', ef]
      have hul : (unl bj.m bk.m zs).length ≤ 60 := Nat.le_trans (List.length_filter_le _ _) h60
      refine ⟨⟨_, rfl, by omega, ?_⟩⟩
      have few : Few bj.l bk.l := ⟨zs, h60, fun e he => by have := (aj.keys.mem_iff (a := e.1)).mp (List.mem_map.mpr ⟨e, he, rfl⟩); rw [kj] at this; exact (List.mem_filter.mp this).1, fun e he => by have := (ak.keys.mem_iff (a := e.1)).mp (List.mem_map.mpr ⟨e, he, rfl⟩); rw [kk] at this; exact (List.mem_filter.mp this).1⟩
      have sj := hst0 bj N2 mj
      have sk := hst0 bk N2 mk
      refine ix_l (ata hj) (ix_l (ata hk) ⟨sj.isC, sk.isC, .adr bj.a, .adr bk.a, bj.l, bk.l, unl bj.m bk.m zs, rfl, sj, sk, aj.lo, ak.lo, few, hnd.filter _, unl_mem aj ak kj kk, ?_⟩)
      have pD : plain (.lst ((srt (unl bj.m bk.m zs)).map .str)) = true := plain_of_lst (by rw [List.length_map, srt_len]; omega) (plainS _)
      refine ⟨_, _, rfl, pD, pD, by show deps _ + 1 ≤ 64; have := depsS (srt (unl bj.m bk.m zs)); omega, by show deps _ + 1 < 4; have := depsS (srt (unl bj.m bk.m zs)); omega, ?_⟩
      rw [same_refl _ pD]
      refine brF ?_
      have eB : ∀ b : Bool, eqD (.bl b) (.bl b) = true := fun b => by cases b <;> rfl
      have eE : eqD (.lst ((srt (unl bj.m bk.m zs)).map .str)) (.lst []) = (unl bj.m bk.m zs).isEmpty := by
        have h1 : (srt (unl bj.m bk.m zs)).length = (unl bj.m bk.m zs).length := srt_len _
        cases h2 : srt (unl bj.m bk.m zs) with
        | nil =>
          rw [h2] at h1
          rw [List.isEmpty_iff.mpr (List.length_eq_zero_iff.mp h1.symm)]
          rfl
        | cons x l =>
          rw [h2] at h1
          cases h3 : unl bj.m bk.m zs with
          | nil => rw [h3] at h1; cases h1
          | cons y l2 => rfl
      refine ix_l (ata hj) (ix_l (ata hk) ⟨sj.isC, .inr sk.isC, .adr bj.a, .adr bk.a, bj.l, rfl, sj, .inl ⟨bk.l, sk, _, rfl, ?_⟩⟩)
      refine ⟨Nat.zero_le _, by show deps _ + 1 ≤ 64; have := depsS (srt (unl bj.m bk.m zs)); omega, Nat.le_of_ble_eq_true rfl, Nat.zero_le _, Nat.zero_le _, ?_⟩
      rw [eE, eqS_unl aj ak kj kk, cond_false, eB]
      refine brF ?_
      refine lc_fmR (fun d => match d with | .str z => decide (rankS (mdAt bj.m z) > rankS (mdAt bk.m z)) | _ => false) (fun d => d) (by unfold small; rw [List.length_map]; omega) (fun x hx T Q1 Q2 g1 g2 => ?_) ?_
      · obtain ⟨z, hzm, rfl⟩ := List.mem_map.mp hx
        refine sm_dget (up bj T mj) ?_
        rw [sGet_mdAt (by rw [kj]; exact hzm)]
        refine ⟨.str _, rfl, _, rfl, mdAt_in aj.mo z, sm_dget (up bk T mk) ?_⟩
        rw [sGet_mdAt (by rw [kk]; exact hzm)]
        exact ⟨.str _, rfl, _, rfl, mdAt_in ak.mo z, g1, g2⟩
      have ef2 : ((zs.map D.str).filter fun d => match d with | .str z => decide (rankS (mdAt bj.m z) > rankS (mdAt bk.m z)) | _ => false) = (abv bj.m bk.m zs).map .str := by
        rw [List.filter_map]; rfl
      rw [List.map_id', ef2]
      have eA : eqD (.lst ((abv bj.m bk.m zs).map .str)) (.lst []) = (abv bj.m bk.m zs).isEmpty := by
        cases abv bj.m bk.m zs <;> rfl
      refine ix_l (ata hj) ⟨sj.isC, ix_l (ata hk) ⟨.adr bj.a, .adr bk.a, bj.l, bk.l, rfl, sj, sk, aj.lo, ak.lo, ?_⟩⟩
      refine ⟨Nat.zero_le _, by show deps _ + 1 ≤ 64; have := depsS (abv bj.m bk.m zs); omega, Nat.le_of_ble_eq_true rfl, ?_⟩
      refine ⟨_, _, rfl, rfl, rfl, Nat.zero_le _, Nat.zero_lt_succ _, ?_⟩
      rw [eA, within_abv aj ak kj, show ∀ b : Bool, G.same (.bl b) (.bl b) = true from fun b => same_refl _ rfl]
      refine brF ?_
      refine ⟨⟨by decide, by decide⟩, fun i3 δ r' => (∃ x4 x6 x14 x15, δ = [none, some (.adr p), some (.lst (zs.map .str)), some (.lst (bs.map fun b => D.adr b.q)), x4, some (.lst (bs.map fun b => D.adr b.a)), x6, some d, some (.int (j : Nat)), some (.int (k : Nat)), some (.adr bj.q), some (.adr bk.q), some (.lst ((srt (unl bj.m bk.m zs)).map .str)), some (.lst ((abv bj.m bk.m zs).map .str)), x14, x15]) ∧ r' = poolA p a' N2 :: Y, ⟨⟨_, _, _, _, rfl⟩, rfl⟩, ?_, ?_⟩
      · rintro i3 d3 δ r' hd3 ⟨⟨x4, x6, x14, x15, rfl⟩, rfl⟩
        obtain ⟨rfl, hlt⟩ : d3 = .int (i3 : Nat) ∧ i3 < 3 := by
          rw [List.getElem?_map] at hd3
          obtain ⟨o, ho, rfl⟩ := Option.map_eq_some_iff.mp hd3
          obtain ⟨h1, h2⟩ := List.getElem?_eq_some_iff.mp ho
          rw [List.getElem_range] at h2
          rw [List.length_range] at h1
          exact ⟨by rw [h2], h1⟩
        obtain ⟨b3, h3⟩ : ∃ b, bs[i3]? = some b := ⟨bs[i3], List.getElem?_eq_getElem (by omega)⟩
        have m3 := List.mem_of_getElem? h3
        obtain ⟨v1, w1, ev⟩ := app_mem (hq0 b3 N2 m3)
        exact ix_l (ata h3) (ix_l (atq h3) ⟨_, _, b3.l, b3.m, zs, v1, w1, rfl, ev, hst0 b3 N2 m3, hag b3 m3, hz, h100, brF ⟨⟨_, _, _, _, rfl⟩, rfl⟩⟩)
      · rintro δ r' ⟨⟨x4, x6, x14, x15, rfl⟩, rfl⟩
        exact ⟨⟨_, _, _, _, _, _, _, _, _, _, _, rfl⟩, N2, hN2', rfl⟩
  · rintro δ r' ⟨⟨x4, x6, x7, x8, x9, x10, x11, x12, x13, x14, x15, rfl⟩, _⟩
    rfl
end
set_option maxHeartbeats 0 in
def KF (P : PySem.Params) : PySem.W.Frag :=
(nat_lit 2, (@PySem.Obj.mk PySem.Value.none Option.none (@PySem.Data.dict (List.toArray []) (0 : Nat)) (List.toArray []))) ::
(nat_lit 3, (@PySem.Obj.mk (@PySem.Value.type "dict") Option.none (@PySem.Data.dict (List.toArray [(@PySem.DictEntry.mk (@PySem.PyData.keyHash P (@PySem.Str.ofString "__name__")) (@PySem.Value.str (@PySem.Str.ofString "__name__") (165 : Nat)) (@PySem.Value.str (@PySem.Str.ofString "law_quietprobes_k33_settings_combined") (506 : Nat))), (@PySem.DictEntry.mk (@PySem.PyData.keyHash P (@PySem.Str.ofString "__doc__")) (@PySem.Value.str (@PySem.Str.ofString "__doc__") (166 : Nat)) PySem.Value.none), (@PySem.DictEntry.mk (@PySem.PyData.keyHash P (@PySem.Str.ofString "__package__")) (@PySem.Value.str (@PySem.Str.ofString "__package__") (167 : Nat)) PySem.Value.none), (@PySem.DictEntry.mk (@PySem.PyData.keyHash P (@PySem.Str.ofString "__loader__")) (@PySem.Value.str (@PySem.Str.ofString "__loader__") (168 : Nat)) (@PySem.Value.builtin "__main__.__loader__#opaque")), (@PySem.DictEntry.mk (@PySem.PyData.keyHash P (@PySem.Str.ofString "__spec__")) (@PySem.Value.str (@PySem.Str.ofString "__spec__") (169 : Nat)) PySem.Value.none), (@PySem.DictEntry.mk (@PySem.PyData.keyHash P (@PySem.Str.ofString "__annotations__")) (@PySem.Value.str (@PySem.Str.ofString "__annotations__") (170 : Nat)) (@PySem.Value.ref (6 : Nat))), (@PySem.DictEntry.mk (@PySem.PyData.keyHash P (@PySem.Str.ofString "__builtins__")) (@PySem.Value.str (@PySem.Str.ofString "__builtins__") (171 : Nat)) (@PySem.Value.ref (4 : Nat))), (@PySem.DictEntry.mk (@PySem.PyData.keyHash P (@PySem.Str.ofString "__file__")) (@PySem.Value.str (@PySem.Str.ofString "__file__") (173 : Nat)) (@PySem.Value.str (@PySem.Str.ofString "/claim/cut.py") (172 : Nat))), (@PySem.DictEntry.mk (@PySem.PyData.keyHash P (@PySem.Str.ofString "__cached__")) (@PySem.Value.str (@PySem.Str.ofString "__cached__") (174 : Nat)) PySem.Value.none), (@PySem.DictEntry.mk (@PySem.PyData.keyHash P (@PySem.Str.ofString "_wall")) (@PySem.Value.str (@PySem.Str.ofString "_wall") (193 : Nat)) (@PySem.Value.ref (21 : Nat))), (@PySem.DictEntry.mk (@PySem.PyData.keyHash P (@PySem.Str.ofString "QuietError")) (@PySem.Value.str (@PySem.Str.ofString "QuietError") (213 : Nat)) (@PySem.Value.ref (31 : Nat))), (@PySem.DictEntry.mk (@PySem.PyData.keyHash P (@PySem.Str.ofString "BadName")) (@PySem.Value.str (@PySem.Str.ofString "BadName") (240 : Nat)) (@PySem.Value.ref (53 : Nat))), (@PySem.DictEntry.mk (@PySem.PyData.keyHash P (@PySem.Str.ofString "BadMode")) (@PySem.Value.str (@PySem.Str.ofString "BadMode") (267 : Nat)) (@PySem.Value.ref (74 : Nat))), (@PySem.DictEntry.mk (@PySem.PyData.keyHash P (@PySem.Str.ofString "Twice")) (@PySem.Value.str (@PySem.Str.ofString "Twice") (294 : Nat)) (@PySem.Value.ref (95 : Nat))), (@PySem.DictEntry.mk (@PySem.PyData.keyHash P (@PySem.Str.ofString "LETTERS")) (@PySem.Value.str (@PySem.Str.ofString "LETTERS") (298 : Nat)) (@PySem.Value.str (@PySem.Str.ofString "abcdefghijklmnopqrstuvwxyz") (297 : Nat))), (@PySem.DictEntry.mk (@PySem.PyData.keyHash P (@PySem.Str.ofString "MOST_LETTERS")) (@PySem.Value.str (@PySem.Str.ofString "MOST_LETTERS") (300 : Nat)) (@PySem.Value.int (8 : Int) (299 : Nat))), (@PySem.DictEntry.mk (@PySem.PyData.keyHash P (@PySem.Str.ofString "is_name")) (@PySem.Value.str (@PySem.Str.ofString "is_name") (306 : Nat)) (@PySem.Value.ref (102 : Nat))), (@PySem.DictEntry.mk (@PySem.PyData.keyHash P (@PySem.Str.ofString "MODES")) (@PySem.Value.str (@PySem.Str.ofString "MODES") (312 : Nat)) (@PySem.Value.ref (103 : Nat))), (@PySem.DictEntry.mk (@PySem.PyData.keyHash P (@PySem.Str.ofString "rank")) (@PySem.Value.str (@PySem.Str.ofString "rank") (319 : Nat)) (@PySem.Value.ref (110 : Nat))), (@PySem.DictEntry.mk (@PySem.PyData.keyHash P (@PySem.Str.ofString "greater_mode")) (@PySem.Value.str (@PySem.Str.ofString "greater_mode") (327 : Nat)) (@PySem.Value.ref (117 : Nat))), (@PySem.DictEntry.mk (@PySem.PyData.keyHash P (@PySem.Str.ofString "lesser_mode")) (@PySem.Value.str (@PySem.Str.ofString "lesser_mode") (335 : Nat)) (@PySem.Value.ref (124 : Nat))), (@PySem.DictEntry.mk (@PySem.PyData.keyHash P (@PySem.Str.ofString "is_mode")) (@PySem.Value.str (@PySem.Str.ofString "is_mode") (342 : Nat)) (@PySem.Value.ref (131 : Nat))), (@PySem.DictEntry.mk (@PySem.PyData.keyHash P (@PySem.Str.ofString "setting_with")) (@PySem.Value.str (@PySem.Str.ofString "setting_with") (348 : Nat)) (@PySem.Value.ref (136 : Nat))), (@PySem.DictEntry.mk (@PySem.PyData.keyHash P (@PySem.Str.ofString "Setting")) (@PySem.Value.str (@PySem.Str.ofString "Setting") (505 : Nat)) (@PySem.Value.ref (252 : Nat))), (@PySem.DictEntry.mk (@PySem.PyData.keyHash P (@PySem.Str.ofString "_law_pool")) (@PySem.Value.str (@PySem.Str.ofString "_law_pool") (514 : Nat)) (@PySem.Value.ref (263 : Nat))), (@PySem.DictEntry.mk (@PySem.PyData.keyHash P (@PySem.Str.ofString "_law_draw")) (@PySem.Value.str (@PySem.Str.ofString "_law_draw") (527 : Nat)) (@PySem.Value.ref (270 : Nat))), (@PySem.DictEntry.mk (@PySem.PyData.keyHash P (@PySem.Str.ofString "_law_names")) (@PySem.Value.str (@PySem.Str.ofString "_law_names") (533 : Nat)) (@PySem.Value.ref (275 : Nat))), (@PySem.DictEntry.mk (@PySem.PyData.keyHash P (@PySem.Str.ofString "_law_random_modes")) (@PySem.Value.str (@PySem.Str.ofString "_law_random_modes") (543 : Nat)) (@PySem.Value.ref (282 : Nat))), (@PySem.DictEntry.mk (@PySem.PyData.keyHash P (@PySem.Str.ofString "_law_setting")) (@PySem.Value.str (@PySem.Str.ofString "_law_setting") (552 : Nat)) (@PySem.Value.ref (289 : Nat))), (@PySem.DictEntry.mk (@PySem.PyData.keyHash P (@PySem.Str.ofString "_law_same")) (@PySem.Value.str (@PySem.Str.ofString "_law_same") (558 : Nat)) (@PySem.Value.ref (294 : Nat))), (@PySem.DictEntry.mk (@PySem.PyData.keyHash P (@PySem.Str.ofString "_law_holds")) (@PySem.Value.str (@PySem.Str.ofString "_law_holds") (564 : Nat)) (@PySem.Value.ref (299 : Nat))), (@PySem.DictEntry.mk (@PySem.PyData.keyHash P (@PySem.Str.ofString "_law_rank")) (@PySem.Value.str (@PySem.Str.ofString "_law_rank") (571 : Nat)) (@PySem.Value.ref (306 : Nat))), (@PySem.DictEntry.mk (@PySem.PyData.keyHash P (@PySem.Str.ofString "_law_both")) (@PySem.Value.str (@PySem.Str.ofString "_law_both") (584 : Nat)) (@PySem.Value.ref (313 : Nat))), (@PySem.DictEntry.mk (@PySem.PyData.keyHash P (@PySem.Str.ofString "_law_results")) (@PySem.Value.str (@PySem.Str.ofString "_law_results") (598 : Nat)) (@PySem.Value.ref (320 : Nat))), (@PySem.DictEntry.mk (@PySem.PyData.keyHash P (@PySem.Str.ofString "_law_cut")) (@PySem.Value.str (@PySem.Str.ofString "_law_cut") (604 : Nat)) (@PySem.Value.ref (325 : Nat))), (@PySem.DictEntry.mk (@PySem.PyData.keyHash P (@PySem.Str.ofString "law")) (@PySem.Value.str (@PySem.Str.ofString "law") (610 : Nat)) (@PySem.Value.ref (330 : Nat)))]) (36 : Nat)) (List.toArray []))) ::
(nat_lit 15, (@PySem.Obj.mk (@PySem.Value.type "tuple") Option.none (@PySem.Data.seq (List.toArray []) (0 : Nat)) (List.toArray []))) ::
(nat_lit 17, (@PySem.Obj.mk (@PySem.Value.type "tuple") Option.none (@PySem.Data.seq (List.toArray [(@PySem.Value.str (@PySem.Str.ofString "k") (190 : Nat))]) (0 : Nat)) (List.toArray []))) ::
(nat_lit 18, (@PySem.Obj.mk (@PySem.Value.type "tuple") Option.none (@PySem.Data.seq (List.toArray []) (0 : Nat)) (List.toArray []))) ::
(nat_lit 20, (@PySem.Obj.mk (@PySem.Value.type "code") Option.none (@PySem.Data.fields (List.toArray [(@PySem.Value.str (@PySem.Str.ofString "_wall") (187 : Nat)), (@PySem.Value.str (@PySem.Str.ofString "_wall") (188 : Nat)), (@PySem.Value.str (@PySem.Str.ofString "/claim/cut.py") (189 : Nat)), (@PySem.Value.int (1 : Int) (0 : Nat)), (@PySem.Value.int (1 : Int) (0 : Nat)), (@PySem.Value.int (0 : Int) (0 : Nat)), (@PySem.Value.int (0 : Int) (0 : Nat)), (@PySem.Value.int (3 : Int) (0 : Nat)), (@PySem.Value.ref (15 : Nat)), (@PySem.Value.bool Bool.true), (@PySem.Value.int (181 : Int) (0 : Nat)), (@PySem.Value.ref (16 : Nat)), PySem.Value.none, (@PySem.Value.ref (17 : Nat)), (@PySem.Value.ref (18 : Nat)), (@PySem.Value.ref (19 : Nat)), (@PySem.Value.int (191 : Int) (0 : Nat)), (@PySem.Value.int (1 : Int) (0 : Nat)), (@PySem.Value.str (@PySem.Str.ofString "/claim/cut.py") (192 : Nat))])) (List.toArray []))) ::
(nat_lit 21, (@PySem.Obj.mk (@PySem.Value.type "function") Option.none (@PySem.Data.func (PySem.FuncData.mk (@PySem.Str.ofString "_wall") (@PySem.Str.ofString "_wall") (defArgs s__wall) (PySem.FuncBody.stmts (defBody s__wall)) (defScope s__wall) (3 : Nat) [] PySem.Value.none PySem.Value.none PySem.Value.none (@PySem.Value.str (@PySem.Str.ofString "__main__") (164 : Nat)) Option.none (@PySem.Value.ref (20 : Nat)) PySem.Value.none (0 : Nat))) (List.toArray []))) ::
(nat_lit 22, (@PySem.Obj.mk (@PySem.Value.type "tuple") Option.none (@PySem.Data.seq (List.toArray [(@PySem.Value.type "ValueError")]) (0 : Nat)) (List.toArray []))) ::
(nat_lit 29, (@PySem.Obj.mk (@PySem.Value.type "tuple") Option.none (@PySem.Data.seq (List.toArray []) (0 : Nat)) (List.toArray []))) ::
(nat_lit 30, (@PySem.Obj.mk (@PySem.Value.type "dict") Option.none (@PySem.Data.dict (List.toArray [(@PySem.DictEntry.mk (@PySem.PyData.keyHash P (@PySem.Str.ofString "__module__")) (@PySem.Value.str (@PySem.Str.ofString "__module__") (203 : Nat)) (@PySem.Value.str (@PySem.Str.ofString "quietprobes.errors") (194 : Nat))), (@PySem.DictEntry.mk (@PySem.PyData.keyHash P (@PySem.Str.ofString "__firstlineno__")) (@PySem.Value.str (@PySem.Str.ofString "__firstlineno__") (207 : Nat)) (@PySem.Value.int (5 : Int) (206 : Nat))), (@PySem.DictEntry.mk (@PySem.PyData.keyHash P (@PySem.Str.ofString "__static_attributes__")) (@PySem.Value.str (@PySem.Str.ofString "__static_attributes__") (208 : Nat)) (@PySem.Value.ref (29 : Nat))), (@PySem.DictEntry.mk (@PySem.PyData.keyHash P (@PySem.Str.ofString "__weakref__")) (@PySem.Value.str (@PySem.Str.ofString "__weakref__") (210 : Nat)) (@PySem.Value.ref (32 : Nat))), (@PySem.DictEntry.mk (@PySem.PyData.keyHash P (@PySem.Str.ofString "__doc__")) (@PySem.Value.str (@PySem.Str.ofString "__doc__") (211 : Nat)) PySem.Value.none)]) (3 : Nat)) (List.toArray []))) ::
(nat_lit 31, (@PySem.Obj.mk (@PySem.Value.type "type") Option.none (@PySem.Data.cls (@PySem.ClassData.mk (@PySem.Str.ofString "QuietError") [(@PySem.Value.type "ValueError")] [(@PySem.Value.ref (31 : Nat)), (@PySem.Value.type "ValueError"), (@PySem.Value.type "Exception"), (@PySem.Value.type "BaseException"), (@PySem.Value.type "object")] (30 : Nat) (@PySem.Str.ofString "QuietError") Bool.true [] [(@PySem.Value.ref (53 : Nat)), (@PySem.Value.ref (74 : Nat)), (@PySem.Value.ref (95 : Nat))] Bool.false Option.none Bool.false)) (List.toArray [(Option.some (@PySem.Value.ref (22 : Nat))), Option.none, (Option.some (@PySem.Value.str (@PySem.Str.ofString "QuietError") (196 : Nat))), (Option.some (@PySem.Value.str (@PySem.Str.ofString "QuietError") (204 : Nat))), (Option.some (@PySem.Value.builtin "ValueError.__new__")), (Option.some (@PySem.Value.bool Bool.true))]))) ::
(nat_lit 32, (@PySem.Obj.mk (@PySem.Value.type "getset_descriptor") Option.none (@PySem.Data.fields (List.toArray [(@PySem.Value.str (@PySem.Str.ofString "__weakref__") (209 : Nat)), (@PySem.Value.ref (31 : Nat)), (@PySem.Value.builtin "ExceptionGroup.__weakref__"), PySem.Value.none])) (List.toArray []))) ::
(nat_lit 35, (@PySem.Obj.mk (@PySem.Value.type "tuple") Option.none (@PySem.Data.seq (List.toArray [(@PySem.Value.ref (31 : Nat))]) (0 : Nat)) (List.toArray []))) ::
(nat_lit 38, (@PySem.Obj.mk (@PySem.Value.type "cell") Option.none (@PySem.Data.cell (Option.some (@PySem.Value.ref (53 : Nat)))) (List.toArray []))) ::
(nat_lit 43, (@PySem.Obj.mk (@PySem.Value.type "tuple") Option.none (@PySem.Data.seq (List.toArray [(@PySem.Value.ref (38 : Nat))]) (0 : Nat)) (List.toArray []))) ::
(nat_lit 44, (@PySem.Obj.mk (@PySem.Value.type "tuple") Option.none (@PySem.Data.seq (List.toArray [(@PySem.Value.str (@PySem.Str.ofString "__class__") (229 : Nat))]) (0 : Nat)) (List.toArray []))) ::
(nat_lit 46, (@PySem.Obj.mk (@PySem.Value.type "tuple") Option.none (@PySem.Data.seq (List.toArray [(@PySem.Value.str (@PySem.Str.ofString "self") (230 : Nat)), (@PySem.Value.str (@PySem.Str.ofString "name") (231 : Nat))]) (0 : Nat)) (List.toArray []))) ::
(nat_lit 47, (@PySem.Obj.mk (@PySem.Value.type "tuple") Option.none (@PySem.Data.seq (List.toArray []) (0 : Nat)) (List.toArray []))) ::
(nat_lit 49, (@PySem.Obj.mk (@PySem.Value.type "code") Option.none (@PySem.Data.fields (List.toArray [(@PySem.Value.str (@PySem.Str.ofString "__init__") (226 : Nat)), (@PySem.Value.str (@PySem.Str.ofString "BadName.__init__") (227 : Nat)), (@PySem.Value.str (@PySem.Str.ofString "/claim/cut.py") (228 : Nat)), (@PySem.Value.int (9 : Int) (0 : Nat)), (@PySem.Value.int (2 : Int) (0 : Nat)), (@PySem.Value.int (0 : Int) (0 : Nat)), (@PySem.Value.int (0 : Int) (0 : Nat)), (@PySem.Value.int (3 : Int) (0 : Nat)), (@PySem.Value.ref (44 : Nat)), (@PySem.Value.bool Bool.true), (@PySem.Value.int (181 : Int) (0 : Nat)), (@PySem.Value.ref (45 : Nat)), PySem.Value.none, (@PySem.Value.ref (46 : Nat)), (@PySem.Value.ref (47 : Nat)), (@PySem.Value.ref (48 : Nat)), (@PySem.Value.int (232 : Int) (0 : Nat)), (@PySem.Value.int (9 : Int) (0 : Nat)), (@PySem.Value.str (@PySem.Str.ofString "/claim/cut.py") (233 : Nat))])) (List.toArray []))) ::
(nat_lit 50, (@PySem.Obj.mk (@PySem.Value.type "function") Option.none (@PySem.Data.func (PySem.FuncData.mk (@PySem.Str.ofString "__init__") (@PySem.Str.ofString "BadName.__init__") (defArgs s_BadName___init__) (PySem.FuncBody.stmts (defBody s_BadName___init__)) (defScope s_BadName___init__) (3 : Nat) [((@PySem.Str.ofString "__class__"), (38 : Nat))] PySem.Value.none PySem.Value.none PySem.Value.none (@PySem.Value.str (@PySem.Str.ofString "quietprobes.errors") (194 : Nat)) Option.none (@PySem.Value.ref (49 : Nat)) (@PySem.Value.ref (43 : Nat)) (0 : Nat))) (List.toArray []))) ::
(nat_lit 51, (@PySem.Obj.mk (@PySem.Value.type "tuple") Option.none (@PySem.Data.seq (List.toArray [(@PySem.Value.str (@PySem.Str.ofString "name") (235 : Nat))]) (0 : Nat)) (List.toArray []))) ::
(nat_lit 52, (@PySem.Obj.mk (@PySem.Value.type "dict") Option.none (@PySem.Data.dict (List.toArray [(@PySem.DictEntry.mk (@PySem.PyData.keyHash P (@PySem.Str.ofString "__module__")) (@PySem.Value.str (@PySem.Str.ofString "__module__") (221 : Nat)) (@PySem.Value.str (@PySem.Str.ofString "quietprobes.errors") (194 : Nat))), (@PySem.DictEntry.mk (@PySem.PyData.keyHash P (@PySem.Str.ofString "__firstlineno__")) (@PySem.Value.str (@PySem.Str.ofString "__firstlineno__") (225 : Nat)) (@PySem.Value.int (7 : Int) (224 : Nat))), (@PySem.DictEntry.mk (@PySem.PyData.keyHash P (@PySem.Str.ofString "__init__")) (@PySem.Value.str (@PySem.Str.ofString "__init__") (234 : Nat)) (@PySem.Value.ref (50 : Nat))), (@PySem.DictEntry.mk (@PySem.PyData.keyHash P (@PySem.Str.ofString "__static_attributes__")) (@PySem.Value.str (@PySem.Str.ofString "__static_attributes__") (236 : Nat)) (@PySem.Value.ref (51 : Nat))), (@PySem.DictEntry.mk (@PySem.PyData.keyHash P (@PySem.Str.ofString "__doc__")) (@PySem.Value.str (@PySem.Str.ofString "__doc__") (238 : Nat)) PySem.Value.none)]) (3 : Nat)) (List.toArray []))) ::
(nat_lit 53, (@PySem.Obj.mk (@PySem.Value.type "type") Option.none (@PySem.Data.cls (@PySem.ClassData.mk (@PySem.Str.ofString "BadName") [(@PySem.Value.ref (31 : Nat))] [(@PySem.Value.ref (53 : Nat)), (@PySem.Value.ref (31 : Nat)), (@PySem.Value.type "ValueError"), (@PySem.Value.type "Exception"), (@PySem.Value.type "BaseException"), (@PySem.Value.type "object")] (52 : Nat) (@PySem.Str.ofString "BadName") Bool.true [] [] Bool.false Option.none Bool.false)) (List.toArray [(Option.some (@PySem.Value.ref (35 : Nat))), Option.none, (Option.some (@PySem.Value.str (@PySem.Str.ofString "BadName") (214 : Nat))), (Option.some (@PySem.Value.str (@PySem.Str.ofString "BadName") (222 : Nat))), (Option.some (@PySem.Value.builtin "ValueError.__new__")), (Option.some (@PySem.Value.bool Bool.true))]))) ::
(nat_lit 56, (@PySem.Obj.mk (@PySem.Value.type "tuple") Option.none (@PySem.Data.seq (List.toArray [(@PySem.Value.ref (31 : Nat))]) (0 : Nat)) (List.toArray []))) ::
(nat_lit 59, (@PySem.Obj.mk (@PySem.Value.type "cell") Option.none (@PySem.Data.cell (Option.some (@PySem.Value.ref (74 : Nat)))) (List.toArray []))) ::
(nat_lit 64, (@PySem.Obj.mk (@PySem.Value.type "tuple") Option.none (@PySem.Data.seq (List.toArray [(@PySem.Value.ref (59 : Nat))]) (0 : Nat)) (List.toArray []))) ::
(nat_lit 65, (@PySem.Obj.mk (@PySem.Value.type "tuple") Option.none (@PySem.Data.seq (List.toArray [(@PySem.Value.str (@PySem.Str.ofString "__class__") (256 : Nat))]) (0 : Nat)) (List.toArray []))) ::
(nat_lit 67, (@PySem.Obj.mk (@PySem.Value.type "tuple") Option.none (@PySem.Data.seq (List.toArray [(@PySem.Value.str (@PySem.Str.ofString "self") (257 : Nat)), (@PySem.Value.str (@PySem.Str.ofString "mode") (258 : Nat))]) (0 : Nat)) (List.toArray []))) ::
(nat_lit 68, (@PySem.Obj.mk (@PySem.Value.type "tuple") Option.none (@PySem.Data.seq (List.toArray []) (0 : Nat)) (List.toArray []))) ::
(nat_lit 70, (@PySem.Obj.mk (@PySem.Value.type "code") Option.none (@PySem.Data.fields (List.toArray [(@PySem.Value.str (@PySem.Str.ofString "__init__") (253 : Nat)), (@PySem.Value.str (@PySem.Str.ofString "BadMode.__init__") (254 : Nat)), (@PySem.Value.str (@PySem.Str.ofString "/claim/cut.py") (255 : Nat)), (@PySem.Value.int (14 : Int) (0 : Nat)), (@PySem.Value.int (2 : Int) (0 : Nat)), (@PySem.Value.int (0 : Int) (0 : Nat)), (@PySem.Value.int (0 : Int) (0 : Nat)), (@PySem.Value.int (3 : Int) (0 : Nat)), (@PySem.Value.ref (65 : Nat)), (@PySem.Value.bool Bool.true), (@PySem.Value.int (181 : Int) (0 : Nat)), (@PySem.Value.ref (66 : Nat)), PySem.Value.none, (@PySem.Value.ref (67 : Nat)), (@PySem.Value.ref (68 : Nat)), (@PySem.Value.ref (69 : Nat)), (@PySem.Value.int (259 : Int) (0 : Nat)), (@PySem.Value.int (14 : Int) (0 : Nat)), (@PySem.Value.str (@PySem.Str.ofString "/claim/cut.py") (260 : Nat))])) (List.toArray []))) ::
(nat_lit 71, (@PySem.Obj.mk (@PySem.Value.type "function") Option.none (@PySem.Data.func (PySem.FuncData.mk (@PySem.Str.ofString "__init__") (@PySem.Str.ofString "BadMode.__init__") (defArgs s_BadMode___init__) (PySem.FuncBody.stmts (defBody s_BadMode___init__)) (defScope s_BadMode___init__) (3 : Nat) [((@PySem.Str.ofString "__class__"), (59 : Nat))] PySem.Value.none PySem.Value.none PySem.Value.none (@PySem.Value.str (@PySem.Str.ofString "quietprobes.errors") (194 : Nat)) Option.none (@PySem.Value.ref (70 : Nat)) (@PySem.Value.ref (64 : Nat)) (0 : Nat))) (List.toArray []))) ::
(nat_lit 72, (@PySem.Obj.mk (@PySem.Value.type "tuple") Option.none (@PySem.Data.seq (List.toArray [(@PySem.Value.str (@PySem.Str.ofString "mode") (262 : Nat))]) (0 : Nat)) (List.toArray []))) ::
(nat_lit 73, (@PySem.Obj.mk (@PySem.Value.type "dict") Option.none (@PySem.Data.dict (List.toArray [(@PySem.DictEntry.mk (@PySem.PyData.keyHash P (@PySem.Str.ofString "__module__")) (@PySem.Value.str (@PySem.Str.ofString "__module__") (248 : Nat)) (@PySem.Value.str (@PySem.Str.ofString "quietprobes.errors") (194 : Nat))), (@PySem.DictEntry.mk (@PySem.PyData.keyHash P (@PySem.Str.ofString "__firstlineno__")) (@PySem.Value.str (@PySem.Str.ofString "__firstlineno__") (252 : Nat)) (@PySem.Value.int (12 : Int) (251 : Nat))), (@PySem.DictEntry.mk (@PySem.PyData.keyHash P (@PySem.Str.ofString "__init__")) (@PySem.Value.str (@PySem.Str.ofString "__init__") (261 : Nat)) (@PySem.Value.ref (71 : Nat))), (@PySem.DictEntry.mk (@PySem.PyData.keyHash P (@PySem.Str.ofString "__static_attributes__")) (@PySem.Value.str (@PySem.Str.ofString "__static_attributes__") (263 : Nat)) (@PySem.Value.ref (72 : Nat))), (@PySem.DictEntry.mk (@PySem.PyData.keyHash P (@PySem.Str.ofString "__doc__")) (@PySem.Value.str (@PySem.Str.ofString "__doc__") (265 : Nat)) PySem.Value.none)]) (3 : Nat)) (List.toArray []))) ::
(nat_lit 74, (@PySem.Obj.mk (@PySem.Value.type "type") Option.none (@PySem.Data.cls (@PySem.ClassData.mk (@PySem.Str.ofString "BadMode") [(@PySem.Value.ref (31 : Nat))] [(@PySem.Value.ref (74 : Nat)), (@PySem.Value.ref (31 : Nat)), (@PySem.Value.type "ValueError"), (@PySem.Value.type "Exception"), (@PySem.Value.type "BaseException"), (@PySem.Value.type "object")] (73 : Nat) (@PySem.Str.ofString "BadMode") Bool.true [] [] Bool.false Option.none Bool.false)) (List.toArray [(Option.some (@PySem.Value.ref (56 : Nat))), Option.none, (Option.some (@PySem.Value.str (@PySem.Str.ofString "BadMode") (241 : Nat))), (Option.some (@PySem.Value.str (@PySem.Str.ofString "BadMode") (249 : Nat))), (Option.some (@PySem.Value.builtin "ValueError.__new__")), (Option.some (@PySem.Value.bool Bool.true))]))) ::
(nat_lit 77, (@PySem.Obj.mk (@PySem.Value.type "tuple") Option.none (@PySem.Data.seq (List.toArray [(@PySem.Value.ref (31 : Nat))]) (0 : Nat)) (List.toArray []))) ::
(nat_lit 80, (@PySem.Obj.mk (@PySem.Value.type "cell") Option.none (@PySem.Data.cell (Option.some (@PySem.Value.ref (95 : Nat)))) (List.toArray []))) ::
(nat_lit 85, (@PySem.Obj.mk (@PySem.Value.type "tuple") Option.none (@PySem.Data.seq (List.toArray [(@PySem.Value.ref (80 : Nat))]) (0 : Nat)) (List.toArray []))) ::
(nat_lit 86, (@PySem.Obj.mk (@PySem.Value.type "tuple") Option.none (@PySem.Data.seq (List.toArray [(@PySem.Value.str (@PySem.Str.ofString "__class__") (283 : Nat))]) (0 : Nat)) (List.toArray []))) ::
(nat_lit 88, (@PySem.Obj.mk (@PySem.Value.type "tuple") Option.none (@PySem.Data.seq (List.toArray [(@PySem.Value.str (@PySem.Str.ofString "self") (284 : Nat)), (@PySem.Value.str (@PySem.Str.ofString "name") (285 : Nat))]) (0 : Nat)) (List.toArray []))) ::
(nat_lit 89, (@PySem.Obj.mk (@PySem.Value.type "tuple") Option.none (@PySem.Data.seq (List.toArray []) (0 : Nat)) (List.toArray []))) ::
(nat_lit 91, (@PySem.Obj.mk (@PySem.Value.type "code") Option.none (@PySem.Data.fields (List.toArray [(@PySem.Value.str (@PySem.Str.ofString "__init__") (280 : Nat)), (@PySem.Value.str (@PySem.Str.ofString "Twice.__init__") (281 : Nat)), (@PySem.Value.str (@PySem.Str.ofString "/claim/cut.py") (282 : Nat)), (@PySem.Value.int (19 : Int) (0 : Nat)), (@PySem.Value.int (2 : Int) (0 : Nat)), (@PySem.Value.int (0 : Int) (0 : Nat)), (@PySem.Value.int (0 : Int) (0 : Nat)), (@PySem.Value.int (3 : Int) (0 : Nat)), (@PySem.Value.ref (86 : Nat)), (@PySem.Value.bool Bool.true), (@PySem.Value.int (181 : Int) (0 : Nat)), (@PySem.Value.ref (87 : Nat)), PySem.Value.none, (@PySem.Value.ref (88 : Nat)), (@PySem.Value.ref (89 : Nat)), (@PySem.Value.ref (90 : Nat)), (@PySem.Value.int (286 : Int) (0 : Nat)), (@PySem.Value.int (19 : Int) (0 : Nat)), (@PySem.Value.str (@PySem.Str.ofString "/claim/cut.py") (287 : Nat))])) (List.toArray []))) ::
(nat_lit 92, (@PySem.Obj.mk (@PySem.Value.type "function") Option.none (@PySem.Data.func (PySem.FuncData.mk (@PySem.Str.ofString "__init__") (@PySem.Str.ofString "Twice.__init__") (defArgs s_Twice___init__) (PySem.FuncBody.stmts (defBody s_Twice___init__)) (defScope s_Twice___init__) (3 : Nat) [((@PySem.Str.ofString "__class__"), (80 : Nat))] PySem.Value.none PySem.Value.none PySem.Value.none (@PySem.Value.str (@PySem.Str.ofString "quietprobes.errors") (194 : Nat)) Option.none (@PySem.Value.ref (91 : Nat)) (@PySem.Value.ref (85 : Nat)) (0 : Nat))) (List.toArray []))) ::
(nat_lit 93, (@PySem.Obj.mk (@PySem.Value.type "tuple") Option.none (@PySem.Data.seq (List.toArray [(@PySem.Value.str (@PySem.Str.ofString "name") (289 : Nat))]) (0 : Nat)) (List.toArray []))) ::
(nat_lit 94, (@PySem.Obj.mk (@PySem.Value.type "dict") Option.none (@PySem.Data.dict (List.toArray [(@PySem.DictEntry.mk (@PySem.PyData.keyHash P (@PySem.Str.ofString "__module__")) (@PySem.Value.str (@PySem.Str.ofString "__module__") (275 : Nat)) (@PySem.Value.str (@PySem.Str.ofString "quietprobes.errors") (194 : Nat))), (@PySem.DictEntry.mk (@PySem.PyData.keyHash P (@PySem.Str.ofString "__firstlineno__")) (@PySem.Value.str (@PySem.Str.ofString "__firstlineno__") (279 : Nat)) (@PySem.Value.int (17 : Int) (278 : Nat))), (@PySem.DictEntry.mk (@PySem.PyData.keyHash P (@PySem.Str.ofString "__init__")) (@PySem.Value.str (@PySem.Str.ofString "__init__") (288 : Nat)) (@PySem.Value.ref (92 : Nat))), (@PySem.DictEntry.mk (@PySem.PyData.keyHash P (@PySem.Str.ofString "__static_attributes__")) (@PySem.Value.str (@PySem.Str.ofString "__static_attributes__") (290 : Nat)) (@PySem.Value.ref (93 : Nat))), (@PySem.DictEntry.mk (@PySem.PyData.keyHash P (@PySem.Str.ofString "__doc__")) (@PySem.Value.str (@PySem.Str.ofString "__doc__") (292 : Nat)) PySem.Value.none)]) (3 : Nat)) (List.toArray []))) ::
(nat_lit 95, (@PySem.Obj.mk (@PySem.Value.type "type") Option.none (@PySem.Data.cls (@PySem.ClassData.mk (@PySem.Str.ofString "Twice") [(@PySem.Value.ref (31 : Nat))] [(@PySem.Value.ref (95 : Nat)), (@PySem.Value.ref (31 : Nat)), (@PySem.Value.type "ValueError"), (@PySem.Value.type "Exception"), (@PySem.Value.type "BaseException"), (@PySem.Value.type "object")] (94 : Nat) (@PySem.Str.ofString "Twice") Bool.true [] [] Bool.false Option.none Bool.false)) (List.toArray [(Option.some (@PySem.Value.ref (77 : Nat))), Option.none, (Option.some (@PySem.Value.str (@PySem.Str.ofString "Twice") (268 : Nat))), (Option.some (@PySem.Value.str (@PySem.Str.ofString "Twice") (276 : Nat))), (Option.some (@PySem.Value.builtin "ValueError.__new__")), (Option.some (@PySem.Value.bool Bool.true))]))) ::
(nat_lit 98, (@PySem.Obj.mk (@PySem.Value.type "tuple") Option.none (@PySem.Data.seq (List.toArray []) (0 : Nat)) (List.toArray []))) ::
(nat_lit 101, (@PySem.Obj.mk (@PySem.Value.type "code") Option.none (@PySem.Data.fields (List.toArray [(@PySem.Value.str (@PySem.Str.ofString "is_name") (301 : Nat)), (@PySem.Value.str (@PySem.Str.ofString "is_name") (302 : Nat)), (@PySem.Value.str (@PySem.Str.ofString "/claim/cut.py") (303 : Nat)), (@PySem.Value.int (25 : Int) (0 : Nat)), (@PySem.Value.int (1 : Int) (0 : Nat)), (@PySem.Value.int (0 : Int) (0 : Nat)), (@PySem.Value.int (0 : Int) (0 : Nat)), (@PySem.Value.int (3 : Int) (0 : Nat)), (@PySem.Value.ref (98 : Nat)), (@PySem.Value.bool Bool.true), (@PySem.Value.int (181 : Int) (0 : Nat)), (@PySem.Value.ref (99 : Nat)), PySem.Value.none, PySem.Value.none, PySem.Value.none, (@PySem.Value.ref (100 : Nat)), (@PySem.Value.int (304 : Int) (0 : Nat)), (@PySem.Value.int (25 : Int) (0 : Nat)), (@PySem.Value.str (@PySem.Str.ofString "/claim/cut.py") (305 : Nat))])) (List.toArray []))) ::
(nat_lit 102, (@PySem.Obj.mk (@PySem.Value.type "function") Option.none (@PySem.Data.func (PySem.FuncData.mk (@PySem.Str.ofString "is_name") (@PySem.Str.ofString "is_name") (defArgs s_is_name) (PySem.FuncBody.stmts (defBody s_is_name)) (defScope s_is_name) (3 : Nat) [] PySem.Value.none PySem.Value.none PySem.Value.none (@PySem.Value.str (@PySem.Str.ofString "quietprobes.things") (295 : Nat)) Option.none (@PySem.Value.ref (101 : Nat)) PySem.Value.none (0 : Nat))) (List.toArray []))) ::
(nat_lit 103, (@PySem.Obj.mk (@PySem.Value.type "tuple") Option.none (@PySem.Data.seq (List.toArray [(@PySem.Value.str (@PySem.Str.ofString "out") (309 : Nat)), (@PySem.Value.str (@PySem.Str.ofString "deaf") (310 : Nat)), (@PySem.Value.str (@PySem.Str.ofString "on") (311 : Nat))]) (0 : Nat)) (List.toArray []))) ::
(nat_lit 104, (@PySem.Obj.mk (@PySem.Value.type "tuple") Option.none (@PySem.Data.seq (List.toArray []) (0 : Nat)) (List.toArray []))) ::
(nat_lit 106, (@PySem.Obj.mk (@PySem.Value.type "tuple") Option.none (@PySem.Data.seq (List.toArray [(@PySem.Value.str (@PySem.Str.ofString "mode") (316 : Nat))]) (0 : Nat)) (List.toArray []))) ::
(nat_lit 107, (@PySem.Obj.mk (@PySem.Value.type "tuple") Option.none (@PySem.Data.seq (List.toArray []) (0 : Nat)) (List.toArray []))) ::
(nat_lit 109, (@PySem.Obj.mk (@PySem.Value.type "code") Option.none (@PySem.Data.fields (List.toArray [(@PySem.Value.str (@PySem.Str.ofString "rank") (313 : Nat)), (@PySem.Value.str (@PySem.Str.ofString "rank") (314 : Nat)), (@PySem.Value.str (@PySem.Str.ofString "/claim/cut.py") (315 : Nat)), (@PySem.Value.int (31 : Int) (0 : Nat)), (@PySem.Value.int (1 : Int) (0 : Nat)), (@PySem.Value.int (0 : Int) (0 : Nat)), (@PySem.Value.int (0 : Int) (0 : Nat)), (@PySem.Value.int (3 : Int) (0 : Nat)), (@PySem.Value.ref (104 : Nat)), (@PySem.Value.bool Bool.true), (@PySem.Value.int (181 : Int) (0 : Nat)), (@PySem.Value.ref (105 : Nat)), PySem.Value.none, (@PySem.Value.ref (106 : Nat)), (@PySem.Value.ref (107 : Nat)), (@PySem.Value.ref (108 : Nat)), (@PySem.Value.int (317 : Int) (0 : Nat)), (@PySem.Value.int (31 : Int) (0 : Nat)), (@PySem.Value.str (@PySem.Str.ofString "/claim/cut.py") (318 : Nat))])) (List.toArray []))) ::
(nat_lit 110, (@PySem.Obj.mk (@PySem.Value.type "function") Option.none (@PySem.Data.func (PySem.FuncData.mk (@PySem.Str.ofString "rank") (@PySem.Str.ofString "rank") (defArgs s_rank) (PySem.FuncBody.stmts (defBody s_rank)) (defScope s_rank) (3 : Nat) [] PySem.Value.none PySem.Value.none PySem.Value.none (@PySem.Value.str (@PySem.Str.ofString "quietprobes.settings") (307 : Nat)) Option.none (@PySem.Value.ref (109 : Nat)) PySem.Value.none (0 : Nat))) (List.toArray []))) ::
(nat_lit 111, (@PySem.Obj.mk (@PySem.Value.type "tuple") Option.none (@PySem.Data.seq (List.toArray []) (0 : Nat)) (List.toArray []))) ::
(nat_lit 113, (@PySem.Obj.mk (@PySem.Value.type "tuple") Option.none (@PySem.Data.seq (List.toArray [(@PySem.Value.str (@PySem.Str.ofString "one") (323 : Nat)), (@PySem.Value.str (@PySem.Str.ofString "other") (324 : Nat))]) (0 : Nat)) (List.toArray []))) ::
(nat_lit 114, (@PySem.Obj.mk (@PySem.Value.type "tuple") Option.none (@PySem.Data.seq (List.toArray []) (0 : Nat)) (List.toArray []))) ::
(nat_lit 116, (@PySem.Obj.mk (@PySem.Value.type "code") Option.none (@PySem.Data.fields (List.toArray [(@PySem.Value.str (@PySem.Str.ofString "greater_mode") (320 : Nat)), (@PySem.Value.str (@PySem.Str.ofString "greater_mode") (321 : Nat)), (@PySem.Value.str (@PySem.Str.ofString "/claim/cut.py") (322 : Nat)), (@PySem.Value.int (33 : Int) (0 : Nat)), (@PySem.Value.int (2 : Int) (0 : Nat)), (@PySem.Value.int (0 : Int) (0 : Nat)), (@PySem.Value.int (0 : Int) (0 : Nat)), (@PySem.Value.int (3 : Int) (0 : Nat)), (@PySem.Value.ref (111 : Nat)), (@PySem.Value.bool Bool.true), (@PySem.Value.int (181 : Int) (0 : Nat)), (@PySem.Value.ref (112 : Nat)), PySem.Value.none, (@PySem.Value.ref (113 : Nat)), (@PySem.Value.ref (114 : Nat)), (@PySem.Value.ref (115 : Nat)), (@PySem.Value.int (325 : Int) (0 : Nat)), (@PySem.Value.int (33 : Int) (0 : Nat)), (@PySem.Value.str (@PySem.Str.ofString "/claim/cut.py") (326 : Nat))])) (List.toArray []))) ::
(nat_lit 117, (@PySem.Obj.mk (@PySem.Value.type "function") Option.none (@PySem.Data.func (PySem.FuncData.mk (@PySem.Str.ofString "greater_mode") (@PySem.Str.ofString "greater_mode") (defArgs s_greater_mode) (PySem.FuncBody.stmts (defBody s_greater_mode)) (defScope s_greater_mode) (3 : Nat) [] PySem.Value.none PySem.Value.none PySem.Value.none (@PySem.Value.str (@PySem.Str.ofString "quietprobes.settings") (307 : Nat)) Option.none (@PySem.Value.ref (116 : Nat)) PySem.Value.none (0 : Nat))) (List.toArray []))) ::
(nat_lit 118, (@PySem.Obj.mk (@PySem.Value.type "tuple") Option.none (@PySem.Data.seq (List.toArray []) (0 : Nat)) (List.toArray []))) ::
(nat_lit 120, (@PySem.Obj.mk (@PySem.Value.type "tuple") Option.none (@PySem.Data.seq (List.toArray [(@PySem.Value.str (@PySem.Str.ofString "one") (331 : Nat)), (@PySem.Value.str (@PySem.Str.ofString "other") (332 : Nat))]) (0 : Nat)) (List.toArray []))) ::
(nat_lit 121, (@PySem.Obj.mk (@PySem.Value.type "tuple") Option.none (@PySem.Data.seq (List.toArray []) (0 : Nat)) (List.toArray []))) ::
(nat_lit 123, (@PySem.Obj.mk (@PySem.Value.type "code") Option.none (@PySem.Data.fields (List.toArray [(@PySem.Value.str (@PySem.Str.ofString "lesser_mode") (328 : Nat)), (@PySem.Value.str (@PySem.Str.ofString "lesser_mode") (329 : Nat)), (@PySem.Value.str (@PySem.Str.ofString "/claim/cut.py") (330 : Nat)), (@PySem.Value.int (35 : Int) (0 : Nat)), (@PySem.Value.int (2 : Int) (0 : Nat)), (@PySem.Value.int (0 : Int) (0 : Nat)), (@PySem.Value.int (0 : Int) (0 : Nat)), (@PySem.Value.int (3 : Int) (0 : Nat)), (@PySem.Value.ref (118 : Nat)), (@PySem.Value.bool Bool.true), (@PySem.Value.int (181 : Int) (0 : Nat)), (@PySem.Value.ref (119 : Nat)), PySem.Value.none, (@PySem.Value.ref (120 : Nat)), (@PySem.Value.ref (121 : Nat)), (@PySem.Value.ref (122 : Nat)), (@PySem.Value.int (333 : Int) (0 : Nat)), (@PySem.Value.int (35 : Int) (0 : Nat)), (@PySem.Value.str (@PySem.Str.ofString "/claim/cut.py") (334 : Nat))])) (List.toArray []))) ::
(nat_lit 124, (@PySem.Obj.mk (@PySem.Value.type "function") Option.none (@PySem.Data.func (PySem.FuncData.mk (@PySem.Str.ofString "lesser_mode") (@PySem.Str.ofString "lesser_mode") (defArgs s_lesser_mode) (PySem.FuncBody.stmts (defBody s_lesser_mode)) (defScope s_lesser_mode) (3 : Nat) [] PySem.Value.none PySem.Value.none PySem.Value.none (@PySem.Value.str (@PySem.Str.ofString "quietprobes.settings") (307 : Nat)) Option.none (@PySem.Value.ref (123 : Nat)) PySem.Value.none (0 : Nat))) (List.toArray []))) ::
(nat_lit 125, (@PySem.Obj.mk (@PySem.Value.type "tuple") Option.none (@PySem.Data.seq (List.toArray []) (0 : Nat)) (List.toArray []))) ::
(nat_lit 127, (@PySem.Obj.mk (@PySem.Value.type "tuple") Option.none (@PySem.Data.seq (List.toArray [(@PySem.Value.str (@PySem.Str.ofString "mode") (339 : Nat))]) (0 : Nat)) (List.toArray []))) ::
(nat_lit 128, (@PySem.Obj.mk (@PySem.Value.type "tuple") Option.none (@PySem.Data.seq (List.toArray []) (0 : Nat)) (List.toArray []))) ::
(nat_lit 130, (@PySem.Obj.mk (@PySem.Value.type "code") Option.none (@PySem.Data.fields (List.toArray [(@PySem.Value.str (@PySem.Str.ofString "is_mode") (336 : Nat)), (@PySem.Value.str (@PySem.Str.ofString "is_mode") (337 : Nat)), (@PySem.Value.str (@PySem.Str.ofString "/claim/cut.py") (338 : Nat)), (@PySem.Value.int (37 : Int) (0 : Nat)), (@PySem.Value.int (1 : Int) (0 : Nat)), (@PySem.Value.int (0 : Int) (0 : Nat)), (@PySem.Value.int (0 : Int) (0 : Nat)), (@PySem.Value.int (3 : Int) (0 : Nat)), (@PySem.Value.ref (125 : Nat)), (@PySem.Value.bool Bool.true), (@PySem.Value.int (181 : Int) (0 : Nat)), (@PySem.Value.ref (126 : Nat)), PySem.Value.none, (@PySem.Value.ref (127 : Nat)), (@PySem.Value.ref (128 : Nat)), (@PySem.Value.ref (129 : Nat)), (@PySem.Value.int (340 : Int) (0 : Nat)), (@PySem.Value.int (37 : Int) (0 : Nat)), (@PySem.Value.str (@PySem.Str.ofString "/claim/cut.py") (341 : Nat))])) (List.toArray []))) ::
(nat_lit 131, (@PySem.Obj.mk (@PySem.Value.type "function") Option.none (@PySem.Data.func (PySem.FuncData.mk (@PySem.Str.ofString "is_mode") (@PySem.Str.ofString "is_mode") (defArgs s_is_mode) (PySem.FuncBody.stmts (defBody s_is_mode)) (defScope s_is_mode) (3 : Nat) [] PySem.Value.none PySem.Value.none PySem.Value.none (@PySem.Value.str (@PySem.Str.ofString "quietprobes.settings") (307 : Nat)) Option.none (@PySem.Value.ref (130 : Nat)) PySem.Value.none (0 : Nat))) (List.toArray []))) ::
(nat_lit 132, (@PySem.Obj.mk (@PySem.Value.type "tuple") Option.none (@PySem.Data.seq (List.toArray []) (0 : Nat)) (List.toArray []))) ::
(nat_lit 135, (@PySem.Obj.mk (@PySem.Value.type "code") Option.none (@PySem.Data.fields (List.toArray [(@PySem.Value.str (@PySem.Str.ofString "setting_with") (343 : Nat)), (@PySem.Value.str (@PySem.Str.ofString "setting_with") (344 : Nat)), (@PySem.Value.str (@PySem.Str.ofString "/claim/cut.py") (345 : Nat)), (@PySem.Value.int (39 : Int) (0 : Nat)), (@PySem.Value.int (1 : Int) (0 : Nat)), (@PySem.Value.int (0 : Int) (0 : Nat)), (@PySem.Value.int (0 : Int) (0 : Nat)), (@PySem.Value.int (3 : Int) (0 : Nat)), (@PySem.Value.ref (132 : Nat)), (@PySem.Value.bool Bool.true), (@PySem.Value.int (181 : Int) (0 : Nat)), (@PySem.Value.ref (133 : Nat)), PySem.Value.none, PySem.Value.none, PySem.Value.none, (@PySem.Value.ref (134 : Nat)), (@PySem.Value.int (346 : Int) (0 : Nat)), (@PySem.Value.int (39 : Int) (0 : Nat)), (@PySem.Value.str (@PySem.Str.ofString "/claim/cut.py") (347 : Nat))])) (List.toArray []))) ::
(nat_lit 136, (@PySem.Obj.mk (@PySem.Value.type "function") Option.none (@PySem.Data.func (PySem.FuncData.mk (@PySem.Str.ofString "setting_with") (@PySem.Str.ofString "setting_with") (defArgs s_setting_with) (PySem.FuncBody.stmts (defBody s_setting_with)) (defScope s_setting_with) (3 : Nat) [] PySem.Value.none PySem.Value.none PySem.Value.none (@PySem.Value.str (@PySem.Str.ofString "quietprobes.settings") (307 : Nat)) Option.none (@PySem.Value.ref (135 : Nat)) PySem.Value.none (0 : Nat))) (List.toArray []))) ::
(nat_lit 144, (@PySem.Obj.mk (@PySem.Value.type "tuple") Option.none (@PySem.Data.seq (List.toArray []) (0 : Nat)) (List.toArray []))) ::
(nat_lit 145, (@PySem.Obj.mk (@PySem.Value.type "dict") Option.none (@PySem.Data.dict (List.toArray [(@PySem.DictEntry.mk (@PySem.PyData.keyHash P (@PySem.Str.ofString "deaf")) (@PySem.Value.str (@PySem.Str.ofString "deaf") (367 : Nat)) (@PySem.Value.ref (144 : Nat)))]) (1 : Nat)) (List.toArray []))) ::
(nat_lit 146, (@PySem.Obj.mk (@PySem.Value.type "tuple") Option.none (@PySem.Data.seq (List.toArray []) (0 : Nat)) (List.toArray []))) ::
(nat_lit 149, (@PySem.Obj.mk (@PySem.Value.type "code") Option.none (@PySem.Data.fields (List.toArray [(@PySem.Value.str (@PySem.Str.ofString "__init__") (368 : Nat)), (@PySem.Value.str (@PySem.Str.ofString "Setting.__init__") (369 : Nat)), (@PySem.Value.str (@PySem.Str.ofString "/claim/cut.py") (370 : Nat)), (@PySem.Value.int (48 : Int) (0 : Nat)), (@PySem.Value.int (1 : Int) (0 : Nat)), (@PySem.Value.int (0 : Int) (0 : Nat)), (@PySem.Value.int (1 : Int) (0 : Nat)), (@PySem.Value.int (7 : Int) (0 : Nat)), (@PySem.Value.ref (146 : Nat)), (@PySem.Value.bool Bool.true), (@PySem.Value.int (181 : Int) (0 : Nat)), (@PySem.Value.ref (147 : Nat)), PySem.Value.none, PySem.Value.none, PySem.Value.none, (@PySem.Value.ref (148 : Nat)), (@PySem.Value.int (371 : Int) (0 : Nat)), (@PySem.Value.int (48 : Int) (0 : Nat)), (@PySem.Value.str (@PySem.Str.ofString "/claim/cut.py") (372 : Nat))])) (List.toArray []))) ::
(nat_lit 150, (@PySem.Obj.mk (@PySem.Value.type "function") Option.none (@PySem.Data.func (PySem.FuncData.mk (@PySem.Str.ofString "__init__") (@PySem.Str.ofString "Setting.__init__") (defArgs s_Setting___init__) (PySem.FuncBody.stmts (defBody s_Setting___init__)) (defScope s_Setting___init__) (3 : Nat) [] PySem.Value.none (@PySem.Value.ref (145 : Nat)) PySem.Value.none (@PySem.Value.str (@PySem.Str.ofString "quietprobes.settings") (307 : Nat)) Option.none (@PySem.Value.ref (149 : Nat)) PySem.Value.none (0 : Nat))) (List.toArray []))) ::
(nat_lit 151, (@PySem.Obj.mk (@PySem.Value.type "tuple") Option.none (@PySem.Data.seq (List.toArray []) (0 : Nat)) (List.toArray []))) ::
(nat_lit 153, (@PySem.Obj.mk (@PySem.Value.type "tuple") Option.none (@PySem.Data.seq (List.toArray [(@PySem.Value.str (@PySem.Str.ofString "self") (377 : Nat)), (@PySem.Value.str (@PySem.Str.ofString "name") (378 : Nat))]) (0 : Nat)) (List.toArray []))) ::
(nat_lit 154, (@PySem.Obj.mk (@PySem.Value.type "tuple") Option.none (@PySem.Data.seq (List.toArray []) (0 : Nat)) (List.toArray []))) ::
(nat_lit 156, (@PySem.Obj.mk (@PySem.Value.type "code") Option.none (@PySem.Data.fields (List.toArray [(@PySem.Value.str (@PySem.Str.ofString "__getitem__") (374 : Nat)), (@PySem.Value.str (@PySem.Str.ofString "Setting.__getitem__") (375 : Nat)), (@PySem.Value.str (@PySem.Str.ofString "/claim/cut.py") (376 : Nat)), (@PySem.Value.int (58 : Int) (0 : Nat)), (@PySem.Value.int (2 : Int) (0 : Nat)), (@PySem.Value.int (0 : Int) (0 : Nat)), (@PySem.Value.int (0 : Int) (0 : Nat)), (@PySem.Value.int (3 : Int) (0 : Nat)), (@PySem.Value.ref (151 : Nat)), (@PySem.Value.bool Bool.true), (@PySem.Value.int (181 : Int) (0 : Nat)), (@PySem.Value.ref (152 : Nat)), PySem.Value.none, (@PySem.Value.ref (153 : Nat)), (@PySem.Value.ref (154 : Nat)), (@PySem.Value.ref (155 : Nat)), (@PySem.Value.int (379 : Int) (0 : Nat)), (@PySem.Value.int (58 : Int) (0 : Nat)), (@PySem.Value.str (@PySem.Str.ofString "/claim/cut.py") (380 : Nat))])) (List.toArray []))) ::
(nat_lit 157, (@PySem.Obj.mk (@PySem.Value.type "function") Option.none (@PySem.Data.func (PySem.FuncData.mk (@PySem.Str.ofString "__getitem__") (@PySem.Str.ofString "Setting.__getitem__") (defArgs s_Setting___getitem__) (PySem.FuncBody.stmts (defBody s_Setting___getitem__)) (defScope s_Setting___getitem__) (3 : Nat) [] PySem.Value.none PySem.Value.none PySem.Value.none (@PySem.Value.str (@PySem.Str.ofString "quietprobes.settings") (307 : Nat)) Option.none (@PySem.Value.ref (156 : Nat)) PySem.Value.none (0 : Nat))) (List.toArray []))) ::
(nat_lit 158, (@PySem.Obj.mk (@PySem.Value.type "tuple") Option.none (@PySem.Data.seq (List.toArray []) (0 : Nat)) (List.toArray []))) ::
(nat_lit 160, (@PySem.Obj.mk (@PySem.Value.type "tuple") Option.none (@PySem.Data.seq (List.toArray [(@PySem.Value.str (@PySem.Str.ofString "self") (385 : Nat))]) (0 : Nat)) (List.toArray []))) ::
(nat_lit 161, (@PySem.Obj.mk (@PySem.Value.type "tuple") Option.none (@PySem.Data.seq (List.toArray []) (0 : Nat)) (List.toArray []))) ::
(nat_lit 163, (@PySem.Obj.mk (@PySem.Value.type "code") Option.none (@PySem.Data.fields (List.toArray [(@PySem.Value.str (@PySem.Str.ofString "__iter__") (382 : Nat)), (@PySem.Value.str (@PySem.Str.ofString "Setting.__iter__") (383 : Nat)), (@PySem.Value.str (@PySem.Str.ofString "/claim/cut.py") (384 : Nat)), (@PySem.Value.int (63 : Int) (0 : Nat)), (@PySem.Value.int (1 : Int) (0 : Nat)), (@PySem.Value.int (0 : Int) (0 : Nat)), (@PySem.Value.int (0 : Int) (0 : Nat)), (@PySem.Value.int (3 : Int) (0 : Nat)), (@PySem.Value.ref (158 : Nat)), (@PySem.Value.bool Bool.true), (@PySem.Value.int (181 : Int) (0 : Nat)), (@PySem.Value.ref (159 : Nat)), PySem.Value.none, (@PySem.Value.ref (160 : Nat)), (@PySem.Value.ref (161 : Nat)), (@PySem.Value.ref (162 : Nat)), (@PySem.Value.int (386 : Int) (0 : Nat)), (@PySem.Value.int (63 : Int) (0 : Nat)), (@PySem.Value.str (@PySem.Str.ofString "/claim/cut.py") (387 : Nat))])) (List.toArray []))) ::
(nat_lit 164, (@PySem.Obj.mk (@PySem.Value.type "function") Option.none (@PySem.Data.func (PySem.FuncData.mk (@PySem.Str.ofString "__iter__") (@PySem.Str.ofString "Setting.__iter__") (defArgs s_Setting___iter__) (PySem.FuncBody.stmts (defBody s_Setting___iter__)) (defScope s_Setting___iter__) (3 : Nat) [] PySem.Value.none PySem.Value.none PySem.Value.none (@PySem.Value.str (@PySem.Str.ofString "quietprobes.settings") (307 : Nat)) Option.none (@PySem.Value.ref (163 : Nat)) PySem.Value.none (0 : Nat))) (List.toArray []))) ::
(nat_lit 165, (@PySem.Obj.mk (@PySem.Value.type "tuple") Option.none (@PySem.Data.seq (List.toArray []) (0 : Nat)) (List.toArray []))) ::
(nat_lit 167, (@PySem.Obj.mk (@PySem.Value.type "tuple") Option.none (@PySem.Data.seq (List.toArray [(@PySem.Value.str (@PySem.Str.ofString "self") (392 : Nat)), (@PySem.Value.str (@PySem.Str.ofString "name") (393 : Nat)), (@PySem.Value.str (@PySem.Str.ofString "mode") (394 : Nat))]) (0 : Nat)) (List.toArray []))) ::
(nat_lit 168, (@PySem.Obj.mk (@PySem.Value.type "tuple") Option.none (@PySem.Data.seq (List.toArray []) (0 : Nat)) (List.toArray []))) ::
(nat_lit 170, (@PySem.Obj.mk (@PySem.Value.type "code") Option.none (@PySem.Data.fields (List.toArray [(@PySem.Value.str (@PySem.Str.ofString "__setitem__") (389 : Nat)), (@PySem.Value.str (@PySem.Str.ofString "Setting.__setitem__") (390 : Nat)), (@PySem.Value.str (@PySem.Str.ofString "/claim/cut.py") (391 : Nat)), (@PySem.Value.int (66 : Int) (0 : Nat)), (@PySem.Value.int (3 : Int) (0 : Nat)), (@PySem.Value.int (0 : Int) (0 : Nat)), (@PySem.Value.int (0 : Int) (0 : Nat)), (@PySem.Value.int (3 : Int) (0 : Nat)), (@PySem.Value.ref (165 : Nat)), (@PySem.Value.bool Bool.true), (@PySem.Value.int (181 : Int) (0 : Nat)), (@PySem.Value.ref (166 : Nat)), PySem.Value.none, (@PySem.Value.ref (167 : Nat)), (@PySem.Value.ref (168 : Nat)), (@PySem.Value.ref (169 : Nat)), (@PySem.Value.int (395 : Int) (0 : Nat)), (@PySem.Value.int (66 : Int) (0 : Nat)), (@PySem.Value.str (@PySem.Str.ofString "/claim/cut.py") (396 : Nat))])) (List.toArray []))) ::
(nat_lit 171, (@PySem.Obj.mk (@PySem.Value.type "function") Option.none (@PySem.Data.func (PySem.FuncData.mk (@PySem.Str.ofString "__setitem__") (@PySem.Str.ofString "Setting.__setitem__") (defArgs s_Setting___setitem__) (PySem.FuncBody.stmts (defBody s_Setting___setitem__)) (defScope s_Setting___setitem__) (3 : Nat) [] PySem.Value.none PySem.Value.none PySem.Value.none (@PySem.Value.str (@PySem.Str.ofString "quietprobes.settings") (307 : Nat)) Option.none (@PySem.Value.ref (170 : Nat)) PySem.Value.none (0 : Nat))) (List.toArray []))) ::
(nat_lit 172, (@PySem.Obj.mk (@PySem.Value.type "tuple") Option.none (@PySem.Data.seq (List.toArray []) (0 : Nat)) (List.toArray []))) ::
(nat_lit 174, (@PySem.Obj.mk (@PySem.Value.type "tuple") Option.none (@PySem.Data.seq (List.toArray [(@PySem.Value.str (@PySem.Str.ofString "self") (401 : Nat))]) (0 : Nat)) (List.toArray []))) ::
(nat_lit 175, (@PySem.Obj.mk (@PySem.Value.type "tuple") Option.none (@PySem.Data.seq (List.toArray []) (0 : Nat)) (List.toArray []))) ::
(nat_lit 177, (@PySem.Obj.mk (@PySem.Value.type "code") Option.none (@PySem.Data.fields (List.toArray [(@PySem.Value.str (@PySem.Str.ofString "__len__") (398 : Nat)), (@PySem.Value.str (@PySem.Str.ofString "Setting.__len__") (399 : Nat)), (@PySem.Value.str (@PySem.Str.ofString "/claim/cut.py") (400 : Nat)), (@PySem.Value.int (76 : Int) (0 : Nat)), (@PySem.Value.int (1 : Int) (0 : Nat)), (@PySem.Value.int (0 : Int) (0 : Nat)), (@PySem.Value.int (0 : Int) (0 : Nat)), (@PySem.Value.int (3 : Int) (0 : Nat)), (@PySem.Value.ref (172 : Nat)), (@PySem.Value.bool Bool.true), (@PySem.Value.int (181 : Int) (0 : Nat)), (@PySem.Value.ref (173 : Nat)), PySem.Value.none, (@PySem.Value.ref (174 : Nat)), (@PySem.Value.ref (175 : Nat)), (@PySem.Value.ref (176 : Nat)), (@PySem.Value.int (402 : Int) (0 : Nat)), (@PySem.Value.int (76 : Int) (0 : Nat)), (@PySem.Value.str (@PySem.Str.ofString "/claim/cut.py") (403 : Nat))])) (List.toArray []))) ::
(nat_lit 178, (@PySem.Obj.mk (@PySem.Value.type "function") Option.none (@PySem.Data.func (PySem.FuncData.mk (@PySem.Str.ofString "__len__") (@PySem.Str.ofString "Setting.__len__") (defArgs s_Setting___len__) (PySem.FuncBody.stmts (defBody s_Setting___len__)) (defScope s_Setting___len__) (3 : Nat) [] PySem.Value.none PySem.Value.none PySem.Value.none (@PySem.Value.str (@PySem.Str.ofString "quietprobes.settings") (307 : Nat)) Option.none (@PySem.Value.ref (177 : Nat)) PySem.Value.none (0 : Nat))) (List.toArray []))) ::
(nat_lit 179, (@PySem.Obj.mk (@PySem.Value.type "tuple") Option.none (@PySem.Data.seq (List.toArray []) (0 : Nat)) (List.toArray []))) ::
(nat_lit 181, (@PySem.Obj.mk (@PySem.Value.type "tuple") Option.none (@PySem.Data.seq (List.toArray [(@PySem.Value.str (@PySem.Str.ofString "self") (408 : Nat)), (@PySem.Value.str (@PySem.Str.ofString "name") (409 : Nat))]) (0 : Nat)) (List.toArray []))) ::
(nat_lit 182, (@PySem.Obj.mk (@PySem.Value.type "tuple") Option.none (@PySem.Data.seq (List.toArray []) (0 : Nat)) (List.toArray []))) ::
(nat_lit 184, (@PySem.Obj.mk (@PySem.Value.type "code") Option.none (@PySem.Data.fields (List.toArray [(@PySem.Value.str (@PySem.Str.ofString "__contains__") (405 : Nat)), (@PySem.Value.str (@PySem.Str.ofString "Setting.__contains__") (406 : Nat)), (@PySem.Value.str (@PySem.Str.ofString "/claim/cut.py") (407 : Nat)), (@PySem.Value.int (79 : Int) (0 : Nat)), (@PySem.Value.int (2 : Int) (0 : Nat)), (@PySem.Value.int (0 : Int) (0 : Nat)), (@PySem.Value.int (0 : Int) (0 : Nat)), (@PySem.Value.int (3 : Int) (0 : Nat)), (@PySem.Value.ref (179 : Nat)), (@PySem.Value.bool Bool.true), (@PySem.Value.int (181 : Int) (0 : Nat)), (@PySem.Value.ref (180 : Nat)), PySem.Value.none, (@PySem.Value.ref (181 : Nat)), (@PySem.Value.ref (182 : Nat)), (@PySem.Value.ref (183 : Nat)), (@PySem.Value.int (410 : Int) (0 : Nat)), (@PySem.Value.int (79 : Int) (0 : Nat)), (@PySem.Value.str (@PySem.Str.ofString "/claim/cut.py") (411 : Nat))])) (List.toArray []))) ::
(nat_lit 185, (@PySem.Obj.mk (@PySem.Value.type "function") Option.none (@PySem.Data.func (PySem.FuncData.mk (@PySem.Str.ofString "__contains__") (@PySem.Str.ofString "Setting.__contains__") (defArgs s_Setting___contains__) (PySem.FuncBody.stmts (defBody s_Setting___contains__)) (defScope s_Setting___contains__) (3 : Nat) [] PySem.Value.none PySem.Value.none PySem.Value.none (@PySem.Value.str (@PySem.Str.ofString "quietprobes.settings") (307 : Nat)) Option.none (@PySem.Value.ref (184 : Nat)) PySem.Value.none (0 : Nat))) (List.toArray []))) ::
(nat_lit 186, (@PySem.Obj.mk (@PySem.Value.type "tuple") Option.none (@PySem.Data.seq (List.toArray []) (0 : Nat)) (List.toArray []))) ::
(nat_lit 188, (@PySem.Obj.mk (@PySem.Value.type "tuple") Option.none (@PySem.Data.seq (List.toArray [(@PySem.Value.str (@PySem.Str.ofString "self") (416 : Nat)), (@PySem.Value.str (@PySem.Str.ofString "other") (417 : Nat))]) (0 : Nat)) (List.toArray []))) ::
(nat_lit 189, (@PySem.Obj.mk (@PySem.Value.type "tuple") Option.none (@PySem.Data.seq (List.toArray []) (0 : Nat)) (List.toArray []))) ::
(nat_lit 191, (@PySem.Obj.mk (@PySem.Value.type "code") Option.none (@PySem.Data.fields (List.toArray [(@PySem.Value.str (@PySem.Str.ofString "__eq__") (413 : Nat)), (@PySem.Value.str (@PySem.Str.ofString "Setting.__eq__") (414 : Nat)), (@PySem.Value.str (@PySem.Str.ofString "/claim/cut.py") (415 : Nat)), (@PySem.Value.int (82 : Int) (0 : Nat)), (@PySem.Value.int (2 : Int) (0 : Nat)), (@PySem.Value.int (0 : Int) (0 : Nat)), (@PySem.Value.int (0 : Int) (0 : Nat)), (@PySem.Value.int (3 : Int) (0 : Nat)), (@PySem.Value.ref (186 : Nat)), (@PySem.Value.bool Bool.true), (@PySem.Value.int (181 : Int) (0 : Nat)), (@PySem.Value.ref (187 : Nat)), PySem.Value.none, (@PySem.Value.ref (188 : Nat)), (@PySem.Value.ref (189 : Nat)), (@PySem.Value.ref (190 : Nat)), (@PySem.Value.int (418 : Int) (0 : Nat)), (@PySem.Value.int (82 : Int) (0 : Nat)), (@PySem.Value.str (@PySem.Str.ofString "/claim/cut.py") (419 : Nat))])) (List.toArray []))) ::
(nat_lit 192, (@PySem.Obj.mk (@PySem.Value.type "function") Option.none (@PySem.Data.func (PySem.FuncData.mk (@PySem.Str.ofString "__eq__") (@PySem.Str.ofString "Setting.__eq__") (defArgs s_Setting___eq__) (PySem.FuncBody.stmts (defBody s_Setting___eq__)) (defScope s_Setting___eq__) (3 : Nat) [] PySem.Value.none PySem.Value.none PySem.Value.none (@PySem.Value.str (@PySem.Str.ofString "quietprobes.settings") (307 : Nat)) Option.none (@PySem.Value.ref (191 : Nat)) PySem.Value.none (0 : Nat))) (List.toArray []))) ::
(nat_lit 193, (@PySem.Obj.mk (@PySem.Value.type "tuple") Option.none (@PySem.Data.seq (List.toArray []) (0 : Nat)) (List.toArray []))) ::
(nat_lit 196, (@PySem.Obj.mk (@PySem.Value.type "code") Option.none (@PySem.Data.fields (List.toArray [(@PySem.Value.str (@PySem.Str.ofString "__or__") (421 : Nat)), (@PySem.Value.str (@PySem.Str.ofString "Setting.__or__") (422 : Nat)), (@PySem.Value.str (@PySem.Str.ofString "/claim/cut.py") (423 : Nat)), (@PySem.Value.int (85 : Int) (0 : Nat)), (@PySem.Value.int (2 : Int) (0 : Nat)), (@PySem.Value.int (0 : Int) (0 : Nat)), (@PySem.Value.int (0 : Int) (0 : Nat)), (@PySem.Value.int (3 : Int) (0 : Nat)), (@PySem.Value.ref (193 : Nat)), (@PySem.Value.bool Bool.true), (@PySem.Value.int (181 : Int) (0 : Nat)), (@PySem.Value.ref (194 : Nat)), PySem.Value.none, PySem.Value.none, PySem.Value.none, (@PySem.Value.ref (195 : Nat)), (@PySem.Value.int (424 : Int) (0 : Nat)), (@PySem.Value.int (85 : Int) (0 : Nat)), (@PySem.Value.str (@PySem.Str.ofString "/claim/cut.py") (425 : Nat))])) (List.toArray []))) ::
(nat_lit 197, (@PySem.Obj.mk (@PySem.Value.type "function") Option.none (@PySem.Data.func (PySem.FuncData.mk (@PySem.Str.ofString "__or__") (@PySem.Str.ofString "Setting.__or__") (defArgs s_Setting___or__) (PySem.FuncBody.stmts (defBody s_Setting___or__)) (defScope s_Setting___or__) (3 : Nat) [] PySem.Value.none PySem.Value.none PySem.Value.none (@PySem.Value.str (@PySem.Str.ofString "quietprobes.settings") (307 : Nat)) Option.none (@PySem.Value.ref (196 : Nat)) PySem.Value.none (0 : Nat))) (List.toArray []))) ::
(nat_lit 198, (@PySem.Obj.mk (@PySem.Value.type "tuple") Option.none (@PySem.Data.seq (List.toArray []) (0 : Nat)) (List.toArray []))) ::
(nat_lit 200, (@PySem.Obj.mk (@PySem.Value.type "tuple") Option.none (@PySem.Data.seq (List.toArray [(@PySem.Value.str (@PySem.Str.ofString "self") (430 : Nat)), (@PySem.Value.str (@PySem.Str.ofString "other") (431 : Nat)), (@PySem.Value.str (@PySem.Str.ofString "name") (432 : Nat))]) (0 : Nat)) (List.toArray []))) ::
(nat_lit 201, (@PySem.Obj.mk (@PySem.Value.type "tuple") Option.none (@PySem.Data.seq (List.toArray []) (0 : Nat)) (List.toArray []))) ::
(nat_lit 203, (@PySem.Obj.mk (@PySem.Value.type "code") Option.none (@PySem.Data.fields (List.toArray [(@PySem.Value.str (@PySem.Str.ofString "__ior__") (427 : Nat)), (@PySem.Value.str (@PySem.Str.ofString "Setting.__ior__") (428 : Nat)), (@PySem.Value.str (@PySem.Str.ofString "/claim/cut.py") (429 : Nat)), (@PySem.Value.int (89 : Int) (0 : Nat)), (@PySem.Value.int (2 : Int) (0 : Nat)), (@PySem.Value.int (0 : Int) (0 : Nat)), (@PySem.Value.int (0 : Int) (0 : Nat)), (@PySem.Value.int (3 : Int) (0 : Nat)), (@PySem.Value.ref (198 : Nat)), (@PySem.Value.bool Bool.true), (@PySem.Value.int (181 : Int) (0 : Nat)), (@PySem.Value.ref (199 : Nat)), PySem.Value.none, (@PySem.Value.ref (200 : Nat)), (@PySem.Value.ref (201 : Nat)), (@PySem.Value.ref (202 : Nat)), (@PySem.Value.int (433 : Int) (0 : Nat)), (@PySem.Value.int (89 : Int) (0 : Nat)), (@PySem.Value.str (@PySem.Str.ofString "/claim/cut.py") (434 : Nat))])) (List.toArray []))) ::
(nat_lit 204, (@PySem.Obj.mk (@PySem.Value.type "function") Option.none (@PySem.Data.func (PySem.FuncData.mk (@PySem.Str.ofString "__ior__") (@PySem.Str.ofString "Setting.__ior__") (defArgs s_Setting___ior__) (PySem.FuncBody.stmts (defBody s_Setting___ior__)) (defScope s_Setting___ior__) (3 : Nat) [] PySem.Value.none PySem.Value.none PySem.Value.none (@PySem.Value.str (@PySem.Str.ofString "quietprobes.settings") (307 : Nat)) Option.none (@PySem.Value.ref (203 : Nat)) PySem.Value.none (0 : Nat))) (List.toArray []))) ::
(nat_lit 205, (@PySem.Obj.mk (@PySem.Value.type "tuple") Option.none (@PySem.Data.seq (List.toArray []) (0 : Nat)) (List.toArray []))) ::
(nat_lit 208, (@PySem.Obj.mk (@PySem.Value.type "code") Option.none (@PySem.Data.fields (List.toArray [(@PySem.Value.str (@PySem.Str.ofString "__and__") (436 : Nat)), (@PySem.Value.str (@PySem.Str.ofString "Setting.__and__") (437 : Nat)), (@PySem.Value.str (@PySem.Str.ofString "/claim/cut.py") (438 : Nat)), (@PySem.Value.int (95 : Int) (0 : Nat)), (@PySem.Value.int (2 : Int) (0 : Nat)), (@PySem.Value.int (0 : Int) (0 : Nat)), (@PySem.Value.int (0 : Int) (0 : Nat)), (@PySem.Value.int (3 : Int) (0 : Nat)), (@PySem.Value.ref (205 : Nat)), (@PySem.Value.bool Bool.true), (@PySem.Value.int (181 : Int) (0 : Nat)), (@PySem.Value.ref (206 : Nat)), PySem.Value.none, PySem.Value.none, PySem.Value.none, (@PySem.Value.ref (207 : Nat)), (@PySem.Value.int (439 : Int) (0 : Nat)), (@PySem.Value.int (95 : Int) (0 : Nat)), (@PySem.Value.str (@PySem.Str.ofString "/claim/cut.py") (440 : Nat))])) (List.toArray []))) ::
(nat_lit 209, (@PySem.Obj.mk (@PySem.Value.type "function") Option.none (@PySem.Data.func (PySem.FuncData.mk (@PySem.Str.ofString "__and__") (@PySem.Str.ofString "Setting.__and__") (defArgs s_Setting___and__) (PySem.FuncBody.stmts (defBody s_Setting___and__)) (defScope s_Setting___and__) (3 : Nat) [] PySem.Value.none PySem.Value.none PySem.Value.none (@PySem.Value.str (@PySem.Str.ofString "quietprobes.settings") (307 : Nat)) Option.none (@PySem.Value.ref (208 : Nat)) PySem.Value.none (0 : Nat))) (List.toArray []))) ::
(nat_lit 210, (@PySem.Obj.mk (@PySem.Value.type "tuple") Option.none (@PySem.Data.seq (List.toArray []) (0 : Nat)) (List.toArray []))) ::
(nat_lit 213, (@PySem.Obj.mk (@PySem.Value.type "code") Option.none (@PySem.Data.fields (List.toArray [(@PySem.Value.str (@PySem.Str.ofString "__sub__") (442 : Nat)), (@PySem.Value.str (@PySem.Str.ofString "Setting.__sub__") (443 : Nat)), (@PySem.Value.str (@PySem.Str.ofString "/claim/cut.py") (444 : Nat)), (@PySem.Value.int (99 : Int) (0 : Nat)), (@PySem.Value.int (2 : Int) (0 : Nat)), (@PySem.Value.int (0 : Int) (0 : Nat)), (@PySem.Value.int (0 : Int) (0 : Nat)), (@PySem.Value.int (3 : Int) (0 : Nat)), (@PySem.Value.ref (210 : Nat)), (@PySem.Value.bool Bool.true), (@PySem.Value.int (181 : Int) (0 : Nat)), (@PySem.Value.ref (211 : Nat)), PySem.Value.none, PySem.Value.none, PySem.Value.none, (@PySem.Value.ref (212 : Nat)), (@PySem.Value.int (445 : Int) (0 : Nat)), (@PySem.Value.int (99 : Int) (0 : Nat)), (@PySem.Value.str (@PySem.Str.ofString "/claim/cut.py") (446 : Nat))])) (List.toArray []))) ::
(nat_lit 214, (@PySem.Obj.mk (@PySem.Value.type "function") Option.none (@PySem.Data.func (PySem.FuncData.mk (@PySem.Str.ofString "__sub__") (@PySem.Str.ofString "Setting.__sub__") (defArgs s_Setting___sub__) (PySem.FuncBody.stmts (defBody s_Setting___sub__)) (defScope s_Setting___sub__) (3 : Nat) [] PySem.Value.none PySem.Value.none PySem.Value.none (@PySem.Value.str (@PySem.Str.ofString "quietprobes.settings") (307 : Nat)) Option.none (@PySem.Value.ref (213 : Nat)) PySem.Value.none (0 : Nat))) (List.toArray []))) ::
(nat_lit 215, (@PySem.Obj.mk (@PySem.Value.type "tuple") Option.none (@PySem.Data.seq (List.toArray []) (0 : Nat)) (List.toArray []))) ::
(nat_lit 218, (@PySem.Obj.mk (@PySem.Value.type "code") Option.none (@PySem.Data.fields (List.toArray [(@PySem.Value.str (@PySem.Str.ofString "__xor__") (448 : Nat)), (@PySem.Value.str (@PySem.Str.ofString "Setting.__xor__") (449 : Nat)), (@PySem.Value.str (@PySem.Str.ofString "/claim/cut.py") (450 : Nat)), (@PySem.Value.int (102 : Int) (0 : Nat)), (@PySem.Value.int (2 : Int) (0 : Nat)), (@PySem.Value.int (0 : Int) (0 : Nat)), (@PySem.Value.int (0 : Int) (0 : Nat)), (@PySem.Value.int (3 : Int) (0 : Nat)), (@PySem.Value.ref (215 : Nat)), (@PySem.Value.bool Bool.true), (@PySem.Value.int (181 : Int) (0 : Nat)), (@PySem.Value.ref (216 : Nat)), PySem.Value.none, PySem.Value.none, PySem.Value.none, (@PySem.Value.ref (217 : Nat)), (@PySem.Value.int (451 : Int) (0 : Nat)), (@PySem.Value.int (102 : Int) (0 : Nat)), (@PySem.Value.str (@PySem.Str.ofString "/claim/cut.py") (452 : Nat))])) (List.toArray []))) ::
(nat_lit 219, (@PySem.Obj.mk (@PySem.Value.type "function") Option.none (@PySem.Data.func (PySem.FuncData.mk (@PySem.Str.ofString "__xor__") (@PySem.Str.ofString "Setting.__xor__") (defArgs s_Setting___xor__) (PySem.FuncBody.stmts (defBody s_Setting___xor__)) (defScope s_Setting___xor__) (3 : Nat) [] PySem.Value.none PySem.Value.none PySem.Value.none (@PySem.Value.str (@PySem.Str.ofString "quietprobes.settings") (307 : Nat)) Option.none (@PySem.Value.ref (218 : Nat)) PySem.Value.none (0 : Nat))) (List.toArray []))) ::
(nat_lit 220, (@PySem.Obj.mk (@PySem.Value.type "tuple") Option.none (@PySem.Data.seq (List.toArray []) (0 : Nat)) (List.toArray []))) ::
(nat_lit 222, (@PySem.Obj.mk (@PySem.Value.type "tuple") Option.none (@PySem.Data.seq (List.toArray [(@PySem.Value.str (@PySem.Str.ofString "self") (457 : Nat))]) (0 : Nat)) (List.toArray []))) ::
(nat_lit 223, (@PySem.Obj.mk (@PySem.Value.type "tuple") Option.none (@PySem.Data.seq (List.toArray []) (0 : Nat)) (List.toArray []))) ::
(nat_lit 225, (@PySem.Obj.mk (@PySem.Value.type "code") Option.none (@PySem.Data.fields (List.toArray [(@PySem.Value.str (@PySem.Str.ofString "names") (454 : Nat)), (@PySem.Value.str (@PySem.Str.ofString "Setting.names") (455 : Nat)), (@PySem.Value.str (@PySem.Str.ofString "/claim/cut.py") (456 : Nat)), (@PySem.Value.int (106 : Int) (0 : Nat)), (@PySem.Value.int (1 : Int) (0 : Nat)), (@PySem.Value.int (0 : Int) (0 : Nat)), (@PySem.Value.int (0 : Int) (0 : Nat)), (@PySem.Value.int (3 : Int) (0 : Nat)), (@PySem.Value.ref (220 : Nat)), (@PySem.Value.bool Bool.true), (@PySem.Value.int (181 : Int) (0 : Nat)), (@PySem.Value.ref (221 : Nat)), PySem.Value.none, (@PySem.Value.ref (222 : Nat)), (@PySem.Value.ref (223 : Nat)), (@PySem.Value.ref (224 : Nat)), (@PySem.Value.int (458 : Int) (0 : Nat)), (@PySem.Value.int (106 : Int) (0 : Nat)), (@PySem.Value.str (@PySem.Str.ofString "/claim/cut.py") (459 : Nat))])) (List.toArray []))) ::
(nat_lit 226, (@PySem.Obj.mk (@PySem.Value.type "function") Option.none (@PySem.Data.func (PySem.FuncData.mk (@PySem.Str.ofString "names") (@PySem.Str.ofString "Setting.names") (defArgs s_Setting_names) (PySem.FuncBody.stmts (defBody s_Setting_names)) (defScope s_Setting_names) (3 : Nat) [] PySem.Value.none PySem.Value.none PySem.Value.none (@PySem.Value.str (@PySem.Str.ofString "quietprobes.settings") (307 : Nat)) Option.none (@PySem.Value.ref (225 : Nat)) PySem.Value.none (0 : Nat))) (List.toArray []))) ::
(nat_lit 227, (@PySem.Obj.mk (@PySem.Value.type "tuple") Option.none (@PySem.Data.seq (List.toArray []) (0 : Nat)) (List.toArray []))) ::
(nat_lit 230, (@PySem.Obj.mk (@PySem.Value.type "code") Option.none (@PySem.Data.fields (List.toArray [(@PySem.Value.str (@PySem.Str.ofString "is_within") (461 : Nat)), (@PySem.Value.str (@PySem.Str.ofString "Setting.is_within") (462 : Nat)), (@PySem.Value.str (@PySem.Str.ofString "/claim/cut.py") (463 : Nat)), (@PySem.Value.int (109 : Int) (0 : Nat)), (@PySem.Value.int (2 : Int) (0 : Nat)), (@PySem.Value.int (0 : Int) (0 : Nat)), (@PySem.Value.int (0 : Int) (0 : Nat)), (@PySem.Value.int (3 : Int) (0 : Nat)), (@PySem.Value.ref (227 : Nat)), (@PySem.Value.bool Bool.true), (@PySem.Value.int (181 : Int) (0 : Nat)), (@PySem.Value.ref (228 : Nat)), PySem.Value.none, PySem.Value.none, PySem.Value.none, (@PySem.Value.ref (229 : Nat)), (@PySem.Value.int (464 : Int) (0 : Nat)), (@PySem.Value.int (109 : Int) (0 : Nat)), (@PySem.Value.str (@PySem.Str.ofString "/claim/cut.py") (465 : Nat))])) (List.toArray []))) ::
(nat_lit 231, (@PySem.Obj.mk (@PySem.Value.type "function") Option.none (@PySem.Data.func (PySem.FuncData.mk (@PySem.Str.ofString "is_within") (@PySem.Str.ofString "Setting.is_within") (defArgs s_Setting_is_within) (PySem.FuncBody.stmts (defBody s_Setting_is_within)) (defScope s_Setting_is_within) (3 : Nat) [] PySem.Value.none PySem.Value.none PySem.Value.none (@PySem.Value.str (@PySem.Str.ofString "quietprobes.settings") (307 : Nat)) Option.none (@PySem.Value.ref (230 : Nat)) PySem.Value.none (0 : Nat))) (List.toArray []))) ::
(nat_lit 232, (@PySem.Obj.mk (@PySem.Value.type "tuple") Option.none (@PySem.Data.seq (List.toArray []) (0 : Nat)) (List.toArray []))) ::
(nat_lit 234, (@PySem.Obj.mk (@PySem.Value.type "tuple") Option.none (@PySem.Data.seq (List.toArray [(@PySem.Value.str (@PySem.Str.ofString "self") (470 : Nat))]) (0 : Nat)) (List.toArray []))) ::
(nat_lit 235, (@PySem.Obj.mk (@PySem.Value.type "tuple") Option.none (@PySem.Data.seq (List.toArray []) (0 : Nat)) (List.toArray []))) ::
(nat_lit 237, (@PySem.Obj.mk (@PySem.Value.type "code") Option.none (@PySem.Data.fields (List.toArray [(@PySem.Value.str (@PySem.Str.ofString "duplicate") (467 : Nat)), (@PySem.Value.str (@PySem.Str.ofString "Setting.duplicate") (468 : Nat)), (@PySem.Value.str (@PySem.Str.ofString "/claim/cut.py") (469 : Nat)), (@PySem.Value.int (112 : Int) (0 : Nat)), (@PySem.Value.int (1 : Int) (0 : Nat)), (@PySem.Value.int (0 : Int) (0 : Nat)), (@PySem.Value.int (0 : Int) (0 : Nat)), (@PySem.Value.int (3 : Int) (0 : Nat)), (@PySem.Value.ref (232 : Nat)), (@PySem.Value.bool Bool.true), (@PySem.Value.int (181 : Int) (0 : Nat)), (@PySem.Value.ref (233 : Nat)), PySem.Value.none, (@PySem.Value.ref (234 : Nat)), (@PySem.Value.ref (235 : Nat)), (@PySem.Value.ref (236 : Nat)), (@PySem.Value.int (471 : Int) (0 : Nat)), (@PySem.Value.int (112 : Int) (0 : Nat)), (@PySem.Value.str (@PySem.Str.ofString "/claim/cut.py") (472 : Nat))])) (List.toArray []))) ::
(nat_lit 238, (@PySem.Obj.mk (@PySem.Value.type "function") Option.none (@PySem.Data.func (PySem.FuncData.mk (@PySem.Str.ofString "duplicate") (@PySem.Str.ofString "Setting.duplicate") (defArgs s_Setting_duplicate) (PySem.FuncBody.stmts (defBody s_Setting_duplicate)) (defScope s_Setting_duplicate) (3 : Nat) [] PySem.Value.none PySem.Value.none PySem.Value.none (@PySem.Value.str (@PySem.Str.ofString "quietprobes.settings") (307 : Nat)) Option.none (@PySem.Value.ref (237 : Nat)) PySem.Value.none (0 : Nat))) (List.toArray []))) ::
(nat_lit 239, (@PySem.Obj.mk (@PySem.Value.type "dict") Option.none (@PySem.Data.dict (List.toArray [(@PySem.DictEntry.mk (@PySem.PyData.keyHash P (@PySem.Str.ofString "mode")) (@PySem.Value.str (@PySem.Str.ofString "mode") (475 : Nat)) (@PySem.Value.str (@PySem.Str.ofString "on") (474 : Nat)))]) (1 : Nat)) (List.toArray []))) ::
(nat_lit 240, (@PySem.Obj.mk (@PySem.Value.type "tuple") Option.none (@PySem.Data.seq (List.toArray []) (0 : Nat)) (List.toArray []))) ::
(nat_lit 242, (@PySem.Obj.mk (@PySem.Value.type "tuple") Option.none (@PySem.Data.seq (List.toArray [(@PySem.Value.str (@PySem.Str.ofString "program") (479 : Nat)), (@PySem.Value.str (@PySem.Str.ofString "mode") (480 : Nat))]) (0 : Nat)) (List.toArray []))) ::
(nat_lit 243, (@PySem.Obj.mk (@PySem.Value.type "tuple") Option.none (@PySem.Data.seq (List.toArray []) (0 : Nat)) (List.toArray []))) ::
(nat_lit 245, (@PySem.Obj.mk (@PySem.Value.type "code") Option.none (@PySem.Data.fields (List.toArray [(@PySem.Value.str (@PySem.Str.ofString "every") (476 : Nat)), (@PySem.Value.str (@PySem.Str.ofString "Setting.every") (477 : Nat)), (@PySem.Value.str (@PySem.Str.ofString "/claim/cut.py") (478 : Nat)), (@PySem.Value.int (115 : Int) (0 : Nat)), (@PySem.Value.int (1 : Int) (0 : Nat)), (@PySem.Value.int (0 : Int) (0 : Nat)), (@PySem.Value.int (1 : Int) (0 : Nat)), (@PySem.Value.int (3 : Int) (0 : Nat)), (@PySem.Value.ref (240 : Nat)), (@PySem.Value.bool Bool.true), (@PySem.Value.int (181 : Int) (0 : Nat)), (@PySem.Value.ref (241 : Nat)), PySem.Value.none, (@PySem.Value.ref (242 : Nat)), (@PySem.Value.ref (243 : Nat)), (@PySem.Value.ref (244 : Nat)), (@PySem.Value.int (481 : Int) (0 : Nat)), (@PySem.Value.int (115 : Int) (0 : Nat)), (@PySem.Value.str (@PySem.Str.ofString "/claim/cut.py") (482 : Nat))])) (List.toArray []))) ::
(nat_lit 246, (@PySem.Obj.mk (@PySem.Value.type "function") Option.none (@PySem.Data.func (PySem.FuncData.mk (@PySem.Str.ofString "every") (@PySem.Str.ofString "Setting.every") (defArgs s_Setting_every) (PySem.FuncBody.stmts (defBody s_Setting_every)) (defScope s_Setting_every) (3 : Nat) [] PySem.Value.none (@PySem.Value.ref (239 : Nat)) PySem.Value.none (@PySem.Value.str (@PySem.Str.ofString "quietprobes.settings") (307 : Nat)) (Option.some (249 : Nat)) (@PySem.Value.ref (245 : Nat)) PySem.Value.none (0 : Nat))) (List.toArray []))) ::
(nat_lit 247, (@PySem.Obj.mk (@PySem.Value.type "dict") Option.none (@PySem.Data.dict (List.toArray [(@PySem.DictEntry.mk (@PySem.PyData.keyHash P (@PySem.Str.ofString "__module__")) (@PySem.Value.str (@PySem.Str.ofString "__module__") (484 : Nat)) (@PySem.Value.str (@PySem.Str.ofString "quietprobes.settings") (307 : Nat))), (@PySem.DictEntry.mk (@PySem.PyData.keyHash P (@PySem.Str.ofString "__name__")) (@PySem.Value.str (@PySem.Str.ofString "__name__") (487 : Nat)) (@PySem.Value.str (@PySem.Str.ofString "every") (486 : Nat))), (@PySem.DictEntry.mk (@PySem.PyData.keyHash P (@PySem.Str.ofString "__qualname__")) (@PySem.Value.str (@PySem.Str.ofString "__qualname__") (490 : Nat)) (@PySem.Value.str (@PySem.Str.ofString "Setting.every") (489 : Nat))), (@PySem.DictEntry.mk (@PySem.PyData.keyHash P (@PySem.Str.ofString "__doc__")) (@PySem.Value.str (@PySem.Str.ofString "__doc__") (492 : Nat)) PySem.Value.none), (@PySem.DictEntry.mk (@PySem.PyData.keyHash P (@PySem.Str.ofString "__annotations__")) (@PySem.Value.str (@PySem.Str.ofString "__annotations__") (494 : Nat)) (@PySem.Value.ref (249 : Nat)))]) (5 : Nat)) (List.toArray []))) ::
(nat_lit 248, (@PySem.Obj.mk (@PySem.Value.type "staticmethod") (Option.some (247 : Nat)) (@PySem.Data.fields (List.toArray [(@PySem.Value.ref (246 : Nat)), (@PySem.Value.bool Bool.false)])) (List.toArray []))) ::
(nat_lit 249, (@PySem.Obj.mk (@PySem.Value.type "dict") Option.none (@PySem.Data.dict (List.toArray []) (0 : Nat)) (List.toArray []))) ::
(nat_lit 250, (@PySem.Obj.mk (@PySem.Value.type "tuple") Option.none (@PySem.Data.seq (List.toArray [(@PySem.Value.str (@PySem.Str.ofString "chosen") (496 : Nat))]) (0 : Nat)) (List.toArray []))) ::
(nat_lit 251, (@PySem.Obj.mk (@PySem.Value.type "dict") Option.none (@PySem.Data.dict (List.toArray [(@PySem.DictEntry.mk (@PySem.PyData.keyHash P (@PySem.Str.ofString "__module__")) (@PySem.Value.str (@PySem.Str.ofString "__module__") (356 : Nat)) (@PySem.Value.str (@PySem.Str.ofString "quietprobes.settings") (307 : Nat))), (@PySem.DictEntry.mk (@PySem.PyData.keyHash P (@PySem.Str.ofString "__firstlineno__")) (@PySem.Value.str (@PySem.Str.ofString "__firstlineno__") (360 : Nat)) (@PySem.Value.int (43 : Int) (359 : Nat))), (@PySem.DictEntry.mk (@PySem.PyData.keyHash P (@PySem.Str.ofString "OUT")) (@PySem.Value.str (@PySem.Str.ofString "OUT") (362 : Nat)) (@PySem.Value.str (@PySem.Str.ofString "out") (361 : Nat))), (@PySem.DictEntry.mk (@PySem.PyData.keyHash P (@PySem.Str.ofString "DEAF")) (@PySem.Value.str (@PySem.Str.ofString "DEAF") (364 : Nat)) (@PySem.Value.str (@PySem.Str.ofString "deaf") (363 : Nat))), (@PySem.DictEntry.mk (@PySem.PyData.keyHash P (@PySem.Str.ofString "ON")) (@PySem.Value.str (@PySem.Str.ofString "ON") (366 : Nat)) (@PySem.Value.str (@PySem.Str.ofString "on") (365 : Nat))), (@PySem.DictEntry.mk (@PySem.PyData.keyHash P (@PySem.Str.ofString "__init__")) (@PySem.Value.str (@PySem.Str.ofString "__init__") (373 : Nat)) (@PySem.Value.ref (150 : Nat))), (@PySem.DictEntry.mk (@PySem.PyData.keyHash P (@PySem.Str.ofString "__getitem__")) (@PySem.Value.str (@PySem.Str.ofString "__getitem__") (381 : Nat)) (@PySem.Value.ref (157 : Nat))), (@PySem.DictEntry.mk (@PySem.PyData.keyHash P (@PySem.Str.ofString "__iter__")) (@PySem.Value.str (@PySem.Str.ofString "__iter__") (388 : Nat)) (@PySem.Value.ref (164 : Nat))), (@PySem.DictEntry.mk (@PySem.PyData.keyHash P (@PySem.Str.ofString "__setitem__")) (@PySem.Value.str (@PySem.Str.ofString "__setitem__") (397 : Nat)) (@PySem.Value.ref (171 : Nat))), (@PySem.DictEntry.mk (@PySem.PyData.keyHash P (@PySem.Str.ofString "__len__")) (@PySem.Value.str (@PySem.Str.ofString "__len__") (404 : Nat)) (@PySem.Value.ref (178 : Nat))), (@PySem.DictEntry.mk (@PySem.PyData.keyHash P (@PySem.Str.ofString "__contains__")) (@PySem.Value.str (@PySem.Str.ofString "__contains__") (412 : Nat)) (@PySem.Value.ref (185 : Nat))), (@PySem.DictEntry.mk (@PySem.PyData.keyHash P (@PySem.Str.ofString "__eq__")) (@PySem.Value.str (@PySem.Str.ofString "__eq__") (420 : Nat)) (@PySem.Value.ref (192 : Nat))), (@PySem.DictEntry.mk (@PySem.PyData.keyHash P (@PySem.Str.ofString "__or__")) (@PySem.Value.str (@PySem.Str.ofString "__or__") (426 : Nat)) (@PySem.Value.ref (197 : Nat))), (@PySem.DictEntry.mk (@PySem.PyData.keyHash P (@PySem.Str.ofString "__ior__")) (@PySem.Value.str (@PySem.Str.ofString "__ior__") (435 : Nat)) (@PySem.Value.ref (204 : Nat))), (@PySem.DictEntry.mk (@PySem.PyData.keyHash P (@PySem.Str.ofString "__and__")) (@PySem.Value.str (@PySem.Str.ofString "__and__") (441 : Nat)) (@PySem.Value.ref (209 : Nat))), (@PySem.DictEntry.mk (@PySem.PyData.keyHash P (@PySem.Str.ofString "__sub__")) (@PySem.Value.str (@PySem.Str.ofString "__sub__") (447 : Nat)) (@PySem.Value.ref (214 : Nat))), (@PySem.DictEntry.mk (@PySem.PyData.keyHash P (@PySem.Str.ofString "__xor__")) (@PySem.Value.str (@PySem.Str.ofString "__xor__") (453 : Nat)) (@PySem.Value.ref (219 : Nat))), (@PySem.DictEntry.mk (@PySem.PyData.keyHash P (@PySem.Str.ofString "names")) (@PySem.Value.str (@PySem.Str.ofString "names") (460 : Nat)) (@PySem.Value.ref (226 : Nat))), (@PySem.DictEntry.mk (@PySem.PyData.keyHash P (@PySem.Str.ofString "is_within")) (@PySem.Value.str (@PySem.Str.ofString "is_within") (466 : Nat)) (@PySem.Value.ref (231 : Nat))), (@PySem.DictEntry.mk (@PySem.PyData.keyHash P (@PySem.Str.ofString "duplicate")) (@PySem.Value.str (@PySem.Str.ofString "duplicate") (473 : Nat)) (@PySem.Value.ref (238 : Nat))), (@PySem.DictEntry.mk (@PySem.PyData.keyHash P (@PySem.Str.ofString "every")) (@PySem.Value.str (@PySem.Str.ofString "every") (495 : Nat)) (@PySem.Value.ref (248 : Nat))), (@PySem.DictEntry.mk (@PySem.PyData.keyHash P (@PySem.Str.ofString "__static_attributes__")) (@PySem.Value.str (@PySem.Str.ofString "__static_attributes__") (497 : Nat)) (@PySem.Value.ref (250 : Nat))), (@PySem.DictEntry.mk (@PySem.PyData.keyHash P (@PySem.Str.ofString "__dict__")) (@PySem.Value.str (@PySem.Str.ofString "__dict__") (499 : Nat)) (@PySem.Value.ref (253 : Nat))), (@PySem.DictEntry.mk (@PySem.PyData.keyHash P (@PySem.Str.ofString "__weakref__")) (@PySem.Value.str (@PySem.Str.ofString "__weakref__") (501 : Nat)) (@PySem.Value.ref (254 : Nat))), (@PySem.DictEntry.mk (@PySem.PyData.keyHash P (@PySem.Str.ofString "__doc__")) (@PySem.Value.str (@PySem.Str.ofString "__doc__") (502 : Nat)) PySem.Value.none), (@PySem.DictEntry.mk (@PySem.PyData.keyHash P (@PySem.Str.ofString "__hash__")) (@PySem.Value.str (@PySem.Str.ofString "__hash__") (503 : Nat)) PySem.Value.none)]) (5 : Nat)) (List.toArray []))) ::
(nat_lit 252, (@PySem.Obj.mk (@PySem.Value.type "type") Option.none (@PySem.Data.cls (@PySem.ClassData.mk (@PySem.Str.ofString "Setting") [(@PySem.Value.type "object")] [(@PySem.Value.ref (252 : Nat)), (@PySem.Value.type "object")] (251 : Nat) (@PySem.Str.ofString "Setting") Bool.true [] [] Bool.false Option.none Bool.false)) (List.toArray [Option.none, Option.none, (Option.some (@PySem.Value.str (@PySem.Str.ofString "Setting") (349 : Nat))), (Option.some (@PySem.Value.str (@PySem.Str.ofString "Setting") (357 : Nat))), (Option.some (@PySem.Value.builtin "object.__new__")), (Option.some (@PySem.Value.bool Bool.true))]))) ::
(nat_lit 253, (@PySem.Obj.mk (@PySem.Value.type "getset_descriptor") Option.none (@PySem.Data.fields (List.toArray [(@PySem.Value.str (@PySem.Str.ofString "__dict__") (498 : Nat)), (@PySem.Value.ref (252 : Nat)), (@PySem.Value.builtin "function.__dict__"), (@PySem.Value.builtin "function.__dict__#set")])) (List.toArray []))) ::
(nat_lit 254, (@PySem.Obj.mk (@PySem.Value.type "getset_descriptor") Option.none (@PySem.Data.fields (List.toArray [(@PySem.Value.str (@PySem.Str.ofString "__weakref__") (500 : Nat)), (@PySem.Value.ref (252 : Nat)), (@PySem.Value.builtin "ExceptionGroup.__weakref__"), PySem.Value.none])) (List.toArray []))) ::
(nat_lit 257, (@PySem.Obj.mk (@PySem.Value.type "tuple") Option.none (@PySem.Data.seq (List.toArray []) (0 : Nat)) (List.toArray []))) ::
(nat_lit 259, (@PySem.Obj.mk (@PySem.Value.type "tuple") Option.none (@PySem.Data.seq (List.toArray [(@PySem.Value.str (@PySem.Str.ofString "_law_script") (511 : Nat))]) (0 : Nat)) (List.toArray []))) ::
(nat_lit 260, (@PySem.Obj.mk (@PySem.Value.type "tuple") Option.none (@PySem.Data.seq (List.toArray []) (0 : Nat)) (List.toArray []))) ::
(nat_lit 262, (@PySem.Obj.mk (@PySem.Value.type "code") Option.none (@PySem.Data.fields (List.toArray [(@PySem.Value.str (@PySem.Str.ofString "_law_pool") (508 : Nat)), (@PySem.Value.str (@PySem.Str.ofString "_law_pool") (509 : Nat)), (@PySem.Value.str (@PySem.Str.ofString "/claim/cut.py") (510 : Nat)), (@PySem.Value.int (119 : Int) (0 : Nat)), (@PySem.Value.int (1 : Int) (0 : Nat)), (@PySem.Value.int (0 : Int) (0 : Nat)), (@PySem.Value.int (0 : Int) (0 : Nat)), (@PySem.Value.int (3 : Int) (0 : Nat)), (@PySem.Value.ref (257 : Nat)), (@PySem.Value.bool Bool.true), (@PySem.Value.int (181 : Int) (0 : Nat)), (@PySem.Value.ref (258 : Nat)), PySem.Value.none, (@PySem.Value.ref (259 : Nat)), (@PySem.Value.ref (260 : Nat)), (@PySem.Value.ref (261 : Nat)), (@PySem.Value.int (512 : Int) (0 : Nat)), (@PySem.Value.int (119 : Int) (0 : Nat)), (@PySem.Value.str (@PySem.Str.ofString "/claim/cut.py") (513 : Nat))])) (List.toArray []))) ::
(nat_lit 263, (@PySem.Obj.mk (@PySem.Value.type "function") Option.none (@PySem.Data.func (PySem.FuncData.mk (@PySem.Str.ofString "_law_pool") (@PySem.Str.ofString "_law_pool") (defArgs s__law_pool) (PySem.FuncBody.stmts (defBody s__law_pool)) (defScope s__law_pool) (3 : Nat) [] PySem.Value.none PySem.Value.none PySem.Value.none (@PySem.Value.str (@PySem.Str.ofString "law_quietprobes_k33_settings_combined") (506 : Nat)) Option.none (@PySem.Value.ref (262 : Nat)) PySem.Value.none (0 : Nat))) (List.toArray []))) ::
(nat_lit 264, (@PySem.Obj.mk (@PySem.Value.type "tuple") Option.none (@PySem.Data.seq (List.toArray []) (0 : Nat)) (List.toArray []))) ::
(nat_lit 266, (@PySem.Obj.mk (@PySem.Value.type "tuple") Option.none (@PySem.Data.seq (List.toArray [(@PySem.Value.str (@PySem.Str.ofString "_law_pool_here") (518 : Nat)), (@PySem.Value.str (@PySem.Str.ofString "_law_many") (519 : Nat)), (@PySem.Value.str (@PySem.Str.ofString "_law_cell") (520 : Nat)), (@PySem.Value.str (@PySem.Str.ofString "_law_code") (521 : Nat)), (@PySem.Value.str (@PySem.Str.ofString "_law_digit") (522 : Nat)), (@PySem.Value.str (@PySem.Str.ofString "_law_far") (523 : Nat)), (@PySem.Value.str (@PySem.Str.ofString "_law_mixed") (524 : Nat))]) (0 : Nat)) (List.toArray []))) ::
(nat_lit 267, (@PySem.Obj.mk (@PySem.Value.type "tuple") Option.none (@PySem.Data.seq (List.toArray []) (0 : Nat)) (List.toArray []))) ::
(nat_lit 269, (@PySem.Obj.mk (@PySem.Value.type "code") Option.none (@PySem.Data.fields (List.toArray [(@PySem.Value.str (@PySem.Str.ofString "_law_draw") (515 : Nat)), (@PySem.Value.str (@PySem.Str.ofString "_law_draw") (516 : Nat)), (@PySem.Value.str (@PySem.Str.ofString "/claim/cut.py") (517 : Nat)), (@PySem.Value.int (121 : Int) (0 : Nat)), (@PySem.Value.int (2 : Int) (0 : Nat)), (@PySem.Value.int (0 : Int) (0 : Nat)), (@PySem.Value.int (0 : Int) (0 : Nat)), (@PySem.Value.int (3 : Int) (0 : Nat)), (@PySem.Value.ref (264 : Nat)), (@PySem.Value.bool Bool.true), (@PySem.Value.int (181 : Int) (0 : Nat)), (@PySem.Value.ref (265 : Nat)), PySem.Value.none, (@PySem.Value.ref (266 : Nat)), (@PySem.Value.ref (267 : Nat)), (@PySem.Value.ref (268 : Nat)), (@PySem.Value.int (525 : Int) (0 : Nat)), (@PySem.Value.int (121 : Int) (0 : Nat)), (@PySem.Value.str (@PySem.Str.ofString "/claim/cut.py") (526 : Nat))])) (List.toArray []))) ::
(nat_lit 270, (@PySem.Obj.mk (@PySem.Value.type "function") Option.none (@PySem.Data.func (PySem.FuncData.mk (@PySem.Str.ofString "_law_draw") (@PySem.Str.ofString "_law_draw") (defArgs s__law_draw) (PySem.FuncBody.stmts (defBody s__law_draw)) (defScope s__law_draw) (3 : Nat) [] PySem.Value.none PySem.Value.none PySem.Value.none (@PySem.Value.str (@PySem.Str.ofString "law_quietprobes_k33_settings_combined") (506 : Nat)) Option.none (@PySem.Value.ref (269 : Nat)) PySem.Value.none (0 : Nat))) (List.toArray []))) ::
(nat_lit 271, (@PySem.Obj.mk (@PySem.Value.type "tuple") Option.none (@PySem.Data.seq (List.toArray []) (0 : Nat)) (List.toArray []))) ::
(nat_lit 274, (@PySem.Obj.mk (@PySem.Value.type "code") Option.none (@PySem.Data.fields (List.toArray [(@PySem.Value.str (@PySem.Str.ofString "_law_names") (528 : Nat)), (@PySem.Value.str (@PySem.Str.ofString "_law_names") (529 : Nat)), (@PySem.Value.str (@PySem.Str.ofString "/claim/cut.py") (530 : Nat)), (@PySem.Value.int (137 : Int) (0 : Nat)), (@PySem.Value.int (2 : Int) (0 : Nat)), (@PySem.Value.int (0 : Int) (0 : Nat)), (@PySem.Value.int (0 : Int) (0 : Nat)), (@PySem.Value.int (3 : Int) (0 : Nat)), (@PySem.Value.ref (271 : Nat)), (@PySem.Value.bool Bool.true), (@PySem.Value.int (181 : Int) (0 : Nat)), (@PySem.Value.ref (272 : Nat)), PySem.Value.none, PySem.Value.none, PySem.Value.none, (@PySem.Value.ref (273 : Nat)), (@PySem.Value.int (531 : Int) (0 : Nat)), (@PySem.Value.int (137 : Int) (0 : Nat)), (@PySem.Value.str (@PySem.Str.ofString "/claim/cut.py") (532 : Nat))])) (List.toArray []))) ::
(nat_lit 275, (@PySem.Obj.mk (@PySem.Value.type "function") Option.none (@PySem.Data.func (PySem.FuncData.mk (@PySem.Str.ofString "_law_names") (@PySem.Str.ofString "_law_names") (defArgs s__law_names) (PySem.FuncBody.stmts (defBody s__law_names)) (defScope s__law_names) (3 : Nat) [] PySem.Value.none PySem.Value.none PySem.Value.none (@PySem.Value.str (@PySem.Str.ofString "law_quietprobes_k33_settings_combined") (506 : Nat)) Option.none (@PySem.Value.ref (274 : Nat)) PySem.Value.none (0 : Nat))) (List.toArray []))) ::
(nat_lit 276, (@PySem.Obj.mk (@PySem.Value.type "tuple") Option.none (@PySem.Data.seq (List.toArray []) (0 : Nat)) (List.toArray []))) ::
(nat_lit 278, (@PySem.Obj.mk (@PySem.Value.type "tuple") Option.none (@PySem.Data.seq (List.toArray [(@PySem.Value.str (@PySem.Str.ofString "_law_pool_here") (537 : Nat)), (@PySem.Value.str (@PySem.Str.ofString "_law_names_here") (538 : Nat)), (@PySem.Value.str (@PySem.Str.ofString "_law_modes") (539 : Nat)), (@PySem.Value.str (@PySem.Str.ofString "_law_name") (540 : Nat))]) (0 : Nat)) (List.toArray []))) ::
(nat_lit 279, (@PySem.Obj.mk (@PySem.Value.type "tuple") Option.none (@PySem.Data.seq (List.toArray []) (0 : Nat)) (List.toArray []))) ::
(nat_lit 281, (@PySem.Obj.mk (@PySem.Value.type "code") Option.none (@PySem.Data.fields (List.toArray [(@PySem.Value.str (@PySem.Str.ofString "_law_random_modes") (534 : Nat)), (@PySem.Value.str (@PySem.Str.ofString "_law_random_modes") (535 : Nat)), (@PySem.Value.str (@PySem.Str.ofString "/claim/cut.py") (536 : Nat)), (@PySem.Value.int (146 : Int) (0 : Nat)), (@PySem.Value.int (2 : Int) (0 : Nat)), (@PySem.Value.int (0 : Int) (0 : Nat)), (@PySem.Value.int (0 : Int) (0 : Nat)), (@PySem.Value.int (3 : Int) (0 : Nat)), (@PySem.Value.ref (276 : Nat)), (@PySem.Value.bool Bool.true), (@PySem.Value.int (181 : Int) (0 : Nat)), (@PySem.Value.ref (277 : Nat)), PySem.Value.none, (@PySem.Value.ref (278 : Nat)), (@PySem.Value.ref (279 : Nat)), (@PySem.Value.ref (280 : Nat)), (@PySem.Value.int (541 : Int) (0 : Nat)), (@PySem.Value.int (146 : Int) (0 : Nat)), (@PySem.Value.str (@PySem.Str.ofString "/claim/cut.py") (542 : Nat))])) (List.toArray []))) ::
(nat_lit 282, (@PySem.Obj.mk (@PySem.Value.type "function") Option.none (@PySem.Data.func (PySem.FuncData.mk (@PySem.Str.ofString "_law_random_modes") (@PySem.Str.ofString "_law_random_modes") (defArgs s__law_random_modes) (PySem.FuncBody.stmts (defBody s__law_random_modes)) (defScope s__law_random_modes) (3 : Nat) [] PySem.Value.none PySem.Value.none PySem.Value.none (@PySem.Value.str (@PySem.Str.ofString "law_quietprobes_k33_settings_combined") (506 : Nat)) Option.none (@PySem.Value.ref (281 : Nat)) PySem.Value.none (0 : Nat))) (List.toArray []))) ::
(nat_lit 283, (@PySem.Obj.mk (@PySem.Value.type "tuple") Option.none (@PySem.Data.seq (List.toArray []) (0 : Nat)) (List.toArray []))) ::
(nat_lit 285, (@PySem.Obj.mk (@PySem.Value.type "tuple") Option.none (@PySem.Data.seq (List.toArray [(@PySem.Value.str (@PySem.Str.ofString "_law_modes") (547 : Nat)), (@PySem.Value.str (@PySem.Str.ofString "_law_setting_here") (548 : Nat)), (@PySem.Value.str (@PySem.Str.ofString "_law_name") (549 : Nat))]) (0 : Nat)) (List.toArray []))) ::
(nat_lit 286, (@PySem.Obj.mk (@PySem.Value.type "tuple") Option.none (@PySem.Data.seq (List.toArray []) (0 : Nat)) (List.toArray []))) ::
(nat_lit 288, (@PySem.Obj.mk (@PySem.Value.type "code") Option.none (@PySem.Data.fields (List.toArray [(@PySem.Value.str (@PySem.Str.ofString "_law_setting") (544 : Nat)), (@PySem.Value.str (@PySem.Str.ofString "_law_setting") (545 : Nat)), (@PySem.Value.str (@PySem.Str.ofString "/claim/cut.py") (546 : Nat)), (@PySem.Value.int (151 : Int) (0 : Nat)), (@PySem.Value.int (1 : Int) (0 : Nat)), (@PySem.Value.int (0 : Int) (0 : Nat)), (@PySem.Value.int (0 : Int) (0 : Nat)), (@PySem.Value.int (3 : Int) (0 : Nat)), (@PySem.Value.ref (283 : Nat)), (@PySem.Value.bool Bool.true), (@PySem.Value.int (181 : Int) (0 : Nat)), (@PySem.Value.ref (284 : Nat)), PySem.Value.none, (@PySem.Value.ref (285 : Nat)), (@PySem.Value.ref (286 : Nat)), (@PySem.Value.ref (287 : Nat)), (@PySem.Value.int (550 : Int) (0 : Nat)), (@PySem.Value.int (151 : Int) (0 : Nat)), (@PySem.Value.str (@PySem.Str.ofString "/claim/cut.py") (551 : Nat))])) (List.toArray []))) ::
(nat_lit 289, (@PySem.Obj.mk (@PySem.Value.type "function") Option.none (@PySem.Data.func (PySem.FuncData.mk (@PySem.Str.ofString "_law_setting") (@PySem.Str.ofString "_law_setting") (defArgs s__law_setting) (PySem.FuncBody.stmts (defBody s__law_setting)) (defScope s__law_setting) (3 : Nat) [] PySem.Value.none PySem.Value.none PySem.Value.none (@PySem.Value.str (@PySem.Str.ofString "law_quietprobes_k33_settings_combined") (506 : Nat)) Option.none (@PySem.Value.ref (288 : Nat)) PySem.Value.none (0 : Nat))) (List.toArray []))) ::
(nat_lit 290, (@PySem.Obj.mk (@PySem.Value.type "tuple") Option.none (@PySem.Data.seq (List.toArray []) (0 : Nat)) (List.toArray []))) ::
(nat_lit 293, (@PySem.Obj.mk (@PySem.Value.type "code") Option.none (@PySem.Data.fields (List.toArray [(@PySem.Value.str (@PySem.Str.ofString "_law_same") (553 : Nat)), (@PySem.Value.str (@PySem.Str.ofString "_law_same") (554 : Nat)), (@PySem.Value.str (@PySem.Str.ofString "/claim/cut.py") (555 : Nat)), (@PySem.Value.int (157 : Int) (0 : Nat)), (@PySem.Value.int (2 : Int) (0 : Nat)), (@PySem.Value.int (0 : Int) (0 : Nat)), (@PySem.Value.int (0 : Int) (0 : Nat)), (@PySem.Value.int (3 : Int) (0 : Nat)), (@PySem.Value.ref (290 : Nat)), (@PySem.Value.bool Bool.true), (@PySem.Value.int (181 : Int) (0 : Nat)), (@PySem.Value.ref (291 : Nat)), PySem.Value.none, PySem.Value.none, PySem.Value.none, (@PySem.Value.ref (292 : Nat)), (@PySem.Value.int (556 : Int) (0 : Nat)), (@PySem.Value.int (157 : Int) (0 : Nat)), (@PySem.Value.str (@PySem.Str.ofString "/claim/cut.py") (557 : Nat))])) (List.toArray []))) ::
(nat_lit 294, (@PySem.Obj.mk (@PySem.Value.type "function") Option.none (@PySem.Data.func (PySem.FuncData.mk (@PySem.Str.ofString "_law_same") (@PySem.Str.ofString "_law_same") (defArgs s__law_same) (PySem.FuncBody.stmts (defBody s__law_same)) (defScope s__law_same) (3 : Nat) [] PySem.Value.none PySem.Value.none PySem.Value.none (@PySem.Value.str (@PySem.Str.ofString "law_quietprobes_k33_settings_combined") (506 : Nat)) Option.none (@PySem.Value.ref (293 : Nat)) PySem.Value.none (0 : Nat))) (List.toArray []))) ::
(nat_lit 295, (@PySem.Obj.mk (@PySem.Value.type "tuple") Option.none (@PySem.Data.seq (List.toArray []) (0 : Nat)) (List.toArray []))) ::
(nat_lit 298, (@PySem.Obj.mk (@PySem.Value.type "code") Option.none (@PySem.Data.fields (List.toArray [(@PySem.Value.str (@PySem.Str.ofString "_law_holds") (559 : Nat)), (@PySem.Value.str (@PySem.Str.ofString "_law_holds") (560 : Nat)), (@PySem.Value.str (@PySem.Str.ofString "/claim/cut.py") (561 : Nat)), (@PySem.Value.int (173 : Int) (0 : Nat)), (@PySem.Value.int (3 : Int) (0 : Nat)), (@PySem.Value.int (0 : Int) (0 : Nat)), (@PySem.Value.int (0 : Int) (0 : Nat)), (@PySem.Value.int (3 : Int) (0 : Nat)), (@PySem.Value.ref (295 : Nat)), (@PySem.Value.bool Bool.true), (@PySem.Value.int (181 : Int) (0 : Nat)), (@PySem.Value.ref (296 : Nat)), PySem.Value.none, PySem.Value.none, PySem.Value.none, (@PySem.Value.ref (297 : Nat)), (@PySem.Value.int (562 : Int) (0 : Nat)), (@PySem.Value.int (173 : Int) (0 : Nat)), (@PySem.Value.str (@PySem.Str.ofString "/claim/cut.py") (563 : Nat))])) (List.toArray []))) ::
(nat_lit 299, (@PySem.Obj.mk (@PySem.Value.type "function") Option.none (@PySem.Data.func (PySem.FuncData.mk (@PySem.Str.ofString "_law_holds") (@PySem.Str.ofString "_law_holds") (defArgs s__law_holds) (PySem.FuncBody.stmts (defBody s__law_holds)) (defScope s__law_holds) (3 : Nat) [] PySem.Value.none PySem.Value.none PySem.Value.none (@PySem.Value.str (@PySem.Str.ofString "law_quietprobes_k33_settings_combined") (506 : Nat)) Option.none (@PySem.Value.ref (298 : Nat)) PySem.Value.none (0 : Nat))) (List.toArray []))) ::
(nat_lit 300, (@PySem.Obj.mk (@PySem.Value.type "tuple") Option.none (@PySem.Data.seq (List.toArray []) (0 : Nat)) (List.toArray []))) ::
(nat_lit 302, (@PySem.Obj.mk (@PySem.Value.type "tuple") Option.none (@PySem.Data.seq (List.toArray [(@PySem.Value.str (@PySem.Str.ofString "_law_mode") (568 : Nat))]) (0 : Nat)) (List.toArray []))) ::
(nat_lit 303, (@PySem.Obj.mk (@PySem.Value.type "tuple") Option.none (@PySem.Data.seq (List.toArray []) (0 : Nat)) (List.toArray []))) ::
(nat_lit 305, (@PySem.Obj.mk (@PySem.Value.type "code") Option.none (@PySem.Data.fields (List.toArray [(@PySem.Value.str (@PySem.Str.ofString "_law_rank") (565 : Nat)), (@PySem.Value.str (@PySem.Str.ofString "_law_rank") (566 : Nat)), (@PySem.Value.str (@PySem.Str.ofString "/claim/cut.py") (567 : Nat)), (@PySem.Value.int (184 : Int) (0 : Nat)), (@PySem.Value.int (1 : Int) (0 : Nat)), (@PySem.Value.int (0 : Int) (0 : Nat)), (@PySem.Value.int (0 : Int) (0 : Nat)), (@PySem.Value.int (3 : Int) (0 : Nat)), (@PySem.Value.ref (300 : Nat)), (@PySem.Value.bool Bool.true), (@PySem.Value.int (181 : Int) (0 : Nat)), (@PySem.Value.ref (301 : Nat)), PySem.Value.none, (@PySem.Value.ref (302 : Nat)), (@PySem.Value.ref (303 : Nat)), (@PySem.Value.ref (304 : Nat)), (@PySem.Value.int (569 : Int) (0 : Nat)), (@PySem.Value.int (184 : Int) (0 : Nat)), (@PySem.Value.str (@PySem.Str.ofString "/claim/cut.py") (570 : Nat))])) (List.toArray []))) ::
(nat_lit 306, (@PySem.Obj.mk (@PySem.Value.type "function") Option.none (@PySem.Data.func (PySem.FuncData.mk (@PySem.Str.ofString "_law_rank") (@PySem.Str.ofString "_law_rank") (defArgs s__law_rank) (PySem.FuncBody.stmts (defBody s__law_rank)) (defScope s__law_rank) (3 : Nat) [] PySem.Value.none PySem.Value.none PySem.Value.none (@PySem.Value.str (@PySem.Str.ofString "law_quietprobes_k33_settings_combined") (506 : Nat)) Option.none (@PySem.Value.ref (305 : Nat)) PySem.Value.none (0 : Nat))) (List.toArray []))) ::
(nat_lit 307, (@PySem.Obj.mk (@PySem.Value.type "tuple") Option.none (@PySem.Data.seq (List.toArray []) (0 : Nat)) (List.toArray []))) ::
(nat_lit 309, (@PySem.Obj.mk (@PySem.Value.type "tuple") Option.none (@PySem.Data.seq (List.toArray [(@PySem.Value.str (@PySem.Str.ofString "_law_one") (575 : Nat)), (@PySem.Value.str (@PySem.Str.ofString "_law_other") (576 : Nat)), (@PySem.Value.str (@PySem.Str.ofString "_law_names_here") (577 : Nat)), (@PySem.Value.str (@PySem.Str.ofString "_law_greater") (578 : Nat)), (@PySem.Value.str (@PySem.Str.ofString "_law_modes") (579 : Nat)), (@PySem.Value.str (@PySem.Str.ofString "_law_name") (580 : Nat)), (@PySem.Value.str (@PySem.Str.ofString "_law_ranks") (581 : Nat))]) (0 : Nat)) (List.toArray []))) ::
(nat_lit 310, (@PySem.Obj.mk (@PySem.Value.type "tuple") Option.none (@PySem.Data.seq (List.toArray []) (0 : Nat)) (List.toArray []))) ::
(nat_lit 312, (@PySem.Obj.mk (@PySem.Value.type "code") Option.none (@PySem.Data.fields (List.toArray [(@PySem.Value.str (@PySem.Str.ofString "_law_both") (572 : Nat)), (@PySem.Value.str (@PySem.Str.ofString "_law_both") (573 : Nat)), (@PySem.Value.str (@PySem.Str.ofString "/claim/cut.py") (574 : Nat)), (@PySem.Value.int (186 : Int) (0 : Nat)), (@PySem.Value.int (4 : Int) (0 : Nat)), (@PySem.Value.int (0 : Int) (0 : Nat)), (@PySem.Value.int (0 : Int) (0 : Nat)), (@PySem.Value.int (3 : Int) (0 : Nat)), (@PySem.Value.ref (307 : Nat)), (@PySem.Value.bool Bool.true), (@PySem.Value.int (181 : Int) (0 : Nat)), (@PySem.Value.ref (308 : Nat)), PySem.Value.none, (@PySem.Value.ref (309 : Nat)), (@PySem.Value.ref (310 : Nat)), (@PySem.Value.ref (311 : Nat)), (@PySem.Value.int (582 : Int) (0 : Nat)), (@PySem.Value.int (186 : Int) (0 : Nat)), (@PySem.Value.str (@PySem.Str.ofString "/claim/cut.py") (583 : Nat))])) (List.toArray []))) ::
(nat_lit 313, (@PySem.Obj.mk (@PySem.Value.type "function") Option.none (@PySem.Data.func (PySem.FuncData.mk (@PySem.Str.ofString "_law_both") (@PySem.Str.ofString "_law_both") (defArgs s__law_both) (PySem.FuncBody.stmts (defBody s__law_both)) (defScope s__law_both) (3 : Nat) [] PySem.Value.none PySem.Value.none PySem.Value.none (@PySem.Value.str (@PySem.Str.ofString "law_quietprobes_k33_settings_combined") (506 : Nat)) Option.none (@PySem.Value.ref (312 : Nat)) PySem.Value.none (0 : Nat))) (List.toArray []))) ::
(nat_lit 314, (@PySem.Obj.mk (@PySem.Value.type "tuple") Option.none (@PySem.Data.seq (List.toArray []) (0 : Nat)) (List.toArray []))) ::
(nat_lit 316, (@PySem.Obj.mk (@PySem.Value.type "tuple") Option.none (@PySem.Data.seq (List.toArray [(@PySem.Value.str (@PySem.Str.ofString "_law_one") (588 : Nat)), (@PySem.Value.str (@PySem.Str.ofString "_law_other") (589 : Nat)), (@PySem.Value.str (@PySem.Str.ofString "_law_first") (590 : Nat)), (@PySem.Value.str (@PySem.Str.ofString "_law_second") (591 : Nat)), (@PySem.Value.str (@PySem.Str.ofString "_law_names_here") (592 : Nat)), (@PySem.Value.str (@PySem.Str.ofString "_law_less") (593 : Nat)), (@PySem.Value.str (@PySem.Str.ofString "_law_name") (594 : Nat)), (@PySem.Value.str (@PySem.Str.ofString "_law_found") (595 : Nat))]) (0 : Nat)) (List.toArray []))) ::
(nat_lit 317, (@PySem.Obj.mk (@PySem.Value.type "tuple") Option.none (@PySem.Data.seq (List.toArray []) (0 : Nat)) (List.toArray []))) ::
(nat_lit 319, (@PySem.Obj.mk (@PySem.Value.type "code") Option.none (@PySem.Data.fields (List.toArray [(@PySem.Value.str (@PySem.Str.ofString "_law_results") (585 : Nat)), (@PySem.Value.str (@PySem.Str.ofString "_law_results") (586 : Nat)), (@PySem.Value.str (@PySem.Str.ofString "/claim/cut.py") (587 : Nat)), (@PySem.Value.int (192 : Int) (0 : Nat)), (@PySem.Value.int (5 : Int) (0 : Nat)), (@PySem.Value.int (0 : Int) (0 : Nat)), (@PySem.Value.int (0 : Int) (0 : Nat)), (@PySem.Value.int (3 : Int) (0 : Nat)), (@PySem.Value.ref (314 : Nat)), (@PySem.Value.bool Bool.true), (@PySem.Value.int (181 : Int) (0 : Nat)), (@PySem.Value.ref (315 : Nat)), PySem.Value.none, (@PySem.Value.ref (316 : Nat)), (@PySem.Value.ref (317 : Nat)), (@PySem.Value.ref (318 : Nat)), (@PySem.Value.int (596 : Int) (0 : Nat)), (@PySem.Value.int (192 : Int) (0 : Nat)), (@PySem.Value.str (@PySem.Str.ofString "/claim/cut.py") (597 : Nat))])) (List.toArray []))) ::
(nat_lit 320, (@PySem.Obj.mk (@PySem.Value.type "function") Option.none (@PySem.Data.func (PySem.FuncData.mk (@PySem.Str.ofString "_law_results") (@PySem.Str.ofString "_law_results") (defArgs s__law_results) (PySem.FuncBody.stmts (defBody s__law_results)) (defScope s__law_results) (3 : Nat) [] PySem.Value.none PySem.Value.none PySem.Value.none (@PySem.Value.str (@PySem.Str.ofString "law_quietprobes_k33_settings_combined") (506 : Nat)) Option.none (@PySem.Value.ref (319 : Nat)) PySem.Value.none (0 : Nat))) (List.toArray []))) ::
(nat_lit 321, (@PySem.Obj.mk (@PySem.Value.type "tuple") Option.none (@PySem.Data.seq (List.toArray []) (0 : Nat)) (List.toArray []))) ::
(nat_lit 324, (@PySem.Obj.mk (@PySem.Value.type "code") Option.none (@PySem.Data.fields (List.toArray [(@PySem.Value.str (@PySem.Str.ofString "_law_cut") (599 : Nat)), (@PySem.Value.str (@PySem.Str.ofString "_law_cut") (600 : Nat)), (@PySem.Value.str (@PySem.Str.ofString "/claim/cut.py") (601 : Nat)), (@PySem.Value.int (199 : Int) (0 : Nat)), (@PySem.Value.int (2 : Int) (0 : Nat)), (@PySem.Value.int (0 : Int) (0 : Nat)), (@PySem.Value.int (0 : Int) (0 : Nat)), (@PySem.Value.int (3 : Int) (0 : Nat)), (@PySem.Value.ref (321 : Nat)), (@PySem.Value.bool Bool.true), (@PySem.Value.int (181 : Int) (0 : Nat)), (@PySem.Value.ref (322 : Nat)), PySem.Value.none, PySem.Value.none, PySem.Value.none, (@PySem.Value.ref (323 : Nat)), (@PySem.Value.int (602 : Int) (0 : Nat)), (@PySem.Value.int (199 : Int) (0 : Nat)), (@PySem.Value.str (@PySem.Str.ofString "/claim/cut.py") (603 : Nat))])) (List.toArray []))) ::
(nat_lit 325, (@PySem.Obj.mk (@PySem.Value.type "function") Option.none (@PySem.Data.func (PySem.FuncData.mk (@PySem.Str.ofString "_law_cut") (@PySem.Str.ofString "_law_cut") (defArgs s__law_cut) (PySem.FuncBody.stmts (defBody s__law_cut)) (defScope s__law_cut) (3 : Nat) [] PySem.Value.none PySem.Value.none PySem.Value.none (@PySem.Value.str (@PySem.Str.ofString "law_quietprobes_k33_settings_combined") (506 : Nat)) Option.none (@PySem.Value.ref (324 : Nat)) PySem.Value.none (0 : Nat))) (List.toArray []))) ::
(nat_lit 326, (@PySem.Obj.mk (@PySem.Value.type "tuple") Option.none (@PySem.Data.seq (List.toArray []) (0 : Nat)) (List.toArray []))) ::
(nat_lit 329, (@PySem.Obj.mk (@PySem.Value.type "code") Option.none (@PySem.Data.fields (List.toArray [(@PySem.Value.str (@PySem.Str.ofString "law") (605 : Nat)), (@PySem.Value.str (@PySem.Str.ofString "law") (606 : Nat)), (@PySem.Value.str (@PySem.Str.ofString "/claim/cut.py") (607 : Nat)), (@PySem.Value.int (202 : Int) (0 : Nat)), (@PySem.Value.int (1 : Int) (0 : Nat)), (@PySem.Value.int (0 : Int) (0 : Nat)), (@PySem.Value.int (0 : Int) (0 : Nat)), (@PySem.Value.int (3 : Int) (0 : Nat)), (@PySem.Value.ref (326 : Nat)), (@PySem.Value.bool Bool.true), (@PySem.Value.int (181 : Int) (0 : Nat)), (@PySem.Value.ref (327 : Nat)), PySem.Value.none, PySem.Value.none, PySem.Value.none, (@PySem.Value.ref (328 : Nat)), (@PySem.Value.int (608 : Int) (0 : Nat)), (@PySem.Value.int (202 : Int) (0 : Nat)), (@PySem.Value.str (@PySem.Str.ofString "/claim/cut.py") (609 : Nat))])) (List.toArray []))) ::
(nat_lit 330, (@PySem.Obj.mk (@PySem.Value.type "function") Option.none (@PySem.Data.func (PySem.FuncData.mk (@PySem.Str.ofString "law") (@PySem.Str.ofString "law") (defArgs s_law) (PySem.FuncBody.stmts (defBody s_law)) (defScope s_law) (3 : Nat) [] PySem.Value.none PySem.Value.none PySem.Value.none (@PySem.Value.str (@PySem.Str.ofString "law_quietprobes_k33_settings_combined") (506 : Nat)) Option.none (@PySem.Value.ref (329 : Nat)) PySem.Value.none (0 : Nat))) (List.toArray []))) :: []
def KA : List Nat := nat_lit 2 :: nat_lit 3 :: nat_lit 15 :: nat_lit 17 :: nat_lit 18 :: nat_lit 20 :: nat_lit 21 :: nat_lit 22 :: nat_lit 29 :: nat_lit 30 :: nat_lit 31 :: nat_lit 32 :: nat_lit 35 :: nat_lit 38 :: nat_lit 43 :: nat_lit 44 :: nat_lit 46 :: nat_lit 47 :: nat_lit 49 :: nat_lit 50 :: nat_lit 51 :: nat_lit 52 :: nat_lit 53 :: nat_lit 56 :: nat_lit 59 :: nat_lit 64 :: nat_lit 65 :: nat_lit 67 :: nat_lit 68 :: nat_lit 70 :: nat_lit 71 :: nat_lit 72 :: nat_lit 73 :: nat_lit 74 :: nat_lit 77 :: nat_lit 80 :: nat_lit 85 :: nat_lit 86 :: nat_lit 88 :: nat_lit 89 :: nat_lit 91 :: nat_lit 92 :: nat_lit 93 :: nat_lit 94 :: nat_lit 95 :: nat_lit 98 :: nat_lit 101 :: nat_lit 102 :: nat_lit 103 :: nat_lit 104 :: nat_lit 106 :: nat_lit 107 :: nat_lit 109 :: nat_lit 110 :: nat_lit 111 :: nat_lit 113 :: nat_lit 114 :: nat_lit 116 :: nat_lit 117 :: nat_lit 118 :: nat_lit 120 :: nat_lit 121 :: nat_lit 123 :: nat_lit 124 :: nat_lit 125 :: nat_lit 127 :: nat_lit 128 :: nat_lit 130 :: nat_lit 131 :: nat_lit 132 :: nat_lit 135 :: nat_lit 136 :: nat_lit 144 :: nat_lit 145 :: nat_lit 146 :: nat_lit 149 :: nat_lit 150 :: nat_lit 151 :: nat_lit 153 :: nat_lit 154 :: nat_lit 156 :: nat_lit 157 :: nat_lit 158 :: nat_lit 160 :: nat_lit 161 :: nat_lit 163 :: nat_lit 164 :: nat_lit 165 :: nat_lit 167 :: nat_lit 168 :: nat_lit 170 :: nat_lit 171 :: nat_lit 172 :: nat_lit 174 :: nat_lit 175 :: nat_lit 177 :: nat_lit 178 :: nat_lit 179 :: nat_lit 181 :: nat_lit 182 :: nat_lit 184 :: nat_lit 185 :: nat_lit 186 :: nat_lit 188 :: nat_lit 189 :: nat_lit 191 :: nat_lit 192 :: nat_lit 193 :: nat_lit 196 :: nat_lit 197 :: nat_lit 198 :: nat_lit 200 :: nat_lit 201 :: nat_lit 203 :: nat_lit 204 :: nat_lit 205 :: nat_lit 208 :: nat_lit 209 :: nat_lit 210 :: nat_lit 213 :: nat_lit 214 :: nat_lit 215 :: nat_lit 218 :: nat_lit 219 :: nat_lit 220 :: nat_lit 222 :: nat_lit 223 :: nat_lit 225 :: nat_lit 226 :: nat_lit 227 :: nat_lit 230 :: nat_lit 231 :: nat_lit 232 :: nat_lit 234 :: nat_lit 235 :: nat_lit 237 :: nat_lit 238 :: nat_lit 239 :: nat_lit 240 :: nat_lit 242 :: nat_lit 243 :: nat_lit 245 :: nat_lit 246 :: nat_lit 247 :: nat_lit 248 :: nat_lit 249 :: nat_lit 250 :: nat_lit 251 :: nat_lit 252 :: nat_lit 253 :: nat_lit 254 :: nat_lit 257 :: nat_lit 259 :: nat_lit 260 :: nat_lit 262 :: nat_lit 263 :: nat_lit 264 :: nat_lit 266 :: nat_lit 267 :: nat_lit 269 :: nat_lit 270 :: nat_lit 271 :: nat_lit 274 :: nat_lit 275 :: nat_lit 276 :: nat_lit 278 :: nat_lit 279 :: nat_lit 281 :: nat_lit 282 :: nat_lit 283 :: nat_lit 285 :: nat_lit 286 :: nat_lit 288 :: nat_lit 289 :: nat_lit 290 :: nat_lit 293 :: nat_lit 294 :: nat_lit 295 :: nat_lit 298 :: nat_lit 299 :: nat_lit 300 :: nat_lit 302 :: nat_lit 303 :: nat_lit 305 :: nat_lit 306 :: nat_lit 307 :: nat_lit 309 :: nat_lit 310 :: nat_lit 312 :: nat_lit 313 :: nat_lit 314 :: nat_lit 316 :: nat_lit 317 :: nat_lit 319 :: nat_lit 320 :: nat_lit 321 :: nat_lit 324 :: nat_lit 325 :: nat_lit 326 :: nat_lit 329 :: nat_lit 330 :: []
abbrev RR : PySem.W.OpenRow := PySem.W.OpenLaw.row PySem.Challenge.rw_quietprobes_k33_settings_combined
abbrev qv : Program := PySem.W.view RR.prog [30]
abbrev loo : List PySem.Str := "_wall" :: "QuietError" :: "BadName" :: "BadMode" :: "Twice" :: "LETTERS" :: "MOST_LETTERS" :: "is_name" :: "MODES" :: "rank" :: "greater_mode" :: "lesser_mode" :: "is_mode" :: "setting_with" :: "Setting" :: "_law_pool" :: "_law_draw" :: "_law_names" :: "_law_random_modes" :: "_law_setting" :: "_law_same" :: "_law_holds" :: "_law_rank" :: "_law_both" :: "_law_results" :: "_law_cut" :: []
theorem KA_eq (P : PySem.Params) : KA = (KF P).map (·.1) := by kernel_rfl
abbrev hk : PySem.W.Hook := PySem.W.kHook KF KA KA_eq
def obK (s : PySem.W.SharedT) : hk.α := KA.map (HandSHeadRun.getT s)
theorem obK_eq (s : PySem.W.SharedT) : obK s = hk.obs s.abs := by
  show KA.map (HandSHeadRun.getT s) = KA.map s.abs.heap.get?
  exact congrArg KA.map (funext fun a => HandSHeadRun.getT_eq s a)
set_option maxHeartbeats 0 in
theorem run (w : World) : HandSHeadRun.RunEq RR qv hk obK 5024 loo w := by
  intro os
  kernel_rfl
theorem run_all (w : World) : HandSHeadRun.RunEq RR qv hk obK 5024 loo w := run w
set_option maxHeartbeats 0 in
theorem all_mk {l : PySem.W.OpenLaw} {w : World} {K : PySem.W.Frag} {h : Heap} {mg : Str → Option Value} {fa : Addr} (X : K.In h) (G : h.Ns mainGlobals mg) (hfa : mg "law" = some (.ref fa))
    {f0 : Addr} {oc0 kV0 dc0 pm0 cd0 ct0 : Value} {od0 an0 : Option Addr} {sl0 : Array (Option Value)}
    {f1 : Addr} {oc1 kV1 dc1 pm1 cd1 ct1 : Value} {od1 an1 : Option Addr} {sl1 : Array (Option Value)}
    {f2 : Addr} {oc2 kV2 dc2 pm2 cd2 ct2 : Value} {od2 an2 : Option Addr} {sl2 : Array (Option Value)}
    {f3 : Addr} {oc3 kV3 dc3 pm3 cd3 ct3 : Value} {od3 an3 : Option Addr} {sl3 : Array (Option Value)}
    {f4 : Addr} {oc4 kV4 dc4 pm4 cd4 ct4 : Value} {od4 an4 : Option Addr} {sl4 : Array (Option Value)}
    {f5 : Addr} {oc5 kV5 dc5 pm5 cd5 ct5 : Value} {od5 an5 : Option Addr} {sl5 : Array (Option Value)}
    {f6 : Addr} {oc6 kV6 dc6 pm6 cd6 ct6 : Value} {od6 an6 : Option Addr} {sl6 : Array (Option Value)}
    {f7 : Addr} {oc7 kV7 dc7 pm7 cd7 ct7 : Value} {od7 an7 : Option Addr} {sl7 : Array (Option Value)}
    {f8 : Addr} {oc8 kV8 dc8 pm8 cd8 ct8 : Value} {od8 an8 : Option Addr} {sl8 : Array (Option Value)}
    {f9 : Addr} {oc9 kV9 dc9 pm9 cd9 ct9 : Value} {od9 an9 : Option Addr} {sl9 : Array (Option Value)}
    {f10 : Addr} {oc10 kV10 dc10 pm10 cd10 ct10 : Value} {od10 an10 : Option Addr} {sl10 : Array (Option Value)}
    {f11 : Addr} {oc11 kV11 dc11 pm11 cd11 ct11 : Value} {od11 an11 : Option Addr} {sl11 : Array (Option Value)}
    {f12 : Addr} {oc12 kV12 dc12 pm12 cd12 ct12 : Value} {od12 an12 : Option Addr} {sl12 : Array (Option Value)}
    {f13 : Addr} {oc13 kV13 dc13 pm13 cd13 ct13 : Value} {od13 an13 : Option Addr} {sl13 : Array (Option Value)}
    {f14 : Addr} {oc14 kV14 dc14 pm14 cd14 ct14 : Value} {od14 an14 : Option Addr} {sl14 : Array (Option Value)}
    {f15 : Addr} {oc15 kV15 dc15 pm15 cd15 ct15 : Value} {od15 an15 : Option Addr} {sl15 : Array (Option Value)}
    {f16 : Addr} {oc16 kV16 dc16 pm16 cd16 ct16 : Value} {od16 an16 : Option Addr} {sl16 : Array (Option Value)}
    {f17 : Addr} {oc17 kV17 dc17 pm17 cd17 ct17 : Value} {od17 an17 : Option Addr} {sl17 : Array (Option Value)}
    {f18 : Addr} {oc18 kV18 dc18 pm18 cd18 ct18 : Value} {od18 an18 : Option Addr} {sl18 : Array (Option Value)}
    {st_LETTERS : Tok}
    {it_MOST_LETTERS : Tok}
    {tp_MODES : Addr} {to_MODES : Option Addr} {ti_MODES : Array Value} {tn_MODES : Nat} {tsl_MODES : Array (Option Value)}
    {C_BadName fI_BadName cc_BadName cda_BadName N_BadName : Addr} {kV_BadName dc_BadName pm_BadName ct_BadName oc_BadName ccl_BadName cl_BadName : Value} {an_BadName od_BadName cdd_BadName cld_BadName : Option Addr} {osl_BadName ccs_BadName csl_BadName : Array (Option Value)} {vs_BadName : Array Value} {file_BadName : Str} {tf_BadName : Tok} {nm_BadName q_BadName : Str} {bs_BadName bm_BadName : List Value} {sn_BadName : List Str} {sub_BadName : List Value} {ab_BadName : Bool} {col_BadName : Option Bool} {dd_BadName : Option Addr} {k0_BadName k1_BadName k2_BadName k3_BadName k5_BadName : Option Value}
    {C_BadMode fI_BadMode cc_BadMode cda_BadMode N_BadMode : Addr} {kV_BadMode dc_BadMode pm_BadMode ct_BadMode oc_BadMode ccl_BadMode cl_BadMode : Value} {an_BadMode od_BadMode cdd_BadMode cld_BadMode : Option Addr} {osl_BadMode ccs_BadMode csl_BadMode : Array (Option Value)} {vs_BadMode : Array Value} {file_BadMode : Str} {tf_BadMode : Tok} {nm_BadMode q_BadMode : Str} {bs_BadMode bm_BadMode : List Value} {sn_BadMode : List Str} {sub_BadMode : List Value} {ab_BadMode : Bool} {col_BadMode : Option Bool} {dd_BadMode : Option Addr} {k0_BadMode k1_BadMode k2_BadMode k3_BadMode k5_BadMode : Option Value}
    {C_Twice fI_Twice cc_Twice cda_Twice N_Twice : Addr} {kV_Twice dc_Twice pm_Twice ct_Twice oc_Twice ccl_Twice cl_Twice : Value} {an_Twice od_Twice cdd_Twice cld_Twice : Option Addr} {osl_Twice ccs_Twice csl_Twice : Array (Option Value)} {vs_Twice : Array Value} {file_Twice : Str} {tf_Twice : Tok} {nm_Twice q_Twice : Str} {bs_Twice bm_Twice : List Value} {sn_Twice : List Str} {sub_Twice : List Value} {ab_Twice : Bool} {col_Twice : Option Bool} {dd_Twice : Option Addr} {k0_Twice k1_Twice k2_Twice k3_Twice k5_Twice : Option Value}
    {C_Setting : Addr}
    {ef_Setting : Addr} {eoc_Setting ekV_Setting edc_Setting epm_Setting ecd_Setting ect_Setting : Value} {eod_Setting ean_Setting : Option Addr} {esl_Setting : Array (Option Value)}
    {gf_Setting : Addr} {goc_Setting gkV_Setting gdc_Setting gpm_Setting gcd_Setting gct_Setting : Value} {god_Setting gan_Setting : Option Addr} {gsl_Setting : Array (Option Value)}
    {nf_Setting : Addr} {noc_Setting nkV_Setting ndc_Setting npm_Setting ncd_Setting nct_Setting : Value} {nod_Setting nan_Setting : Option Addr} {nsl_Setting : Array (Option Value)}
    {xf_Setting : Addr} {xoc_Setting xkV_Setting xdc_Setting xpm_Setting xcd_Setting xct_Setting : Value} {xod_Setting xan_Setting : Option Addr} {xsl_Setting : Array (Option Value)}
    {p0f_Setting : Addr} {p0oc_Setting p0kV_Setting p0dc_Setting p0pm_Setting p0cd_Setting p0ct_Setting : Value} {p0od_Setting p0an_Setting : Option Addr} {p0sl_Setting : Array (Option Value)}
    {p1f_Setting : Addr} {p1oc_Setting p1kV_Setting p1dc_Setting p1pm_Setting p1cd_Setting p1ct_Setting : Value} {p1od_Setting p1an_Setting : Option Addr} {p1sl_Setting : Array (Option Value)}
    {p2f_Setting : Addr} {p2oc_Setting p2kV_Setting p2dc_Setting p2pm_Setting p2cd_Setting p2ct_Setting : Value} {p2od_Setting p2an_Setting : Option Addr} {p2sl_Setting : Array (Option Value)}
    {p3f_Setting : Addr} {p3oc_Setting p3kV_Setting p3dc_Setting p3pm_Setting p3cd_Setting p3ct_Setting : Value} {p3od_Setting p3an_Setting : Option Addr} {p3sl_Setting : Array (Option Value)}
    {if_Setting : Addr} {ioc_Setting ikV_Setting idc_Setting ipm_Setting icd_Setting ict_Setting : Value} {iod_Setting ian_Setting : Option Addr} {isl_Setting : Array (Option Value)}
    {ikd_Setting ikt_Setting : Addr} {ikto_Setting : Option Addr} {ikti_Setting : Array Value} {iktn_Setting : Nat} {iksl_Setting : Array (Option Value)}
    {lf_Setting : Addr} {loc_Setting lkV_Setting ldc_Setting lpm_Setting lcd_Setting lct_Setting : Value} {lod_Setting lan_Setting : Option Addr} {lsl_Setting : Array (Option Value)}
    {m0f_Setting : Addr} {m0oc_Setting m0kV_Setting m0dc_Setting m0pm_Setting m0cd_Setting m0ct_Setting : Value} {m0od_Setting m0an_Setting : Option Addr} {m0sl_Setting : Array (Option Value)}
    {m1f_Setting : Addr} {m1oc_Setting m1kV_Setting m1dc_Setting m1pm_Setting m1cd_Setting m1ct_Setting : Value} {m1od_Setting m1an_Setting : Option Addr} {m1sl_Setting : Array (Option Value)}
    (a0 : PySem.W.nsIn K mainGlobals "_wall" = some (some (.ref f0))) (l0 : K.lookup f0 = some ⟨oc0, od0, .func (PySem.W.fnOf "_wall" "_wall" (defArgs s__wall) (defBody s__wall) (defScope s__wall) .none kV0 dc0 pm0 an0 cd0 ct0), sl0⟩) (c0 : PySem.W.codeIn K cd0 "_wall" = true) (k0 : PySem.W.keepIn K (.ref f0) = true)
    (a1 : PySem.W.nsIn K mainGlobals "is_name" = some (some (.ref f1))) (l1 : K.lookup f1 = some ⟨oc1, od1, .func (PySem.W.fnOf "is_name" "is_name" (defArgs s_is_name) (defBody s_is_name) (defScope s_is_name) .none kV1 dc1 pm1 an1 cd1 ct1), sl1⟩) (c1 : PySem.W.codeIn K cd1 "is_name" = true) (k1 : PySem.W.keepIn K (.ref f1) = true)
    (a2 : PySem.W.nsIn K mainGlobals "rank" = some (some (.ref f2))) (l2 : K.lookup f2 = some ⟨oc2, od2, .func (PySem.W.fnOf "rank" "rank" (defArgs s_rank) (defBody s_rank) (defScope s_rank) .none kV2 dc2 pm2 an2 cd2 ct2), sl2⟩) (c2 : PySem.W.codeIn K cd2 "rank" = true) (k2 : PySem.W.keepIn K (.ref f2) = true)
    (a3 : PySem.W.nsIn K mainGlobals "greater_mode" = some (some (.ref f3))) (l3 : K.lookup f3 = some ⟨oc3, od3, .func (PySem.W.fnOf "greater_mode" "greater_mode" (defArgs s_greater_mode) (defBody s_greater_mode) (defScope s_greater_mode) .none kV3 dc3 pm3 an3 cd3 ct3), sl3⟩) (c3 : PySem.W.codeIn K cd3 "greater_mode" = true) (k3 : PySem.W.keepIn K (.ref f3) = true)
    (a4 : PySem.W.nsIn K mainGlobals "lesser_mode" = some (some (.ref f4))) (l4 : K.lookup f4 = some ⟨oc4, od4, .func (PySem.W.fnOf "lesser_mode" "lesser_mode" (defArgs s_lesser_mode) (defBody s_lesser_mode) (defScope s_lesser_mode) .none kV4 dc4 pm4 an4 cd4 ct4), sl4⟩) (c4 : PySem.W.codeIn K cd4 "lesser_mode" = true) (k4 : PySem.W.keepIn K (.ref f4) = true)
    (a5 : PySem.W.nsIn K mainGlobals "is_mode" = some (some (.ref f5))) (l5 : K.lookup f5 = some ⟨oc5, od5, .func (PySem.W.fnOf "is_mode" "is_mode" (defArgs s_is_mode) (defBody s_is_mode) (defScope s_is_mode) .none kV5 dc5 pm5 an5 cd5 ct5), sl5⟩) (c5 : PySem.W.codeIn K cd5 "is_mode" = true) (k5 : PySem.W.keepIn K (.ref f5) = true)
    (a6 : PySem.W.nsIn K mainGlobals "setting_with" = some (some (.ref f6))) (l6 : K.lookup f6 = some ⟨oc6, od6, .func (PySem.W.fnOf "setting_with" "setting_with" (defArgs s_setting_with) (defBody s_setting_with) (defScope s_setting_with) .none kV6 dc6 pm6 an6 cd6 ct6), sl6⟩) (c6 : PySem.W.codeIn K cd6 "setting_with" = true) (k6 : PySem.W.keepIn K (.ref f6) = true)
    (a7 : PySem.W.nsIn K mainGlobals "_law_pool" = some (some (.ref f7))) (l7 : K.lookup f7 = some ⟨oc7, od7, .func (PySem.W.fnOf "_law_pool" "_law_pool" (defArgs s__law_pool) (defBody s__law_pool) (defScope s__law_pool) .none kV7 dc7 pm7 an7 cd7 ct7), sl7⟩) (c7 : PySem.W.codeIn K cd7 "_law_pool" = true) (k7 : PySem.W.keepIn K (.ref f7) = true)
    (a8 : PySem.W.nsIn K mainGlobals "_law_draw" = some (some (.ref f8))) (l8 : K.lookup f8 = some ⟨oc8, od8, .func (PySem.W.fnOf "_law_draw" "_law_draw" (defArgs s__law_draw) (defBody s__law_draw) (defScope s__law_draw) .none kV8 dc8 pm8 an8 cd8 ct8), sl8⟩) (c8 : PySem.W.codeIn K cd8 "_law_draw" = true) (k8 : PySem.W.keepIn K (.ref f8) = true)
    (a9 : PySem.W.nsIn K mainGlobals "_law_names" = some (some (.ref f9))) (l9 : K.lookup f9 = some ⟨oc9, od9, .func (PySem.W.fnOf "_law_names" "_law_names" (defArgs s__law_names) (defBody s__law_names) (defScope s__law_names) .none kV9 dc9 pm9 an9 cd9 ct9), sl9⟩) (c9 : PySem.W.codeIn K cd9 "_law_names" = true) (k9 : PySem.W.keepIn K (.ref f9) = true)
    (a10 : PySem.W.nsIn K mainGlobals "_law_random_modes" = some (some (.ref f10))) (l10 : K.lookup f10 = some ⟨oc10, od10, .func (PySem.W.fnOf "_law_random_modes" "_law_random_modes" (defArgs s__law_random_modes) (defBody s__law_random_modes) (defScope s__law_random_modes) .none kV10 dc10 pm10 an10 cd10 ct10), sl10⟩) (c10 : PySem.W.codeIn K cd10 "_law_random_modes" = true) (k10 : PySem.W.keepIn K (.ref f10) = true)
    (a11 : PySem.W.nsIn K mainGlobals "_law_setting" = some (some (.ref f11))) (l11 : K.lookup f11 = some ⟨oc11, od11, .func (PySem.W.fnOf "_law_setting" "_law_setting" (defArgs s__law_setting) (defBody s__law_setting) (defScope s__law_setting) .none kV11 dc11 pm11 an11 cd11 ct11), sl11⟩) (c11 : PySem.W.codeIn K cd11 "_law_setting" = true) (k11 : PySem.W.keepIn K (.ref f11) = true)
    (a12 : PySem.W.nsIn K mainGlobals "_law_same" = some (some (.ref f12))) (l12 : K.lookup f12 = some ⟨oc12, od12, .func (PySem.W.fnOf "_law_same" "_law_same" (defArgs s__law_same) (defBody s__law_same) (defScope s__law_same) .none kV12 dc12 pm12 an12 cd12 ct12), sl12⟩) (c12 : PySem.W.codeIn K cd12 "_law_same" = true) (k12 : PySem.W.keepIn K (.ref f12) = true)
    (a13 : PySem.W.nsIn K mainGlobals "_law_holds" = some (some (.ref f13))) (l13 : K.lookup f13 = some ⟨oc13, od13, .func (PySem.W.fnOf "_law_holds" "_law_holds" (defArgs s__law_holds) (defBody s__law_holds) (defScope s__law_holds) .none kV13 dc13 pm13 an13 cd13 ct13), sl13⟩) (c13 : PySem.W.codeIn K cd13 "_law_holds" = true) (k13 : PySem.W.keepIn K (.ref f13) = true)
    (a14 : PySem.W.nsIn K mainGlobals "_law_rank" = some (some (.ref f14))) (l14 : K.lookup f14 = some ⟨oc14, od14, .func (PySem.W.fnOf "_law_rank" "_law_rank" (defArgs s__law_rank) (defBody s__law_rank) (defScope s__law_rank) .none kV14 dc14 pm14 an14 cd14 ct14), sl14⟩) (c14 : PySem.W.codeIn K cd14 "_law_rank" = true) (k14 : PySem.W.keepIn K (.ref f14) = true)
    (a15 : PySem.W.nsIn K mainGlobals "_law_both" = some (some (.ref f15))) (l15 : K.lookup f15 = some ⟨oc15, od15, .func (PySem.W.fnOf "_law_both" "_law_both" (defArgs s__law_both) (defBody s__law_both) (defScope s__law_both) .none kV15 dc15 pm15 an15 cd15 ct15), sl15⟩) (c15 : PySem.W.codeIn K cd15 "_law_both" = true) (k15 : PySem.W.keepIn K (.ref f15) = true)
    (a16 : PySem.W.nsIn K mainGlobals "_law_results" = some (some (.ref f16))) (l16 : K.lookup f16 = some ⟨oc16, od16, .func (PySem.W.fnOf "_law_results" "_law_results" (defArgs s__law_results) (defBody s__law_results) (defScope s__law_results) .none kV16 dc16 pm16 an16 cd16 ct16), sl16⟩) (c16 : PySem.W.codeIn K cd16 "_law_results" = true) (k16 : PySem.W.keepIn K (.ref f16) = true)
    (a17 : PySem.W.nsIn K mainGlobals "_law_cut" = some (some (.ref f17))) (l17 : K.lookup f17 = some ⟨oc17, od17, .func (PySem.W.fnOf "_law_cut" "_law_cut" (defArgs s__law_cut) (defBody s__law_cut) (defScope s__law_cut) .none kV17 dc17 pm17 an17 cd17 ct17), sl17⟩) (c17 : PySem.W.codeIn K cd17 "_law_cut" = true) (k17 : PySem.W.keepIn K (.ref f17) = true)
    (a18 : PySem.W.nsIn K mainGlobals "law" = some (some (.ref f18))) (l18 : K.lookup f18 = some ⟨oc18, od18, .func (PySem.W.fnOf "law" "law" (defArgs s_law) (defBody s_law) (defScope s_law) .none kV18 dc18 pm18 an18 cd18 ct18), sl18⟩) (c18 : PySem.W.codeIn K cd18 "law" = true) (k18 : PySem.W.keepIn K (.ref f18) = true)
    (z_len : PySem.W.nsIn K mainGlobals "len" = some none)
    (z_int : PySem.W.nsIn K mainGlobals "int" = some none)
    (z_list : PySem.W.nsIn K mainGlobals "list" = some none)
    (z_tuple : PySem.W.nsIn K mainGlobals "tuple" = some none)
    (z_isi : PySem.W.nsIn K mainGlobals "isinstance" = some none)
    (z_range : PySem.W.nsIn K mainGlobals "range" = some none)
    (z_all : PySem.W.nsIn K mainGlobals "all" = some none)
    (z_any : PySem.W.nsIn K mainGlobals "any" = some none)
    (z_str : PySem.W.nsIn K mainGlobals "str" = some none)
    (z_bool : PySem.W.nsIn K mainGlobals "bool" = some none)
    (z_enum : PySem.W.nsIn K mainGlobals "enumerate" = some none)
    (z_zip : PySem.W.nsIn K mainGlobals "zip" = some none)
    (z_sum : PySem.W.nsIn K mainGlobals "sum" = some none)
    (z_max : PySem.W.nsIn K mainGlobals "max" = some none)
    (z_min : PySem.W.nsIn K mainGlobals "min" = some none)
    (z_sorted : PySem.W.nsIn K mainGlobals "sorted" = some none)
    (z_set : PySem.W.nsIn K mainGlobals "set" = some none)
    (z_dict : PySem.W.nsIn K mainGlobals "dict" = some none)
    (sa_LETTERS : PySem.W.nsIn K mainGlobals "LETTERS" = some (some (.str abc st_LETTERS)))
    (ia_MOST_LETTERS : PySem.W.nsIn K mainGlobals "MOST_LETTERS" = some (some (.int 8 it_MOST_LETTERS)))
    (pa_MODES : PySem.W.nsIn K mainGlobals "MODES" = some (some (.ref tp_MODES))) (pl_MODES : K.lookup tp_MODES = some ⟨.type "tuple", to_MODES, .seq ti_MODES tn_MODES, tsl_MODES⟩) (pv_MODES : strVs ti_MODES.toList = some modesL)
    (oq : PySem.W.nsIn K cStatics "thirdparty.any" = some none) (z_super : PySem.W.nsIn K mainGlobals "super" = some none) (gtc : PySem.W.specialIn K (.builtin "object.__class__") "__get__" = some (some (.builtin "getset_descriptor.__get__"))) (tkc : PySem.W.takesIn K (.builtin "object.__class__") = some true) (tsup : (l.prog.main.scope.names.lookup ("super" : Str)).isSome = false)
    (ecg_BadName : PySem.W.nsIn K mainGlobals "BadName" = some (some (.ref C_BadName)))
    (exL_BadName : K.lookup C_BadName = some (excClassObj nm_BadName q_BadName C_BadName N_BadName bs_BadName bm_BadName true sn_BadName sub_BadName ab_BadName col_BadName dd_BadName k0_BadName k1_BadName k2_BadName k3_BadName k5_BadName "ValueError.__new__"))
    (esa_BadName : PySem.W.findIn K (.ref C_BadName) "__setattr__" = some (some (.builtin "object.__setattr__")))
    (eex_BadName : PySem.W.subIn K (.ref C_BadName) (.type "BaseException") = some true)
    (ety_BadName : PySem.W.typeIn K (.ref C_BadName) = some (.type "type"))
    (ekC_BadName : PySem.W.keepIn K (.ref C_BadName) = true)
    (ei1_BadName : PySem.W.findIn K (.ref C_BadName) "__init__" = some (some (.ref fI_BadName)))
    (ei2_BadName : PySem.W.typeIn K (.ref fI_BadName) = some (.type "function"))
    (emr_BadName : PySem.W.mroIn K C_BadName (.ref C_BadName) = some true)
    (esv_BadName : PySem.W.subIn K (.ref C_BadName) (.type "ValueError") = some true)
    (esu_BadName : PySem.W.ks_superIn K C_BadName C_BadName "__init__" = some (some (.builtin "ValueError.__init__")))
    (elk_BadName : K.lookup fI_BadName = some ⟨oc_BadName, od_BadName, .func (PySem.W.ksFn "__init__" "BadName.__init__" (defArgs s_BadName___init__) (defBody s_BadName___init__) (defScope s_BadName___init__) .none kV_BadName dc_BadName pm_BadName an_BadName (.ref cda_BadName) ct_BadName cc_BadName), osl_BadName⟩)
    (ehc_BadName : PySem.W.codeIn K (.ref cda_BadName) "BadName.__init__" = true)
    (eno_BadName : PySem.W.findIn K (.ref C_BadName) "name" = some none)
    (eco_BadName : K.lookup cda_BadName = some ⟨ccl_BadName, cdd_BadName, .fields vs_BadName, ccs_BadName⟩)
    (ece_BadName : K.lookup cc_BadName = some ⟨cl_BadName, cld_BadName, .cell (some (.ref C_BadName)), csl_BadName⟩)
    (ega_BadName : PySem.W.findIn K (.ref C_BadName) "__getattribute__" = some (some (.builtin "BaseException.__getattribute__")))
    (egg_BadName : PySem.W.findIn K (.ref C_BadName) "__getattr__" = some none)
    (ehd_BadName : PySem.W.hasDictIn K C_BadName = true)
    (ese_BadName : PySem.W.subIn K (.ref C_BadName) (.ref C_BadName) = some true)
    (ebm_BadName : PySem.HandSPX.refsVE bm_BadName = true)
    (evs_BadName : vs_BadName[2]? = some (.str file_BadName tf_BadName))
    (efl_BadName : ((l.prog.main.file : Str) == file_BadName) = true)
    (ecg_BadMode : PySem.W.nsIn K mainGlobals "BadMode" = some (some (.ref C_BadMode)))
    (exL_BadMode : K.lookup C_BadMode = some (excClassObj nm_BadMode q_BadMode C_BadMode N_BadMode bs_BadMode bm_BadMode true sn_BadMode sub_BadMode ab_BadMode col_BadMode dd_BadMode k0_BadMode k1_BadMode k2_BadMode k3_BadMode k5_BadMode "ValueError.__new__"))
    (esa_BadMode : PySem.W.findIn K (.ref C_BadMode) "__setattr__" = some (some (.builtin "object.__setattr__")))
    (eex_BadMode : PySem.W.subIn K (.ref C_BadMode) (.type "BaseException") = some true)
    (ety_BadMode : PySem.W.typeIn K (.ref C_BadMode) = some (.type "type"))
    (ekC_BadMode : PySem.W.keepIn K (.ref C_BadMode) = true)
    (ei1_BadMode : PySem.W.findIn K (.ref C_BadMode) "__init__" = some (some (.ref fI_BadMode)))
    (ei2_BadMode : PySem.W.typeIn K (.ref fI_BadMode) = some (.type "function"))
    (emr_BadMode : PySem.W.mroIn K C_BadMode (.ref C_BadMode) = some true)
    (esv_BadMode : PySem.W.subIn K (.ref C_BadMode) (.type "ValueError") = some true)
    (esu_BadMode : PySem.W.ks_superIn K C_BadMode C_BadMode "__init__" = some (some (.builtin "ValueError.__init__")))
    (elk_BadMode : K.lookup fI_BadMode = some ⟨oc_BadMode, od_BadMode, .func (PySem.W.ksFn "__init__" "BadMode.__init__" (defArgs s_BadMode___init__) (defBody s_BadMode___init__) (defScope s_BadMode___init__) .none kV_BadMode dc_BadMode pm_BadMode an_BadMode (.ref cda_BadMode) ct_BadMode cc_BadMode), osl_BadMode⟩)
    (ehc_BadMode : PySem.W.codeIn K (.ref cda_BadMode) "BadMode.__init__" = true)
    (eno_BadMode : PySem.W.findIn K (.ref C_BadMode) "mode" = some none)
    (eco_BadMode : K.lookup cda_BadMode = some ⟨ccl_BadMode, cdd_BadMode, .fields vs_BadMode, ccs_BadMode⟩)
    (ece_BadMode : K.lookup cc_BadMode = some ⟨cl_BadMode, cld_BadMode, .cell (some (.ref C_BadMode)), csl_BadMode⟩)
    (ega_BadMode : PySem.W.findIn K (.ref C_BadMode) "__getattribute__" = some (some (.builtin "BaseException.__getattribute__")))
    (egg_BadMode : PySem.W.findIn K (.ref C_BadMode) "__getattr__" = some none)
    (ehd_BadMode : PySem.W.hasDictIn K C_BadMode = true)
    (ese_BadMode : PySem.W.subIn K (.ref C_BadMode) (.ref C_BadMode) = some true)
    (ebm_BadMode : PySem.HandSPX.refsVE bm_BadMode = true)
    (evs_BadMode : vs_BadMode[2]? = some (.str file_BadMode tf_BadMode))
    (efl_BadMode : ((l.prog.main.file : Str) == file_BadMode) = true)
    (ecg_Twice : PySem.W.nsIn K mainGlobals "Twice" = some (some (.ref C_Twice)))
    (exL_Twice : K.lookup C_Twice = some (excClassObj nm_Twice q_Twice C_Twice N_Twice bs_Twice bm_Twice true sn_Twice sub_Twice ab_Twice col_Twice dd_Twice k0_Twice k1_Twice k2_Twice k3_Twice k5_Twice "ValueError.__new__"))
    (esa_Twice : PySem.W.findIn K (.ref C_Twice) "__setattr__" = some (some (.builtin "object.__setattr__")))
    (eex_Twice : PySem.W.subIn K (.ref C_Twice) (.type "BaseException") = some true)
    (ety_Twice : PySem.W.typeIn K (.ref C_Twice) = some (.type "type"))
    (ekC_Twice : PySem.W.keepIn K (.ref C_Twice) = true)
    (ei1_Twice : PySem.W.findIn K (.ref C_Twice) "__init__" = some (some (.ref fI_Twice)))
    (ei2_Twice : PySem.W.typeIn K (.ref fI_Twice) = some (.type "function"))
    (emr_Twice : PySem.W.mroIn K C_Twice (.ref C_Twice) = some true)
    (esv_Twice : PySem.W.subIn K (.ref C_Twice) (.type "ValueError") = some true)
    (esu_Twice : PySem.W.ks_superIn K C_Twice C_Twice "__init__" = some (some (.builtin "ValueError.__init__")))
    (elk_Twice : K.lookup fI_Twice = some ⟨oc_Twice, od_Twice, .func (PySem.W.ksFn "__init__" "Twice.__init__" (defArgs s_Twice___init__) (defBody s_Twice___init__) (defScope s_Twice___init__) .none kV_Twice dc_Twice pm_Twice an_Twice (.ref cda_Twice) ct_Twice cc_Twice), osl_Twice⟩)
    (ehc_Twice : PySem.W.codeIn K (.ref cda_Twice) "Twice.__init__" = true)
    (eno_Twice : PySem.W.findIn K (.ref C_Twice) "name" = some none)
    (eco_Twice : K.lookup cda_Twice = some ⟨ccl_Twice, cdd_Twice, .fields vs_Twice, ccs_Twice⟩)
    (ece_Twice : K.lookup cc_Twice = some ⟨cl_Twice, cld_Twice, .cell (some (.ref C_Twice)), csl_Twice⟩)
    (ega_Twice : PySem.W.findIn K (.ref C_Twice) "__getattribute__" = some (some (.builtin "BaseException.__getattribute__")))
    (egg_Twice : PySem.W.findIn K (.ref C_Twice) "__getattr__" = some none)
    (ehd_Twice : PySem.W.hasDictIn K C_Twice = true)
    (ese_Twice : PySem.W.subIn K (.ref C_Twice) (.ref C_Twice) = some true)
    (ebm_Twice : PySem.HandSPX.refsVE bm_Twice = true)
    (evs_Twice : vs_Twice[2]? = some (.str file_Twice tf_Twice))
    (efl_Twice : ((l.prog.main.file : Str) == file_Twice) = true)
    (ccg_Setting : PySem.W.nsIn K mainGlobals "Setting" = some (some (.ref C_Setting)))
    (cpg_Setting : PySem.W.plainGet K C_Setting Str.empty = true)
    (chd_Setting : PySem.W.hasDictIn K C_Setting = true)
    (cpo_Setting : PySem.W.plainOver K C_Setting = true)
    (csa_Setting : PySem.W.findIn K (.ref C_Setting) "__setattr__" = some (some (.builtin "object.__setattr__")))
    (ckl_Setting : PySem.W.findIn K (.ref C_Setting) "__class__" = some (some (.builtin "object.__class__")))
    (cmr_Setting : PySem.W.mroIn K C_Setting (.type "object") = some true)
    (cic_Setting : PySem.W.isClsIn K C_Setting = true)
    (cty_Setting : PySem.W.typeIn K (.ref C_Setting) = some (.type "type"))
    (csstr_Setting : PySem.W.subIn K (.ref C_Setting) (.type "str") = some false)
    (csint_Setting : PySem.W.subIn K (.ref C_Setting) (.type "int") = some false)
    (csbool_Setting : PySem.W.subIn K (.ref C_Setting) (.type "bool") = some false)
    (cslist_Setting : PySem.W.subIn K (.ref C_Setting) (.type "list") = some false)
    (cstuple_Setting : PySem.W.subIn K (.ref C_Setting) (.type "tuple") = some false)
    (ctNoneType_Setting : PySem.W.subIn K (.type "NoneType") (.ref C_Setting) = some false)
    (ctbool_Setting : PySem.W.subIn K (.type "bool") (.ref C_Setting) = some false)
    (ctint_Setting : PySem.W.subIn K (.type "int") (.ref C_Setting) = some false)
    (ctstr_Setting : PySem.W.subIn K (.type "str") (.ref C_Setting) = some false)
    (ctlist_Setting : PySem.W.subIn K (.type "list") (.ref C_Setting) = some false)
    (cttuple_Setting : PySem.W.subIn K (.type "tuple") (.ref C_Setting) = some false)
    (ctdict_Setting : PySem.W.subIn K (.type "dict") (.ref C_Setting) = some false)
    (cn0_Setting : PySem.W.findIn K (.ref C_Setting) "chosen" = some none)
    (cea_Setting : PySem.W.findIn K (.ref C_Setting) "__eq__" = some (some (.ref ef_Setting)))
    (cefn_Setting : PySem.W.isFn K (.ref ef_Setting) = true)
    (cene_Setting : PySem.W.findIn K (.ref C_Setting) "__ne__" = some (some (.builtin "object.__ne__")))
    (celk_Setting : K.lookup ef_Setting = some ⟨eoc_Setting, eod_Setting, .func (PySem.W.fnOf "__eq__" "Setting.__eq__" (defArgs s_Setting___eq__) (defBody s_Setting___eq__) (defScope s_Setting___eq__) .none ekV_Setting edc_Setting epm_Setting ean_Setting ecd_Setting ect_Setting), esl_Setting⟩)
    (ceci_Setting : PySem.W.codeIn K ecd_Setting "Setting.__eq__" = true)
    (cekp_Setting : PySem.W.keepIn K (.ref ef_Setting) = true)
    (cga__Setting : PySem.W.findIn K (.ref C_Setting) "__getitem__" = some (some (.ref gf_Setting)))
    (cgfn_Setting : PySem.W.isFn K (.ref gf_Setting) = true)
    (cgfi_Setting : PySem.W.fnIn K gf_Setting = true)
    (cglk_Setting : K.lookup gf_Setting = some ⟨goc_Setting, god_Setting, .func (PySem.W.fnOf "__getitem__" "Setting.__getitem__" (defArgs s_Setting___getitem__) (defBody s_Setting___getitem__) (defScope s_Setting___getitem__) .none gkV_Setting gdc_Setting gpm_Setting gan_Setting gcd_Setting gct_Setting), gsl_Setting⟩)
    (cgci_Setting : PySem.W.codeIn K gcd_Setting "Setting.__getitem__" = true)
    (cgkp_Setting : PySem.W.keepIn K (.ref gf_Setting) = true)
    (cna__Setting : PySem.W.findIn K (.ref C_Setting) "__contains__" = some (some (.ref nf_Setting)))
    (cnfn_Setting : PySem.W.isFn K (.ref nf_Setting) = true)
    (cnlk_Setting : K.lookup nf_Setting = some ⟨noc_Setting, nod_Setting, .func (PySem.W.fnOf "__contains__" "Setting.__contains__" (defArgs s_Setting___contains__) (defBody s_Setting___contains__) (defScope s_Setting___contains__) .none nkV_Setting ndc_Setting npm_Setting nan_Setting ncd_Setting nct_Setting), nsl_Setting⟩)
    (cnci_Setting : PySem.W.codeIn K ncd_Setting "Setting.__contains__" = true)
    (cnkp_Setting : PySem.W.keepIn K (.ref nf_Setting) = true)
    (cxa__Setting : PySem.W.findIn K (.ref C_Setting) "__setitem__" = some (some (.ref xf_Setting)))
    (cxfn_Setting : PySem.W.isFn K (.ref xf_Setting) = true)
    (cxnq_Setting : PySem.W.noSeq K C_Setting = true)
    (cxlk_Setting : K.lookup xf_Setting = some ⟨xoc_Setting, xod_Setting, .func (PySem.W.fnOf "__setitem__" "Setting.__setitem__" (defArgs s_Setting___setitem__) (defBody s_Setting___setitem__) (defScope s_Setting___setitem__) .none xkV_Setting xdc_Setting xpm_Setting xan_Setting xcd_Setting xct_Setting), xsl_Setting⟩)
    (cxci_Setting : PySem.W.codeIn K xcd_Setting "Setting.__setitem__" = true)
    (cxkp_Setting : PySem.W.keepIn K (.ref xf_Setting) = true)
    (cosf_Setting : PySem.W.selfFirst K C_Setting = true)
    (cp0a_Setting : PySem.W.findIn K (.ref C_Setting) "__or__" = some (some (.ref p0f_Setting)))
    (cp0fn_Setting : PySem.W.isFn K (.ref p0f_Setting) = true)
    (cp0lk_Setting : K.lookup p0f_Setting = some ⟨p0oc_Setting, p0od_Setting, .func (PySem.W.fnOf "__or__" "Setting.__or__" (defArgs s_Setting___or__) (defBody s_Setting___or__) (defScope s_Setting___or__) .none p0kV_Setting p0dc_Setting p0pm_Setting p0an_Setting p0cd_Setting p0ct_Setting), p0sl_Setting⟩)
    (cp0ci_Setting : PySem.W.codeIn K p0cd_Setting "Setting.__or__" = true)
    (cp0kp_Setting : PySem.W.keepIn K (.ref p0f_Setting) = true)
    (cp1a_Setting : PySem.W.findIn K (.ref C_Setting) "__and__" = some (some (.ref p1f_Setting)))
    (cp1fn_Setting : PySem.W.isFn K (.ref p1f_Setting) = true)
    (cp1lk_Setting : K.lookup p1f_Setting = some ⟨p1oc_Setting, p1od_Setting, .func (PySem.W.fnOf "__and__" "Setting.__and__" (defArgs s_Setting___and__) (defBody s_Setting___and__) (defScope s_Setting___and__) .none p1kV_Setting p1dc_Setting p1pm_Setting p1an_Setting p1cd_Setting p1ct_Setting), p1sl_Setting⟩)
    (cp1ci_Setting : PySem.W.codeIn K p1cd_Setting "Setting.__and__" = true)
    (cp1kp_Setting : PySem.W.keepIn K (.ref p1f_Setting) = true)
    (cp2a_Setting : PySem.W.findIn K (.ref C_Setting) "__sub__" = some (some (.ref p2f_Setting)))
    (cp2fn_Setting : PySem.W.isFn K (.ref p2f_Setting) = true)
    (cp2lk_Setting : K.lookup p2f_Setting = some ⟨p2oc_Setting, p2od_Setting, .func (PySem.W.fnOf "__sub__" "Setting.__sub__" (defArgs s_Setting___sub__) (defBody s_Setting___sub__) (defScope s_Setting___sub__) .none p2kV_Setting p2dc_Setting p2pm_Setting p2an_Setting p2cd_Setting p2ct_Setting), p2sl_Setting⟩)
    (cp2ci_Setting : PySem.W.codeIn K p2cd_Setting "Setting.__sub__" = true)
    (cp2kp_Setting : PySem.W.keepIn K (.ref p2f_Setting) = true)
    (cp3a_Setting : PySem.W.findIn K (.ref C_Setting) "__xor__" = some (some (.ref p3f_Setting)))
    (cp3fn_Setting : PySem.W.isFn K (.ref p3f_Setting) = true)
    (cp3lk_Setting : K.lookup p3f_Setting = some ⟨p3oc_Setting, p3od_Setting, .func (PySem.W.fnOf "__xor__" "Setting.__xor__" (defArgs s_Setting___xor__) (defBody s_Setting___xor__) (defScope s_Setting___xor__) .none p3kV_Setting p3dc_Setting p3pm_Setting p3an_Setting p3cd_Setting p3ct_Setting), p3sl_Setting⟩)
    (cp3ci_Setting : PySem.W.codeIn K p3cd_Setting "Setting.__xor__" = true)
    (cp3kp_Setting : PySem.W.keepIn K (.ref p3f_Setting) = true)
    (cnob_Setting : PySem.W.findIn K (.ref C_Setting) "__bool__" = some none)
    (cmk_Setting : PySem.W.makesIn K C_Setting = true)
    (cii_Setting : PySem.W.findIn K (.ref C_Setting) "__init__" = some (some (.ref if_Setting)))
    (cifn_Setting : PySem.W.isFn K (.ref if_Setting) = true)
    (cikc_Setting : PySem.W.keepIn K (.ref C_Setting) = true)
    (cilk_Setting : K.lookup if_Setting = some ⟨ioc_Setting, iod_Setting, .func (PySem.W.fnOf "__init__" "Setting.__init__" (defArgs s_Setting___init__) (defBody s_Setting___init__) (defScope s_Setting___init__) .none ikV_Setting idc_Setting ipm_Setting ian_Setting icd_Setting ict_Setting), isl_Setting⟩)
    (cici_Setting : PySem.W.codeIn K icd_Setting "Setting.__init__" = true)
    (cikp_Setting : PySem.W.keepIn K (.ref if_Setting) = true)
    (cikv_Setting : ikV_Setting = .ref ikd_Setting)
    (cikn_Setting : PySem.W.nsIn K ikd_Setting "deaf" = some (some (.ref ikt_Setting)))
    (cikl_Setting : K.lookup ikt_Setting = some ⟨.type "tuple", ikto_Setting, .seq ikti_Setting iktn_Setting, iksl_Setting⟩)
    (cikz_Setting : strVs ikti_Setting.toList = some [])
    (cla__Setting : PySem.W.findIn K (.ref C_Setting) "__len__" = some (some (.ref lf_Setting)))
    (clfn_Setting : PySem.W.isFn K (.ref lf_Setting) = true)
    (clfi_Setting : PySem.W.fnIn K lf_Setting = true)
    (cllk_Setting : K.lookup lf_Setting = some ⟨loc_Setting, lod_Setting, .func (PySem.W.fnOf "__len__" "Setting.__len__" (defArgs s_Setting___len__) (defBody s_Setting___len__) (defScope s_Setting___len__) .none lkV_Setting ldc_Setting lpm_Setting lan_Setting lcd_Setting lct_Setting), lsl_Setting⟩)
    (clci_Setting : PySem.W.codeIn K lcd_Setting "Setting.__len__" = true)
    (clkp_Setting : PySem.W.keepIn K (.ref lf_Setting) = true)
    (cm0a_Setting : PySem.W.findIn K (.ref C_Setting) "names" = some (some (.ref m0f_Setting)))
    (cm0fn_Setting : PySem.W.isFn K (.ref m0f_Setting) = true)
    (cm0lk_Setting : K.lookup m0f_Setting = some ⟨m0oc_Setting, m0od_Setting, .func (PySem.W.fnOf "names" "Setting.names" (defArgs s_Setting_names) (defBody s_Setting_names) (defScope s_Setting_names) .none m0kV_Setting m0dc_Setting m0pm_Setting m0an_Setting m0cd_Setting m0ct_Setting), m0sl_Setting⟩)
    (cm0ci_Setting : PySem.W.codeIn K m0cd_Setting "Setting.names" = true)
    (cm0kp_Setting : PySem.W.keepIn K (.ref m0f_Setting) = true)
    (cm1a_Setting : PySem.W.findIn K (.ref C_Setting) "is_within" = some (some (.ref m1f_Setting)))
    (cm1fn_Setting : PySem.W.isFn K (.ref m1f_Setting) = true)
    (cm1lk_Setting : K.lookup m1f_Setting = some ⟨m1oc_Setting, m1od_Setting, .func (PySem.W.fnOf "is_within" "Setting.is_within" (defArgs s_Setting_is_within) (defBody s_Setting_is_within) (defScope s_Setting_is_within) .none m1kV_Setting m1dc_Setting m1pm_Setting m1an_Setting m1cd_Setting m1ct_Setting), m1sl_Setting⟩)
    (cm1ci_Setting : PySem.W.codeIn K m1cd_Setting "Setting.is_within" = true)
    (cm1kp_Setting : PySem.W.keepIn K (.ref m1f_Setting) = true) :
    ∃ fd : FuncData, (∀ (s : Shared) (v : Value), BindsTo s fd ⟨[v], []⟩ [("_law_script", v)]) ∧ ∀ base : Heap, K.In base → base.Ns mainGlobals mg → FnOk l.prog w K mg base CX0 8 fa fd ["_law_script"] (spLaw K) := by
  have D__wall : Dfn K mg "_wall" s__wall ["k"] := dfn_mk X G a0 l0 c0 k0 fun _ _ _ _ _ _ us hl => match us, hl with | [_], _ => rfl
  have D_is_name : Dfn K mg "is_name" s_is_name ["value"] := dfn_mk X G a1 l1 c1 k1 fun _ _ _ _ _ _ us hl => match us, hl with | [_], _ => rfl
  have D_rank : Dfn K mg "rank" s_rank ["mode"] := dfn_mk X G a2 l2 c2 k2 fun _ _ _ _ _ _ us hl => match us, hl with | [_], _ => rfl
  have D_greater_mode : Dfn K mg "greater_mode" s_greater_mode ["one", "other"] := dfn_mk X G a3 l3 c3 k3 fun _ _ _ _ _ _ us hl => match us, hl with | [_, _], _ => rfl
  have D_lesser_mode : Dfn K mg "lesser_mode" s_lesser_mode ["one", "other"] := dfn_mk X G a4 l4 c4 k4 fun _ _ _ _ _ _ us hl => match us, hl with | [_, _], _ => rfl
  have D_is_mode : Dfn K mg "is_mode" s_is_mode ["mode"] := dfn_mk X G a5 l5 c5 k5 fun _ _ _ _ _ _ us hl => match us, hl with | [_], _ => rfl
  have D_setting_with : Dfn K mg "setting_with" s_setting_with ["modes"] := dfn_mk X G a6 l6 c6 k6 fun _ _ _ _ _ _ us hl => match us, hl with | [_], _ => rfl
  have D__law_pool : Dfn K mg "_law_pool" s__law_pool ["_law_script"] := dfn_mk X G a7 l7 c7 k7 fun _ _ _ _ _ _ us hl => match us, hl with | [_], _ => rfl
  have D__law_draw : Dfn K mg "_law_draw" s__law_draw ["_law_pool_here", "_law_many"] := dfn_mk X G a8 l8 c8 k8 fun _ _ _ _ _ _ us hl => match us, hl with | [_, _], _ => rfl
  have D__law_names : Dfn K mg "_law_names" s__law_names ["_law_pool_here", "_law_many"] := dfn_mk X G a9 l9 c9 k9 fun _ _ _ _ _ _ us hl => match us, hl with | [_, _], _ => rfl
  have D__law_random_modes : Dfn K mg "_law_random_modes" s__law_random_modes ["_law_pool_here", "_law_names_here"] := dfn_mk X G a10 l10 c10 k10 fun _ _ _ _ _ _ us hl => match us, hl with | [_, _], _ => rfl
  have D__law_setting : Dfn K mg "_law_setting" s__law_setting ["_law_modes"] := dfn_mk X G a11 l11 c11 k11 fun _ _ _ _ _ _ us hl => match us, hl with | [_], _ => rfl
  have D__law_same : Dfn K mg "_law_same" s__law_same ["_law_actual", "_law_due"] := dfn_mk X G a12 l12 c12 k12 fun _ _ _ _ _ _ us hl => match us, hl with | [_, _], _ => rfl
  have D__law_holds : Dfn K mg "_law_holds" s__law_holds ["_law_setting_here", "_law_modes", "_law_names_here"] := dfn_mk X G a13 l13 c13 k13 fun _ _ _ _ _ _ us hl => match us, hl with | [_, _, _], _ => rfl
  have D__law_rank : Dfn K mg "_law_rank" s__law_rank ["_law_mode"] := dfn_mk X G a14 l14 c14 k14 fun _ _ _ _ _ _ us hl => match us, hl with | [_], _ => rfl
  have D__law_both : Dfn K mg "_law_both" s__law_both ["_law_one", "_law_other", "_law_names_here", "_law_greater"] := dfn_mk X G a15 l15 c15 k15 fun _ _ _ _ _ _ us hl => match us, hl with | [_, _, _, _], _ => rfl
  have D__law_results : Dfn K mg "_law_results" s__law_results ["_law_one", "_law_other", "_law_first", "_law_second", "_law_names_here"] := dfn_mk X G a16 l16 c16 k16 fun _ _ _ _ _ _ us hl => match us, hl with | [_, _, _, _, _], _ => rfl
  have D__law_cut : Dfn K mg "_law_cut" s__law_cut ["_law_pool_here", "_law_names_here"] := dfn_mk X G a17 l17 c17 k17 fun _ _ _ _ _ _ us hl => match us, hl with | [_, _], _ => rfl
  have B : Bl mg := ⟨PySem.W.mg_none_of X G z_len, PySem.W.mg_none_of X G z_int, PySem.W.mg_none_of X G z_list, PySem.W.mg_none_of X G z_tuple, PySem.W.mg_none_of X G z_isi, PySem.W.mg_none_of X G z_range, PySem.W.mg_none_of X G z_all, PySem.W.mg_none_of X G z_any, PySem.W.mg_none_of X G z_str, PySem.W.mg_none_of X G z_bool, PySem.W.mg_none_of X G z_enum, PySem.W.mg_none_of X G z_zip, PySem.W.mg_none_of X G z_sum, PySem.W.mg_none_of X G z_max, PySem.W.mg_none_of X G z_min, PySem.W.mg_none_of X G z_sorted, PySem.W.mg_none_of X G z_set, PySem.W.mg_none_of X G z_dict⟩
  have G_LETTERS : GS mg "LETTERS" abc := ⟨_, PySem.W.mg_of X G sa_LETTERS⟩
  have G_MOST_LETTERS : GI mg "MOST_LETTERS" 8 := ⟨_, PySem.W.mg_of X G ia_MOST_LETTERS⟩
  have G_MODES : GT K mg "MODES" modesL := ⟨_, PySem.W.mg_of X G pa_MODES, isK_tup pl_MODES pv_MODES (by decide +kernel) (by decide)⟩
  have X_BadName : ∀ base, ErrX l.prog w K mg base "BadName" C_BadName "name" := fun base => errX_mk (st := s_BadName___init__) X G ecg_BadName exL_BadName esa_BadName eex_BadName ety_BadName ekC_BadName ei1_BadName ei2_BadName emr_BadName esv_BadName esu_BadName oq z_super elk_BadName ehc_BadName eno_BadName eco_BadName ece_BadName ega_BadName egg_BadName ehd_BadName ese_BadName ebm_BadName evs_BadName efl_BadName tsup rfl ⟨_, rfl, rfl⟩ ⟨rfl, rfl, rfl, rfl⟩ (by decide +kernel) ⟨rfl, rfl, rfl⟩ (by decide) ⟨by decide, by decide⟩ (fun L => rfl) (fun L => rfl) (fun L => ⟨_, rfl⟩) (fun L => rfl) (fun us hl => match us, hl with | [_, _], _ => rfl)
  have X_BadMode : ∀ base, ErrX l.prog w K mg base "BadMode" C_BadMode "mode" := fun base => errX_mk (st := s_BadMode___init__) X G ecg_BadMode exL_BadMode esa_BadMode eex_BadMode ety_BadMode ekC_BadMode ei1_BadMode ei2_BadMode emr_BadMode esv_BadMode esu_BadMode oq z_super elk_BadMode ehc_BadMode eno_BadMode eco_BadMode ece_BadMode ega_BadMode egg_BadMode ehd_BadMode ese_BadMode ebm_BadMode evs_BadMode efl_BadMode tsup rfl ⟨_, rfl, rfl⟩ ⟨rfl, rfl, rfl, rfl⟩ (by decide +kernel) ⟨rfl, rfl, rfl⟩ (by decide) ⟨by decide, by decide⟩ (fun L => rfl) (fun L => rfl) (fun L => ⟨_, rfl⟩) (fun L => rfl) (fun us hl => match us, hl with | [_, _], _ => rfl)
  have X_Twice : ∀ base, ErrX l.prog w K mg base "Twice" C_Twice "name" := fun base => errX_mk (st := s_Twice___init__) X G ecg_Twice exL_Twice esa_Twice eex_Twice ety_Twice ekC_Twice ei1_Twice ei2_Twice emr_Twice esv_Twice esu_Twice oq z_super elk_Twice ehc_Twice eno_Twice eco_Twice ece_Twice ega_Twice egg_Twice ehd_Twice ese_Twice ebm_Twice evs_Twice efl_Twice tsup rfl ⟨_, rfl, rfl⟩ ⟨rfl, rfl, rfl, rfl⟩ (by decide +kernel) ⟨rfl, rfl, rfl⟩ (by decide) ⟨by decide, by decide⟩ (fun L => rfl) (fun L => rfl) (fun L => ⟨_, rfl⟩) (fun L => rfl) (fun us hl => match us, hl with | [_, _], _ => rfl)
  have K_Setting : KCls K mg "Setting" C_Setting ["chosen"] := ⟨PySem.W.mg_of X G ccg_Setting, ⟨⟨cpg_Setting, chd_Setting, cpo_Setting, csa_Setting⟩, ckl_Setting, gtc, tkc, cmr_Setting, ((fm_cons csstr_Setting (fm_cons csint_Setting (fm_cons csbool_Setting (fm_cons cslist_Setting (fm_cons cstuple_Setting fm_nil))))))⟩, ((fm_cons cn0_Setting fm_nil)), ⟨cic_Setting, cty_Setting, ((fm_cons ctNoneType_Setting (fm_cons ctbool_Setting (fm_cons ctint_Setting (fm_cons ctstr_Setting (fm_cons ctlist_Setting (fm_cons cttuple_Setting (fm_cons ctdict_Setting fm_nil))))))))⟩⟩
  have D_Setting___eq__ : DfE K C_Setting "Setting.__eq__" s_Setting___eq__ ["self", "other"] := ⟨_, _, ⟨⟨_, _, _, _, _, _, _, _, _, _, rfl, celk_Setting, ceci_Setting⟩⟩, ⟨cea_Setting, cefn_Setting, K_Setting.isk.nf, cene_Setting⟩, (.all fun us hl => match us, hl with | [_, _], _ => rfl)⟩
  have D_Setting___getitem__ : DfG K C_Setting "__getitem__" "Setting.__getitem__" s_Setting___getitem__ ["self", "name"] := ⟨_, _, ⟨⟨_, _, _, _, _, _, _, _, _, _, rfl, cglk_Setting, cgci_Setting⟩⟩, ⟨cga__Setting, cgfi_Setting, cgfn_Setting⟩, (.all fun us hl => match us, hl with | [_, _], _ => rfl)⟩
  have D_Setting___contains__ : DfI K C_Setting "Setting.__contains__" s_Setting___contains__ ["self", "name"] := ⟨_, _, ⟨⟨_, _, _, _, _, _, _, _, _, _, rfl, cnlk_Setting, cnci_Setting⟩⟩, ⟨cna__Setting, cnfn_Setting⟩, (.all fun us hl => match us, hl with | [_, _], _ => rfl)⟩
  have D_Setting___setitem__ : DfSi K C_Setting "Setting.__setitem__" s_Setting___setitem__ ["self", "name", "mode"] := ⟨_, _, ⟨⟨_, _, _, _, _, _, _, _, _, _, rfl, cxlk_Setting, cxci_Setting⟩⟩, ⟨cxa__Setting, cxfn_Setting, cxnq_Setting⟩, (.all fun us hl => match us, hl with | [_, _, _], _ => rfl)⟩
  have D_Setting___or__ : DfOp K C_Setting "__or__" "Setting.__or__" s_Setting___or__ ["self", "other"] := ⟨_, _, ⟨⟨_, _, _, _, _, _, _, _, _, _, rfl, cp0lk_Setting, cp0ci_Setting⟩⟩, ⟨cp0a_Setting, cp0fn_Setting, cosf_Setting⟩, (.all fun us hl => match us, hl with | [_, _], _ => rfl)⟩
  have D_Setting___and__ : DfOp K C_Setting "__and__" "Setting.__and__" s_Setting___and__ ["self", "other"] := ⟨_, _, ⟨⟨_, _, _, _, _, _, _, _, _, _, rfl, cp1lk_Setting, cp1ci_Setting⟩⟩, ⟨cp1a_Setting, cp1fn_Setting, cosf_Setting⟩, (.all fun us hl => match us, hl with | [_, _], _ => rfl)⟩
  have D_Setting___sub__ : DfOp K C_Setting "__sub__" "Setting.__sub__" s_Setting___sub__ ["self", "other"] := ⟨_, _, ⟨⟨_, _, _, _, _, _, _, _, _, _, rfl, cp2lk_Setting, cp2ci_Setting⟩⟩, ⟨cp2a_Setting, cp2fn_Setting, cosf_Setting⟩, (.all fun us hl => match us, hl with | [_, _], _ => rfl)⟩
  have D_Setting___xor__ : DfOp K C_Setting "__xor__" "Setting.__xor__" s_Setting___xor__ ["self", "other"] := ⟨_, _, ⟨⟨_, _, _, _, _, _, _, _, _, _, rfl, cp3lk_Setting, cp3ci_Setting⟩⟩, ⟨cp3a_Setting, cp3fn_Setting, cosf_Setting⟩, (.all fun us hl => match us, hl with | [_, _], _ => rfl)⟩
  have Nob_Setting := cnob_Setting
  subst cikv_Setting
  have D_Setting___init__ : DfNK K C_Setting "Setting.__init__" s_Setting___init__ ["self"] "deaf" "on" (.tup []) := ⟨_, _, ⟨⟨_, _, _, _, _, _, _, _, _, _, rfl, cilk_Setting, cici_Setting⟩⟩, ⟨cmk_Setting, cii_Setting, cifn_Setting, cikc_Setting⟩, ⟨fun us rest w1 hl => match us, hl, rest with | [_], _, [] => rfl | [_], _, _ :: _ => rfl, _, _, .ref ikt_Setting, cikn_Setting, rfl, isK_tup cikl_Setting cikz_Setting (by decide +kernel) (by decide), fun us rest hl => match us, hl, rest with | [_], _, [] => ⟨_, _, _, _, _, _, rfl, rfl, rfl⟩ | [_], _, _ :: _ => ⟨_, _, _, _, _, _, rfl, rfl, rfl⟩⟩⟩
  have D_Setting___len__ : DfG K C_Setting "__len__" "Setting.__len__" s_Setting___len__ ["self"] := ⟨_, _, ⟨⟨_, _, _, _, _, _, _, _, _, _, rfl, cllk_Setting, clci_Setting⟩⟩, ⟨cla__Setting, clfi_Setting, clfn_Setting⟩, (.all fun us hl => match us, hl with | [_], _ => rfl)⟩
  have D_Setting_names : DfM K C_Setting "names" "Setting.names" s_Setting_names ["self"] := ⟨_, _, ⟨⟨_, _, _, _, _, _, _, _, _, _, rfl, cm0lk_Setting, cm0ci_Setting⟩⟩, ⟨cm0a_Setting, cm0fn_Setting, cm0kp_Setting⟩, (.all fun us hl => match us, hl with | [_], _ => rfl)⟩
  have D_Setting_is_within : DfM K C_Setting "is_within" "Setting.is_within" s_Setting_is_within ["self", "other"] := ⟨_, _, ⟨⟨_, _, _, _, _, _, _, _, _, _, rfl, cm1lk_Setting, cm1ci_Setting⟩⟩, ⟨cm1a_Setting, cm1fn_Setting, cm1kp_Setting⟩, (.all fun us hl => match us, hl with | [_, _], _ => rfl)⟩
  refine law_end (st := s_law) X G hfa a18 l18 c18 k18 (fun _ => rfl) (fun base fd F => ?_)
  have c_draw := c__law_draw (P := l.prog) (w := w) (base := base) B D__law_draw
  obtain ⟨fp, fdp, GP, gP, kP, bP⟩ := c__law_pool (P := l.prog) (w := w) (base := base) B D__law_pool
  have c_isname := c_is_name (P := l.prog) (w := w) (base := base) B G_LETTERS G_MOST_LETTERS D_is_name
  have c_ismode := c_is_mode (P := l.prog) (w := w) (base := base) B G_MODES D_is_mode
  have c_rk := c_rank (P := l.prog) (w := w) (base := base) B D_rank
  have c_gre := c_greater_mode c_rk D_greater_mode
  have c_les := c_lesser_mode c_rk D_lesser_mode
  have i_set := c_Setting_getitem B (X_BadName base) c_isname K_Setting D_Setting___getitem__
  have s_set := c_Setting_setitem B (X_BadName base) (X_BadMode base) c_isname c_ismode K_Setting D_Setting___setitem__
  have l_set := c_Setting_len (P := l.prog) (w := w) (mg := mg) (base := base) B K_Setting D_Setting___len__
  have n_set := c_Setting_contains B K_Setting c_isname D_Setting___contains__
  have m_names := c_Setting_names (P := l.prog) (w := w) (mg := mg) (base := base) B K_Setting D_Setting_names
  have nk_set := c_Setting_init B (X_BadName base) (X_Twice base) c_isname K_Setting D_Setting___init__
  have c_with := c_setting_with B K_Setting nk_set D_setting_with
  have o_or := c_Setting_or B K_Setting c_gre c_with i_set D_Setting___or__
  have o_and := c_Setting_and B K_Setting c_les c_with i_set D_Setting___and__
  have o_sub := c_Setting_sub B K_Setting c_with D_Setting___sub__
  have o_xor := c_Setting_xor (P := l.prog) (w := w) (base := base) B K_Setting i_set D_Setting___xor__
  have e_set := c_Setting_eq (P := l.prog) (w := w) (mg := mg) (base := base) B K_Setting D_Setting___eq__
  have w_set := c_Setting_within B K_Setting c_rk i_set D_Setting_is_within
  have c_holds := c__law_holds B K_Setting i_set n_set m_names l_set ⟨Nob_Setting, l_set⟩ (c__law_same (P := l.prog) (w := w) (base := base) B D__law_same 4) (c__law_sameLO B 4 (c__law_same B D__law_same 4) D__law_same) D__law_holds
  have c_lrank := c__law_rank (P := l.prog) (w := w) (base := base) B D__law_rank
  have c_both := c__law_both B c_lrank D__law_both
  have c_res := c__law_results B K_Setting o_or o_and o_sub c_both D__law_results
  exact ok_law F GP gP kP bP B c_draw (c__law_names B c_draw D__law_names) (c__law_cut B c_draw D__law_cut) (c__law_random_modes B c_draw D__law_random_modes) (c__law_setting B K_Setting nk_set s_set D__law_setting) c_res s_set o_xor e_set w_set c_lrank (c__law_same B D__law_same 4) c_holds
theorem walk {l : PySem.W.OpenLaw} {q : Program} {loose : List Str} {XP : (Str → Option Value) → Heap → Prop} {YP : World → Heap → Prop} {d : DefRec} {K : Params → PySem.W.Frag} (hn : l.most = some 63) (hdf : d.params.defaults = [])
    (hY : ∀ (w : World) (h : Heap), YP w h → (K w.params).In h)
    (F : ∀ (w : World) (mg : Str → Option Value) (fa : Addr) (h : Heap), (K w.params).In h → h.Ns mainGlobals mg → mg d.name = some (.ref fa) →
      ∃ fd : FuncData, (∀ (s : Shared) (u : Value), BindsTo s fd ⟨[u], []⟩ [("_law_script", u)]) ∧ ∀ base : Heap, (K w.params).In base → base.Ns mainGlobals mg → FnOk l.prog w (K w.params) mg base CX0 8 fa fd ["_law_script"] (spLaw (K w.params))) :
    PySem.W.WalkO q loose XP YP l.row.toRowW d [] (fun f vs => PySem.call f vs) :=
  L2.walk_of (n := 63) (k := 8) (x := "_law_script") (CX := fun _ => CX0) (sp := fun w => spLaw (K w.params)) hn (by decide) hdf ⟨rfl, by decide, by decide⟩ hY F (fun _ _ a ns hl _ hS => ⟨a, ns, rfl, hS, hl, fun _ => rfl⟩) fun _ _ _ _ _ z => z
end Q
open PySem PySem.W PyProof.Rows
set_option maxRecDepth 100000 in
set_option maxHeartbeats 0 in
theorem PySem.Challenge.cw_quietprobes_k33_settings_combined_holds : PySem.Challenge.rw_quietprobes_k33_settings_combined.Holds := by
  w_on; o_law
  refine HandSHeadRun.head_any (r := OpenLaw.row PySem.Challenge.rw_quietprobes_k33_settings_combined) (q := Q.qv) (H := PySem.W.kHook Q.KF Q.KA Q.KA_eq) (ob := Q.obK) (M := 5024) (loose := Q.loo) (d := HandSHeadRun.topDef (OpenLaw.row PySem.Challenge.rw_quietprobes_k33_settings_combined).prog 30) (kwd := []) Q.obK_eq (by kernel_rfl) (fun s => by kernel_rfl) Q.run_all (by kernel_rfl) (by kernel_rfl) (by kernel_rfl) (by rfl) (by first | assumption | decide +kernel) (by decide +kernel) ⟨rfl, rfl, rfl, rfl, rfl, by decide +kernel⟩ ?hw ?hc
  case hw => w_witness2
  k_fill
  refine Q.walk (l := PySem.Challenge.rw_quietprobes_k33_settings_combined) rfl (by kernel_rfl) (fun w h Y => PySem.W.kIn_of Y) ?F
  case F =>
    intro w mg fa h KX G hmg0
    have hmg : mg ("law" : PySem.Str) = some (.ref fa) := by
      have e : (HandSHeadRun.topDef (OpenLaw.row PySem.Challenge.rw_quietprobes_k33_settings_combined).prog 30).name = ("law" : PySem.Str) := by kernel_rfl
      rw [← e]
      exact hmg0
    refine' Q.all_mk KX G hmg ?a0 ?l0 ?c0 ?k0 ?a1 ?l1 ?c1 ?k1 ?a2 ?l2 ?c2 ?k2 ?a3 ?l3 ?c3 ?k3 ?a4 ?l4 ?c4 ?k4 ?a5 ?l5 ?c5 ?k5 ?a6 ?l6 ?c6 ?k6 ?a7 ?l7 ?c7 ?k7 ?a8 ?l8 ?c8 ?k8 ?a9 ?l9 ?c9 ?k9 ?a10 ?l10 ?c10 ?k10 ?a11 ?l11 ?c11 ?k11 ?a12 ?l12 ?c12 ?k12 ?a13 ?l13 ?c13 ?k13 ?a14 ?l14 ?c14 ?k14 ?a15 ?l15 ?c15 ?k15 ?a16 ?l16 ?c16 ?k16 ?a17 ?l17 ?c17 ?k17 ?a18 ?l18 ?c18 ?k18 ?z_len ?z_int ?z_list ?z_tuple ?z_isi ?z_range ?z_all ?z_any ?z_str ?z_bool ?z_enum ?z_zip ?z_sum ?z_max ?z_min ?z_sorted ?z_set ?z_dict ?sa_LETTERS ?ia_MOST_LETTERS ?pa_MODES ?pl_MODES ?pv_MODES ?oq ?z_super ?gtc ?tkc ?tsup ?ecg_BadName ?exL_BadName ?esa_BadName ?eex_BadName ?ety_BadName ?ekC_BadName ?ei1_BadName ?ei2_BadName ?emr_BadName ?esv_BadName ?esu_BadName ?elk_BadName ?ehc_BadName ?eno_BadName ?eco_BadName ?ece_BadName ?ega_BadName ?egg_BadName ?ehd_BadName ?ese_BadName ?ebm_BadName ?evs_BadName ?efl_BadName ?ecg_BadMode ?exL_BadMode ?esa_BadMode ?eex_BadMode ?ety_BadMode ?ekC_BadMode ?ei1_BadMode ?ei2_BadMode ?emr_BadMode ?esv_BadMode ?esu_BadMode ?elk_BadMode ?ehc_BadMode ?eno_BadMode ?eco_BadMode ?ece_BadMode ?ega_BadMode ?egg_BadMode ?ehd_BadMode ?ese_BadMode ?ebm_BadMode ?evs_BadMode ?efl_BadMode ?ecg_Twice ?exL_Twice ?esa_Twice ?eex_Twice ?ety_Twice ?ekC_Twice ?ei1_Twice ?ei2_Twice ?emr_Twice ?esv_Twice ?esu_Twice ?elk_Twice ?ehc_Twice ?eno_Twice ?eco_Twice ?ece_Twice ?ega_Twice ?egg_Twice ?ehd_Twice ?ese_Twice ?ebm_Twice ?evs_Twice ?efl_Twice ?ccg_Setting ?cpg_Setting ?chd_Setting ?cpo_Setting ?csa_Setting ?ckl_Setting ?cmr_Setting ?cic_Setting ?cty_Setting ?csstr_Setting ?csint_Setting ?csbool_Setting ?cslist_Setting ?cstuple_Setting ?ctNoneType_Setting ?ctbool_Setting ?ctint_Setting ?ctstr_Setting ?ctlist_Setting ?cttuple_Setting ?ctdict_Setting ?cn0_Setting ?cea_Setting ?cefn_Setting ?cene_Setting ?celk_Setting ?ceci_Setting ?cekp_Setting ?cga__Setting ?cgfn_Setting ?cgfi_Setting ?cglk_Setting ?cgci_Setting ?cgkp_Setting ?cna__Setting ?cnfn_Setting ?cnlk_Setting ?cnci_Setting ?cnkp_Setting ?cxa__Setting ?cxfn_Setting ?cxnq_Setting ?cxlk_Setting ?cxci_Setting ?cxkp_Setting ?cosf_Setting ?cp0a_Setting ?cp0fn_Setting ?cp0lk_Setting ?cp0ci_Setting ?cp0kp_Setting ?cp1a_Setting ?cp1fn_Setting ?cp1lk_Setting ?cp1ci_Setting ?cp1kp_Setting ?cp2a_Setting ?cp2fn_Setting ?cp2lk_Setting ?cp2ci_Setting ?cp2kp_Setting ?cp3a_Setting ?cp3fn_Setting ?cp3lk_Setting ?cp3ci_Setting ?cp3kp_Setting ?cnob_Setting ?cmk_Setting ?cii_Setting ?cifn_Setting ?cikc_Setting ?cilk_Setting ?cici_Setting ?cikp_Setting ?cikv_Setting ?cikn_Setting ?cikl_Setting ?cikz_Setting ?cla__Setting ?clfn_Setting ?clfi_Setting ?cllk_Setting ?clci_Setting ?clkp_Setting ?cm0a_Setting ?cm0fn_Setting ?cm0lk_Setting ?cm0ci_Setting ?cm0kp_Setting ?cm1a_Setting ?cm1fn_Setting ?cm1lk_Setting ?cm1ci_Setting ?cm1kp_Setting
    case a0 => k_is
    case l0 => k_is
    case c0 => k_is
    case k0 => k_is
    case a1 => k_is
    case l1 => k_is
    case c1 => k_is
    case k1 => k_is
    case a2 => k_is
    case l2 => k_is
    case c2 => k_is
    case k2 => k_is
    case a3 => k_is
    case l3 => k_is
    case c3 => k_is
    case k3 => k_is
    case a4 => k_is
    case l4 => k_is
    case c4 => k_is
    case k4 => k_is
    case a5 => k_is
    case l5 => k_is
    case c5 => k_is
    case k5 => k_is
    case a6 => k_is
    case l6 => k_is
    case c6 => k_is
    case k6 => k_is
    case a7 => k_is
    case l7 => k_is
    case c7 => k_is
    case k7 => k_is
    case a8 => k_is
    case l8 => k_is
    case c8 => k_is
    case k8 => k_is
    case a9 => k_is
    case l9 => k_is
    case c9 => k_is
    case k9 => k_is
    case a10 => k_is
    case l10 => k_is
    case c10 => k_is
    case k10 => k_is
    case a11 => k_is
    case l11 => k_is
    case c11 => k_is
    case k11 => k_is
    case a12 => k_is
    case l12 => k_is
    case c12 => k_is
    case k12 => k_is
    case a13 => k_is
    case l13 => k_is
    case c13 => k_is
    case k13 => k_is
    case a14 => k_is
    case l14 => k_is
    case c14 => k_is
    case k14 => k_is
    case a15 => k_is
    case l15 => k_is
    case c15 => k_is
    case k15 => k_is
    case a16 => k_is
    case l16 => k_is
    case c16 => k_is
    case k16 => k_is
    case a17 => k_is
    case l17 => k_is
    case c17 => k_is
    case k17 => k_is
    case a18 => k_is
    case l18 => k_is
    case c18 => k_is
    case k18 => k_is
    case z_len => k_is
    case z_int => k_is
    case z_list => k_is
    case z_tuple => k_is
    case z_isi => k_is
    case z_range => k_is
    case z_all => k_is
    case z_any => k_is
    case z_str => k_is
    case z_bool => k_is
    case z_enum => k_is
    case z_zip => k_is
    case z_sum => k_is
    case z_max => k_is
    case z_min => k_is
    case z_sorted => k_is
    case z_set => k_is
    case z_dict => k_is
    case sa_LETTERS => k_is
    case ia_MOST_LETTERS => k_is
    case pa_MODES => k_is
    case pl_MODES => k_is
    case pv_MODES => rfl
    case oq => k_is
    case z_super => k_is
    case gtc => k_is
    case tkc => k_is
    case tsup => first | rfl | decide +kernel
    case ecg_BadName => k_is
    case exL_BadName => k_is
    case esa_BadName => k_is
    case eex_BadName => k_is
    case ety_BadName => k_is
    case ekC_BadName => k_is
    case ei1_BadName => k_is
    case ei2_BadName => k_is
    case emr_BadName => k_is
    case esv_BadName => k_is
    case esu_BadName => ks_is
    case elk_BadName => k_is
    case ehc_BadName => k_is
    case eno_BadName => k_is
    case eco_BadName => k_is
    case ece_BadName => k_is
    case ega_BadName => k_is
    case egg_BadName => k_is
    case ehd_BadName => k_is
    case ese_BadName => k_is
    case ebm_BadName => first | rfl | decide +kernel
    case evs_BadName => rfl
    case efl_BadName => first | rfl | decide +kernel
    case ecg_BadMode => k_is
    case exL_BadMode => k_is
    case esa_BadMode => k_is
    case eex_BadMode => k_is
    case ety_BadMode => k_is
    case ekC_BadMode => k_is
    case ei1_BadMode => k_is
    case ei2_BadMode => k_is
    case emr_BadMode => k_is
    case esv_BadMode => k_is
    case esu_BadMode => ks_is
    case elk_BadMode => k_is
    case ehc_BadMode => k_is
    case eno_BadMode => k_is
    case eco_BadMode => k_is
    case ece_BadMode => k_is
    case ega_BadMode => k_is
    case egg_BadMode => k_is
    case ehd_BadMode => k_is
    case ese_BadMode => k_is
    case ebm_BadMode => first | rfl | decide +kernel
    case evs_BadMode => rfl
    case efl_BadMode => first | rfl | decide +kernel
    case ecg_Twice => k_is
    case exL_Twice => k_is
    case esa_Twice => k_is
    case eex_Twice => k_is
    case ety_Twice => k_is
    case ekC_Twice => k_is
    case ei1_Twice => k_is
    case ei2_Twice => k_is
    case emr_Twice => k_is
    case esv_Twice => k_is
    case esu_Twice => ks_is
    case elk_Twice => k_is
    case ehc_Twice => k_is
    case eno_Twice => k_is
    case eco_Twice => k_is
    case ece_Twice => k_is
    case ega_Twice => k_is
    case egg_Twice => k_is
    case ehd_Twice => k_is
    case ese_Twice => k_is
    case ebm_Twice => first | rfl | decide +kernel
    case evs_Twice => rfl
    case efl_Twice => first | rfl | decide +kernel
    case ccg_Setting => k_is
    case cpg_Setting => k_is
    case chd_Setting => k_is
    case cpo_Setting => k_is
    case csa_Setting => k_is
    case ckl_Setting => k_is
    case cmr_Setting => k_is
    case cic_Setting => k_is
    case cty_Setting => k_is
    case csstr_Setting => k_is
    case csint_Setting => k_is
    case csbool_Setting => k_is
    case cslist_Setting => k_is
    case cstuple_Setting => k_is
    case ctNoneType_Setting => k_is
    case ctbool_Setting => k_is
    case ctint_Setting => k_is
    case ctstr_Setting => k_is
    case ctlist_Setting => k_is
    case cttuple_Setting => k_is
    case ctdict_Setting => k_is
    case cn0_Setting => k_is
    case cea_Setting => k_is
    case cefn_Setting => k_is
    case cene_Setting => k_is
    case celk_Setting => k_is
    case ceci_Setting => k_is
    case cekp_Setting => k_is
    case cga__Setting => k_is
    case cgfn_Setting => k_is
    case cgfi_Setting => k_is
    case cglk_Setting => k_is
    case cgci_Setting => k_is
    case cgkp_Setting => k_is
    case cna__Setting => k_is
    case cnfn_Setting => k_is
    case cnlk_Setting => k_is
    case cnci_Setting => k_is
    case cnkp_Setting => k_is
    case cxa__Setting => k_is
    case cxfn_Setting => k_is
    case cxnq_Setting => k_is
    case cxlk_Setting => k_is
    case cxci_Setting => k_is
    case cxkp_Setting => k_is
    case cosf_Setting => k_is
    case cp0a_Setting => k_is
    case cp0fn_Setting => k_is
    case cp0lk_Setting => k_is
    case cp0ci_Setting => k_is
    case cp0kp_Setting => k_is
    case cp1a_Setting => k_is
    case cp1fn_Setting => k_is
    case cp1lk_Setting => k_is
    case cp1ci_Setting => k_is
    case cp1kp_Setting => k_is
    case cp2a_Setting => k_is
    case cp2fn_Setting => k_is
    case cp2lk_Setting => k_is
    case cp2ci_Setting => k_is
    case cp2kp_Setting => k_is
    case cp3a_Setting => k_is
    case cp3fn_Setting => k_is
    case cp3lk_Setting => k_is
    case cp3ci_Setting => k_is
    case cp3kp_Setting => k_is
    case cnob_Setting => k_is
    case cmk_Setting => k_is
    case cii_Setting => k_is
    case cifn_Setting => k_is
    case cikc_Setting => k_is
    case cilk_Setting => k_is
    case cici_Setting => k_is
    case cikp_Setting => k_is
    case cikv_Setting => rfl
    case cikn_Setting => k_is
    case cikl_Setting => k_is
    case cikz_Setting => rfl
    case cla__Setting => k_is
    case clfn_Setting => k_is
    case clfi_Setting => k_is
    case cllk_Setting => k_is
    case clci_Setting => k_is
    case clkp_Setting => k_is
    case cm0a_Setting => k_is
    case cm0fn_Setting => k_is
    case cm0lk_Setting => k_is
    case cm0ci_Setting => k_is
    case cm0kp_Setting => k_is
    case cm1a_Setting => k_is
    case cm1fn_Setting => k_is
    case cm1lk_Setting => k_is
    case cm1ci_Setting => k_is
    case cm1kp_Setting => k_is
