import PyProof.Rows.All
import Wide.All
import OpenK.AllK
import Wide.FinOn
import HandS.Base
import HandS.Call
import HandS.List
import HandS.Comp
import HandS.Ends
import HandS.Dict
import HandS.Iter
import HandS.Text
import HandS.Deep
import HandS.IsInst
import HandS.Star
import HandS.Words
import HandS.Wide
import HandS.Exc
import HandS.More
import HandS.TupAny
import KE.KUnpackStar
import HandS.ForMost
import HandS.ForExc
import HandS.Zip
import PyProof.RulesMatch
import KE.KExcSuper
import HandS.ExcInit
import HandS.ClsMeth
import HandS.SlotsOwn
import HandS.TryMany
import HandS.WordsExc
import HandS.ExcField
import PyProof.InstNe
import HandS.Defaults
import HandS.ExcIs
import KE.RegKSuper
import KE.KCallOwn
import HandS.DictComp
import KE.GoesEnum
import OpenK.KMeth
import HandS.Flow
import HandS.Small
import HandS.Style
import HandS.Zip0
import HandS.TryOnly
import HandS.SetKeys
import HandS.WordsDict
import HandS.OwnEq
import KE.KOpsOwn
import OpenK.KOps
import HandS.Records
import PyProof.StrOps2
import HandS.Property
import PyProof.NeKinds
import HandS.Strs
import HandS.FStr
import HandS.Nested
import HandS.NestedK
import KE.IntTextText
import HandS.EndTab
import HandS.SetBool
import HandS.SetTxt0
import PyProof.ReprRoads
import PyProof.StrHeap
import HandS.Head0
import HandS.Head1
import HandS.Head2
import HandS.Evl
import PySem.Challenge.RW_quietprobes_k32_settings_refused
set_option Elab.async false
set_option linter.all false
set_option maxRecDepth 100000
set_option autoImplicit false
namespace G
open PySem PySem.Spec L2
/-- a value told as data; adr: an address of which the assertion speaks -/
inductive D where
  | non | bl (b : Bool) | int (i : Int) | str (x : Str) | adr (a : Addr) | lst (ds : List D) | tup (ds : List D)
  /-- an instance that stays as it is: its class, its fields' names, what they hold -/
  | ins (C : Addr) (fs : List Str) (ds : List D)
  /-- a dict that stays as it is -/
  | dct (ks : List Key) (ds : List D)
/-- a text whose signs are signs, and that isn't long -/
def sok (x : Str) : Prop := PyData.strOk x = true ∧ x.length ≤ 1000000
def ks6 : List String := ["NoneType", "bool", "int", "str", "list", "tuple", "dict"]
def ks5 : List String := ["str", "int", "bool", "list", "tuple"]
/-- a class whose fields are plainly read and stored, none of these names being the class's own -/
structure Plain (K : PySem.W.Frag) (C : Addr) : Prop where
  cls : Cls K C
  kls : PySem.W.findIn K (.ref C) "__class__" = some (some (.builtin "object.__class__"))
  get : PySem.W.specialIn K (.builtin "object.__class__") "__get__" = some (some (.builtin "getset_descriptor.__get__"))
  tak : PySem.W.takesIn K (.builtin "object.__class__") = some true
  mro : PySem.W.mroIn K C (.type "object") = some true
  sub : ∀ T ∈ ks5, PySem.W.subIn K (.ref C) (.type T) = some false
structure Good (K : PySem.W.Frag) (C : Addr) (fs : List Str) : Prop where
  p : Plain K C
  no : ∀ f ∈ fs, NoAttr K C f
theorem Good.cls {K : PySem.W.Frag} {C : Addr} {fs : List Str} (g : Good K C fs) : Cls K C := g.p.cls
/-- what may be changed, and is data while nobody owns it -/
def Dat : HO → Prop
  | .lst _ => True
  | .ins _ _ _ => True
  | .dK _ => True
  | _ => False
mutual
/-- v is d in the heap H; no list, dict, instance of it is among M -/
inductive Is (K : PySem.W.Frag) (M : Addr → Prop) (H : Hp) : V → D → Prop
  | non : Is K M H .non .non
  | bl (b : Bool) : Is K M H (.bl b) (.bl b)
  | int (i : Int) : Is K M H (.int i) (.int i)
  | str {x : Str} : sok x → Is K M H (.str x) (.str x)
  | adr (a : Addr) : Is K M H (.ref a) (.adr a)
  | lst {a : Addr} {xs : List V} {ds : List D} : ¬ M a → H a = some (.lst xs) → IsAll K M H xs ds → Is K M H (.ref a) (.lst ds)
  | tup {a : Addr} {xs : List V} {ds : List D} : SqT K H a xs → IsAll K M H xs ds → Is K M H (.ref a) (.tup ds)
  | ins {a C dx : Addr} {kvs : List (Str × V)} {fs : List Str} {ds : List D} : ¬ M a → H a = some (.ins C dx kvs) → kvs.map (·.1) = fs → Good K C fs → IsAll K M H (kvs.map (·.2)) ds → Is K M H (.ref a) (.ins C fs ds)
  | dct {a : Addr} {kvs : List (Key × V)} {ks : List Key} {ds : List D} : ¬ M a → H a = some (.dK kvs) → kvs.map (·.1) = ks → IsAll K M H (kvs.map (·.2)) ds → Is K M H (.ref a) (.dct ks ds)
inductive IsAll (K : PySem.W.Frag) (M : Addr → Prop) (H : Hp) : List V → List D → Prop
  | nil : IsAll K M H [] []
  | cons {v : V} {vs : List V} {d : D} {ds : List D} : Is K M H v d → IsAll K M H vs ds → IsAll K M H (v :: vs) (d :: ds)
end
section
variable {K : PySem.W.Frag} {M M' : Addr → Prop} {H H' : Hp}
mutual
theorem Is.go (hl : ∀ a o, Dat o → ¬ M a → H a = some o → ¬ M' a ∧ H' a = some o) (ht : ∀ a xs, SqT K H a xs → SqT K H' a xs) : ∀ (d : D) (v : V), Is K M H v d → Is K M' H' v d
  | .non, _, h => by cases h; exact .non
  | .bl b, _, h => by cases h; exact .bl b
  | .int i, _, h => by cases h; exact .int i
  | .str x, _, h => by cases h with | str o => exact .str o
  | .adr a, _, h => by cases h; exact .adr a
  | .lst ds, _, h => by
    cases h with
    | lst n s h => exact .lst (hl _ (.lst _) True.intro n s).1 (hl _ (.lst _) True.intro n s).2 (IsAll.go hl ht ds _ h)
  | .tup ds, _, h => by
    cases h with
    | tup s h => exact .tup (ht _ _ s) (IsAll.go hl ht ds _ h)
  | .ins C fs ds, _, h => by
    cases h with
    | ins n s e g h => exact .ins (hl _ (.ins _ _ _) True.intro n s).1 (hl _ (.ins _ _ _) True.intro n s).2 e g (IsAll.go hl ht ds _ h)
  | .dct ks ds, _, h => by
    cases h with
    | dct n s e h => exact .dct (hl _ (.dK _) True.intro n s).1 (hl _ (.dK _) True.intro n s).2 e (IsAll.go hl ht ds _ h)
theorem IsAll.go (hl : ∀ a o, Dat o → ¬ M a → H a = some o → ¬ M' a ∧ H' a = some o) (ht : ∀ a xs, SqT K H a xs → SqT K H' a xs) : ∀ (ds : List D) (vs : List V), IsAll K M H vs ds → IsAll K M' H' vs ds
  | [], _, h => by cases h; exact .nil
  | d :: ds, _, h => by
    cases h with
    | cons h1 h2 => exact .cons (Is.go hl ht d _ h1) (IsAll.go hl ht ds _ h2)
end
theorem IsAll.length : ∀ {vs : List V} {ds : List D}, IsAll K M H vs ds → vs.length = ds.length
  | _, _, .nil => rfl
  | _, _, .cons _ h => by rw [List.length_cons, List.length_cons, IsAll.length h]
theorem IsAll.get : ∀ {vs : List V} {ds : List D} {i : Nat} {v : V}, IsAll K M H vs ds → vs[i]? = some v → ∃ d, ds[i]? = some d ∧ Is K M H v d
  | _, _, i, v, .nil, e => by simp at e
  | _, _, 0, v, .cons h _, e => by simp at e; subst e; exact ⟨_, rfl, h⟩
  | _, _, i + 1, v, .cons _ t, e => by
    obtain ⟨d, h1, h2⟩ := IsAll.get (i := i) (v := v) t (by simpa using e)
    exact ⟨d, by simpa using h1, h2⟩
theorem IsAll.getD : ∀ {vs : List V} {ds : List D} {i : Nat} {d : D}, IsAll K M H vs ds → ds[i]? = some d → ∃ v, vs[i]? = some v ∧ Is K M H v d
  | _, _, i, v, .nil, e => by simp at e
  | _, _, 0, v, .cons h _, e => by simp at e; subst e; exact ⟨_, rfl, h⟩
  | _, _, i + 1, d, .cons _ t, e => by
    obtain ⟨v, h1, h2⟩ := IsAll.getD (i := i) (d := d) t (by simpa using e)
    exact ⟨v, by simpa using h1, h2⟩
theorem IsAll.append : ∀ {vs ws : List V} {ds es : List D}, IsAll K M H vs ds → IsAll K M H ws es → IsAll K M H (vs ++ ws) (ds ++ es)
  | _, _, _, _, .nil, s => s
  | _, _, _, _, .cons r t, s => .cons r (IsAll.append t s)
theorem IsAll.take : ∀ {vs : List V} {ds : List D} (n : Nat), IsAll K M H vs ds → IsAll K M H (vs.take n) (ds.take n)
  | _, _, 0, _ => .nil
  | _, _, _ + 1, .nil => .nil
  | _, _, n + 1, .cons r t => .cons r (IsAll.take n t)
theorem IsAll.drop : ∀ {vs : List V} {ds : List D} (n : Nat), IsAll K M H vs ds → IsAll K M H (vs.drop n) (ds.drop n)
  | _, _, 0, r => r
  | _, _, _ + 1, .nil => .nil
  | _, _, n + 1, .cons r t => IsAll.drop n t
end
def Ext (H H' : Hp) : Prop := ∀ b o, H b = some o → H' b = some o
theorem Ext.refl (H : Hp) : Ext H H := fun _ _ h => h
theorem Ext.new {H : Hp} {p : Addr} {o : HO} (h : H p = none) : Ext H (upd H p o) := fun a u e => by
  rw [upd_ne (ne_of_none e h)]
  exact e
theorem Ext.sqt {K : PySem.W.Frag} {H H' : Hp} (e : Ext H H') {a : Addr} {xs : List V} (h : SqT K H a xs) : SqT K H' a xs := by
  rcases h with (h | ⟨o, h⟩) | h
  · exact .inl (.inl (e _ _ h))
  · exact .inl (.inr ⟨o, e _ _ h⟩)
  · exact .inr h
theorem is_ext {K : PySem.W.Frag} {N : Addr → Prop} {H H' : Hp} (e : Ext H H') (v : V) (d : D) (h : Is K N H v d) : Is K N H' v d := Is.go (fun a o _ n s => ⟨n, e _ _ s⟩) (fun a xs s => e.sqt s) d v h
theorem is_anti {K : PySem.W.Frag} {N N' : Addr → Prop} {H : Hp} (e : ∀ a, N' a → N a) {v : V} {d : D} (h : Is K N H v d) : Is K N' H v d := Is.go (fun a o _ n s => ⟨fun z => n (e a z), s⟩) (fun a xs s => s) d v h
/-- nothing that may be changed stands there -/
def NoDat (H : Hp) (p : Addr) : Prop := ∀ o, H p = some o → ¬ Dat o
theorem nodat {H : Hp} {p : Addr} (hp : H p = none) : NoDat H p := fun o e => by rw [hp] at e; cases e
theorem is_growD {K : PySem.W.Frag} {N : Addr → Prop} {H : Hp} {p : Addr} (hp : NoDat H p) {v : V} {d : D} (h : Is K N H v d) : Is K (fun a => N a ∨ a = p) H v d :=
  Is.go (fun a o dt n s => ⟨fun z => z.elim n fun e => (by rw [e] at s; exact hp o s dt), s⟩) (fun a xs s => s) d v h
theorem is_grow {K : PySem.W.Frag} {N : Addr → Prop} {H : Hp} {p : Addr} (hp : H p = none) {v : V} {d : D} (h : Is K N H v d) : Is K (fun a => N a ∨ a = p) H v d := is_growD (nodat hp) h
theorem all_of {K : PySem.W.Frag} {N N' : Addr → Prop} {H H' : Hp} (f : ∀ v d, Is K N H v d → Is K N' H' v d) : ∀ {vs : List V} {ds : List D}, IsAll K N H vs ds → IsAll K N' H' vs ds
  | _, _, .nil => .nil
  | _, _, .cons h t => .cons (f _ _ h) (all_of f t)
/-- a piece of what the heap is known to hold: it owns the objects at M, and speaks besides of data alone -/
structure At where
  M : Addr → Prop
  R : PySem.W.Frag → (Addr → Prop) → Hp → Prop
  loc : ∀ {K : PySem.W.Frag} {N : Addr → Prop} {H H' : Hp}, (∀ b o, M b → H b = some o → H' b = some o) → (∀ v d, Is K N H v d → Is K N H' v d) → R K N H → R K N H'
  anti : ∀ {K : PySem.W.Frag} {N N' : Addr → Prop} {H : Hp}, (∀ a, N' a → N a) → R K N H → R K N' H
  grow : ∀ {K : PySem.W.Frag} {N : Addr → Prop} {H : Hp} {p : Addr}, NoDat H p → R K N H → R K (fun a => N a ∨ a = p) H
  al : ∀ {K : PySem.W.Frag} {N : Addr → Prop} {H : Hp}, R K N H → ∀ a, M a → ∃ o, H a = some o
abbrev Rs := List (At)
section
variable {K : PySem.W.Frag}
def mem : Rs → Addr → Prop
  | [], _ => False
  | t :: r, a => t.M a ∨ mem r a
def hold (K : PySem.W.Frag) (N : Addr → Prop) : Rs → Hp → Prop
  | [], _ => True
  | t :: r, H => t.R K N H ∧ (∀ a, t.M a → ¬ mem r a) ∧ hold K N r H
theorem hold_ext {N : Addr → Prop} {H H' : Hp} (e : Ext H H') : ∀ {r : Rs}, hold K N r H → hold K N r H'
  | [], _ => True.intro
  | t :: r, h => ⟨t.loc (fun b o _ q => e b o q) (is_ext e) h.1, h.2.1, hold_ext e h.2.2⟩
theorem hold_loc {N : Addr → Prop} {H H' : Hp} : ∀ {r : Rs}, (∀ b o, mem r b → H b = some o → H' b = some o) → (∀ v d, Is K N H v d → Is K N H' v d) → hold K N r H → hold K N r H'
  | [], _, _, _ => True.intro
  | t :: r, f, g, h => ⟨t.loc (fun b o z q => f b o (.inl z) q) g h.1, h.2.1, hold_loc (fun b o z q => f b o (.inr z) q) g h.2.2⟩
theorem hold_anti {N N' : Addr → Prop} {H : Hp} (e : ∀ a, N' a → N a) : ∀ {r : Rs}, hold K N r H → hold K N' r H
  | [], _ => True.intro
  | t :: r, h => ⟨t.anti e h.1, h.2.1, hold_anti e h.2.2⟩
theorem hold_growD {N : Addr → Prop} {H : Hp} {p : Addr} (hp : NoDat H p) : ∀ {r : Rs}, hold K N r H → hold K (fun a => N a ∨ a = p) r H
  | [], _ => True.intro
  | t :: r, h => ⟨t.grow hp h.1, h.2.1, hold_growD hp h.2.2⟩
theorem hold_grow {N : Addr → Prop} {H : Hp} {p : Addr} (hp : H p = none) {r : Rs} (h : hold K N r H) : hold K (fun a => N a ∨ a = p) r H := hold_growD (nodat hp) h
theorem hold_al {N : Addr → Prop} {H : Hp} : ∀ {r : Rs}, hold K N r H → ∀ a, mem r a → ∃ o, H a = some o
  | [], _, _, z => z.elim
  | t :: r, h, a, .inl z => t.al h.1 a z
  | t :: r, h, a, .inr z => hold_al h.2.2 a z
theorem mem_append {r r' : Rs} {a : Addr} : mem (r ++ r') a ↔ mem r a ∨ mem r' a := by
  induction r with
  | nil => exact ⟨.inr, fun z => z.elim False.elim id⟩
  | cons t r ih =>
    show (t.M a ∨ mem (r ++ r') a) ↔ ((t.M a ∨ mem r a) ∨ mem r' a)
    rw [ih, or_assoc]
theorem hold_append {N : Addr → Prop} {r r' : Rs} {H : Hp} : hold K N (r ++ r') H ↔ hold K N r H ∧ hold K N r' H ∧ ∀ a, mem r a → ¬ mem r' a := by
  induction r with
  | nil => exact ⟨fun h => ⟨True.intro, h, fun _ z => z.elim⟩, fun h => h.2.1⟩
  | cons t r ih =>
    constructor
    · rintro ⟨h1, h2, h3⟩
      obtain ⟨i1, i2, i3⟩ := ih.mp h3
      exact ⟨⟨h1, fun a z y => h2 a z (mem_append.mpr (.inl y)), i1⟩, i2, fun a z => z.elim (fun z y => h2 a z (mem_append.mpr (.inr y))) (i3 a)⟩
    · rintro ⟨⟨h1, h2, h3⟩, h4, h5⟩
      exact ⟨h1, fun a z y => (mem_append.mp y).elim (h2 a z) (h5 a (.inl z)), ih.mpr ⟨h3, h4, fun a z => h5 a (.inr z)⟩⟩
/-- a list of our own at l that is being filled -/
def lstA (l : Addr) (ds : List D) : At where
  M := fun a => a = l
  R := fun K N H => ∃ vs, H l = some (.lst vs) ∧ IsAll K N H vs ds
  loc := fun f g ⟨vs, h, i⟩ => ⟨vs, f _ _ rfl h, all_of g i⟩
  anti := fun e ⟨vs, h, i⟩ => ⟨vs, h, all_of (fun _ _ => is_anti e) i⟩
  grow := fun hp ⟨vs, h, i⟩ => ⟨vs, h, all_of (fun _ _ => is_growD hp) i⟩
  al := fun ⟨vs, h, _⟩ a z => ⟨.lst vs, by rw [show a = l from z]; exact h⟩
end
/-- what r tells is so -/
def Rok (K : PySem.W.Frag) (r : Rs) (H : Hp) : Prop := hold K (mem r) r H
theorem Rok.ext {K : PySem.W.Frag} {r : Rs} {H H' : Hp} (h : Rok K r H) (e : Ext H H') : Rok K r H' := hold_ext e h
/-- all data stand as they stood -/
def Kp (K : PySem.W.Frag) (r : Rs) (H : Hp) (r' : Rs) (H' : Hp) : Prop := ∀ v d, Is K (mem r) H v d → Is K (mem r') H' v d
section
variable {K : PySem.W.Frag} {r r' r1 r2 : Rs} {H H' H1 H2 : Hp}
theorem Kp.refl : Kp K r H r H := fun _ _ h => h
theorem Kp.trans (a : Kp K r H r1 H1) (b : Kp K r1 H1 r2 H2) : Kp K r H r2 H2 := fun v d h => b v d (a v d h)
theorem Kp.ext (e : Ext H H') : Kp K r H r H' := is_ext e
theorem Kp.all (k : Kp K r H r' H') {vs : List V} {ds : List D} (h : IsAll K (mem r) H vs ds) : IsAll K (mem r') H' vs ds := all_of k h
/-- r knows more than r' -/
structure le (r r' : Rs) : Prop where
  m : ∀ a, mem r' a → mem r a
  r : ∀ K H, Rok K r H → Rok K r' H
theorem le.refl : le r r := ⟨fun _ h => h, fun _ _ h => h⟩
theorem le.trans (a : le r r1) (b : le r1 r2) : le r r2 := ⟨fun x h => a.m x (b.m x h), fun K H h => b.r K H (a.r K H h)⟩
theorem le.kp (l : le r r') : Kp K r H r' H := fun _ _ h => is_anti l.m h
theorem le.drop {t : Rs} : le (r ++ t) r := ⟨fun a h => mem_append.mpr (.inl h), fun K H h => hold_anti (fun a z => mem_append.mpr (.inl z)) (hold_append.mp h).1⟩
end
abbrev Dl := List (Option D)
def lk : Dl → Nat → Option D
  | [], _ => none
  | x :: _, 0 => x
  | _ :: l, n + 1 => lk l n
theorem lk_get : ∀ {δ : Dl} {i : Nat} {d : D}, lk δ i = some d → δ[i]? = some (some d)
  | [], i, d, h => by simp [lk] at h
  | x :: l, 0, d, h => by simp only [lk] at h; simp [h]
  | x :: l, n + 1, d, h => by
    simp only [lk] at h
    have := lk_get h
    simpa using this
/-- the names' slots hold the data -/
structure Okb (K : PySem.W.Frag) (r : Rs) (δ : Dl) (σ : St) (H : Hp) : Prop where
  env : ∀ (i : Nat) (d : D), δ[i]? = some (some d) → ∃ v, σ[i]? = some (some v) ∧ Is K (mem r) H v d
  r : Rok K r H
  len : δ.length = σ.length
theorem Okb.step {K : PySem.W.Frag} {r r' : Rs} {δ : Dl} {σ : St} {H H' : Hp} (o : Okb K r δ σ H) (k : Kp K r H r' H') (hr : Rok K r' H') : Okb K r' δ σ H' :=
  ⟨fun i d e => let ⟨v, h1, h2⟩ := o.env i d e; ⟨v, h1, k v d h2⟩, hr, o.len⟩
theorem Okb.set {K : PySem.W.Frag} {r : Rs} {δ : Dl} {σ : St} {H : Hp} (o : Okb K r δ σ H) {i : Nat} {v : V} {d : D} (h : Is K (mem r) H v d) : Okb K r (δ.set i (some d)) (σ.set i (some v)) H := by
  refine ⟨fun j e he => ?_, o.r, by rw [List.length_set, List.length_set]; exact o.len⟩
  by_cases hj : j = i
  · subst hj
    have hl : j < δ.length := by
      have := (List.getElem?_eq_some_iff.mp he).1
      rwa [List.length_set] at this
    rw [List.getElem?_set_self hl] at he
    cases he
    exact ⟨v, List.getElem?_set_self (o.len ▸ hl), h⟩
  · rw [List.getElem?_set_ne (Ne.symm hj)] at he ⊢
    exact o.env j e he
theorem Okb.drop {K : PySem.W.Frag} {r : Rs} {δ : Dl} {σ : St} {H : Hp} (o : Okb K r δ σ H) {i : Nat} : Okb K r (δ.set i none) (σ.set i none) H := by
  refine ⟨fun j e he => ?_, o.r, by rw [List.length_set, List.length_set]; exact o.len⟩
  by_cases hj : j = i
  · subst hj
    have hl : j < δ.length := by
      have := (List.getElem?_eq_some_iff.mp he).1
      rwa [List.length_set] at this
    rw [List.getElem?_set_self hl] at he
    cases he
  · rw [List.getElem?_set_ne (Ne.symm hj)] at he ⊢
    exact o.env j e he
/-- what is told of an exception: its class, its fields' names, what they hold; the slots, the pieces -/
abbrev XT := Addr → List Str → List D → Dl → Rs → Prop
/-- an exception's own dict -/
def ExAt (K : PySem.W.Frag) (r : Rs) (H : Hp) (a : Option Addr) (fs : List Str) (ds : List D) : Prop := match a with
  | some a => ¬ mem r a ∧ ∃ kvs : List (Str × V), H a = some (.xd kvs) ∧ kvs.map Prod.fst = fs ∧ IsAll K (mem r) H (kvs.map Prod.snd) ds
  | none => fs = [] ∧ ds = []
/-- what is wanted where an exception leaves -/
def Xc (K : PySem.W.Frag) (W : WX) (XR : XT) (r : Rs) (H : Hp) : Prop := ∀ C fs ds δ' r' σ' a H', XR C fs ds δ' r' → Okb K r' δ' σ' H' → Kp K r H r' H' → ExAt K r' H' a fs ds → W (.ref C) a σ' H'
theorem Xc.step {K : PySem.W.Frag} {W : WX} {XR : XT} {r r' : Rs} {H H' : Hp} (x : Xc K W XR r H) (k : Kp K r H r' H') : Xc K W XR r' H' := fun C fs ds δ' r2 σ' a H2 q o k2 e => x C fs ds δ' r2 σ' a H2 q o (k.trans k2) e
structure Ok (K : PySem.W.Frag) (W : WX) (XR : XT) (r : Rs) (δ : Dl) (σ : St) (H : Hp) : Prop where
  b : Okb K r δ σ H
  x : Xc K W XR r H
theorem Ok.r {K : PySem.W.Frag} {W : WX} {XR : XT} {p : Rs} {δ : Dl} {σ : St} {H : Hp} (o : Ok K W XR p δ σ H) : Rok K p H := o.b.r
section
variable {K : PySem.W.Frag} {W : WX} {XR : XT} {r r' : Rs} {δ : Dl} {σ : St} {H H' : Hp}
theorem Ok.env (o : Ok K W XR r δ σ H) : ∀ (i : Nat) (d : D), δ[i]? = some (some d) → ∃ v, σ[i]? = some (some v) ∧ Is K (mem r) H v d := o.b.env
theorem Ok.len (o : Ok K W XR r δ σ H) : δ.length = σ.length := o.b.len
theorem Ok.step (o : Ok K W XR r δ σ H) (k : Kp K r H r' H') (hr : Rok K r' H') : Ok K W XR r' δ σ H' := ⟨o.b.step k hr, o.x.step k⟩
theorem Ok.set (o : Ok K W XR r δ σ H) {i : Nat} {v : V} {d : D} (h : Is K (mem r) H v d) : Ok K W XR r (δ.set i (some d)) (σ.set i (some v)) H := ⟨o.b.set h, o.x⟩
theorem Ok.drop (o : Ok K W XR r δ σ H) {i : Nat} : Ok K W XR r (δ.set i none) (σ.set i none) H := ⟨o.b.drop, o.x⟩
end
abbrev PK1 := D → Rs → Prop
/-- readings over data: of an expression, of arguments, of a test -/
abbrev AT := XT → Dl → Rs → PK1 → Prop
abbrev AL := XT → Dl → Rs → (List D → Rs → Prop) → Prop
abbrev AB := XT → Dl → Rs → (Bool → Rs → Prop) → Prop
def TD (K : PySem.W.Frag) (W : WX) (t : AT) : TE := fun σ H Q => ∃ XR δ r P, Ok K W XR r δ σ H ∧ t XR δ r P ∧ ∀ d r' v H', P d r' → Ok K W XR r' δ σ H' → Kp K r H r' H' → Is K (mem r') H' v d → Q v H'
def TDL (K : PySem.W.Frag) (W : WX) (t : AL) : TA := fun σ H Q => ∃ XR δ r P, Ok K W XR r δ σ H ∧ t XR δ r P ∧ ∀ ds r' vs H', P ds r' → Ok K W XR r' δ σ H' → Kp K r H r' H' → IsAll K (mem r') H' vs ds → Q vs H'
def TDB (K : PySem.W.Frag) (W : WX) (t : AB) : TT := fun σ H Q => ∃ XR δ r P, Ok K W XR r δ σ H ∧ t XR δ r P ∧ ∀ b r' H', P b r' → Ok K W XR r' δ σ H' → Kp K r H r' H' → Q b H'
def PD (X : Cx) (W : WX) (e : Expr) (t : AT) : Prop := PE X e (TD X.K W t)
def PDL (X : Cx) (W : WX) (es : List Expr) (t : AL) : Prop := PA X es (TDL X.K W t)
def PDB (X : Cx) (W : WX) (e : Expr) (t : AB) : Prop := PT X e (TDB X.K W t)
def PDW (X : Cx) (W : WX) (e : Expr) (t : AB) : Prop := PW X e (TDB X.K W t)
theorem imE {X : Cx} {e : Expr} {t t' : TE} (h : PE X e t) (i : ∀ σ H Q, t' σ H Q → t σ H Q) : PE X e t' := ⟨fun pins s σ H Q I q => h.run pins s σ H Q I (i σ H Q q)⟩
theorem imA {X : Cx} {e : List Expr} {t t' : TA} (h : PA X e t) (i : ∀ σ H Q, t' σ H Q → t σ H Q) : PA X e t' := ⟨fun pos pins s σ H Q I q => h.run pos pins s σ H Q I (i σ H Q q)⟩
theorem imT {X : Cx} {e : Expr} {t t' : TT} (h : PT X e t) (i : ∀ σ H Q, t' σ H Q → t σ H Q) : PT X e t' := ⟨fun pins s σ H Q I q => h.run pins s σ H Q I (i σ H Q q)⟩
theorem imW {X : Cx} {e : Expr} {t t' : TT} (h : PW X e t) (i : ∀ σ H Q, t' σ H Q → t σ H Q) : PW X e t' := ⟨fun wh pins s σ H Q I q => h.run wh pins s σ H Q I (i σ H Q q)⟩
theorem imS {X : Cx} {e : Stmt} {t t' : TS} (h : PS X e t) (i : ∀ D σ H, t' D σ H → t D σ H) : PS X e t' := ⟨fun pins s σ H D I q => h.run pins s σ H D I (i D σ H q)⟩
theorem imSs {X : Cx} {e : List Stmt} {t t' : TS} (h : PSs X e t) (i : ∀ D σ H, t' D σ H → t D σ H) : PSs X e t' := ⟨fun pins s σ H D I q => h.run pins s σ H D I (i D σ H q)⟩
def aVar (i : Nat) : AT := fun x δ r P => match lk δ i with | some d => P d r | none => False
def aC (d : D) : AT := fun x _ r P => P d r
section
variable {X : Cx} {W : WX}
theorem td_var {K : PySem.W.Frag} {W : WX} {i : Nat} {σ : St} {H : Hp} {Q : VK} (q : TD K W (aVar i) σ H Q) : tVar i σ H Q := by
  obtain ⟨XR, δ, r, P, o, h, k⟩ := q
  unfold aVar at h
  split at h
  · rename_i d hd
    obtain ⟨v, h1, h2⟩ := o.env i d (lk_get hd)
    exact ⟨v, h1, k d r v H h o Kp.refl h2⟩
  · exact h.elim
theorem dv (i : Nat) {x : Str} {pos : Pos} (hN : X.N[i]? = some x := by rfl) (hv : Vis X.env.scope x := by first | exact Or.inl rfl | exact Or.inr (Or.inl rfl) | exact Or.inr (Or.inr rfl)) (hd : (x == ("__debug__" : Str)) = false := by decide)
    (hcd : (x == ("__classdict__" : Str)) = false := by decide) : PD X W (.Name x pos) (aVar i) := imE (pe_var hN hv hd hcd) fun _ _ _ q => td_var q
theorem td_c {K : PySem.W.Frag} {W : WX} {d : D} {v : V} {σ : St} {H : Hp} {Q : VK} (hv : ∀ M H, Is K M H v d) (q : TD K W (aC d) σ H Q) : tC v σ H Q := by
  obtain ⟨XR, δ, r, P, o, h, k⟩ := q
  exact k d r v H h o Kp.refl (hv _ _)
theorem d_int {i j pos} : PD X W (.Constant (.int i) j pos) (aC (.int i)) := imE pe_int fun _ _ _ q => td_c (fun _ _ => .int i) q
theorem d_bl {i j pos} : PD X W (.Constant (.bool i) j pos) (aC (.bl i)) := imE pe_bl fun _ _ _ q => td_c (fun _ _ => .bl i) q
theorem d_non {j pos} : PD X W (.Constant .none j pos) (aC .non) := imE pe_non fun _ _ _ q => td_c (fun _ _ => .non) q
def sokB (x : Str) : Bool := PyData.strOk x && decide (x.length ≤ 1000000)
theorem sok_of {x : Str} (h : sokB x = true) : sok x := by
  unfold sokB at h
  rw [Bool.and_eq_true, decide_eq_true_eq] at h
  exact h
theorem d_str {x j pos} (h : sokB x = true := by decide +kernel) : PD X W (.Constant (.str x) j pos) (aC (.str x)) := imE pe_str fun _ _ _ q => td_c (fun _ _ => .str (sok_of h)) q
/-- a constant of the module: a text, a number -/
theorem d_glob {x : Str} {v : V} {d : D} {u : Value} {pos : Pos} (hg : Gl X x) (hm : X.mg x = some u) (r : RelV v u) (hd : ∀ M H, Is X.K M H v d) (hdb : (x == ("__debug__" : Str)) = false := by decide) : PD X W (.Name x pos) (aC d) :=
  imE (pe_glob hg hm r hdb) fun _ _ _ q => td_c hd q
def aNil : AL := fun x _ r P => P [] r
def aCons (t : AT) (l : AL) : AL := fun x δ r P => t x δ r fun d r1 => l x δ r1 fun ds r2 => P (d :: ds) r2
theorem dl_nil : PDL X W [] aNil := imA pa_nil fun σ H Q q => by
  obtain ⟨XR, δ, r, P, o, h, k⟩ := q
  exact k [] r [] H h o Kp.refl .nil
theorem td_bind {K : PySem.W.Frag} {W : WX} {XR : XT} {σ : St} {H : Hp} {δ : Dl} {r : Rs} {t : AT} {P : PK1} {Q : VK} (o : Ok K W XR r δ σ H) (h : t XR δ r P) (k : ∀ d r' v H', P d r' → Ok K W XR r' δ σ H' → Kp K r H r' H' → Is K (mem r') H' v d → Q v H') : TD K W t σ H Q := ⟨XR, δ, r, P, o, h, k⟩
theorem tdl_bind {K : PySem.W.Frag} {W : WX} {XR : XT} {σ : St} {H : Hp} {δ : Dl} {r : Rs} {t : AL} {P : List D → Rs → Prop} {Q : List V → Hp → Prop} (o : Ok K W XR r δ σ H) (h : t XR δ r P) (k : ∀ d r' v H', P d r' → Ok K W XR r' δ σ H' → Kp K r H r' H' → IsAll K (mem r') H' v d → Q v H') : TDL K W t σ H Q := ⟨XR, δ, r, P, o, h, k⟩
theorem dl_cons {e : Expr} {es : List Expr} {t : AT} {l : AL} (ha : PD X W e t) (hr : PDL X W es l) (hs : starEach (e :: es) X.env = (false, eval e X.env) :: starEach es X.env := by rfl) : PDL X W (e :: es) (aCons t l) := imA (pa_cons ha hr hs) fun σ H Q q => by
  obtain ⟨XR, δ, r, P, o, h, k⟩ := q
  refine td_bind o h fun d r1 v H1 h1 o1 k1 i1 => tdl_bind o1 h1 fun ds r2 vs H2 h2 o2 k2 i2 => ?_
  exact k (d :: ds) r2 _ H2 h2 o2 (k1.trans k2) (.cons (k2 _ _ i1) i2)
/-- *e in an argument list -/
def aStar (t : AT) (l : AL) : AL := fun x δ r P => t x δ r fun d r1 => match d with
  | .lst xs => l x δ r1 fun ds r2 => P (xs ++ ds) r2
  | .tup xs => l x δ r1 fun ds r2 => P (xs ++ ds) r2
  | _ => False
theorem dl_star {e : Expr} {es : List Expr} {p : Pos} {t : AT} {l : AL} (ha : PD X W e t) (hr : PDL X W es l) (hs : starEach (.Starred e p :: es) X.env = (true, eval e X.env) :: starEach es X.env := by rfl) : PDL X W (.Starred e p :: es) (aStar t l) := imA (StX.pa_star ha hr hs) fun σ H Q q => by
  obtain ⟨XR, δ, r, P, o, h, k⟩ := q
  refine td_bind o h fun d r1 v H1 h1 o1 k1 i1 => ?_
  cases i1 with
  | lst n s a => exact ⟨_, _, rfl, .inr (SqL.of s), tdl_bind o1 h1 fun ds r2 vs H2 h2 o2 k2 i2 => k _ r2 _ H2 h2 o2 (k1.trans k2) ((k2.all a).append i2)⟩
  | tup s a => exact ⟨_, _, rfl, .inl s, tdl_bind o1 h1 fun ds r2 vs H2 h2 o2 k2 i2 => k _ r2 _ H2 h2 o2 (k1.trans k2) ((k2.all a).append i2)⟩
  | _ => exact h1.elim
def small (n : Nat) : Prop := n ≤ 1000000
theorem small.sz {n : Nat} (h : small n) : n ≤ sizeLine := Nat.le_trans h (by decide)
theorem not_al {K : PySem.W.Frag} {r : Rs} {H : Hp} {p : Addr} (h : Rok K r H) (hp : H p = none) : ¬ mem r p := fun z => by
  obtain ⟨o, e⟩ := hold_al h p z
  rw [hp] at e
  cases e
def aTup (l : AL) : AT := fun x δ r P => l x δ r fun ds r1 => small ds.length ∧ P (.tup ds) r1
def aLst (l : AL) : AT := fun x δ r P => l x δ r fun ds r1 => small ds.length ∧ P (.lst ds) r1
theorem new_tup {K : PySem.W.Frag} {r : Rs} {H : Hp} {p : Addr} {vs : List V} {ds : List D} (hp : H p = none) (i : IsAll K (mem r) H vs ds) : Is K (mem r) (upd H p (.tup vs)) (.ref p) (.tup ds) :=
  .tup (SqT.of upd_same) (Kp.all (r := r) (r' := r) (Kp.ext (Ext.new hp)) i)
theorem new_lst {K : PySem.W.Frag} {r : Rs} {H : Hp} {p : Addr} {vs : List V} {ds : List D} (hr : Rok K r H) (hp : H p = none) (i : IsAll K (mem r) H vs ds) : Is K (mem r) (upd H p (.lst vs)) (.ref p) (.lst ds) :=
  .lst (not_al hr hp) upd_same (Kp.all (r := r) (r' := r) (Kp.ext (Ext.new hp)) i)
theorem Ok.new {K : PySem.W.Frag} {W : WX} {XR : XT} {r : Rs} {δ : Dl} {σ : St} {H : Hp} {p : Addr} {u : HO} (o : Ok K W XR r δ σ H) (hp : H p = none) : Ok K W XR r δ σ (upd H p u) := o.step (Kp.ext (Ext.new hp)) (o.r.ext (Ext.new hp))
theorem d_tup {es : List Expr} {x1} {pos : Pos} {l : AL} (ha : PDL X W es l) : PD X W (.Tuple es x1 pos) (aTup l) := imE (pe_tup ha) fun σ H Q q => by
  obtain ⟨XR, δ, r, P, o, h, k⟩ := q
  refine tdl_bind o h fun ds r1 vs H1 h1 o1 k1 i1 => ⟨by rw [i1.length]; exact h1.1.sz, fun p hp => ?_⟩
  exact k _ r1 _ _ h1.2 (o1.new hp) (k1.trans (Kp.ext (Ext.new hp))) (new_tup hp i1)
theorem d_lst {es : List Expr} {pos : Pos} {l : AL} (ha : PDL X W es l) : PD X W (.List es pos) (aLst l) := imE (pe_lst ha) fun σ H Q q => by
  obtain ⟨XR, δ, r, P, o, h, k⟩ := q
  refine tdl_bind o h fun ds r1 vs H1 h1 o1 k1 i1 => ⟨by rw [i1.length]; exact h1.1.sz, fun p hp => ?_⟩
  exact k _ r1 _ _ h1.2 (o1.new hp) (k1.trans (Kp.ext (Ext.new hp))) (new_lst o1.r hp i1)
end
end G
namespace G
open PySem PySem.Spec L2
abbrev O2 := D → D → (D → Prop) → Prop
def rD (K : PySem.W.Frag) (o : O2) : R2 := fun x y H Q => ∃ (r : Rs) (d1 d2 : D) (P : D → Prop), Rok K r H ∧ Is K (mem r) H x d1 ∧ Is K (mem r) H y d2 ∧ o d1 d2 P ∧ ∀ d v H', P d → Ext H H' → Is K (mem r) H' v d → Q v H'
def aOp (o : O2) (ta tb : AT) : AT := fun x δ r P => ta x δ r fun d1 r1 => tb x δ r1 fun d2 r2 => o d1 d2 fun d => P d r2
section
variable {X : Cx} {W : WX} {a b c : Expr} {ta tb tc : AT} {pos : Pos}
theorem Ok.ext {K : PySem.W.Frag} {W : WX} {XR : XT} {r : Rs} {δ : Dl} {σ : L2.St} {H H' : Hp} (o : Ok K W XR r δ σ H) (e : Ext H H') : Ok K W XR r δ σ H' := o.step (Kp.ext e) (o.r.ext e)
theorem td_op {K : PySem.W.Frag} {W : WX} {o : O2} {ta tb : AT} {σ : L2.St} {H : Hp} {Q : VK} (q : TD K W (aOp o ta tb) σ H Q) : tOp (rD K o) (TD K W ta) (TD K W tb) σ H Q := by
  obtain ⟨XR, δ, r, P, ok, h, k⟩ := q
  refine td_bind ok h fun d1 r1 v1 H1 h1 o1 k1 i1 => td_bind o1 h1 fun d2 r2 v2 H2 h2 o2 k2 i2 => ?_
  exact ⟨r2, d1, d2, fun d => P d r2, o2.r, k2 _ _ i1, i2, h2, fun d v H' p e i => k d r2 v H' p (o2.ext e) ((k1.trans k2).trans (Kp.ext e)) i⟩
theorem d_bin {op : Operator} {o : O2} (ho : OpR X (binaryOp op) (rD X.K o)) (ha : PD X W a ta) (hb : PD X W b tb) : PD X W (.BinOp a op b pos) (aOp o ta tb) := imE (pe_op ho ha hb) fun _ _ _ q => td_op q
theorem d_cmp {op : CmpOp} {o : O2} (ho : OpR X (compareOp op) (rD X.K o)) (ha : PD X W a ta) (hb : PD X W b tb) (hm : behindInMarks op b = false := by first | exact nomark _ | with_unfolding_all rfl) : PD X W (.Compare a [op] [b] pos) (aOp o ta tb) :=
  imE (pe_cmpR ho ha hb hm) fun _ _ _ q => td_op q
/-- a value as a test: True or False -/
def aTest (t : AT) : AB := fun x δ r P => t x δ r fun d r1 => match d with | .bl b => P b r1 | _ => False
theorem tdb_test {K : PySem.W.Frag} {W : WX} {t : AT} {t0 : TE} {σ : L2.St} {H : Hp} {Q : Bool → Hp → Prop} (im : ∀ Q, TD K W t σ H Q → t0 σ H Q) (q : TDB K W (aTest t) σ H Q) : t0 σ H fun x H' => ∃ k, x = .bl k ∧ Q k H' := by
  obtain ⟨XR, δ, r, P, ok, h, k⟩ := q
  refine im _ (td_bind ok h fun d r1 v H1 h1 o1 k1 i1 => ?_)
  cases i1 with
  | bl b => exact ⟨b, rfl, k b r1 H1 h1 o1 k1⟩
  | _ => exact h1.elim
theorem b_cmp {op : CmpOp} {o : O2} (ho : OpR X (compareOp op) (rD X.K o)) (ha : PD X W a ta) (hb : PD X W b tb) (hm : behindInMarks op b = false := by first | exact nomark _ | with_unfolding_all rfl) : PDB X W (.Compare a [op] [b] pos) (aTest (aOp o ta tb)) :=
  imT (pt_cmpR ho ha hb hm) fun _ _ _ q => tdb_test (fun _ q => td_op q) q
/-- a value as a test: its truth -/
def truD : D → Option Bool
  | .non => some false | .bl b => some b | .int i => some (i != 0) | .str x => some ((x.length : Int) != 0) | .lst xs => some (!xs.isEmpty) | .tup xs => some (!xs.isEmpty) | _ => none
def aTru (t : AT) : AB := fun x δ r P => t x δ r fun d r1 => match truD d with | some b => P b r1 | none => False
theorem isEmpty_all {K : PySem.W.Frag} {N : Addr → Prop} {H : Hp} {xs : List V} {ds : List D} (h : IsAll K N H xs ds) : xs.isEmpty = ds.isEmpty := by cases h <;> rfl
theorem b_tru (ha : PD X W a ta) (he : ∀ whole, isTrue a X.env whole = (do let v ← whole; standAt a.pos; holding [v] (truthy v)) := by intro _; rfl) : PDB X W a (aTru ta) :=
  imT (pt_truth ha he) fun σ H Q q => by
    obtain ⟨XR, δ, r, P, ok, h, k⟩ := q
    refine td_bind ok h fun d r1 v H1 h1 o1 k1 i1 => ?_
    cases i1 with
    | non => exact ⟨false, rfl, k _ r1 H1 h1 o1 k1⟩
    | bl b => exact ⟨b, rfl, k _ r1 H1 h1 o1 k1⟩
    | int i => exact ⟨i != 0, rfl, k _ r1 H1 h1 o1 k1⟩
    | str s => exact ⟨_, ⟨Nat.le_trans s.2 (by decide), rfl⟩, k _ r1 H1 h1 o1 k1⟩
    | adr a => exact h1.elim
    | ins _ _ _ _ _ => exact h1.elim
    | dct _ _ _ _ => exact h1.elim
    | lst n s i => exact ⟨_, Or.inl ⟨_, SqL.of s, rfl⟩, k _ r1 H1 (by rw [isEmpty_all i]; exact h1) o1 k1⟩
    | tup s i => exact ⟨_, Or.inr (Or.inl ⟨_, s, rfl⟩), k _ r1 H1 (by rw [isEmpty_all i]; exact h1) o1 k1⟩
def oAdd : O2 := fun x y k => match x, y with
  | .int i, .int j => k (.int (i + j))
  | .str i, .str j => small (i.length + j.length) ∧ k (.str (i ++ j))
  | .lst i, .lst j => small (i.length + j.length) ∧ k (.lst (i ++ j))
  | .tup i, .tup j => small (i.length + j.length) ∧ k (.tup (i ++ j))
  | _, _ => False
theorem sok_append {i j : Str} (hi : sok i) (hj : sok j) (h : small (i.length + j.length)) : sok (i ++ j) := by
  obtain ⟨a, b⟩ := hi
  obtain ⟨c, d⟩ := hj
  refine ⟨?_, ?_⟩
  · show (i.cps ++ j.cps).all _ = true
    rw [Array.all_append]
    exact Bool.and_eq_true_iff.mpr ⟨a, c⟩
  · show (i.cps ++ j.cps).size ≤ _
    rw [Array.size_append]
    exact h
theorem all_nil {K : PySem.W.Frag} {N : Addr → Prop} {H : Hp} {xs : List V} {ds : List D} (h : IsAll K N H xs ds) : xs = [] ↔ ds = [] := by cases h <;> simp
theorem p_add : OpR X (binaryOp .Add) (rD X.K oAdd) := by
  rintro pins s σ H x y v u Q I rx ry ⟨r, d1, d2, P, hr, i1, i2, ho, k⟩
  cases i1 <;> cases i2 <;> try exact ho.elim
  · exact op_add pins s σ H _ _ v u Q I rx ry ⟨_, _, rfl, rfl, k _ _ H ho (Ext.refl H) (.int _)⟩
  · rename_i s1 _ s2
    exact op_add_str pins s σ H _ _ v u Q I rx ry ⟨_, _, rfl, rfl, ho.1.sz, k _ _ H ho.2 (Ext.refl H) (.str (sok_append s1 s2 ho.1))⟩
  · rename_i n1 h1 a1 _ _ _ n2 h2 a2
    exact op_cat pins s σ H _ _ v u Q I rx ry ⟨_, _, _, _, rfl, rfl, h1, h2, by rw [a1.length, a2.length]; exact ho.1.sz, fun p hp => k _ _ _ ho.2 (Ext.new hp) (new_lst hr hp (a1.append a2))⟩
  · rename_i h1 a1 _ _ _ h2 a2
    refine op_catA pins s σ H _ _ v u Q I rx ry ⟨_, _, _, _, rfl, rfl, h1, h2, by rw [a1.length, a2.length]; exact ho.1.sz, fun z => ?_, fun _ z => ?_, fun _ z p hp => k _ _ _ ho.2 (Ext.new hp) (new_tup hp (a1.append a2))⟩
    · have e := (all_nil a1).mp z
      subst e
      exact k _ _ H ho.2 (Ext.refl H) (.tup h2 a2)
    · have e := (all_nil a2).mp z
      subst e
      have q := ho.2
      rw [List.append_nil] at q
      exact k _ _ H q (Ext.refl H) (.tup h1 a1)
def oPow : O2 := fun x y k => match x, y with | .int i, .int j => CPow i j ∧ k (.int (i ^ j.toNat)) | _, _ => False
theorem p_pow : OpR X (binaryOp .Pow) (rD X.K oPow) := by
  rintro pins s σ H x y v u Q I rx ry ⟨r, d1, d2, P, hr, i1, i2, ho, k⟩
  cases i1 <;> cases i2 <;> try exact ho.elim
  exact op_pow pins s σ H _ _ v u Q I rx ry ⟨_, _, rfl, rfl, ho.1, k _ _ H ho.2 (Ext.refl H) (.int _)⟩
def oCmp (f : Int → Int → Bool) (g : Str → Str → Bool) : O2 := fun x y k => match x, y with | .int i, .int j => k (.bl (f i j)) | .str i, .str j => k (.bl (g i j)) | _, _ => False
abbrev oLe : O2 := oCmp (fun i j => decide (i ≤ j)) (fun i j => !decide (j.cps.toList < i.cps.toList))
theorem p_le : OpR X (compareOp .LtE) (rD X.K oLe) := by
  rintro pins s σ H x y v u Q I rx ry ⟨r, d1, d2, P, hr, i1, i2, ho, k⟩
  cases i1 <;> cases i2 <;> try exact ho.elim
  · exact op_le pins s σ H _ _ v u Q I rx ry ⟨_, _, rfl, rfl, k _ _ H ho (Ext.refl H) (.bl _)⟩
  · exact op_le_str pins s σ H _ _ v u Q I rx ry ⟨_, _, rfl, rfl, k _ _ H ho (Ext.refl H) (.bl _)⟩
def isNonD : D → Bool | .non => true | _ => false
def oIs : O2 := fun x y k => match y with | .non => k (.bl (isNonD x)) | _ => False
def oNs : O2 := fun x y k => match y with | .non => k (.bl (!isNonD x)) | _ => False
theorem dec_non {K : PySem.W.Frag} {N : Addr → Prop} {H : Hp} {v : V} {d : D} (h : Is K N H v d) : decide (v = V.non) = isNonD d := by cases h <;> rfl
theorem p_is : OpR X (compareOp .Is) (rD X.K oIs) := by
  rintro pins s σ H x y v u Q I rx ry ⟨r, d1, d2, P, hr, i1, i2, ho, k⟩
  cases i2 <;> try exact ho.elim
  exact op_isN pins s σ H _ _ v u Q I rx ry ⟨rfl, by rw [dec_non i1]; exact k _ _ H ho (Ext.refl H) (.bl _)⟩
theorem p_ns : OpR X (compareOp .IsNot) (rD X.K oNs) := by
  rintro pins s σ H x y v u Q I rx ry ⟨r, d1, d2, P, hr, i1, i2, ho, k⟩
  cases i2 <;> try exact ho.elim
  exact op_notN pins s σ H _ _ v u Q I rx ry ⟨rfl, by rw [dec_non i1]; exact k _ _ H ho (Ext.refl H) (.bl _)⟩
mutual
def py : D → PyData
  | .non => .none | .bl b => .bool b | .int i => .int i | .str x => .str x | .adr _ => .dict [] | .ins _ _ _ => .dict [] | .dct _ _ => .dict [] | .lst ds => .list (pys ds) | .tup ds => .tuple (pys ds)
def pys : List D → List PyData
  | [] => []
  | d :: ds => py d :: pys ds
end
mutual
def dep : D → Nat
  | .adr _ => 1000 | .ins _ _ _ => 1000 | .dct _ _ => 1000 | .lst ds => deps ds + 1 | .tup ds => deps ds + 1 | _ => 0
def deps : List D → Nat
  | [] => 0
  | d :: ds => max (dep d) (deps ds)
end
mutual
theorem dep_py {K : PySem.W.Frag} {N : Addr → Prop} {H : Hp} : ∀ (d : D) (v : V), Is K N H v d → dep d ≤ 64 → Dp K H v (py d) ∧ (py d).canLay0 = true ∧ (py d).depth ≤ dep d
  | .non, _, h, _ => by cases h; exact ⟨.non, rfl, by simp [py, PyData.depth]⟩
  | .bl b, _, h, _ => by cases h; exact ⟨.bl b, rfl, by simp [py, PyData.depth]⟩
  | .int i, _, h, _ => by cases h; exact ⟨.int i, rfl, by simp [py, PyData.depth]⟩
  | .str x, _, h, _ => by cases h with | str o => exact ⟨.str x, by simp only [py, PyData.canLay0]; exact o.1, by simp [py, PyData.depth]⟩
  | .adr a, _, h, l => by simp [dep] at l
  | .ins _ _ _, _, h, l => by simp [dep] at l
  | .dct _ _, _, h, l => by simp [dep] at l
  | .lst ds, _, h, l => by
    cases h with
    | lst n s i =>
      have l' : deps ds ≤ 64 := by simp only [dep] at l; omega
      obtain ⟨a, b, c⟩ := deps_py ds _ i l'
      exact ⟨by simp only [py]; exact .lst (SqL.of s) a, by simp only [py, PyData.canLay0]; exact b, by simp only [py, PyData.depth, dep]; omega⟩
  | .tup ds, _, h, l => by
    cases h with
    | tup s i =>
      have l' : deps ds ≤ 64 := by simp only [dep] at l; omega
      obtain ⟨a, b, c⟩ := deps_py ds _ i l'
      exact ⟨by simp only [py]; exact .tup s a, by simp only [py, PyData.canLay0]; exact b, by simp only [py, PyData.depth, dep]; omega⟩
theorem deps_py {K : PySem.W.Frag} {N : Addr → Prop} {H : Hp} : ∀ (ds : List D) (vs : List V), IsAll K N H vs ds → deps ds ≤ 64 → DpAll K H vs (pys ds) ∧ PyData.canLayAll0 (pys ds) = true ∧ PyData.depthAll (pys ds) ≤ deps ds
  | [], _, h, _ => by cases h; exact ⟨by simp only [pys]; exact .nil, rfl, by simp [pys, PyData.depthAll]⟩
  | d :: ds, _, h, l => by
    cases h with
    | cons h1 h2 =>
      have l1 : dep d ≤ 64 := by simp only [deps] at l; omega
      have l2 : deps ds ≤ 64 := by simp only [deps] at l; omega
      obtain ⟨a, b, c⟩ := dep_py d _ h1 l1
      obtain ⟨a', b', c'⟩ := deps_py ds _ h2 l2
      exact ⟨by simp only [pys]; exact .cons a a', by simp only [pys, PyData.canLayAll0]; rw [b, b']; rfl, by simp only [pys, PyData.depthAll, deps]; omega⟩
end
theorem shaped_py {K : PySem.W.Frag} {N : Addr → Prop} {H : Hp} {d : D} {v : V} (h : Is K N H v d) (l : dep d ≤ 64) : Dp K H v (py d) ∧ SeqAt.shaped (py d) = true := by
  obtain ⟨a, b, c⟩ := dep_py d v h l
  exact ⟨a, by unfold SeqAt.shaped; rw [b]; exact decide_eq_true (by omega)⟩
def eqD (a b : D) : Bool := PyData.eqv (py a) (py b)
def oEq : O2 := fun x y k => dep x ≤ 64 ∧ dep y ≤ 64 ∧ k (.bl (eqD x y))
def oNe : O2 := fun x y k => dep x ≤ 64 ∧ dep y ≤ 64 ∧ k (.bl (!eqD x y))
theorem p_eq (hu : X.A.units + 64 < cLine) : OpR X (compareOp .Eq) (rD X.K oEq) := by
  rintro pins s σ H x y v u Q I rx ry ⟨r, d1, d2, P, hr, i1, i2, ho, k⟩
  obtain ⟨a1, b1⟩ := shaped_py i1 ho.1
  obtain ⟨a2, b2⟩ := shaped_py i2 ho.2.1
  exact op_eqD hu pins s σ H _ _ v u Q I rx ry ⟨_, _, a1, a2, b1, b2, k _ _ H ho.2.2 (Ext.refl H) (.bl _)⟩
theorem p_ne (hu : X.A.units + 64 < cLine) : OpR X (compareOp .NotEq) (rD X.K oNe) := by
  rintro pins s σ H x y v u Q I rx ry ⟨r, d1, d2, P, hr, i1, i2, ho, k⟩
  obtain ⟨a1, b1⟩ := shaped_py i1 ho.1
  obtain ⟨a2, b2⟩ := shaped_py i2 ho.2.1
  exact op_neD hu pins s σ H _ _ v u Q I rx ry ⟨_, _, a1, a2, b1, b2, k _ _ H ho.2.2 (Ext.refl H) (.bl _)⟩
def flat : D → Bool | .non => true | .bl _ => true | .int _ => true | .str _ => true | _ => false
theorem flat_V {K : PySem.W.Frag} {N : Addr → Prop} {H : Hp} {v : V} {d : D} (h : Is K N H v d) (f : flat d = true) : flatV v = true := by cases h <;> first | rfl | cases f
theorem flat_all {K : PySem.W.Frag} {N : Addr → Prop} {H : Hp} : ∀ {vs : List V} {ds : List D}, IsAll K N H vs ds → ds.all flat = true → vs.all flatV = true
  | _, _, .nil, _ => rfl
  | _, _, .cons h t, f => by
    rw [List.all_cons, Bool.and_eq_true] at f ⊢
    exact ⟨flat_V h f.1, flat_all t f.2⟩
theorem eqV_D {K : PySem.W.Frag} {N : Addr → Prop} {H : Hp} {v w : V} {d e : D} (h : Is K N H v d) (g : Is K N H w e) (f : flat d = true) (f' : flat e = true) : eqV v w = eqD d e := by
  cases h <;> cases g <;> first | rfl | cases f | cases f' | (simp [eqV, eqD, py, PyData.eqv])
theorem any_D {K : PySem.W.Frag} {N : Addr → Prop} {H : Hp} {v : V} {d : D} (h : Is K N H v d) (f : flat d = true) : ∀ {vs : List V} {ds : List D}, IsAll K N H vs ds → ds.all flat = true → inV v vs = ds.any fun z => eqD z d
  | _, _, .nil, _ => rfl
  | _, _, .cons g t, q => by
    rw [List.all_cons, Bool.and_eq_true] at q
    have ih := any_D h f t q.2
    unfold inV at ih ⊢
    rw [List.any_cons, List.any_cons, ih, eqV_D g h q.1 f]
theorem any_pys (d : D) : ∀ ds : List D, ((pys ds).any fun z => PyData.eqv z (py d)) = ds.any fun z => eqD z d
  | [] => rfl
  | e :: ds => by simp only [pys, List.any_cons]; rw [any_pys d ds]; rfl
def memD (d : D) (ds : List D) : Bool := ds.any fun z => eqD z d
def sub1 : Str → Option Nat | ⟨⟨[c]⟩⟩ => some c | _ => none
/-- in: flat things in a tuple or list; anything in a list; one sign in a text -/
def oInP (neg : Bool) : O2 := fun x y k => match y with
  | .lst ds => dep x ≤ 64 ∧ deps ds ≤ 63 ∧ k (.bl (cond neg (!memD x ds) (memD x ds)))
  | .tup ds => flat x = true ∧ ds.all flat = true ∧ k (.bl (cond neg (!memD x ds) (memD x ds)))
  | .str z => match x with
    | .str w => match sub1 w with
      | some c => k (.bl (cond neg (!decide (c ∈ z.cps.toList)) (decide (c ∈ z.cps.toList))))
      | none => k (.bl (cond neg (!(!(Builtin.Str.occurrences z w 0 z.length 1).isEmpty)) (!(Builtin.Str.occurrences z w 0 z.length 1).isEmpty)))
    | _ => False
  | _ => False
structure oIn (neg : Bool) (x y : D) (k : D → Prop) : Prop where
  ex : oInP neg x y k
theorem sub1_some {w : Str} {c : Nat} (h : sub1 w = some c) : w = ⟨#[c]⟩ := by
  obtain ⟨⟨l⟩⟩ := w
  match l, h with
  | [x], h => simp only [sub1] at h; cases h; rfl
theorem p_in (hu : X.A.units + 65 < cLine) : OpR X (compareOp .In) (rD X.K (oIn false)) := by
  rintro pins s σ H x y v u Q I rx ry ⟨r, d1, d2, P, hr, i1, i2, ho, k⟩
  obtain ⟨ho⟩ := ho
  cases i2 <;> try exact ho.elim
  · rename_i z hz
    cases i1 <;> try exact ho.elim
    rename_i w hw
    simp only [oInP] at ho
    split at ho
    · rename_i c hc
      have e := sub1_some hc
      subst e
      exact op_in_sign pins s σ H _ _ v u Q I rx ry ⟨_, _, rfl, rfl, k _ _ H ho (Ext.refl H) (.bl _)⟩
    · exact op_in_str pins s σ H _ _ v u Q I rx ry ⟨_, _, rfl, rfl, k _ _ H ho (Ext.refl H) (.bl _)⟩
  · rename_i n h a
    obtain ⟨a1, b1⟩ := shaped_py i1 ho.1
    obtain ⟨a2, b2⟩ := shaped_py (N := mem r) (.lst n h a) (by simp only [dep]; have := ho.2.1; omega)
    simp only [py] at a2 b2
    refine op_inD hu pins s σ H _ _ v u Q I rx ry ⟨_, _, a1, a2, b1, b2, ?_⟩
    rw [any_pys]
    exact k _ _ H ho.2.2 (Ext.refl H) (.bl _)
  · rename_i h a
    refine op_in_seq pins s σ H _ _ v u Q I rx ry ⟨_, _, rfl, .inr h, flat_V i1 ho.1, flat_all a ho.2.1, ?_⟩
    rw [if_neg Bool.false_ne_true, any_D i1 ho.1 a ho.2.1]
    exact k _ _ H ho.2.2 (Ext.refl H) (.bl _)
theorem p_notIn (hu : X.A.units + 65 < cLine) : OpR X (compareOp .NotIn) (rD X.K (oIn true)) := by
  rintro pins s σ H x y v u Q I rx ry ⟨r, d1, d2, P, hr, i1, i2, ho, k⟩
  obtain ⟨ho⟩ := ho
  cases i2 <;> try exact ho.elim
  · rename_i z hz
    cases i1 <;> try exact ho.elim
    rename_i w hw
    simp only [oInP] at ho
    split at ho
    · rename_i c hc
      have e := sub1_some hc
      subst e
      exact op_notIn_sign pins s σ H _ _ v u Q I rx ry ⟨_, _, rfl, rfl, k _ _ H ho (Ext.refl H) (.bl _)⟩
    · exact op_notin_str pins s σ H _ _ v u Q I rx ry ⟨_, _, rfl, rfl, k _ _ H ho (Ext.refl H) (.bl _)⟩
  · rename_i n h a
    obtain ⟨a1, b1⟩ := shaped_py i1 ho.1
    obtain ⟨a2, b2⟩ := shaped_py (N := mem r) (.lst n h a) (by simp only [dep]; have := ho.2.1; omega)
    simp only [py] at a2 b2
    refine op_notInD hu pins s σ H _ _ v u Q I rx ry ⟨_, _, a1, a2, b1, b2, ?_⟩
    rw [any_pys]
    exact k _ _ H ho.2.2 (Ext.refl H) (.bl _)
  · rename_i h a
    refine op_notIn_seq pins s σ H _ _ v u Q I rx ry ⟨_, _, rfl, .inr h, flat_V i1 ho.1, flat_all a ho.2.1, ?_⟩
    rw [if_pos rfl, any_D i1 ho.1 a ho.2.1]
    exact k _ _ H ho.2.2 (Ext.refl H) (.bl _)
end
end G
namespace G
open PySem PySem.Spec L2
section
variable {X : Cx} {W : WX} {a b c : Expr} {ta tb tc : AT} {pos : Pos}
theorem tdb_bind {K : PySem.W.Frag} {W : WX} {XR : XT} {σ : L2.St} {H : Hp} {δ : Dl} {r : Rs} {t : AB} {P : Bool → Rs → Prop} {Q : Bool → Hp → Prop} (o : Ok K W XR r δ σ H) (h : t XR δ r P) (k : ∀ d r' H', P d r' → Ok K W XR r' δ σ H' → Kp K r H r' H' → Q d H') : TDB K W t σ H Q := ⟨XR, δ, r, P, o, h, k⟩
section
variable {K : PySem.W.Frag}
def bAnd (t u : AB) : AB := fun x δ r P => t x δ r fun b r1 => (b = true → u x δ r1 P) ∧ (b = false → P false r1)
def bOr (t u : AB) : AB := fun x δ r P => t x δ r fun b r1 => (b = true → P true r1) ∧ (b = false → u x δ r1 P)
def bNot (t : AB) : AB := fun x δ r P => t x δ r fun b r1 => P (!b) r1
def aAnd (t u : AT) : AT := fun x δ r P => t x δ r fun d r1 => match d with | .bl b => (b = true → u x δ r1 P) ∧ (b = false → P (.bl false) r1) | _ => False
def aIf (t : AB) (u w : AT) : AT := fun x δ r P => t x δ r fun b r1 => (b = true → u x δ r1 P) ∧ (b = false → w x δ r1 P)
end
variable {bA bB : AB} {rest : List Expr}
theorem w_and1 (ha : PDB X W a bA) : PDW X W (.BoolOp .And [a] pos) bA := pw_and1 ha
theorem w_or1 (ha : PDB X W a bA) : PDW X W (.BoolOp .Or [a] pos) bA := pw_or1 ha
theorem w_and (ha : PDB X W a bA) (hb : PDW X W (.BoolOp .And (b :: rest) pos) bB) : PDW X W (.BoolOp .And (a :: b :: rest) pos) (bAnd bA bB) := imW (pw_and ha hb) fun σ H Q q => by
  obtain ⟨XR, δ, r, P, ok, h, k⟩ := q
  refine tdb_bind ok h fun d r1 H1 h1 o1 k1 => ?_
  cases d with
  | true => exact tdb_bind o1 (h1.1 rfl) fun d r2 H2 h2 o2 k2 => k d r2 H2 h2 o2 (k1.trans k2)
  | false => exact k _ r1 H1 (h1.2 rfl) o1 k1
theorem w_or (ha : PDB X W a bA) (hb : PDW X W (.BoolOp .Or (b :: rest) pos) bB) : PDW X W (.BoolOp .Or (a :: b :: rest) pos) (bOr bA bB) := imW (pw_or ha hb) fun σ H Q q => by
  obtain ⟨XR, δ, r, P, ok, h, k⟩ := q
  refine tdb_bind ok h fun d r1 H1 h1 o1 k1 => ?_
  cases d with
  | false => exact tdb_bind o1 (h1.2 rfl) fun d r2 H2 h2 o2 k2 => k d r2 H2 h2 o2 (k1.trans k2)
  | true => exact k _ r1 H1 (h1.1 rfl) o1 k1
theorem b_w (h : PDW X W a bA) : PDB X W a bA := PW.pt h
theorem b_not (ha : PDB X W a bA) : PDB X W (.UnaryOp .Not a pos) (bNot bA) := imT (pt_not ha) fun σ H Q q => by
  obtain ⟨XR, δ, r, P, ok, h, k⟩ := q
  exact tdb_bind ok h fun d r1 H1 h1 o1 k1 => k _ r1 H1 h1 o1 k1
theorem d_one {op} (h : PD X W a ta) : PD X W (.BoolOp op [a] pos) ta := pe_one h
theorem d_and (ha : PD X W a ta) (hb : PD X W (.BoolOp .And (b :: rest) pos) tb) : PD X W (.BoolOp .And (a :: b :: rest) pos) (aAnd ta tb) := imE (pe_and ha hb) fun σ H Q q => by
  obtain ⟨XR, δ, r, P, ok, h, k⟩ := q
  refine td_bind ok h fun d r1 v H1 h1 o1 k1 i1 => ?_
  cases i1 <;> try exact h1.elim
  rename_i d
  refine ⟨d, rfl, ?_⟩
  cases d with
  | true => exact td_bind o1 (h1.1 rfl) fun d r2 v H2 h2 o2 k2 i2 => k d r2 v H2 h2 o2 (k1.trans k2) i2
  | false => exact k _ r1 _ H1 (h1.2 rfl) o1 k1 (.bl _)
theorem d_if (hc : PDB X W c bA) (ha : PD X W a ta) (hb : PD X W b tb) : PD X W (.IfExp c a b pos) (aIf bA ta tb) := imE (pe_ifExp hc ha hb) fun σ H Q q => by
  obtain ⟨XR, δ, r, P, ok, h, k⟩ := q
  refine tdb_bind ok h fun d r1 H1 h1 o1 k1 => ?_
  cases d with
  | true => exact td_bind o1 (h1.1 rfl) fun d r2 v H2 h2 o2 k2 i2 => k d r2 v H2 h2 o2 (k1.trans k2) i2
  | false => exact td_bind o1 (h1.2 rfl) fun d r2 v H2 h2 o2 k2 i2 => k d r2 v H2 h2 o2 (k1.trans k2) i2
def oNeg (x : D) (k : D → Prop) : Prop := match x with | .int i => k (.int (-i)) | _ => False
def aNeg (t : AT) : AT := fun x δ r P => t x δ r fun d r1 => oNeg d fun d => P d r1
theorem d_neg (ha : PD X W a ta) : PD X W (.UnaryOp .USub a pos) (aNeg ta) := imE (pe_un un_neg ha) fun σ H Q q => by
  obtain ⟨XR, δ, r, P, ok, h, k⟩ := q
  refine td_bind ok h fun d r1 v H1 h1 o1 k1 i1 => ?_
  cases i1 <;> try exact h1.elim
  exact ⟨_, rfl, k _ r1 _ H1 h1 o1 k1 (.int _)⟩
/-- a < b <= c -/
def aChain (o o' : O2) (ta tb tc : AT) : AT := fun x δ r P => ta x δ r fun d1 r1 => tb x δ r1 fun d2 r2 => o d1 d2 fun d => match d with
  | .bl b => (b = true → tc x δ r2 fun d3 r3 => o' d2 d3 fun d => P d r3) ∧ (b = false → P (.bl false) r2)
  | _ => False
theorem td_chain {K : PySem.W.Frag} {W : WX} {o o' : O2} {ta tb tc : AT} {σ : L2.St} {H : Hp} {Q : VK} (q : TD K W (aChain o o' ta tb tc) σ H Q) : tChain (rD K o) (rD K o') (TD K W ta) (TD K W tb) (TD K W tc) σ H Q := by
  obtain ⟨XR, δ, r, P, ok, h, k⟩ := q
  refine td_bind ok h fun d1 r1 v1 H1 h1 o1 k1 i1 => td_bind o1 h1 fun d2 r2 v2 H2 h2 o2 k2 i2 => ?_
  refine ⟨r2, d1, d2, _, o2.r, k2 _ _ i1, i2, h2, fun d v H' p e i => ?_⟩
  cases i <;> try exact p.elim
  rename_i d
  refine ⟨d, rfl, ?_⟩
  cases d with
  | true =>
    show TD K W tc σ H' _
    refine td_bind (o2.ext e) (p.1 rfl) fun d3 r3 v3 H3 h3 o3 k3 i3 => ?_
    exact ⟨r3, d2, d3, fun d => P d r3, o3.r, k3 _ _ (is_ext e _ _ i2), i3, h3, fun d v H' p e' i => k d r3 v H' p (o3.ext e') ((((k1.trans k2).trans (Kp.ext e)).trans k3).trans (Kp.ext e')) i⟩
  | false => exact k _ r2 _ H' (p.2 rfl) (o2.ext e) ((k1.trans k2).trans (Kp.ext e)) (.bl _)
theorem b_chain {op op' : CmpOp} {o o' : O2} (ho : OpR X (compareOp op) (rD X.K o)) (ho' : OpR X (compareOp op') (rD X.K o')) (ha : PD X W a ta) (hb : PD X W b tb) (hc : PD X W c tc)
    (hm : lastMarks [op, op'] [b, c] = false := by with_unfolding_all rfl) : PDB X W (.Compare a [op, op'] [b, c] pos) (aTest (aChain o o' ta tb tc)) := imT (pt_chain ho ho' ha hb hc hm) fun _ _ _ q => tdb_test (fun _ q => td_chain q) q
def oIxP : O2 := fun x y k => match x, y with
  | .lst ds, .int i => match atI ds i with | some d => k d | none => False
  | .tup ds, .int i => match atI ds i with | some d => k d | none => False
  | .str z, .int i => match atI z.cps.toList i with | some c => k (.str ⟨#[c]⟩) | none => False
  | _, _ => False
structure oIx (x y : D) (k : D → Prop) : Prop where
  ex : oIxP x y k
theorem at_all {K : PySem.W.Frag} {N : Addr → Prop} {H : Hp} {vs : List V} {ds : List D} {i : Int} {d : D} (h : IsAll K N H vs ds) (e : atI ds i = some d) : ∃ v, atI vs i = some v ∧ Is K N H v d := by
  unfold atI at e ⊢
  rw [h.length]
  cases q : ixN ds.length i with
  | none => rw [q] at e; cases e
  | some j =>
    rw [q] at e
    exact h.getD e
theorem sok_sign {z : Str} {i : Int} {c : Nat} (h : sok z) (e : atI z.cps.toList i = some c) : sok ⟨#[c]⟩ := by
  refine ⟨?_, by show 1 ≤ 1000000; decide⟩
  unfold atI at e
  cases q : ixN z.cps.toList.length i with
  | none => rw [q] at e; cases e
  | some j =>
    rw [q] at e
    have hm := List.mem_of_getElem? e
    have h1 : z.cps.all (fun c => decide (c < 0x110000)) = true := h.1
    rw [← Array.all_toList, List.all_eq_true] at h1
    show (#[c] : Array Nat).all _ = true
    simpa using h1 c hm
theorem p_ix : IxR X (rD X.K oIx) := by
  rintro value slice pins s σ H x y v u Q I rx ry ⟨r, d1, d2, P, hr, i1, i2, ho, k⟩ hs
  obtain ⟨ho⟩ := ho
  cases i1 <;> cases i2 <;> try exact ho.elim
  · rename_i z hz i
    simp only [oIxP] at ho
    split at ho
    · rename_i c hc
      exact ix_str value slice pins s σ H _ _ v u Q I rx ry ⟨_, _, _, rfl, rfl, Nat.le_trans hz.2 (by decide), hc, k _ _ H ho (Ext.refl H) (.str (sok_sign hz hc))⟩ hs
    · exact ho.elim
  · rename_i n h a i
    simp only [oIxP] at ho
    split at ho
    · rename_i d hd
      obtain ⟨w, hw, iw⟩ := at_all a hd
      exact ix_list value slice pins s σ H _ _ v u Q I rx ry ⟨_, _, _, _, rfl, rfl, SqL.of h, hw, k _ _ H ho (Ext.refl H) iw⟩ hs
    · exact ho.elim
  · rename_i h a i
    simp only [oIxP] at ho
    split at ho
    · rename_i d hd
      obtain ⟨w, hw, iw⟩ := at_all a hd
      exact ix_tup value slice pins s σ H _ _ v u Q I rx ry ⟨_, _, _, _, rfl, rfl, h, hw, k _ _ H ho (Ext.refl H) iw⟩ hs
    · exact ho.elim
theorem d_ix (ha : PD X W a ta) (hb : PD X W b tb) (hs : PlainIx b := by exact fun _ _ => rfl) : PD X W (.Subscript a b pos) (aOp oIx ta tb) := imE (pe_ix p_ix ha hb hs) fun _ _ _ q => td_op q
abbrev AO := XT → Dl → Rs → (Option Int → Rs → Prop) → Prop
section
variable {K : PySem.W.Frag}
def aNo : AO := fun x _ r P => P none r
def aPart (t : AT) : AO := fun x δ r P => t x δ r fun d r1 => match d with | .int i => P (some i) r1 | _ => False
def TDO (K : PySem.W.Frag) (W : WX) (t : AO) : TO := fun σ H Q => ∃ XR δ r P, Ok K W XR r δ σ H ∧ t XR δ r P ∧ ∀ o r' H', P o r' → Ok K W XR r' δ σ H' → Kp K r H r' H' → Q o H'
end
def PDO (X : Cx) (W : WX) (e : Option Expr) (t : AO) : Prop := PO X e (TDO X.K W t)
theorem imO {X : Cx} {e : Option Expr} {t t' : TO} (h : PO X e t) (i : ∀ σ H Q, t' σ H Q → t σ H Q) : PO X e t' := ⟨fun pins s σ H Q I q => h.run pins s σ H Q I (i σ H Q q)⟩
theorem o_no : PDO X W none aNo := imO po_none fun σ H Q q => by
  obtain ⟨XR, δ, r, P, ok, h, k⟩ := q
  exact k _ r H h ok Kp.refl
theorem o_some (h : PD X W a ta) : PDO X W (some a) (aPart ta) := imO (po_some h) fun σ H Q q => by
  obtain ⟨XR, δ, r, P, ok, h, k⟩ := q
  refine td_bind ok h fun d r1 v H1 h1 o1 k1 i1 => ?_
  cases i1 <;> try exact h1.elim
  exact ⟨_, rfl, k _ r1 H1 h1 o1 k1⟩
def cutD (xs : List D) (lo hi : Option Int) : List D := (xs.drop (HT.sIx xs.length 0 lo)).take (HT.sIx xs.length xs.length hi - HT.sIx xs.length 0 lo)
/-- x[lo:hi] -/
def oSlP (x : D) (lo hi : Option Int) (k : D → Prop) : Prop := match x with
  | .lst ds => k (.lst (cutD ds lo hi))
  | .tup ds => k (.tup (cutD ds lo hi))
  | .str z => k (.str (cutS z lo hi))
  | _ => False
structure oSl (x : D) (lo hi : Option Int) (k : D → Prop) : Prop where
  ex : oSlP x lo hi k
def aSl (t : AT) (lo hi : AO) : AT := fun x δ r P => t x δ r fun d r1 => lo x δ r1 fun l r2 => hi x δ r2 fun u r3 => oSl d l u fun d => P d r3
def rSlD (K : PySem.W.Frag) : V → Option Int → Option Int → Hp → VK → Prop := fun x lo hi H Q => ∃ (r : Rs) (d : D) (P : D → Prop), Rok K r H ∧ Is K (mem r) H x d ∧ oSl d lo hi P ∧ ∀ d v H', P d → Ext H H' → Is K (mem r) H' v d → Q v H'
theorem cut_all {K : PySem.W.Frag} {N : Addr → Prop} {H : Hp} {vs : List V} {ds : List D} (lo hi : Option Int) (h : IsAll K N H vs ds) : IsAll K N H (cutV vs lo hi) (cutD ds lo hi) := by
  unfold cutV cutD
  rw [h.length]
  exact (h.drop _).take _
theorem sok_cut {z : Str} (h : sok z) (lo hi : Option Int) : sok (cutS z lo hi) := by
  refine ⟨?_, ?_⟩
  · have h1 : z.cps.all (fun c => decide (c < 0x110000)) = true := h.1
    rw [← Array.all_toList, List.all_eq_true] at h1
    show (cutS z lo hi).cps.all (fun c => decide (c < 0x110000)) = true
    rw [← Array.all_toList, List.all_eq_true]
    intro c hc
    unfold cutS at hc
    exact h1 c (List.mem_of_mem_drop (List.mem_of_mem_take (by simpa using hc)))
  · have := h.2
    unfold cutS Str.length at *
    simp only [List.size_toArray, List.length_take, List.length_drop, Array.length_toList]
    omega
theorem p_sl : SlR X (rSlD X.K) := by
  rintro pins s σ H x v vl vu lo hi sl Q I rx hs pl pu ⟨r, d, P, hr, i, ho, k⟩
  obtain ⟨ho⟩ := ho
  cases i <;> try exact ho.elim
  · rename_i hz
    exact sl_str pins s σ H _ v vl vu lo hi sl Q I rx hs pl pu ⟨_, rfl, Nat.le_trans hz.2 (by decide), k _ _ H ho (Ext.refl H) (.str (sok_cut hz lo hi))⟩
  · rename_i n h a
    exact sl_list pins s σ H _ v vl vu lo hi sl Q I rx hs pl pu ⟨_, _, rfl, SqL.of h, fun p hp => k _ _ _ ho (Ext.new hp) (new_lst hr hp (cut_all lo hi a))⟩
  · rename_i h a
    refine sl_tupA pins s σ H _ v vl vu lo hi sl Q I rx hs pl pu ⟨_, _, rfl, h, fun z => ?_, fun _ p hp => k _ _ _ ho (Ext.new hp) (new_tup hp (cut_all lo hi a))⟩
    have e : ∀ ds : List D, HT.sIx ds.length 0 lo = 0 ∧ HT.sIx ds.length ds.length hi = ds.length → cutD ds lo hi = ds := fun ds ⟨z1, z2⟩ => by
      unfold cutD
      rw [z1, z2]
      simp
    rw [a.length] at z
    have ho : P (.tup (cutD _ lo hi)) := ho
    rw [e _ z] at ho
    exact k _ _ H ho (Ext.refl H) (.tup h a)
theorem d_sl {lo hi : Option Expr} {tl th : AO} {p2 : Pos} (ha : PD X W a ta) (hl : PDO X W lo tl) (hh : PDO X W hi th) : PD X W (.Subscript a (.Slice lo hi none p2) pos) (aSl ta tl th) := imE (pe_slice p_sl ha hl hh) fun σ H Q q => by
  obtain ⟨XR, δ, r, P, ok, h, k⟩ := q
  refine td_bind ok h fun d r1 v H1 h1 o1 k1 i1 => ⟨_, δ, r1, _, o1, h1, fun l r2 H2 h2 o2 k2 => ⟨_, δ, r2, _, o2, h2, fun u r3 H3 h3 o3 k3 => ?_⟩⟩
  exact ⟨r3, d, fun d => P d r3, o3.r, k3 _ _ (k2 _ _ i1), h3, fun d v H' p e i => k d r3 v H' p (o3.ext e) (((k1.trans k2).trans k3).trans (Kp.ext e)) i⟩
abbrev OC := List D → (D → Prop) → Prop
def rC (K : PySem.W.Frag) (o : OC) : List V → Hp → VK → Prop := fun vs H Q => ∃ (r : Rs) (ds : List D) (P : D → Prop), Rok K r H ∧ IsAll K (mem r) H vs ds ∧ o ds P ∧ ∀ d v H', P d → Ext H H' → Is K (mem r) H' v d → Q v H'
def aBlt (o : OC) (l : AL) : AT := fun x δ r P => l x δ r fun ds r1 => o ds fun d => P d r1
variable {e : Expr} {es : List Expr} {x : Str} {p : Pos} {l : AL} {o : OC} {bid T : String}
theorem tcb {K : PySem.W.Frag} {W : WX} {o : OC} {l : AL} {σ : L2.St} {H : Hp} {Q : VK} (q : TD K W (aBlt o l) σ H Q) : tCB (rC K o) (TDL K W l) σ H Q := by
  obtain ⟨XR, δ, r, P, ok, h, k⟩ := q
  refine tdl_bind ok h fun ds r1 vs H1 h1 o1 k1 i1 => ⟨r1, ds, fun d => P d r1, o1.r, i1, h1, fun d v H' p e i => k d r1 v H' p (o1.ext e) (k1.trans (Kp.ext e)) i⟩
theorem d_blt (hc : CallR X (.builtin bid) (rC X.K o)) (hg : Gl X x) (hm : X.mg x = none) (ha : PDL X W (e :: es) l) (hv : bootBuiltins x = some (.builtin bid) := by decide +kernel) (hn : x ≠ "__name__" := by decide) (hdb : (x == ("__debug__" : Str)) = false := by decide)
    (he : starEach (e :: es) X.env = (false, eval e X.env) :: starEach es X.env := by rfl) (hpl : (backTo pos (starEach es X.env)).any (·.1) = false := by rfl) : PD X W (.Call (.Name x p) (e :: es) [] pos) (aBlt o l) :=
  imE (pe_callB hc hg hm hv ha hn hdb he hpl) fun _ _ _ q => tcb q
theorem d_ty (hc : CallR X (.type T) (rC X.K o)) (hg : Gl X x) (hm : X.mg x = none) (ha : PDL X W (e :: es) l) (hv : bootBuiltins x = some (.type T) := by decide +kernel) (hn : x ≠ "__name__" := by decide) (hdb : (x == ("__debug__" : Str)) = false := by decide)
    (he : starEach (e :: es) X.env = (false, eval e X.env) :: starEach es X.env := by rfl) (hpl : (backTo pos (starEach es X.env)).any (·.1) = false := by rfl) : PD X W (.Call (.Name x p) (e :: es) [] pos) (aBlt o l) :=
  imE (pe_callTy hc hg hm hv ha hn hdb he hpl) fun _ _ _ q => tcb q
def oLen : OC := fun ds k => match ds with
  | [.lst xs] => xs.length ≤ sizeLine → k (.int xs.length) | [.tup xs] => xs.length ≤ sizeLine → k (.int xs.length) | [.str z] => k (.int z.length) | _ => False
theorem c_len : CallR X (.builtin "len") (rC X.K oLen) := by
  rintro pins s σ H vs us Q I rv ⟨r, ds, P, hr, i, ho, k⟩
  cases i with
  | nil => exact ho.elim
  | cons i t =>
    cases t with
    | cons _ _ => cases i <;> exact ho.elim
    | nil =>
      cases i <;> try exact ho.elim
      · rename_i hz
        exact call_len pins s σ H _ us Q I rv ⟨_, _, rfl, ⟨Nat.le_trans hz.2 (by decide), rfl⟩, k _ _ H ho (Ext.refl H) (.int _)⟩
      · rename_i n h a
        obtain ⟨_, _, _, hz⟩ := I.list (SqL.of h)
        exact call_len pins s σ H _ us Q I rv ⟨_, _, rfl, .inl ⟨_, SqL.of h, rfl⟩, by rw [a.length] at hz ⊢; exact k _ _ H (ho hz) (Ext.refl H) (.int _)⟩
      · rename_i h a
        obtain ⟨_, _, _, hz⟩ := I.tuple h
        exact call_len pins s σ H _ us Q I rv ⟨_, _, rfl, .inr ⟨_, h, rfl⟩, by rw [a.length] at hz ⊢; exact k _ _ H (ho hz) (Ext.refl H) (.int _)⟩
def oList : OC := fun ds k => match ds with | [.lst xs] => k (.lst xs) | [.tup xs] => k (.lst xs) | _ => False
theorem c_list : CallR X (.type "list") (rC X.K oList) := by
  rintro pins s σ H vs us Q I rv ⟨r, ds, P, hr, i, ho, k⟩
  cases i with
  | nil => exact ho.elim
  | cons i t =>
    cases t with
    | cons _ _ => cases i <;> exact ho.elim
    | nil =>
      cases i <;> try exact ho.elim
      · rename_i n h a
        exact call_list_of pins s σ H _ us Q I rv ⟨_, _, rfl, .inl (SqL.of h), fun p hp => k _ _ _ ho (Ext.new hp) (new_lst hr hp a)⟩
      · rename_i h a
        exact call_list_of pins s σ H _ us Q I rv ⟨_, _, rfl, .inr h, fun p hp => k _ _ _ ho (Ext.new hp) (new_lst hr hp a)⟩
def bls : List D → Option (List Bool)
  | [] => some []
  | .bl b :: r => (bls r).map (b :: ·)
  | _ :: _ => none
theorem bls_map : ∀ (bs : List Bool), bls (bs.map .bl) = some bs
  | [] => rfl
  | b :: bs => by simp [bls, bls_map bs]
theorem bls_all {K : PySem.W.Frag} {N : Addr → Prop} {H : Hp} : ∀ {vs : List V} {ds : List D} {bs : List Bool}, IsAll K N H vs ds → bls ds = some bs → vs = bs.map V.bl
  | _, _, _, .nil, e => by cases e; rfl
  | _, d :: ds, bs, .cons i t, e => by
    cases i <;> try (simp [bls] at e; done)
    simp only [bls] at e
    cases q : bls ds with
    | none => rw [q] at e; cases e
    | some cs =>
      rw [q] at e
      cases e
      rw [bls_all t q]
      rfl
def oAllP (f : List Bool → Bool) : OC := fun ds k => match ds with | [.lst xs] => (match bls xs with | some bs => k (.bl (f bs)) | none => False) | _ => False
structure oAll (f : List Bool → Bool) (ds : List D) (k : D → Prop) : Prop where
  ex : oAllP f ds k
theorem c_all (hc : X.calm = true := by rfl) : CallR X (.builtin "all") (rC X.K (oAll fun bs => bs.all id)) := by
  rintro pins s σ H vs us Q I rv ⟨r, ds, P, hr, i, ho, k⟩
  obtain ⟨ho⟩ := ho
  cases i with
  | nil => exact ho.elim
  | cons i t =>
    cases t with
    | cons _ _ => cases i <;> exact ho.elim
    | nil =>
      cases i <;> try exact ho.elim
      rename_i n h a
      simp only [oAllP] at ho
      split at ho
      · rename_i bs hb
        have e := bls_all a hb
        subst e
        exact cr_all hc pins s σ H _ us Q I rv ⟨_, _, rfl, SqL.of h, k _ _ H ho (Ext.refl H) (.bl _)⟩
      · exact ho.elim
def tyD : D → String
  | .non => "NoneType" | .bl _ => "bool" | .int _ => "int" | .str _ => "str" | .lst _ => "list" | .tup _ => "tuple" | .dct _ _ => "dict" | _ => ""
def nad : D → Bool | .adr _ => false | .ins _ _ _ => false | _ => true
theorem tyX {K : PySem.W.Frag} {N : Addr → Prop} {H : Hp} {v : V} {d : D} (h : Is K N H v d) (n : nad d = true) : TyX K H v (.type (tyD d)) := by
  cases h with
  | non => exact .base .non
  | bl b => exact .base (.bl b)
  | int i => exact .base (.int i)
  | str _ => exact .base (.str _)
  | adr a => cases n
  | ins _ _ _ _ _ => cases n
  | dct n0 s e a => exact .base (.dK s)
  | lst _ h _ => exact .base (.lst h)
  | tup h _ =>
    rcases h with (h | ⟨o, h⟩) | ⟨o, its, k, h1, h2, _⟩
    · exact .base (.tup h)
    · exact .fTuple h
    · exact .kTuple h1 h2
inductive Ty5 : String → Prop | str : Ty5 "str" | int : Ty5 "int" | bool : Ty5 "bool" | list : Ty5 "list" | tuple : Ty5 "tuple"
def tyB (T n : String) : Bool := T == n || (T == "int" && n == "bool")
def isTy (T : String) (d : D) : Bool := tyB T (tyD d)
theorem kk6 : (ks6.all fun n => ks5.all fun T => decide (kitB n T = some (tyB T n))) = true := by decide +kernel
theorem kk {n T : String} (h : n ∈ ks6) (g : T ∈ ks5) : kitB n T = some (tyB T n) := by
  have q := List.all_eq_true.mp (List.all_eq_true.mp kk6 n h) T g
  exact of_decide_eq_true q
theorem kit5 {K : PySem.W.Frag} {T : String} (t : Ty5 T) (d : D) (n : nad d = true) : PySem.W.kitOne K (.type (tyD d)) (.type T) = some (isTy T d) := by
  refine kit_ty (kk ?_ ?_)
  · cases d <;> first | (cases n; done) | simp [tyD, ks6]
  · cases t <;> simp [ks5]
def noAdr : D → Bool | .adr _ => false | _ => true
theorem kit_own {K : PySem.W.Frag} {C : Addr} {T : String} (t : Ty5 T) (h : ∀ T ∈ ks5, PySem.W.subIn K (.ref C) (.type T) = some false) : PySem.W.kitOne K (.ref C) (.type T) = some false := by
  have hm : T ∈ ks5 := by cases t <;> simp [ks5]
  have km : PySem.W.kitMeta T = true := by cases t <;> decide +kernel
  unfold PySem.W.kitOne
  rw [if_neg (show ¬ ((Value.ref C == Value.type T) = true) by intro e; cases (beq_iff_eq.mp e))]
  show (if PySem.W.kitMeta T = true then PySem.W.subIn K (.ref C) (.type T) else none) = some false
  rw [if_pos km]
  exact h T hm
theorem tyX2 {K : PySem.W.Frag} {N : Addr → Prop} {H : Hp} {v : V} {d : D} (h : Is K N H v d) (n : noAdr d = true) : ∃ t, TyX K H v t ∧ ∀ T, Ty5 T → PySem.W.kitOne K t (.type T) = some (isTy T d) := by
  cases d with
  | adr a => cases n
  | ins C fs ds =>
    cases h with
    | ins n s e g a =>
      refine ⟨_, .base (.ins s g.cls g.p.kls g.p.get g.p.tak g.p.mro), fun T t => ?_⟩
      rw [kit_own t g.p.sub]
      cases t <;> rfl
  | non => exact ⟨_, tyX h rfl, fun T t => kit5 t _ rfl⟩
  | bl b => exact ⟨_, tyX h rfl, fun T t => kit5 t _ rfl⟩
  | int i => exact ⟨_, tyX h rfl, fun T t => kit5 t _ rfl⟩
  | str x => exact ⟨_, tyX h rfl, fun T t => kit5 t _ rfl⟩
  | lst ds => exact ⟨_, tyX h rfl, fun T t => kit5 t _ rfl⟩
  | tup ds => exact ⟨_, tyX h rfl, fun T t => kit5 t _ rfl⟩
  | dct ks ds => exact ⟨_, tyX h rfl, fun T t => kit5 t _ rfl⟩
/-- isinstance(x, T) -/
def aIsi (T : String) (t : AT) : AT := fun x δ r P => t x δ r fun d r1 => match d with | .adr _ => False | d => P (.bl (isTy T d)) r1
theorem d_isi {q : Pos} {y : Str} (ht : Ty5 T) (hg : Gl X "isinstance") (hm : X.mg "isinstance" = none) (ha : PD X W a ta) (gy : Gl X y) (my : X.mg y = none) (by_ : bootBuiltins y = some (.type T) := by decide +kernel) (hny : y ≠ "__name__" := by decide) (hdy : (y == ("__debug__" : Str)) = false := by decide)
    (he : starEach [a, .Name y q] X.env = (false, eval a X.env) :: starEach [.Name y q] X.env := by rfl) (hpl : (backTo pos (starEach [.Name y q] X.env)).any (·.1) = false := by rfl) (he2 : starEach [.Name y q] X.env = (false, eval (.Name y q) X.env) :: starEach [] X.env := by rfl) :
    PD X W (.Call (.Name "isinstance" p) [a, .Name y q] [] pos) (aIsi T ta) := imE (pe_callB call_isi hg hm (by decide +kernel) (pa_cons ha (pa_cons (pe_bltn (v := .ty T) gy my by_ rfl hny hdy) pa_nil he2) he) (by decide) (by decide) he hpl) fun σ H Q q => by
  obtain ⟨XR, δ, r, P, ok, h, k⟩ := q
  refine td_bind ok h fun d r1 v H1 h1 o1 k1 i1 => ?_
  have n : noAdr d = true := by cases d <;> first | exact h1.elim | rfl
  obtain ⟨t0, ty0, kt0⟩ := tyX2 i1 n
  have h2 : P (.bl (isTy T d)) r1 := by cases d <;> first | exact h1.elim | exact h1
  exact ⟨v, .ty T, _, _, _, rfl, .ty T, ty0, kt0 T ht, k _ r1 _ H1 h2 o1 k1 (.bl _)⟩
/-- isinstance(x, (T, U)) -/
def aIsi2 (T U : String) (t : AT) : AT := fun x δ r P => t x δ r fun d r1 => match d with | .adr _ => False | d => P (.bl (isTy T d || isTy U d)) r1
theorem d_isi2 {U : String} {q q2 q3 : Pos} {kk} {y z : Str} (ht : Ty5 T) (hu : Ty5 U) (hg : Gl X "isinstance") (hm : X.mg "isinstance" = none) (ha : PD X W a ta) (gy : Gl X y) (my : X.mg y = none) (gz : Gl X z) (mz : X.mg z = none) (by_ : bootBuiltins y = some (.type T) := by decide +kernel) (bz : bootBuiltins z = some (.type U) := by decide +kernel)
    (hny : y ≠ "__name__" := by decide) (hdy : (y == ("__debug__" : Str)) = false := by decide) (hnz : z ≠ "__name__" := by decide) (hdz : (z == ("__debug__" : Str)) = false := by decide)
    (he : starEach [a, .Tuple [.Name y q, .Name z q2] kk q3] X.env = (false, eval a X.env) :: starEach [.Tuple [.Name y q, .Name z q2] kk q3] X.env := by rfl) (hpl : (backTo pos (starEach [.Tuple [.Name y q, .Name z q2] kk q3] X.env)).any (·.1) = false := by rfl)
    (he2 : starEach [.Tuple [.Name y q, .Name z q2] kk q3] X.env = (false, eval (.Tuple [.Name y q, .Name z q2] kk q3) X.env) :: starEach [] X.env := by rfl)
    (he3 : starEach [.Name y q, .Name z q2] X.env = (false, eval (.Name y q) X.env) :: starEach [.Name z q2] X.env := by rfl) (he4 : starEach [.Name z q2] X.env = (false, eval (.Name z q2) X.env) :: starEach [] X.env := by rfl) :
    PD X W (.Call (.Name "isinstance" p) [a, .Tuple [.Name y q, .Name z q2] kk q3] [] pos) (aIsi2 T U ta) :=
  imE (pe_callB call_isiT hg hm (by decide +kernel) (pa_cons ha (pa_cons (pe_tup (pa_cons (pe_bltn (v := .ty T) gy my by_ rfl hny hdy) (pa_cons (pe_bltn (v := .ty U) gz mz bz rfl hnz hdz) pa_nil he4) he3)) pa_nil he2) he) (by decide) (by decide) he hpl) fun σ H Q q => by
  obtain ⟨XR, δ, r, P, ok, h, k⟩ := q
  refine td_bind ok h fun d r1 v H1 h1 o1 k1 i1 => ⟨(by decide : 2 ≤ sizeLine), fun tp htp => ?_⟩
  have n : noAdr d = true := by cases d <;> first | exact h1.elim | rfl
  obtain ⟨t0, ty0, kt0⟩ := tyX2 (is_ext (Ext.new htp (o := .tup [.ty T, .ty U])) _ _ i1) n
  have h2 : P (.bl (isTy T d || isTy U d)) r1 := by cases d <;> first | exact h1.elim | exact h1
  refine ⟨v, tp, _, _, [.type T, .type U], isTy T d || isTy U d, rfl, upd_same, .cons (.ty T) (.cons (.ty U) .nil), ty0, ?_, k _ r1 _ _ h2 (o1.new htp) (k1.trans (Kp.ext (Ext.new htp))) (.bl _)⟩
  exact kitAny_cons (kt0 T ht) (fun e => by rw [e, Bool.false_or]; exact kitAny_cons (kt0 U hu) (fun e => by rw [e]; exact kitAny_nil) (fun e => e)) (fun e => by rw [e]; rfl)
end
end G
namespace G
open PySem PySem.Spec L2
/-- what follows a statement -/
structure An where
  nx : Dl → Rs → Prop
  rt : D → Rs → Prop := fun _ _ => False
  bk : Dl → Rs → Prop := fun _ _ => False
  ct : Dl → Rs → Prop := fun _ _ => False
  xr : XT := fun _ _ _ _ _ => False
abbrev AS := An → Dl → Rs → Prop
structure Fin (K : PySem.W.Frag) (W : WX) (A : An) (r : Rs) (H : Hp) (D : Ends) : Prop where
  nx : ∀ δ' r' σ' H', A.nx δ' r' → Ok K W A.xr r' δ' σ' H' → Kp K r H r' H' → D.nx σ' H'
  rt : ∀ d r' v H', A.rt d r' → Rok K r' H' → Kp K r H r' H' → Is K (mem r') H' v d → D.rt v H'
  bk : ∀ δ' r' σ' H', A.bk δ' r' → Ok K W A.xr r' δ' σ' H' → Kp K r H r' H' → D.bk σ' H'
  ct : ∀ δ' r' σ' H', A.ct δ' r' → Ok K W A.xr r' δ' σ' H' → Kp K r H r' H' → D.ct σ' H'
theorem Fin.step {K : PySem.W.Frag} {W : WX} {A : An} {r r1 : Rs} {H H1 : Hp} {D : Ends} (f : Fin K W A r H D) (k : Kp K r H r1 H1) : Fin K W A r1 H1 D :=
  ⟨fun δ r' σ H' a o q => f.nx δ r' σ H' a o (k.trans q), fun d r' v H' a o q i => f.rt d r' v H' a o (k.trans q) i, fun δ r' σ H' a o q => f.bk δ r' σ H' a o (k.trans q), fun δ r' σ H' a o q => f.ct δ r' σ H' a o (k.trans q)⟩
def TSD (K : PySem.W.Frag) (W : WX) (t : AS) : TS := fun D σ H => ∃ δ r A, Ok K W A.xr r δ σ H ∧ t A δ r ∧ Fin K W A r H D
def PSD (X : Cx) (W : WX) (st : Stmt) (t : AS) : Prop := PS X st (TSD X.K W t)
def PBD (X : Cx) (W : WX) (st : List Stmt) (t : AS) : Prop := PSs X st (TSD X.K W t)
section
variable {K : PySem.W.Frag}
def sNext : AS := fun A δ r => A.nx δ r
def sSeq (t u : AS) : AS := fun A δ r => t { A with nx := fun δ' r' => u A δ' r' } δ r
def sExpr (t : AT) : AS := fun A δ r => t A.xr δ r fun _ r1 => A.nx δ r1
def sRet (t : AT) : AS := fun A δ r => t A.xr δ r A.rt
def sIf (c : AB) (t u : AS) : AS := fun A δ r => c A.xr δ r fun b r1 => (b = true → t A δ r1) ∧ (b = false → u A δ r1)
def sAsg (i : Nat) (t : AT) : AS := fun A δ r => t A.xr δ r fun d r1 => A.nx (δ.set i (some d)) r1
def setAll : Dl → List Nat → List D → Dl
  | δ, i :: is, d :: ds => setAll (δ.set i (some d)) is ds
  | δ, _, _ => δ
end
section
variable {X : Cx} {W : WX} {st : Stmt} {rest : List Stmt} {t u : AS} {e c : Expr} {te : AT} {tc : AB} {pos : Pos}
theorem ss_nil : PBD X W [] sNext := imSs pss_nil fun D σ H ⟨δ, r, A, o, h, f⟩ => f.nx _ _ _ _ h o Kp.refl
theorem ss_one (h : PSD X W st t) : PBD X W [st] t := pss_one h
theorem ss_cons (h1 : PSD X W st t) (h2 : PBD X W rest u) : PBD X W (st :: rest) (sSeq t u) := imSs (pss_cons h1 h2) fun D σ H ⟨δ, r, A, o, h, f⟩ =>
  ⟨δ, r, { A with nx := fun δ' r' => u A δ' r' }, o, h, ⟨fun δ' r' σ' H' a o' k => ⟨δ', r', A, o', a, f.step k⟩, f.rt, f.bk, f.ct⟩⟩
theorem s_expr (he : PD X W e te) (hs : swapsWith e none pos.line X.env = pure false := by rfl) : PSD X W (.Expr e pos) (sExpr te) := imS (ps_expr he hs) fun D σ H ⟨δ, r, A, o, h, f⟩ =>
  td_bind o h fun d r1 v H1 h1 o1 k1 i1 => f.nx _ _ _ _ h1 o1 k1
theorem s_ret (he : PD X W e te) : PSD X W (.Return (some e) pos) (sRet te) := imS (ps_ret he) fun D σ H ⟨δ, r, A, o, h, f⟩ =>
  td_bind o h fun d r1 v H1 h1 o1 k1 i1 => f.rt _ _ _ _ h1 o1.r k1 i1
theorem s_if {a b : List Stmt} (hc : PDB X W c tc) (ha : PBD X W a t) (hb : PBD X W b u) : PSD X W (.If c a b pos) (sIf tc t u) := imS (ps_if hc ha hb) fun D σ H ⟨δ, r, A, o, h, f⟩ =>
  tdb_bind o h fun d r1 H1 h1 o1 k1 => by
    cases d with
    | true => exact ⟨δ, r1, A, o1, h1.1 rfl, f.step k1⟩
    | false => exact ⟨δ, r1, A, o1, h1.2 rfl, f.step k1⟩
theorem s_set {i : Nat} {x : Str} {pos' : Pos} (hN : X.N.Nodup) (he : PD X W e te) (hi : X.N[i]? = some x := by rfl) (hx : Loc X.env.scope x := by first | exact Or.inl rfl | exact Or.inr rfl) (hs : swapsWith e (some (.Name x pos')) pos.line X.env = pure false := by rfl)
    (hf : X.fn x = true ∨ X.env.scope.names.lookup x = some .local := by first | exact .inl rfl | exact .inr rfl | assumption) : PSD X W (.Assign [.Name x pos'] e pos) (sAsg i te) := imS (ps_set hN hi hx he hs hf) fun D σ H ⟨δ, r, A, o, h, f⟩ =>
  td_bind o h fun d r1 v H1 h1 o1 k1 i1 => f.nx _ _ _ _ h1 (o1.set i1) k1
def gNames : List Nat → TGs
  | [] => gNil
  | i :: is => gCons (gName i) (gNames is)
end
/-- the turns of J yield the data ds, whatever else happens -/
def Walks (K : PySem.W.Frag) (J : It) (ds : List D) (r : Rs) (H : Hp) : Prop := ∀ i r1 H1, Kp K r H r1 H1 → Rok K r1 H1 →
  (i < ds.length → J.go i H1 ∧ ∀ x H2, J.yld i H1 x H2 → Ext H1 H2 ∧ ∃ d, ds[i]? = some d ∧ Is K (mem r1) H2 x d) ∧ (i = ds.length → J.stop i H1)
abbrev AI := XT → Dl → Rs → (List D → Rs → Prop) → Prop
def TDI (K : PySem.W.Frag) (W : WX) (t : AI) : TI := fun σ H R => ∃ XR δ r P, Ok K W XR r δ σ H ∧ t XR δ r P ∧ ∀ ds r' J H', P ds r' → Ok K W XR r' δ σ H' → Kp K r H r' H' → Walks K J ds r' H' → R J H'
def PDI (X : Cx) (W : WX) (tg iter : Expr) (t : AI) : Prop := PI X tg iter (TDI X.K W t)
theorem imI {X : Cx} {tg e : Expr} {t t' : TI} (h : PI X tg e t) (i : ∀ σ H Q, t' σ H Q → t σ H Q) : PI X tg e t' := ⟨fun pins s σ H Q I q => h.run pins s σ H Q I (i σ H Q q)⟩
section
variable {X : Cx} {W : WX} {tg e : Expr} {te : AT} {pos : Pos}
def iSeqL (t : AT) : AI := fun x δ r P => t x δ r fun d r1 => match d with | .lst ds => P ds r1 | _ => False
theorem walks_l {K : PySem.W.Frag} {r : Rs} {H : Hp} {a : Addr} {ds : List D} (h : Is K (mem r) H (.ref a) (.lst ds)) : Walks K (Itl K a) ds r H := by
  intro i r1 H1 k _
  cases k _ _ h with
  | lst n s al =>
    rename_i xs
    refine ⟨fun hi => ⟨⟨xs, xs[i]'(by rw [al.length]; exact hi), SqL.of s, by simp⟩, ?_⟩, fun hi => ⟨xs, SqL.of s, by rw [al.length, hi] <;> exact Nat.le_refl _⟩⟩
    rintro x H2 ⟨rfl, hx⟩
    obtain ⟨d, h1, h2⟩ := al.get (hx xs (SqL.of s))
    exact ⟨Ext.refl _, d, h1, h2⟩
theorem i_list (h : PD X W e te) : PDI X W tg e (iSeqL te) := imI (pi_list h) fun σ H Q ⟨XR, δ, r, P, o, q, k⟩ => td_bind o q fun d r1 v H1 h1 o1 k1 i1 => by
  cases i1 with
  | lst n s al => exact ⟨_, rfl, ⟨_, SqL.of s⟩, k _ _ _ _ h1 o1 k1 (walks_l (.lst n s al))⟩
  | _ => exact h1.elim
def iStrD (t : AT) : AI := fun x δ r P => t x δ r fun d r1 => match d with | .str z => P (z.cps.toList.map fun c => .str ⟨#[c]⟩) r1 | _ => False
theorem sok_mem {z : Str} {c : Nat} (h : sok z) (e : c ∈ z.cps.toList) : sok ⟨#[c]⟩ := by
  refine ⟨?_, by show 1 ≤ 1000000; decide⟩
  have h1 : z.cps.all (fun c => decide (c < 0x110000)) = true := h.1
  rw [← Array.all_toList, List.all_eq_true] at h1
  show (#[c] : Array Nat).all _ = true
  simpa using h1 c e
theorem i_str (h : PD X W e te) : PDI X W tg e (iStrD te) := imI (pi_str h) fun σ H Q ⟨XR, δ, r, P, o, q, k⟩ => td_bind o q fun d r1 v H1 h1 o1 k1 i1 => by
  cases i1 with
  | str s =>
    rename_i z
    refine ⟨_, rfl, k _ _ _ _ h1 o1 k1 ?_⟩
    intro i r2 H2 _ _
    refine ⟨fun hi => ⟨(show i < z.cps.size by simpa using hi), ?_⟩, fun hi => ?_⟩
    · rintro x H3 ⟨rfl, c, hc, rfl⟩
      have hm : c ∈ z.cps.toList := by
        have := Array.mem_of_getElem? hc
        simpa using this
      refine ⟨Ext.refl _, .str ⟨#[c]⟩, ?_, .str (sok_mem s hm)⟩
      rw [List.getElem?_map, Array.getElem?_toList, hc]
      rfl
    · show z.cps.size ≤ i
      rw [hi]
      simp
  | _ => exact h1.elim
def iR1 (l : AL) : AI := fun x δ r P => l x δ r fun ds r1 => match ds with | [.int n] => (-(2 ^ 62) ≤ n ∧ n < 2 ^ 62) ∧ P ((List.range n.toNat).map fun i => .int (i : Nat)) r1 | _ => False
theorem walks_r {K : PySem.W.Frag} {r : Rs} {H : Hp} {lo : Int} {n : Nat} : Walks K (Itr lo n) ((List.range n).map fun i => .int (lo + (i : Nat))) r H := by
  intro i r1 H1 _ _
  refine ⟨fun hi => ⟨(show i < n by simpa using hi), ?_⟩, fun hi => ?_⟩
  · rintro x H2 ⟨rfl, rfl⟩
    have hi' : i < n := by simpa using hi
    refine ⟨Ext.refl _, .int (lo + i), ?_, .int _⟩
    rw [List.getElem?_map, List.getElem?_range hi']
    rfl
  · show n ≤ i
    rw [hi]
    simp
theorem i_r1 {p : Pos} {l : AL} (hg : Gl X "range") (hm : X.mg "range" = none) (ha : PDL X W [e] l) (hs : starEach [e] X.env = [(false, eval e X.env)] := by rfl) : PDI X W tg (.Call (.Name "range" p) [e] [] pos) (iR1 l) :=
  imI (pi_range1 hg hm ha hs) fun σ H Q ⟨XR, δ, r, P, o, q, k⟩ => tdl_bind o q fun ds r1 vs H1 h1 o1 k1 i1 => by
    match ds, h1, i1 with
    | [.int n], h1, .cons (.int _) .nil =>
      refine ⟨_, rfl, h1.1.1, h1.1.2, k _ _ _ _ h1.2 o1 k1 ?_⟩
      have w := walks_r (K := X.K) (r := r1) (H := H1) (lo := 0) (n := n.toNat)
      simp only [Int.zero_add] at w
      exact w
def iEn (l : AL) : AI := fun x δ r P => l x δ r fun ds r1 => match ds with | [.lst xs] => P ((List.range xs.length).map fun i => .tup [.int (i : Nat), xs.getD i .non]) r1 | _ => False
theorem walks_e {K : PySem.W.Frag} {r : Rs} {H : Hp} {a : Addr} {ds : List D} (h : Is K (mem r) H (.ref a) (.lst ds)) : Walks K (Ite K a) ((List.range ds.length).map fun i => .tup [.int (i : Nat), ds.getD i .non]) r H := by
  intro i r1 H1 k _
  cases k _ _ h with
  | lst n s al =>
    rename_i xs
    refine ⟨fun hi => ?_, fun hi => ⟨xs, SqL.of s, by rw [al.length, hi]; simp⟩⟩
    have hi' : i < ds.length := by simpa using hi
    refine ⟨⟨xs, xs[i]'(by rw [al.length]; exact hi'), SqL.of s, by simp⟩, ?_⟩
    rintro x H2 ⟨T, y, rfl, hT, rfl, hy⟩
    obtain ⟨d, h1, h2⟩ := al.get (hy xs (SqL.of s))
    refine ⟨Ext.new hT, .tup [.int (i : Nat), ds.getD i .non], ?_, new_tup hT (.cons (.int _) (.cons ?_ .nil))⟩
    · rw [List.getElem?_map, List.getElem?_range hi']
      rfl
    · rw [List.getD_eq_getElem?_getD, h1]
      exact h2
theorem i_enum {elts : List Expr} {kk : Nat} {p tpos : Pos} {l : AL} (hg : Gl X "enumerate") (hm : X.mg "enumerate" = none) (ha : PDL X W [e] l) (hs : starEach [e] X.env = [(false, eval e X.env)] := by rfl) : PDI X W (.Tuple elts kk tpos) (.Call (.Name "enumerate" p) [e] [] pos) (iEn l) :=
  imI (pi_enum hg hm ha hs) fun σ H Q ⟨XR, δ, r, P, o, q, k⟩ => tdl_bind o q fun ds r1 vs H1 h1 o1 k1 i1 => by
    match ds, h1, i1 with
    | [.lst xs], h1, .cons (.lst n s al) .nil => exact ⟨_, _, rfl, SqL.of s, k _ _ _ _ h1 o1 k1 (walks_e (.lst n s al))⟩
abbrev AG := D → Dl → (Dl → Prop) → Prop
def gN (i : Nat) : AG := fun d δ Q => Q (δ.set i (some d))
def gT (is : List Nat) : AG := fun d δ Q => match d with | .tup ds => ds.length = is.length ∧ Q (setAll δ is ds) | _ => False
def Agree (js : List Nat) (σ σ' : L2.St) : Prop := σ'.length = σ.length ∧ ∀ k : Nat, k ∉ js → σ'[k]? = σ[k]?
theorem Agree.refl {js : List Nat} {σ : L2.St} : Agree js σ σ := ⟨rfl, fun _ _ => rfl⟩
theorem Agree.trans {js : List Nat} {σ σ1 σ2 : L2.St} (a : Agree js σ σ1) (b : Agree js σ1 σ2) : Agree js σ σ2 := ⟨b.1.trans a.1, fun k h => (b.2 k h).trans (a.2 k h)⟩
theorem Agree.set {js : List Nat} {σ : L2.St} {i : Nat} {x : Option V} (h : i ∈ js) : Agree js σ (σ.set i x) := ⟨List.length_set, fun k hk => List.getElem?_set_ne (fun (e : i = k) => hk (e ▸ h))⟩
theorem names_agree {K : PySem.W.Frag} {W : WX} {XR : XT} {r : Rs} {H : Hp} {Q : L2.St → Hp → Prop} {js : List Nat} : ∀ {is : List Nat} {vs : List V} {ds : List D} {δ : Dl} {σ : L2.St}, (∀ i ∈ is, i ∈ js) → Ok K W XR r δ σ H → IsAll K (mem r) H vs ds → ds.length = is.length → (∀ σ', Ok K W XR r (setAll δ is ds) σ' H → Agree js σ σ' → Q σ' H) → gNames is vs σ H Q
  | [], _, _, δ, σ, _, o, .nil, _, k => ⟨rfl, k σ o Agree.refl⟩
  | [], _, _, δ, σ, _, o, .cons _ _, l, k => by cases l
  | i :: is, _, _, δ, σ, _, o, .nil, l, k => by cases l
  | i :: is, _, _, δ, σ, hj, o, .cons h t, l, k => ⟨_, _, rfl, names_agree (is := is) (fun i h => hj i (List.mem_cons_of_mem _ h)) (o.set h) t (by simpa using l) fun σ' o' a => k σ' o' ((Agree.set (hj i List.mem_cons_self)).trans a)⟩
def TDG (K : PySem.W.Frag) (js : List Nat) (g : AG) : TG := fun v σ H Q => ∃ (W : WX) (XR : XT) (δ : Dl) (r : Rs) (d : D) (P : Dl → Prop), Ok K W XR r δ σ H ∧ Is K (mem r) H v d ∧ g d δ P ∧ ∀ δ' σ', P δ' → Ok K W XR r δ' σ' H → Agree js σ σ' → Q σ' H
def PDG (X : Cx) (target : Expr) (js : List Nat) (g : AG) : Prop := PG X target (TDG X.K js g)
theorem imG {X : Cx} {e : Expr} {t t' : TG} (h : PG X e t) (i : ∀ v σ H Q, t' v σ H Q → t v σ H Q) : PG X e t' := ⟨fun pins s σ H v u Q I rv q => h.run pins s σ H v u Q I rv (i v σ H Q q)⟩
theorem g_name {i : Nat} {x : Str} (hN : X.N.Nodup) (hi : X.N[i]? = some x := by rfl) (hx : Loc X.env.scope x := by first | exact Or.inl rfl | exact Or.inr rfl) (hf : X.fn x = true ∨ X.env.scope.names.lookup x = some .local := by first | exact .inl rfl | exact .inr rfl | assumption) : PDG X (.Name x pos) [i] (gN i) :=
  imG (pg_name hN hi hx hf) fun v σ H Q ⟨_, _, δ, r, d, P, o, i, g, k⟩ => k _ _ g (o.set i) (Agree.set List.mem_cons_self)
theorem g_tup {is : List Nat} {ts : List Expr} {kk : Nat} (hg : PGs X ts (gNames is)) (hc : X.calm = true := by rfl) (hn : (assignEach ts X.env).length = is.length := by rfl) (hst : (assignEach ts X.env).findIdx? (·.1) = none := by rfl) : PDG X (.Tuple ts kk pos) is (gT is) :=
  imG (pg_tup hc hg hn hst) fun v σ H Q ⟨_, _, δ, r, d, P, o, i, g, k⟩ => by
    cases i with
    | tup s al => exact ⟨_, _, rfl, s, by rw [al.length]; exact g.1, names_agree (fun _ h => h) o al g.1 fun σ' o' a => k _ _ g.2 o' a⟩
    | _ => exact g.elim
theorem pgs_n {i : Nat} {is : List Nat} {x : Str} {ts : List Expr} (hN : X.N.Nodup) (hr : PGs X ts (gNames is)) (hi : X.N[i]? = some x := by rfl) (hx : Loc X.env.scope x := by first | exact Or.inl rfl | exact Or.inr rfl) (hf : X.fn x = true ∨ X.env.scope.names.lookup x = some .local := by first | exact .inl rfl | exact .inr rfl | assumption)
    (hs : (assignEach (.Name x pos :: ts) X.env).map (·.2) = assign (.Name x pos) X.env :: (assignEach ts X.env).map (·.2) := by rfl) : PGs X (.Name x pos :: ts) (gNames (i :: is)) := pgs_cons (pg_name hN hi hx hf) hr hs
def sForK (g : AG) (tb : AS) (A : An) (ds : List D) (δ : Dl) (r1 : Rs) : Prop := ∃ I : Nat → Dl → Rs → Prop, I 0 δ r1 ∧
  (∀ i d δ' r', ds[i]? = some d → I i δ' r' → g d δ' fun δ2 => tb { A with nx := I (i + 1), ct := I (i + 1), bk := A.nx } δ2 r') ∧ ∀ δ' r', I ds.length δ' r' → A.nx δ' r'
def sFor (ti : AI) (g : AG) (tb : AS) : AS := fun A δ r => ti A.xr δ r fun ds r1 => sForK g tb A ds δ r1
theorem s_for {body : List Stmt} {js : List Nat} {wi : AI} {g : AG} {tb : AS} (hi : PDI X W tg e wi) (hg : PDG X tg js g) (hb : PBD X W body tb) (hp : PassesOwn (model X.prog X.w) X.A X.env X.xe) (hc : X.calm = true := by rfl)
    (hs : ∀ x, foldedSetIterable e X.env x = pure x := by intro _; rfl) : PSD X W (.For tg e body [] pos) (sFor wi g tb) := imS (ps_for hp hc hi hg hb hs) fun D σ H ⟨δ, r, A, o, h, f⟩ =>
  ⟨A.xr, δ, r, _, o, h, fun ds r1 J H1 ⟨I, h0, hst, hd⟩ o1 k1 w => by
    refine ⟨fun i m σ' H' => m = ds.length - i ∧ i ≤ ds.length ∧ ∃ δ' r', I i δ' r' ∧ Ok X.K W A.xr r' δ' σ' H' ∧ Kp X.K r1 H1 r' H', ⟨ds.length, by simp, Nat.zero_le _, δ, r1, h0, o1, Kp.refl⟩, ?_⟩
    rintro i m σ' H' ⟨rfl, hi, δ', r', hI, o', k'⟩
    by_cases hlt : i < ds.length
    · obtain ⟨hgo, hy⟩ := (w i r' H' k' o'.r).1 hlt
      refine .inr ⟨hgo, fun σ2 H2 => ∃ δ2 r2, I (i + 1) δ2 r2 ∧ Ok X.K W A.xr r2 δ2 σ2 H2 ∧ Kp X.K r1 H1 r2 H2, fun σ2 H2 ⟨δ2, r2, q1, q2, q3⟩ => ⟨ds.length - (i + 1), by omega, rfl, hlt, δ2, r2, q1, q2, q3⟩, fun x H2 y => ?_⟩
      obtain ⟨ex, d, hd', ix⟩ := hy x H2 y
      refine ⟨W, A.xr, δ', r', d, _, o'.ext ex, ix, hst i d δ' r' hd' hI, fun δ2 σ2 q o2 _ => ⟨δ2, r', { A with nx := I (i + 1), ct := I (i + 1), bk := A.nx }, o2, q, ?_⟩⟩
      have kk := k'.trans (Kp.ext ex)
      have fk := f.step (k1.trans kk)
      exact ⟨fun δ3 r3 σ3 H3 a o3 k3 => ⟨δ3, r3, a, o3, kk.trans k3⟩, fk.rt, fun δ3 r3 σ3 H3 a o3 k3 => fk.nx δ3 r3 σ3 H3 a o3 k3, fun δ3 r3 σ3 H3 a o3 k3 => ⟨δ3, r3, a, o3, kk.trans k3⟩⟩
    · have e : i = ds.length := by omega
      exact .inl ⟨(w i r' H' k' o'.r).2 e, f.nx _ _ _ _ (hd δ' r' (e ▸ hI)) o' (k1.trans k')⟩⟩
end
end G
namespace G
open PySem PySem.Spec L2
def wipeD (δ : Dl) : List Nat → Dl
  | [] => δ
  | v :: vs => (wipeD δ vs).set v none
theorem Ok.wipe {K : PySem.W.Frag} {W : WX} {XR : XT} {r : Rs} {δ : Dl} {σ : L2.St} {H : Hp} (o : Ok K W XR r δ σ H) : ∀ vs : List Nat, Ok K W XR r (wipeD δ vs) (wipe σ vs) H
  | [] => o
  | v :: vs => (Ok.wipe o vs).drop
theorem wipe_get (σ : L2.St) : ∀ (vs : List Nat) (k : Nat), (wipe σ vs)[k]? = if k ∈ vs ∧ k < σ.length then some none else σ[k]?
  | [], k => by simp [wipe]
  | v :: vs, k => by
    unfold wipe
    rw [List.getElem?_set]
    by_cases e : v = k
    · subst e
      rw [if_pos rfl, wipe_length]
      by_cases h : v < σ.length
      · rw [if_pos h, if_pos ⟨List.mem_cons_self, h⟩]
      · rw [if_neg h, if_neg (fun z => h z.2), List.getElem?_eq_none (by omega)]
    · rw [if_neg e, wipe_get σ vs k]
      have : (k ∈ v :: vs) ↔ k ∈ vs := ⟨fun z => (List.mem_cons.mp z).elim (fun q => absurd q.symm e) id, List.mem_cons_of_mem _⟩
      simp only [this]
theorem wipe_agree {σ σ' : L2.St} {js vs : List Nat} (a : Agree js (wipe σ vs) σ') (h : ∀ j ∈ js, j ∈ vs) : wipe σ' vs = wipe σ vs := by
  apply List.ext_getElem?
  intro k
  rw [wipe_get, wipe_get]
  have hl : σ'.length = σ.length := by rw [a.1, wipe_length]
  rw [hl]
  by_cases c : k ∈ vs ∧ k < σ.length
  · rw [if_pos c, if_pos c]
  · rw [if_neg c, if_neg c]
    by_cases hk : k ∈ vs
    · have h1 : σ.length ≤ k := Nat.le_of_not_lt fun z => c ⟨hk, z⟩
      rw [List.getElem?_eq_none (by omega), List.getElem?_eq_none h1]
    · rw [a.2 k (fun z => hk (h k z)), wipe_get, if_neg c]
section
variable {K : PySem.W.Frag}
theorem rok_plus {r : Rs} {H : Hp} {p : Addr} (h : Rok K r H) (hp : H p = none) : Rok K (r ++ [lstA p []]) (upd H p (.lst [])) ∧ Kp K r H (r ++ [lstA p []]) (upd H p (.lst [])) := by
  have e : ∀ a, mem (r ++ [lstA p []]) a → mem r a ∨ a = p := fun a z => (mem_append.mp z).elim .inl fun z => z.elim .inr False.elim
  refine ⟨hold_append.mpr ⟨hold_anti e (hold_ext (Ext.new hp) (hold_grow hp h)), ⟨⟨[], upd_same, .nil⟩, fun _ _ z => z, True.intro⟩, fun a m z => ?_⟩, fun v d i => is_anti e (is_ext (Ext.new hp) _ _ (is_grow hp i))⟩
  have : a = p := z.elim (fun z => z) False.elim
  subst this
  exact not_al h hp m
theorem is_otherO {N : Addr → Prop} {H : Hp} {q : Addr} {u u' : HO} (hN : N q) (hD : H q = some u) (nt : ∀ xs, u ≠ .tup xs ∧ ∀ o : Obj, u ≠ .frz o (.tup xs)) {v : V} {d : D} (h : Is K N H v d) : Is K N (upd H q u') v d := by
  refine Is.go (fun a o _ n s => ⟨n, by rw [upd_ne (fun (e : a = q) => n (e ▸ hN))]; exact s⟩) (fun a xs s => ?_) d v h
  rcases s with (s | ⟨o, s⟩) | s
  · exact .inl (.inl (by rw [upd_ne (fun e => by subst e; rw [hD] at s; exact (nt xs).1 (Option.some.inj s))]; exact s))
  · exact .inl (.inr ⟨o, by rw [upd_ne (fun e => by subst e; rw [hD] at s; exact (nt xs).2 o (Option.some.inj s))]; exact s⟩)
  · exact .inr s
theorem is_other {N : Addr → Prop} {H : Hp} {q : Addr} {ys : List V} (hN : N q) {xs : List V} (hD : H q = some (.lst xs)) {v : V} {d : D} (h : Is K N H v d) : Is K N (upd H q (.lst ys)) v d := is_otherO hN hD (fun _ => ⟨(fun e => by cases e), (fun _ e => by cases e)⟩) h
theorem rok_more {r : Rs} {H : Hp} {p : Addr} {acc : List D} {v : V} {d : D} (h : Rok K (r ++ [lstA p acc]) H) (i : Is K (mem (r ++ [lstA p acc])) H v d) : ∃ vs, H p = some (.lst vs) ∧ vs.length = acc.length ∧
    Rok K (r ++ [lstA p (acc ++ [d])]) (upd H p (.lst (vs ++ [v]))) ∧ ∀ w e, Is K (mem (r ++ [lstA p acc])) H w e → Is K (mem (r ++ [lstA p (acc ++ [d])])) (upd H p (.lst (vs ++ [v]))) w e := by
  obtain ⟨h1, ⟨⟨vs, h2, h3⟩, _, _⟩, h5⟩ := hold_append.mp h
  have me : mem (r ++ [lstA p acc]) = mem (r ++ [lstA p (acc ++ [d])]) := by
    funext a
    exact propext ((mem_append).trans (mem_append (r := r) (r' := [lstA p (acc ++ [d])])).symm)
  have hN : mem (r ++ [lstA p acc]) p := mem_append.mpr (.inr (.inl rfl))
  have go : ∀ w e, Is K (mem (r ++ [lstA p acc])) H w e → Is K (mem (r ++ [lstA p acc])) (upd H p (.lst (vs ++ [v]))) w e := fun w e q => is_other hN h2 q
  refine ⟨vs, h2, h3.length, ?_, fun w e q => me ▸ go w e q⟩
  refine hold_append.mpr ⟨?_, ⟨⟨vs ++ [v], upd_same, ?_⟩, fun _ _ z => z, True.intro⟩, h5⟩
  · rw [← me]
    refine hold_loc (fun b o m q => ?_) go h1
    rw [upd_ne (fun e => h5 b m (.inl e))]
    exact q
  · rw [← me]
    exact (all_of go h3).append (.cons (go _ _ i) .nil)
theorem le_rok {r r' : Rs} (l : le r r') {H : Hp} (h : Rok K r H) : Rok K r' H := l.r _ H h
/-- our own list is a list like others -/
theorem rok_done {r : Rs} {H : Hp} {p : Addr} {acc : List D} (h : Rok K (r ++ [lstA p acc]) H) : Rok K r H ∧ Is K (mem r) H (.ref p) (.lst acc) ∧ Kp K (r ++ [lstA p acc]) H r H := by
  obtain ⟨h1, ⟨⟨vs, h2, h3⟩, _, _⟩, h5⟩ := hold_append.mp h
  have an : ∀ a, mem r a → mem (r ++ [lstA p acc]) a := fun a z => mem_append.mpr (.inl z)
  exact ⟨hold_anti an h1, .lst (fun z => h5 p z (.inl rfl)) h2 (all_of (fun _ _ => is_anti an) h3), fun _ _ => is_anti an⟩
def bYes : AB := fun x _ r P => P true r
structure aLcK (x : XT) (g : AG) (tt : AB) (te : AT) (δw : Dl) (ds : List D) (r1 : Rs) (P : PK1) : Prop where
  ex : ∃ I : Nat → List D → Rs → Prop, I 0 [] r1 ∧
  (∀ (p : Addr) i d acc r', ds[i]? = some d → I i acc r' → g d δw fun δ2 => tt x δ2 (r' ++ [lstA p acc]) fun b r2 =>
    (b = true → te x δ2 r2 fun y r3 => small (acc.length + 1) ∧ ∃ r4, le r3 (r4 ++ [lstA p acc]) ∧ I (i + 1) (acc ++ [y]) r4) ∧ (b = false → ∃ r4, le r2 (r4 ++ [lstA p acc]) ∧ I (i + 1) acc r4)) ∧
  ∀ acc r', I ds.length acc r' → P (.lst acc) r'
def aLc (ti : AI) (g : AG) (tt : AB) (te : AT) (vs : List Nat) : AT := fun x δ r P => ti x δ r fun ds r1 => aLcK x g tt te (wipeD δ vs) ds r1 P
theorem td_lc {W : WX} {ti : AI} {g : AG} {tt : AB} {te : AT} {vs js : List Nat} (hj : ∀ j ∈ js, j ∈ vs) {σ : L2.St} {H : Hp} {Q : VK} (q : TD K W (aLc ti g tt te vs) σ H Q) : tLc (TDI K W ti) (TDG K js g) (TDB K W tt) (TD K W te) vs σ H Q := by
  obtain ⟨XR, δ, r, P, o, h, k⟩ := q
  refine ⟨XR, δ, r, _, o, h, fun ds r1 J H1 ⟨⟨I, h0, hst, hd⟩⟩ o1 k1 w p hp => ?_⟩
  obtain ⟨s1, s2⟩ := rok_plus o1.r hp
  refine ⟨fun i m H' => m = ds.length - i ∧ i ≤ ds.length ∧ ∃ acc r', I i acc r' ∧ Rok K (r' ++ [lstA p acc]) H' ∧ Kp K r1 H1 (r' ++ [lstA p acc]) H', ⟨ds.length, by simp, Nat.zero_le _, [], r1, h0, s1, s2⟩, ?_⟩
  rintro i m H' ⟨rfl, hi, acc, r', hI, ro, kp⟩
  by_cases hlt : i < ds.length
  · obtain ⟨hgo, hy⟩ := (w i _ H' kp ro).1 hlt
    refine .inr ⟨hgo, fun H2 => ∃ acc r2, I (i + 1) acc r2 ∧ Rok K (r2 ++ [lstA p acc]) H2 ∧ Kp K r1 H1 (r2 ++ [lstA p acc]) H2, fun H2 ⟨acc, r2, q1, q2, q3⟩ => ⟨ds.length - (i + 1), by omega, rfl, hlt, acc, r2, q1, q2, q3⟩, fun x H2 y => ?_⟩
    obtain ⟨ex, d, hd', ix⟩ := hy x H2 y
    have k2 := kp.trans (Kp.ext ex)
    have o2 : Ok K W XR (r' ++ [lstA p acc]) (wipeD δ vs) (wipe σ vs) H2 := (o1.step k2 (ro.ext ex)).wipe vs
    refine ⟨W, XR, wipeD δ vs, _, d, _, o2, ix, hst p i d acc r' hd' hI, fun δ2 σ2 q o3 ag => ⟨wipe_agree ag hj, XR, δ2, _, _, o3, q, fun b r3 H3 q3 o4 k4 => ?_⟩⟩
    cases b with
    | true =>
      show TD K W te σ2 H3 _
      refine td_bind o4 (q3.1 rfl) fun y r5 v H5 ⟨sz, r6, l6, h5⟩ o5 k5 i5 => ?_
      obtain ⟨ws, e1, e2, e3, e4⟩ := rok_more (le_rok l6 o5.r) (is_anti l6.m i5)
      refine ⟨ws, e1, by rw [e2]; exact Nat.lt_of_lt_of_le (Nat.lt_succ_self _) sz.sz, acc ++ [y], r6, h5, e3, fun v' d' z => e4 _ _ (is_anti l6.m (k5 _ _ (k4 _ _ (k2 _ _ z))))⟩
    | false =>
      show ∃ acc r2, _
      obtain ⟨r6, l6, h5⟩ := q3.2 rfl
      exact ⟨acc, r6, h5, le_rok l6 o4.r, fun v' d' z => is_anti l6.m (k4 _ _ (k2 _ _ z))⟩
  · have e : i = ds.length := by omega
    obtain ⟨d1, d2, d3⟩ := rok_done ro
    exact .inl ⟨(w i _ H' kp ro).2 e, k _ r' _ H' (hd acc r' (e ▸ hI)) (o1.step (kp.trans d3) d1) ((k1.trans kp).trans d3) d2⟩
end
section
variable {X : Cx} {W : WX}
theorem pts_no : PTs X [] (TDB X.K W bYes) := ⟨fun pins s σ H Q I ⟨XR, δ, r, P, o, h, k⟩ => pts_nil.run pins s σ H Q I (k true r H h o Kp.refl)⟩
theorem pts_1 {c : Expr} {t : AB} (h : PDB X W c t) : PTs X [c] (TDB X.K W t) := pts_one h
theorem d_lc {elt tg iter : Expr} {ifs : List Expr} {scope : Scope} {own : List (Str × Nat)} {pos : Pos} {js : List Nat} {wi : AI} {g : AG} {tt : AB} {te : AT} (hN : X.N.Nodup) (hi : PDI X W tg iter wi) (ok : BlkOk X.N X.env.scope scope own)
    (hg : ∀ (s : Shared) (H : Hp) (C : Addr) (cl : List (Str × Addr)) (fp : List Addr), PDG (X.blk s H scope (compEnvC scope cl C X.env) fp) tg js g) (ht : ∀ (s : Shared) (H : Hp) (C : Addr) (cl : List (Str × Addr)) (fp : List Addr), PTs (X.blk s H scope (compEnvC scope cl C X.env) fp) ifs (TDB X.K W tt))
    (he : ∀ (s : Shared) (H : Hp) (C : Addr) (cl : List (Str × Addr)) (fp : List Addr), PD (X.blk s H scope (compEnvC scope cl C X.env) fp) W elt te) (hj : ∀ j ∈ js, j ∈ own.map (·.2) := by decide) (hc : X.calm = true := by rfl) (hs : ∀ x, foldedSetIterable iter X.env x = pure x := by intro _; rfl) :
    PD X W (.ListComp elt [⟨tg, iter, ifs, 0⟩] scope pos) (aLc wi g tt te (own.map (·.2))) :=
  imE (pe_lc (g := TDG X.K js g) (tt := TDB X.K W tt) (te := TD X.K W te) hc hN hi ok hg ht he hs) fun _ _ _ q => td_lc hj q
end
section
variable {K : PySem.W.Frag} {x : XT} {g : AG} {te : AT} {tt : AB} {δw : Dl} {ds : List D} {r1 : Rs} {P : PK1}
theorem lc_map (f : D → D) (hz : small ds.length) (he : ∀ d ∈ ds, ∀ (r' : Rs) (P' : PK1), P' (f d) r' → g d δw fun δ2 => te x δ2 r' P') (hP : P (.lst (ds.map f)) r1) : aLcK x g bYes te δw ds r1 P := by
  refine ⟨fun i acc r' => acc = (ds.take i).map f ∧ r' = r1, ⟨rfl, rfl⟩, ?_, ?_⟩
  · rintro p i d acc r' hd ⟨rfl, rfl⟩
    have hi := (List.getElem?_eq_some_iff.mp hd).1
    refine Eq.mp ?_ (he d (List.mem_of_getElem? hd) (r' ++ [lstA p ((ds.take i).map f)]) (fun y r3 => small (((ds.take i).map f).length + 1) ∧ ∃ r4, le r3 (r4 ++ [lstA p ((ds.take i).map f)]) ∧ ((ds.take i).map f ++ [y] = (ds.take (i + 1)).map f ∧ r4 = r')) ?_)
    · congr 1
      funext δ2
      unfold bYes
      simp
    · refine ⟨?_, r', le.refl, ?_, rfl⟩
      · rw [List.length_map, List.length_take]
        have : small ds.length := hz
        unfold small at *
        omega
      · rw [List.take_add_one, hd, List.map_append]
        rfl
  · rintro acc r' ⟨rfl, rfl⟩
    rw [List.take_length]
    exact hP
end
end G
namespace G
open PySem PySem.Spec L2
open PyProof.Rows (envOfC)
abbrev XD := Addr → List Str → List D → Rs → Prop
abbrev SpX := List D → Rs → PK1 → XD → Prop
/-- a promise over data as a promise of the hand layer -/
def lift (K : PySem.W.Frag) (sd : SpX) : Sp := fun vs H Q E => ∃ (r : Rs) (ds : List D) (P : PK1) (XR : XD), Rok K r H ∧ IsAll K (mem r) H vs ds ∧ sd ds r P XR ∧
  (∀ d r' v H', P d r' → Rok K r' H' → Kp K r H r' H' → Is K (mem r') H' v d → Q v H') ∧
  (∀ C fs es r' a H', XR C fs es r' → Rok K r' H' → Kp K r H r' H' → ExAt K r' H' a fs es → E (.ref C) a H')
def noX : XD := fun _ _ _ _ => False
/-- the def at f keeps the promise sd -/
abbrev FO (P : Program) (w : World) (K : PySem.W.Frag) (mg : Str → Option Value) (base : Heap) (k : Nat) (f : Addr) (fd : FuncData) (ps : List Str) (sd : SpX) : Prop := FnOk P w K mg base (L2.CX P w) k f fd ps (lift K sd)
abbrev FR (P : Program) (w : World) (K : PySem.W.Frag) (mg : Str → Option Value) (base : Heap) (k : Nat) (f : Addr) (sd : SpX) : Prop := FnR P w K mg base (L2.CX P w) k f (lift K sd)
theorem lift_imp {K : PySem.W.Frag} {sd sd' : SpX} (h : ∀ ds r P XR, sd' ds r P XR → sd ds r P XR) : ∀ vs H Q E, lift K sd' vs H Q E → lift K sd vs H Q E := fun vs H Q E ⟨r, ds, P, XR, h1, h2, h3, h4⟩ => ⟨r, ds, P, XR, h1, h2, h _ _ _ _ h3, h4⟩
theorem fr_of {P : Program} {w : World} {K : PySem.W.Frag} {mg : Str → Option Value} {base : Heap} {k : Nat} {f : Addr} {fd : FuncData} {ps : List Str} {sd : SpX} (F : FO P w K mg base k f fd ps sd) (hb : Binds K fd ps []) : FR P w K mg base k f sd := by
  have q := F.raw hb .nil
  exact q.imp fun vs H Q E h => by rw [List.append_nil]; exact h
section
variable {X : Cx} {W : WX} {k : Nat} {f : Addr} {sd : SpX} {pins : List (Addr × Obj)} {σ : L2.St} {H : Hp} {s : Shared} {us : List Value} {vs : List V}
theorem run_at {sp : Sp} {E : XK} {Q : VK} (F : FnR X.prog X.w X.K X.mg X.base (L2.CX X.prog X.w) k f sp) (hr : Room k X.A) (hx : PassesAt (L2.CX X.prog X.w) X σ E) (I : L2.Inv X pins σ H s) (r : Vals vs us) (h : sp vs H Q E) :
    codeAny (model X.prog X.w) X.A (.call (.ref f) ⟨us, []⟩) (fun r s' => match r with | .ok (.ret v) => EP X pins σ Q v s' | .ok _ => False | .error e => X.xe e s') s := by
  refine codeAny_mono (F X.A X.stack s H us vs Q E hr I.env0 r h) fun r s' hq => ?_
  cases r with
  | error e => exact hx pins H s e s' I hq
  | ok fl =>
    cases fl with
    | ret u => exact I.after hq
    | next => exact False.elim hq
    | brk => exact False.elim hq
    | cont => exact False.elim hq
/-- nothing is let out -/
theorem passN {E : XK} (h : ∀ c d H, ¬ E c d H) : PassesAt (L2.CX X.prog X.w) X σ E := fun _ _ _ _ _ _ hh => by
  obtain ⟨_, _, _, _, _, _, _, _, _, _, _, _, z⟩ := hh
  exact (h _ _ _ z).elim
theorem lift_at {XR : XT} {r : Rs} {δ : Dl} {P : PK1} {ds : List D} {Q : VK} (o : Ok X.K W XR r δ σ H) (i : IsAll X.K (mem r) H vs ds) (h : sd ds r P fun C fs es r' => XR C fs es δ r')
    (k : ∀ d r' v H', P d r' → Ok X.K W XR r' δ σ H' → Kp X.K r H r' H' → Is X.K (mem r') H' v d → Q v H') : lift X.K sd vs H Q (WE W σ) :=
  ⟨r, ds, P, _, o.r, i, h, fun d r' v H' a b c i => k d r' v H' a (o.step c b) c i, fun C fs es r' a H' x ro kk e => o.x C fs es δ r' σ a H' x (o.b.step kk ro) kk e⟩
theorem lift_n {XR : XT} {r : Rs} {δ : Dl} {P : PK1} {ds : List D} {Q : VK} (o : Ok X.K W XR r δ σ H) (i : IsAll X.K (mem r) H vs ds) (h : sd ds r P noX)
    (k : ∀ d r' v H', P d r' → Ok X.K W XR r' δ σ H' → Kp X.K r H r' H' → Is X.K (mem r') H' v d → Q v H') : lift X.K sd vs H Q E0 :=
  ⟨r, ds, P, _, o.r, i, h, fun d r' v H' a b c i => k d r' v H' a (o.step c b) c i, fun _ _ _ _ _ _ x => x.elim⟩
theorem passE : PassesAt (L2.CX X.prog X.w) X σ E0 := passN fun _ _ _ z => z
end
/-- a call's reading: what is raised goes on; nothing is raised -/
def aCall (sd : SpX) (l : AL) : AT := fun x δ r P => l x δ r fun ds r1 => sd ds r1 P fun C fs es r' => x C fs es δ r'
def aCallN (sd : SpX) (l : AL) : AT := fun x δ r P => l x δ r fun ds r1 => sd ds r1 P noX
section
variable {X : Cx} {W : WX} {k : Nat} {f : Addr} {sd : SpX} {x : Str} {p pos : Pos} {e : Expr} {es : List Expr} {l : AL}
theorem call_P {sp : Sp} {E : XK} {Q : VK} {pins : List (Addr × Obj)} {σ : L2.St} {H : Hp} {s : Shared} {us : List Value} {vs : List V} (F : FnR X.prog X.w X.K X.mg X.base (L2.CX X.prog X.w) k f sp) (hr : Room k X.A) (hx : PassesAt (L2.CX X.prog X.w) X σ E) (I : L2.Inv X pins σ H s) (r : Vals vs us) (h : sp vs H Q E) :
    wpAny (model X.prog X.w) X.A (call (.ref f) us) (EP X pins σ Q) X.xe s := wpAny_call (run_at F hr hx I r h)
/-- x(e, ..) -/
theorem call_any (F : FR X.prog X.w X.K X.mg X.base k f sd) (hr : Room k X.A) (hk : PySem.W.keepIn X.K (.ref f) = true) (hm : X.mg x = some (.ref f)) (tr : AT) (ha : PDL X W (e :: es) l)
    (im : ∀ {pins : List (Addr × Obj)} {σ : L2.St} {H : Hp} {s : Shared} {Q : VK}, TD X.K W tr σ H Q → L2.Inv X pins σ H s → TDL X.K W l σ H fun vs H1 => ∃ E : XK, PassesAt (L2.CX X.prog X.w) X σ E ∧ lift X.K sd vs H1 Q E)
    (hg : Gl X x) (hdb : (x == ("__debug__" : Str)) = false) (he : starEach (e :: es) X.env = (false, eval e X.env) :: starEach es X.env) (hpl : (backTo pos (starEach es X.env)).any (·.1) = false) : PD X W (.Call (.Name x p) (e :: es) [] pos) tr := by
  refine ⟨fun pins s σ H Q I h => ?_⟩
  refine wpAny_Call_Name_kw (ld_glob I hg hm ?_ hdb)
  refine PySem.W.callWith_K (h₀ := X.base) I.ok.mod.kin hk (thn (ha.run pos pins s σ H _ I (im h I)) fun us s1 ⟨vs, H1, I1, r, E, hx, q⟩ => ⟨I1.kIn, ?_⟩) he hpl
  exact call_P F hr hx I1 r q
theorem d_call (F : FR X.prog X.w X.K X.mg X.base k f sd) (tk : Takes X W) (hr : Room k X.A) (hm : X.mg x = some (.ref f)) (hk : PySem.W.keepIn X.K (.ref f) = true)
    (ha : PDL X W (e :: es) l) (hg : Gl X x := by rfl) (hdb : (x == ("__debug__" : Str)) = false := by decide) (he : starEach (e :: es) X.env = (false, eval e X.env) :: starEach es X.env := by rfl) (hpl : (backTo pos (starEach es X.env)).any (·.1) = false := by rfl) :
    PD X W (.Call (.Name x p) (e :: es) [] pos) (aCall sd l) := call_any F hr hk hm _ ha (fun q I => by
  obtain ⟨XR, δ, r, P, ok, h, kk⟩ := q
  exact tdl_bind ok h fun ds r1 vs H1 h1 o1 k1 i1 => ⟨_, passAt tk _, lift_at o1 i1 h1 fun d r' v H' a b c i => kk d r' v H' a b (k1.trans c) i⟩) hg hdb he hpl
theorem d_callN (F : FR X.prog X.w X.K X.mg X.base k f sd) (hr : Room k X.A) (hm : X.mg x = some (.ref f)) (hk : PySem.W.keepIn X.K (.ref f) = true)
    (ha : PDL X W (e :: es) l) (hg : Gl X x := by rfl) (hdb : (x == ("__debug__" : Str)) = false := by decide) (he : starEach (e :: es) X.env = (false, eval e X.env) :: starEach es X.env := by rfl) (hpl : (backTo pos (starEach es X.env)).any (·.1) = false := by rfl) :
    PD X W (.Call (.Name x p) (e :: es) [] pos) (aCallN sd l) := call_any F hr hk hm _ ha (fun q I => by
  obtain ⟨XR, δ, r, P, ok, h, kk⟩ := q
  exact tdl_bind ok h fun ds r1 vs H1 h1 o1 k1 i1 => ⟨_, passE, lift_n o1 i1 h1 fun d r' v H' a b c i => kk d r' v H' a b (k1.trans c) i⟩) hg hdb he hpl
end
def startD (N : List Str) (ds : List D) : Dl := ds.map some ++ List.replicate (N.length - ds.length) none
/-- a promise that any heap is told by, kept -/
def fit (P : PK1) : PK1 := fun d r' => ∃ r0, le r' r0 ∧ P d r0
theorem fit.of {P : PK1} {d : D} {r : Rs} (h : P d r) : fit P d r := ⟨r, le.refl, h⟩
def fitX (XR : XD) : XT := fun C fs es _ r' => ∃ r0, le r' r0 ∧ XR C fs es r0
theorem fitX.of {XR : XD} {C : Addr} {fs : List Str} {es : List D} {δ : Dl} {r : Rs} (h : XR C fs es r) : fitX XR C fs es δ r := ⟨r, le.refl, h⟩
theorem ExAt.anti {K : PySem.W.Frag} {r r' : Rs} {H : Hp} {a : Option Addr} {fs : List Str} {ds : List D} (h : ∀ a, mem r' a → mem r a) (e : ExAt K r H a fs ds) : ExAt K r' H a fs ds := by
  cases a with
  | none => exact e
  | some a =>
    obtain ⟨h0, kvs, h1, h2, h3⟩ := e
    exact ⟨fun z => h0 (h _ z), kvs, h1, h2, all_of (fun _ _ => is_anti h) h3⟩
abbrev WK (E : XK) : WX := fun cls d _ H => E cls d H
abbrev W0 : WX := fun _ _ _ _ => False
section
variable {P : Program} {w : World} {K : PySem.W.Frag} {mg : Str → Option Value} {base : Heap}
theorem start_ok {W : WX} {XR : XT} {N : List Str} {vs : List V} {ds : List D} {r : Rs} {H : Hp} (ro : Rok K r H) (hi : IsAll K (mem r) H vs ds) (x : Xc K W XR r H) : Ok K W XR r (startD N ds) (L2.start N vs) H := by
  refine ⟨⟨fun i d e => ?_, ro, ?_⟩, x⟩
  · unfold startD at e
    unfold L2.start
    rcases Nat.lt_or_ge i ds.length with hlt | hge
    · rw [List.getElem?_append_left (by simpa using hlt), List.getElem?_map] at e
      cases q : ds[i]? with
      | none => rw [q] at e; cases e
      | some d0 =>
        rw [q] at e
        cases e
        obtain ⟨v, h1, h2⟩ := hi.getD q
        exact ⟨v, by rw [List.getElem?_append_left (by rw [List.length_map, hi.length]; exact hlt), List.getElem?_map, h1] <;> rfl, h2⟩
    · rw [List.getElem?_append_right (by simpa using hge), List.getElem?_replicate] at e
      split at e <;> cases e
  · unfold startD L2.start
    rw [List.length_append, List.length_append, List.length_map, List.length_map, List.length_replicate, List.length_replicate, hi.length]
/-- THE RULE for a def -/
theorem fn_d {x qual : Str} {st : Stmt} {f : Addr} {fd : FuncData} {N ps : List Str} {k : Nat} {sd : SpX} (F : Fun K x qual st f fd) (S : FnScope N ps (defScope st)) (len : ∀ ds r P' XR, sd ds r P' XR → ds.length = ps.length)
    (hbody : ∀ (cdv : Value) (A : Around) (outer : List Env) (s : Shared) (H : Hp) (E : XK), Room k (A.deeper (envOfC qual (defScope st) s.heap.objs.size f cdv)) → Takes (cxOf (L2.CX P w) P w K mg base N qual (defScope st) f cdv A outer s H E) (WK E) →
      PassesOwn (model P w) (cxOf (L2.CX P w) P w K mg base N qual (defScope st) f cdv A outer s H E).A (cxOf (L2.CX P w) P w K mg base N qual (defScope st) f cdv A outer s H E).env (cxOf (L2.CX P w) P w K mg base N qual (defScope st) f cdv A outer s H E).xe →
      ∃ t : AS, PBD (cxOf (L2.CX P w) P w K mg base N qual (defScope st) f cdv A outer s H E) (WK E) (defBody st) t ∧
      ∀ ds r P' XR, sd ds r P' XR → t { nx := fun _ r' => fit P' .non r', rt := fit P', xr := fitX XR } (startD N ds) r) : FO P w K mg base (k + 1) f fd ps sd := by
  refine F.okX S (fun vs H Q E h => ?_) (fun cdv A outer s H vs Q E hr h => ?_)
  · obtain ⟨r, ds, P', XR, hr, hi, hs, _, _⟩ := h
    rw [hi.length]
    exact len _ _ _ _ hs
  · obtain ⟨r, ds, P', XR, ro, hi, hs, hq, hx⟩ := h
    obtain ⟨t, ht, hread⟩ := hbody cdv A outer s H E hr (takes_of rfl rfl rfl rfl) (passes_of rfl)
    refine ⟨_, ht, startD N ds, r, { nx := fun _ r' => fit P' .non r', rt := fit P', xr := fitX XR }, start_ok ro hi ?_, hread ds r P' XR hs, ⟨fun δ' r' σ' H' a o k => ?_, fun d r' v H' a o k i => ?_, fun _ _ _ _ z => z.elim, fun _ _ _ _ z => z.elim⟩⟩
    · rintro C fs es δ' r' σ' a H' ⟨r0, l, q⟩ o k e
      exact hx C fs es r0 a H' q (l.r _ _ o.r) (k.trans l.kp) (e.anti l.m)
    · obtain ⟨r0, l, a⟩ := a
      exact hq _ r0 _ H' a (l.r _ _ o.r) (k.trans l.kp) .non
    · obtain ⟨r0, l, a⟩ := a
      exact hq _ r0 _ H' a (l.r _ _ o) (k.trans l.kp) (is_anti l.m i)
end
end G
namespace G
open PySem PySem.Spec L2
open PyProof.Rows (envOfC)
/-- the def st stands under the module's name x -/
def Dfn (K : PySem.W.Frag) (mg : Str → Option Value) (x : Str) (st : Stmt) (ps : List Str) : Prop := ∃ f fd, Fun K x x st f fd ∧ mg x = some (.ref f) ∧ Binds K fd ps []
/-- the module's name x may be called by the promise sd -/
def Cl (P : Program) (w : World) (K : PySem.W.Frag) (mg : Str → Option Value) (base : Heap) (k : Nat) (x : Str) (ps : List Str) (sd : SpX) : Prop :=
  ∃ f fd, FO P w K mg base k f fd ps sd ∧ mg x = some (.ref f) ∧ PySem.W.keepIn K (.ref f) = true ∧ Binds K fd ps []
theorem cl_of {P : Program} {w : World} {K : PySem.W.Frag} {mg : Str → Option Value} {base : Heap} {x : Str} {st : Stmt} {N ps : List Str} {k : Nat} {sd : SpX} (Dx : Dfn K mg x st ps) (S : FnScope N ps (defScope st)) (len : ∀ ds r P' XR, sd ds r P' XR → ds.length = ps.length)
    (hbody : ∀ (f : Addr) (cdv : Value) (A : Around) (outer : List Env) (s : Shared) (H : Hp) (E : XK), Room k (A.deeper (envOfC x (defScope st) s.heap.objs.size f cdv)) → Takes (cxOf (L2.CX P w) P w K mg base N x (defScope st) f cdv A outer s H E) (WK E) →
      PassesOwn (model P w) (cxOf (L2.CX P w) P w K mg base N x (defScope st) f cdv A outer s H E).A (cxOf (L2.CX P w) P w K mg base N x (defScope st) f cdv A outer s H E).env (cxOf (L2.CX P w) P w K mg base N x (defScope st) f cdv A outer s H E).xe →
      ∃ t : AS, PBD (cxOf (L2.CX P w) P w K mg base N x (defScope st) f cdv A outer s H E) (WK E) (defBody st) t ∧
      ∀ ds r P' XR, sd ds r P' XR → t { nx := fun _ r' => fit P' .non r', rt := fit P', xr := fitX XR } (startD N ds) r) : Cl P w K mg base (k + 1) x ps sd := by
  obtain ⟨f, fd, F, g, b⟩ := Dx
  exact ⟨f, fd, fn_d F S len (hbody f), g, F.kp, b⟩
/-- a promise that is never asked -/
theorem cl_never {P : Program} {w : World} {K : PySem.W.Frag} {mg : Str → Option Value} {base : Heap} {x : Str} {st : Stmt} {ps : List Str} {k : Nat} {sd : SpX} (Dx : Dfn K mg x st ps) (h : ∀ ds r P' XR, ¬ sd ds r P' XR) : Cl P w K mg base k x ps sd := by
  obtain ⟨f, fd, F, g, b⟩ := Dx
  exact ⟨f, fd, ⟨fun vs H Q E ⟨r, ds, P', XR, _, _, z, _⟩ => (h _ _ _ _ z).elim, fun A outer s H args us vs Q E _ _ _ _ ⟨r, ds, P', XR, _, _, z, _⟩ => (h _ _ _ _ z).elim⟩, g, F.kp, b⟩
theorem Cl.imp {P : Program} {w : World} {K : PySem.W.Frag} {mg : Str → Option Value} {base : Heap} {x : Str} {ps : List Str} {k : Nat} {sd sd' : SpX} (c : Cl P w K mg base k x ps sd) (h : ∀ ds r P XR, sd' ds r P XR → sd ds r P XR) : Cl P w K mg base k x ps sd' := by
  obtain ⟨f, fd, F, g, kp, b⟩ := c
  exact ⟨f, fd, FnOk.imp F (lift_imp h), g, kp, b⟩
theorem Cl.mono {P : Program} {w : World} {K : PySem.W.Frag} {mg : Str → Option Value} {base : Heap} {x : Str} {ps : List Str} {j k : Nat} {sd : SpX} (c : Cl P w K mg base j x ps sd) (h : j ≤ k) : Cl P w K mg base k x ps sd := by
  obtain ⟨f, fd, F, g, kp, b⟩ := c
  exact ⟨f, fd, FnOk.mono F h, g, kp, b⟩
/-- a def that was walked as one that lets nothing out -/
theorem cl_cx0 {P : Program} {w : World} {K : PySem.W.Frag} {mg : Str → Option Value} {base : Heap} {x : Str} {ps : List Str} {k : Nat} {sd : SpX} {f : Addr} {fd : FuncData} (F : FnOk P w K mg base CX0 k f fd ps (lift K sd)) (g : mg x = some (.ref f)) (kp : PySem.W.keepIn K (.ref f) = true) (b : Binds K fd ps []) : Cl P w K mg base k x ps sd := by
  refine ⟨f, fd, ⟨F.len, fun A outer s H args us vs Q E hr he hb hv hs => codeAny_mono (F.run A outer s H args us vs Q E hr he hb hv hs) fun r s' h => ?_⟩, g, kp, b⟩
  cases r with
  | ok fl => cases fl <;> exact h
  | error e => exact h.elim
section
variable {X : Cx} {W : WX} {k j : Nat} {ps : List Str} {sd : SpX} {x : Str} {p pos : Pos} {e : Expr} {es : List Expr} {l : AL}
theorem d_fn (C : Cl X.prog X.w X.K X.mg X.base k x ps sd) (tk : Takes X W) (hr : Room j X.A) (ha : PDL X W (e :: es) l) (hj : k ≤ j := by first | decide | exact Nat.le_refl _ | omega) (hg : Gl X x := by rfl) (hdb : (x == ("__debug__" : Str)) = false := by decide)
    (he : starEach (e :: es) X.env = (false, eval e X.env) :: starEach es X.env := by rfl) (hpl : (backTo pos (starEach es X.env)).any (·.1) = false := by rfl) : PD X W (.Call (.Name x p) (e :: es) [] pos) (aCall sd l) := by
  obtain ⟨f, fd, F, g, kp, b⟩ := C
  exact d_call (fr_of F b) tk (hr.mono hj) g kp ha hg hdb he hpl
theorem d_fnN (C : Cl X.prog X.w X.K X.mg X.base k x ps sd) (hr : Room j X.A) (ha : PDL X W (e :: es) l) (hj : k ≤ j := by first | decide | exact Nat.le_refl _ | omega) (hg : Gl X x := by rfl) (hdb : (x == ("__debug__" : Str)) = false := by decide)
    (he : starEach (e :: es) X.env = (false, eval e X.env) :: starEach es X.env := by rfl) (hpl : (backTo pos (starEach es X.env)).any (·.1) = false := by rfl) : PD X W (.Call (.Name x p) (e :: es) [] pos) (aCallN sd l) := by
  obtain ⟨f, fd, F, g, kp, b⟩ := C
  exact d_callN (fr_of F b) (hr.mono hj) g kp ha hg hdb he hpl
end
/-- names that the module does not bind -/
structure Bl (mg : Str → Option Value) : Prop where
  len : mg "len" = none
  int : mg "int" = none
  list : mg "list" = none
  tuple : mg "tuple" = none
  isi : mg "isinstance" = none
  range : mg "range" = none
  all : mg "all" = none
  any : mg "any" = none
  str : mg "str" = none
  bool : mg "bool" = none
  enum : mg "enumerate" = none
  zip : mg "zip" = none
  sum : mg "sum" = none
  max : mg "max" = none
  min : mg "min" = none
  sorted : mg "sorted" = none
  set : mg "set" = none
  dict : mg "dict" = none
theorem own_step {K : PySem.W.Frag} {t t' : At} {X : Rs} {H H' : Hp} (h : Rok K (t :: X) H) (hm : t'.M = t.M) (hk : ∀ b o, ¬ t.M b → H b = some o → H' b = some o) (hT : ∀ b, t.M b → ∀ u, Rd H b u → ∀ xs, u ≠ .tup xs) (ht : t'.R K (mem (t' :: X)) H') : Rok K (t' :: X) H' ∧ Kp K (t :: X) H (t' :: X) H' := by
  have me : mem (t' :: X) = mem (t :: X) := by
    show (fun a => t'.M a ∨ mem X a) = (fun a => t.M a ∨ mem X a)
    rw [hm]
  have go : Kp K (t :: X) H (t' :: X) H' := fun v d q => by
    rw [me]
    refine Is.go (fun a o _ n s => ⟨n, hk a _ (fun z => n (.inl z)) s⟩) (fun a xs s => ?_) _ _ q
    rcases s with s | s
    · have na : ¬ t.M a := fun z => hT a z _ s xs rfl
      rcases s with s | ⟨o, s⟩
      · exact .inl (.inl (hk a _ na s))
      · exact .inl (.inr ⟨o, hk a _ na s⟩)
    · exact .inr s
  obtain ⟨h1, h2, h3⟩ := h
  have go' : ∀ v d, Is K (mem (t :: X)) H v d → Is K (mem (t :: X)) H' v d := by
    have g := go
    unfold Kp at g
    rw [me] at g
    exact g
  refine ⟨⟨ht, by rw [hm]; exact h2, ?_⟩, go⟩
  rw [me]
  exact hold_loc (fun b o m q => hk b o (fun z => h2 b z m) q) go' h3
/-- the pool of draws at p, its script's rest at a; fewer than N draws so far -/
def poolA (p a : Addr) (N : Nat) : At where
  M := fun b => b = p ∨ b = a
  R := fun _ _ H => p ≠ a ∧ ∃ (ns : List Int) (c1 c2 c3 : Int), H p = some (.lst [.ref a, .int c1, .int c2, .int c3]) ∧ H a = some (.lst (ns.map V.int)) ∧ 0 ≤ c1 ∧ 0 ≤ c2 ∧ c2 ≤ N ∧ 0 ≤ c3 ∧ c3 < 2147483629 ∧ ns.length ≤ 63
  loc := fun f _ ⟨ne, ns, c1, c2, c3, h1, h2, h⟩ => ⟨ne, ns, c1, c2, c3, f _ _ (.inl rfl) h1, f _ _ (.inr rfl) h2, h⟩
  anti := fun _ h => h
  grow := fun _ h => h
  al := fun ⟨ne, ns, c1, c2, c3, h1, h2, h⟩ b z => z.elim (fun e => ⟨_, e.symm ▸ h1⟩) fun e => ⟨_, e.symm ▸ h2⟩
theorem pool_mono {p a : Addr} {N N' : Nat} (h : N ≤ N') {X : Rs} : le (poolA p a N :: X) (poolA p a N' :: X) :=
  ⟨fun b z => z, fun K H ⟨⟨ne, ns, c1, c2, c3, h1, h2, h3, h4, h5, h6⟩, q, q2⟩ => ⟨⟨ne, ns, c1, c2, c3, h1, h2, h3, h4, by omega, h6⟩, q, q2⟩⟩
/-- a draw below m -/
def spDraw : SpX := fun ds r P _ => ∃ p a m N X, ds = [.adr p, .int m] ∧ r = poolA p a N :: X ∧ (0 < m ∧ m ≤ 10000000000000000000000000000000000000000) ∧ N < 1000000000000 ∧ ∀ k, 0 ≤ k → k < m → P (.int k) (poolA p a (N + 1) :: X)
theorem pool_step {K : PySem.W.Frag} {p a : Addr} {N N' : Nat} {X : Rs} {H H' : Hp} (h : Rok K (poolA p a N :: X) H) (hk : ∀ b o, b ≠ p → b ≠ a → H b = some o → H' b = some o) (ht : (poolA p a N').R K (mem (poolA p a N' :: X)) H') : Rok K (poolA p a N' :: X) H' ∧ Kp K (poolA p a N :: X) H (poolA p a N' :: X) H' := by
  obtain ⟨⟨ne, ns, c1, c2, c3, h1, h2, _⟩, _, _⟩ := id h
  refine own_step h rfl (fun b o n q => hk b o (fun e => n (.inl e)) (fun e => n (.inr e)) q) (fun b z u q xs e => ?_) ht
  subst e
  rcases z with rfl | rfl
  · rcases q with q | ⟨o, q⟩
    · rw [h1] at q; cases q
    · rw [h1] at q; cases q
  · rcases q with q | ⟨o, q⟩
    · rw [h2] at q; cases q
    · rw [h2] at q; cases q
theorem pget_list {X : Cx} : PGet X (fun o i H Q => ∃ (p : Addr) (xs : List V) (j : Nat) (v : V), o = .ref p ∧ i = .int (j : Nat) ∧ j < 1000000 ∧ SqL X.K H p xs ∧ xs[j]? = some v ∧ Q v H) := by
  rintro pins s σ H o i ov iv Q I ro ri ⟨p, xs, j, v, rfl, rfl, hj, hq, hv, q⟩
  cases ro
  obtain ⟨t, rfl⟩ := ri
  obtain ⟨its, r, pl, hz⟩ := I.list hq
  obtain ⟨u, hu, ru⟩ := r.get hv
  exact wpAny_getItem_list pl.isList (by omega) (by omega) (by simpa using hu) ⟨v, H, I, ru, q⟩
theorem brT {A B : Prop} (h : A) : (true = true → A) ∧ (true = false → B) := ⟨fun _ => h, fun e => (by cases e)⟩
theorem brF {A B : Prop} (h : B) : (false = true → A) ∧ (false = false → B) := ⟨fun e => (by cases e), fun _ => h⟩
theorem brt {b : Bool} {A B : Prop} (e : b = true) (h : A) : (b = true → A) ∧ (b = false → B) := ⟨fun _ => h, fun q => by rw [e] at q; cases q⟩
theorem brf {b : Bool} {A B : Prop} (e : b = false) (h : B) : (b = true → A) ∧ (b = false → B) := ⟨fun q => (by rw [e] at q; cases q), fun _ => h⟩
end G
namespace G
open PySem PySem.Spec L2
open PyProof.Rows (envOfC)
abbrev tl (x : Str) : List Nat := x.cps.toList
def strL : List D → Option (List Str)
  | [] => some []
  | .str z :: r => (strL r).map (z :: ·)
  | _ :: _ => none
theorem strL_map : ∀ (l : List Str), strL (l.map .str) = some l
  | [] => rfl
  | b :: bs => by simp [strL, strL_map bs]
theorem strL_all {K : PySem.W.Frag} {N : Addr → Prop} {H : Hp} : ∀ {vs : List V} {ds : List D} {ys : List Str}, IsAll K N H vs ds → strL ds = some ys → vs = ys.map V.str ∧ ∀ y ∈ ys, sok y
  | _, _, _, .nil, e => by cases e; exact ⟨rfl, fun _ h => by cases h⟩
  | _, d :: ds, bs, .cons i t, e => by
    cases i <;> try (simp [strL] at e; done)
    rename_i z hz
    simp only [strL] at e
    cases q : strL ds with
    | none => rw [q] at e; cases e
    | some cs =>
      rw [q] at e
      cases e
      obtain ⟨h1, h2⟩ := strL_all t q
      rw [h1]
      exact ⟨rfl, fun y hy => (List.mem_cons.mp hy).elim (fun e => e ▸ hz) (h2 y)⟩
theorem sok_iff {z : Str} : sok z ↔ (∀ c ∈ tl z, c < 1114112) ∧ (tl z).length ≤ 1000000 := by
  unfold sok PyData.strOk Str.length
  rw [← Array.all_toList, List.all_eq_true, Array.length_toList]
  simp only [decide_eq_true_eq]
theorem joinL_mem {S : List Nat} {c : Nat} : ∀ {ps : List (List Nat)}, c ∈ TL.joinL S ps → c ∈ S ∨ ∃ p ∈ ps, c ∈ p
  | [], h => by cases h
  | [p], h => .inr ⟨p, List.mem_cons_self, h⟩
  | p :: q :: r, h => by
    rcases List.mem_append.mp h with h | h
    · exact .inr ⟨p, List.mem_cons_self, h⟩
    · rcases List.mem_append.mp h with h | h
      · exact .inl h
      · rcases joinL_mem (ps := q :: r) h with h | ⟨x, h1, h2⟩
        · exact .inl h
        · exact .inr ⟨x, List.mem_cons_of_mem _ h1, h2⟩
theorem joinL_len {S : List Nat} : ∀ {ps : List (List Nat)}, (TL.joinL S ps).length ≤ (ps.map List.length).sum + ps.length * S.length
  | [] => by simp [TL.joinL]
  | [p] => by simp [TL.joinL]
  | p :: q :: r => by
    have ih := joinL_len (S := S) (ps := q :: r)
    simp only [TL.joinL, List.length_append, List.map_cons, List.sum_cons, List.length_cons, Nat.add_mul, Nat.one_mul] at ih ⊢
    omega
def tJoin (a : Str) (ys : List Str) : Str := Txt.join a ys
theorem tl_tJoin (a : Str) (ys : List Str) : tl (tJoin a ys) = TL.joinL (tl a) (ys.map tl) := by
  unfold tJoin
  rw [TL.join_eq]
  exact TL.tl_join a ys
theorem tl_len (ys : List Str) : (ys.map tl).map List.length = ys.map (·.length) := by
  rw [List.map_map]
  rfl
def oJoinP (x y : D) (k : D → Prop) : Prop := match x with
  | .str a => match y with
    | .lst ds => (match strL ds with | some ys => (ys.map (·.length)).sum + ys.length * a.length ≤ 1000000 ∧ k (.str (tJoin a ys)) | none => False)
    | .tup ds => (match strL ds with | some ys => (ys.map (·.length)).sum + ys.length * a.length ≤ 1000000 ∧ k (.str (tJoin a ys)) | none => False)
    | _ => False
  | _ => False
structure oJoin (x y : D) (k : D → Prop) : Prop where
  ex : oJoinP x y k
def aM1 (o : O2) (ta tb : AT) : AT := fun x δ r P => ta x δ r fun d1 r1 => match d1 with | .str z => tb x δ r1 fun d2 r2 => o (.str z) d2 fun d => P d r2 | _ => False
theorem sok_join {a : Str} {ys : List Str} (ha : sok a) (hy : ∀ y ∈ ys, sok y) (hz : (ys.map (·.length)).sum + ys.length * a.length ≤ 1000000) : sok (tJoin a ys) := by
  rw [sok_iff, tl_tJoin]
  refine ⟨fun c hc => ?_, ?_⟩
  · rcases joinL_mem hc with h | ⟨p, hp, h⟩
    · exact (sok_iff.mp ha).1 c h
    · obtain ⟨y, h1, rfl⟩ := List.mem_map.mp hp
      exact (sok_iff.mp (hy y h1)).1 c h
  · have := joinL_len (S := tl a) (ps := ys.map tl)
    rw [tl_len, List.length_map] at this
    exact Nat.le_trans this hz
section
variable {X : Cx} {W : WX} {o e : Expr} {ta tb : AT} {apos pos : Pos}
theorem d_join (ho : PD X W o ta) (he : PD X W e tb) (hs : starEach [e] X.env = [(false, eval e X.env)] := by rfl) (hbase : attributeBase o "join" X.env (eval o X.env) = eval o X.env := by rfl) (hline : (apos.endLine == pos.line) = true := by rfl) :
    PD X W (.Call (.Attribute o "join" apos) [e] [] pos) (aM1 oJoin ta tb) := imE (pe_join ho he hs hbase hline) fun σ H Q q => by
  obtain ⟨XR, δ, r, P, ok, h, k⟩ := q
  refine td_bind ok h fun d1 r1 v1 H1 h1 o1 k1 i1 => ?_
  cases i1 <;> try exact h1.elim
  rename_i z hz
  refine ⟨⟨z, rfl⟩, td_bind o1 h1 fun d2 r2 v2 H2 h2 o2 k2 i2 => ?_⟩
  obtain ⟨h2⟩ := h2
  cases i2 <;> try exact h2.elim
  · rename_i n hl al
    simp only [oJoinP] at h2
    split at h2
    · rename_i ys hys
      obtain ⟨e1, e2⟩ := strL_all al hys
      subst e1
      exact ⟨z, _, ys, rfl, rfl, .inl (SqL.of hl), Nat.le_trans h2.1 (by decide), k _ r2 _ H2 h2.2 o2 (k1.trans k2) (.str (sok_join hz e2 h2.1))⟩
    · exact h2.elim
  · rename_i hl al
    simp only [oJoinP] at h2
    split at h2
    · rename_i ys hys
      obtain ⟨e1, e2⟩ := strL_all al hys
      subst e1
      exact ⟨z, _, ys, rfl, rfl, .inr hl, Nat.le_trans h2.1 (by decide), k _ r2 _ H2 h2.2 o2 (k1.trans k2) (.str (sok_join hz e2 h2.1))⟩
    · exact h2.elim
end
def isLet (c : Nat) : Bool := decide (97 ≤ c) && decide (c ≤ 122)
/-- 1 to 8 letters a to z -/
def isNm (z : Str) : Bool := decide (1 ≤ z.length) && decide (z.length ≤ 8) && (tl z).all isLet
theorem isNm_sok {z : Str} (h : isNm z = true) : sok z := by
  unfold isNm isLet at h
  simp only [Bool.and_eq_true, decide_eq_true_eq, List.all_eq_true] at h
  rw [sok_iff]
  refine ⟨fun c hc => ?_, ?_⟩
  · have := (h.2 c hc).2
    omega
  · have : z.length = (tl z).length := by unfold Str.length tl; simp
    omega
/-- the pool is made of a script -/
def spPool (K : PySem.W.Frag) : Sp := fun vs H Q _ => ∃ (s : Addr) (ns : List Int), vs = [.ref s] ∧ SqL K H s (ns.map V.int) ∧ ns.length ≤ 63 ∧ ∀ p a H', Rok K [poolA p a 0] H' → Q (.ref p) H'
/-- a law: a list of at most 63 ints is handed in, True comes out -/
def spLaw (K : PySem.W.Frag) : Sp := fun vs H Q _ => ∃ (a : Addr) (ns : List Int), vs = [.ref a] ∧ SqL K H a (ns.map V.int) ∧ ns.length ≤ 63 ∧ ∀ H', Q (.bl true) H'
end G
namespace G
open PySem PySem.Spec L2
theorem ix_s {z : Str} {i : Int} {c : Nat} {k : D → Prop} (h : atI (tl z) i = some c) (q : k (.str ⟨#[c]⟩)) : oIx (.str z) (.int i) k := by
  refine ⟨?_⟩
  show (match atI (tl z) i with | some c => k (.str ⟨#[c]⟩) | none => False)
  rw [h]
  exact q
theorem ix_l {z : List D} {i : Int} {c : D} {k : D → Prop} (h : atI z i = some c) (q : k c) : oIx (.lst z) (.int i) k := by
  refine ⟨?_⟩
  show (match atI z i with | some c => k c | none => False)
  rw [h]
  exact q
theorem ix_t {z : List D} {i : Int} {c : D} {k : D → Prop} (h : atI z i = some c) (q : k c) : oIx (.tup z) (.int i) k := by
  refine ⟨?_⟩
  show (match atI z i with | some c => k c | none => False)
  rw [h]
  exact q
theorem join_l {a : Str} {ds : List D} {ys : List Str} {k : D → Prop} (h : strL ds = some ys) (hz : (ys.map (·.length)).sum + ys.length * a.length ≤ 1000000) (q : k (.str (tJoin a ys))) : oJoin (.str a) (.lst ds) k := by
  refine ⟨?_⟩
  show (match strL ds with | some ys => (ys.map (·.length)).sum + ys.length * a.length ≤ 1000000 ∧ k (.str (tJoin a ys)) | none => False)
  rw [h]
  exact ⟨hz, q⟩
def sg (c : Nat) : Str := ⟨#[c]⟩
theorem joinL_sg : ∀ cs : List Nat, TL.joinL [] (cs.map fun c => [c]) = cs
  | [] => rfl
  | [c] => rfl
  | c :: d :: r => by
    have ih := joinL_sg (d :: r)
    show [c] ++ ([] ++ TL.joinL [] ((d :: r).map fun c => [c])) = _
    rw [ih]
    rfl
theorem tl_signs (cs : List Nat) : tl (tJoin ⟨#[]⟩ (cs.map sg)) = cs := by
  rw [tl_tJoin, List.map_map]
  exact joinL_sg cs
theorem len_tl (z : Str) : z.length = (tl z).length := by unfold Str.length tl; simp
theorem sum_ones : ∀ cs : List Nat, ((cs.map sg).map (·.length)).sum = cs.length
  | [] => rfl
  | c :: cs => by
    rw [List.map_cons, List.map_cons, List.sum_cons, sum_ones cs, List.length_cons]
    show 1 + cs.length = _
    omega
theorem strL_sg (cs : List Nat) : strL (cs.map fun c => D.str (sg c)) = some (cs.map sg) := by
  have h := strL_map (cs.map sg)
  rw [List.map_map] at h
  exact h
def abc : Str := "abcdefghijklmnopqrstuvwxyz"
theorem abc_all : ((List.range 26).all fun n => match atI (tl abc) ((n : Nat) : Int) with | some c => isLet c | none => false) = true := by decide +kernel
theorem abc_at {k : Int} (h0 : 0 ≤ k) (h1 : k < 26) : ∃ c, atI (tl abc) k = some c ∧ isLet c = true := by
  have h := List.all_eq_true.mp abc_all k.toNat (List.mem_range.mpr (by omega))
  rw [Int.toNat_of_nonneg h0] at h
  cases e : atI (tl abc) k with
  | none => rw [e] at h; cases h
  | some c => rw [e] at h; exact ⟨c, rfl, h⟩
mutual
/-- no address in it, nothing long -/
def plain : D → Bool
  | .adr _ => false | .ins _ _ _ => false | .dct _ _ => false | .lst ds => decide (ds.length ≤ 1000000) && plains ds | .tup ds => decide (ds.length ≤ 1000000) && plains ds | _ => true
def plains : List D → Bool
  | [] => true
  | d :: ds => plain d && plains ds
end
mutual
/-- the same, True no 1 -/
def same : D → D → Bool
  | .non, .non => true
  | .bl a, .bl b => a == b
  | .int a, .int b => a == b
  | .str a, .str b => a == b
  | .lst a, .lst b => sames a b
  | .tup a, .tup b => sames a b
  | _, _ => false
def sames : List D → List D → Bool
  | [], [] => true
  | a :: as, b :: bs => same a b && sames as bs
  | _, _ => false
end
mutual
theorem same_refl : ∀ d : D, plain d = true → same d d = true
  | .non, _ => rfl
  | .bl b, _ => by simp [same]
  | .int b, _ => by simp [same]
  | .str b, _ => by simp [same]
  | .adr _, h => by cases h
  | .ins _ _ _, h => by cases h
  | .dct _ _, h => by cases h
  | .lst ds, h => by simp only [same]; exact sames_refl ds (by simp only [plain, Bool.and_eq_true] at h; exact h.2)
  | .tup ds, h => by simp only [same]; exact sames_refl ds (by simp only [plain, Bool.and_eq_true] at h; exact h.2)
theorem sames_refl : ∀ ds : List D, plains ds = true → sames ds ds = true
  | [], _ => rfl
  | d :: ds, h => by
    simp only [plains, Bool.and_eq_true] at h
    simp only [sames, same_refl d h.1, sames_refl ds h.2]
    rfl
end
theorem plain_tup {ds : List D} (h : plain (.tup ds) = true) : ds.length ≤ 1000000 ∧ plains ds = true := by
  simp only [plain, Bool.and_eq_true, decide_eq_true_eq] at h
  exact h
theorem plain_lst {ds : List D} (h : plain (.lst ds) = true) : ds.length ≤ 1000000 ∧ plains ds = true := by
  simp only [plain, Bool.and_eq_true, decide_eq_true_eq] at h
  exact h
theorem plain_of_lst {ds : List D} (h : ds.length ≤ 1000000) (g : plains ds = true) : plain (.lst ds) = true := by
  simp only [plain, Bool.and_eq_true, decide_eq_true_eq]
  exact ⟨h, g⟩
theorem plains_of : ∀ {ds : List D}, (∀ d ∈ ds, plain d = true) → plains ds = true
  | [], _ => rfl
  | a :: as, h => by
    simp only [plains, Bool.and_eq_true]
    exact ⟨h a List.mem_cons_self, plains_of fun d m => h d (List.mem_cons_of_mem _ m)⟩
theorem sames_len : ∀ {a b : List D}, sames a b = true → a.length = b.length
  | [], [], _ => rfl
  | _ :: _, _ :: _, h => by
    simp only [sames, Bool.and_eq_true] at h
    rw [List.length_cons, List.length_cons, sames_len h.2]
  | [], _ :: _, h => by simp [sames] at h
  | _ :: _, [], h => by simp [sames] at h
theorem eqD_int (a b : Int) : eqD (.int a) (.int b) = (a == b) := rfl
theorem eqD_str (a b : Str) : eqD (.str a) (.str b) = (a == b) := rfl
theorem ne_len {m n : Nat} (h : m ≠ n) : (!eqD (.int m) (.int n)) = true := by
  rw [eqD_int]
  simp
  omega
theorem eq_len {m n : Nat} (h : m = n) : (!eqD (.int m) (.int n)) = false := by
  rw [eqD_int, h]
  simp
theorem sames_at : ∀ {xs ys : List D} {j : Nat} {x y : D}, sames xs ys = true → xs[j]? = some x → ys[j]? = some y → same x y = true
  | [], _, j, x, y, _, e, _ => by simp at e
  | _ :: _, [], j, x, y, h, _, _ => by simp [sames] at h
  | a :: as, b :: bs, 0, x, y, h, e, f => by
    simp only [sames, Bool.and_eq_true] at h
    simp at e f
    rw [← e, ← f]
    exact h.1
  | a :: as, b :: bs, j + 1, x, y, h, e, f => by
    simp only [sames, Bool.and_eq_true] at h
    exact sames_at (j := j) h.2 (by simpa using e) (by simpa using f)
theorem sames_of : ∀ {xs ys : List D}, xs.length = ys.length → (∀ (j : Nat) (x y : D), xs[j]? = some x → ys[j]? = some y → same x y = true) → sames xs ys = true
  | [], [], _, _ => rfl
  | [], _ :: _, h, _ => by cases h
  | _ :: _, [], h, _ => by cases h
  | a :: as, b :: bs, h, f => by
    simp only [sames, Bool.and_eq_true]
    exact ⟨f 0 a b rfl rfl, sames_of (by simpa using h) fun j x y e g => f (j + 1) x y (by simpa using e) (by simpa using g)⟩
theorem plains_at : ∀ {xs : List D} {j : Nat} {x : D}, plains xs = true → xs[j]? = some x → plain x = true
  | [], j, x, _, e => by simp at e
  | a :: as, 0, x, h, e => by
    simp only [plains, Bool.and_eq_true] at h
    simp at e
    rw [← e]
    exact h.1
  | a :: as, j + 1, x, h, e => by
    simp only [plains, Bool.and_eq_true] at h
    exact plains_at (j := j) h.2 (by simpa using e)
theorem deps_at : ∀ {xs : List D} {j : Nat} {x : D}, xs[j]? = some x → dep x ≤ deps xs
  | [], j, x, e => by simp at e
  | a :: as, 0, x, e => by
    simp at e
    rw [← e]
    simp only [deps]
    omega
  | a :: as, j + 1, x, e => by
    have := deps_at (xs := as) (j := j) (x := x) (by simpa using e)
    simp only [deps]
    omega
/-- _law_same: two data, depth below n -/
def spSame (n : Nat) : SpX := fun ds r P _ => ∃ a b, ds = [a, b] ∧ plain a = true ∧ plain b = true ∧ dep a ≤ 64 ∧ dep b < n ∧ P (.bl (same a b)) r
end G
namespace G
open PySem PySem.Spec L2
open PyProof.Rows (envOfC)
theorem law_go {K : PySem.W.Frag} {W : WX} {t : AS} {N : List Str} {Dd : Ends} {s p a : Addr} {H' : Hp} (ro : Rok K [poolA p a 0] H') (hD : ∀ H', Dd.rt (.bl true) H')
    (h : t { nx := fun _ _ => False, rt := fun d _ => d = .bl true } (none :: some (.adr p) :: List.replicate (N.length - 2) none) [poolA p a 0]) (hN : 2 ≤ N.length := by decide) : TSD K W t Dd ((L2.start N [.ref s]).set 1 (some (.ref p))) H' := by
  refine ⟨_, _, { nx := fun _ _ => False, rt := fun d _ => d = .bl true }, ⟨⟨fun i d e => ?_, ro, ?_⟩, fun _ _ _ _ _ _ _ _ z => z.elim⟩, h, ⟨fun _ _ _ _ z => z.elim, fun d r' v H2 e _ _ i => ?_, fun _ _ _ _ z => z.elim, fun _ _ _ _ z => z.elim⟩⟩
  · match i with
    | 0 => cases e
    | 1 =>
      cases e
      refine ⟨.ref p, ?_, .adr p⟩
      rw [List.getElem?_set_self]
      unfold L2.start
      simp
      omega
    | i + 2 =>
      have e : (List.replicate (N.length - 2) (none : Option D))[i]? = some (some d) := e
      rw [List.getElem?_replicate] at e
      split at e <;> cases e
  · unfold L2.start
    simp
    omega
  · subst e
    cases i
    exact hD _
theorem dfn_mk {K : PySem.W.Frag} {h : Heap} {mg : Str → Option Value} (X : K.In h) (G : h.Ns mainGlobals mg) {x : Str} {st : Stmt} {ps : List Str} {f : Addr} {oc : Value} {od an : Option Addr} {osl : Array (Option Value)} {kV doc pm cdv ct : Value}
    (a : PySem.W.nsIn K mainGlobals x = some (some (.ref f))) (l : K.lookup f = some ⟨oc, od, .func (PySem.W.fnOf x x (defArgs st) (defBody st) (defScope st) .none kV doc pm an cdv ct), osl⟩) (c : PySem.W.codeIn K cdv x = true) (k : PySem.W.keepIn K (.ref f) = true)
    (b : ∀ (kV doc pm : Value) (an : Option Addr) (cdv ct : Value) (us : List Value), us.length = ps.length → bindArgs (PySem.W.fnOf x x (defArgs st) (defBody st) (defScope st) .none kV doc pm an cdv ct) ⟨us, []⟩ = pure (ps.zip us)) : Dfn K mg x st ps :=
  have F := fun_mk (st := st) l c k
  ⟨f, _, F, PySem.W.mg_of X G a, F.binds b⟩
theorem at0 {α : Type} {z : α} {l : List α} : atI (z :: l) 0 = some z := L2.atI_nat (j := 0) rfl
theorem at1 {α : Type} {z y : α} {l : List α} : atI (z :: y :: l) 1 = some y := L2.atI_nat (j := 1) rfl
theorem at2 {α : Type} {z y x : α} {l : List α} : atI (z :: y :: x :: l) 2 = some x := L2.atI_nat (j := 2) rfl
theorem sl_l {xs : List D} {lo hi : Option Int} {k : D → Prop} (h : k (.lst (cutD xs lo hi))) : oSl (.lst xs) lo hi k := ⟨h⟩
end G
namespace G
open PySem PySem.Spec L2
open PyProof.Rows (envOfC)
end G
namespace G
open PySem PySem.Spec L2
def GS (mg : Str → Option Value) (x z : Str) : Prop := ∃ t, mg x = some (.str z t)
def GI (mg : Str → Option Value) (x : Str) (n : Int) : Prop := ∃ t, mg x = some (.int n t)
def GT (K : PySem.W.Frag) (mg : Str → Option Value) (x : Str) (xs : List Str) : Prop := ∃ a, mg x = some (.ref a) ∧ ∀ M H, Is K M H (.ref a) (.tup (xs.map .str))
section
variable {X : Cx} {W : WX} {x : Str} {pos : Pos}
theorem d_gS {z : Str} (h : GS X.mg x z) (hz : sokB z = true := by decide +kernel) (hg : Gl X x := by rfl) (hdb : (x == ("__debug__" : Str)) = false := by decide) : PD X W (.Name x pos) (aC (.str z)) := by
  obtain ⟨t, h⟩ := h
  exact d_glob (v := .str z) hg h ⟨t, rfl⟩ (fun _ _ => .str (sok_of hz)) hdb
theorem d_gI {n : Int} (h : GI X.mg x n) (hg : Gl X x := by rfl) (hdb : (x == ("__debug__" : Str)) = false := by decide) : PD X W (.Name x pos) (aC (.int n)) := by
  obtain ⟨t, h⟩ := h
  exact d_glob (v := .int n) hg h ⟨t, rfl⟩ (fun _ _ => .int n) hdb
theorem d_gT {xs : List Str} (h : GT X.K X.mg x xs) (hg : Gl X x := by rfl) (hdb : (x == ("__debug__" : Str)) = false := by decide) : PD X W (.Name x pos) (aC (.tup (xs.map .str))) := by
  obtain ⟨a, h, i⟩ := h
  exact d_glob (v := .ref a) hg h rfl i hdb
end
/-- the texts of a written tuple -/
def strVs : List Value → Option (List Str)
  | [] => some []
  | .str x _ :: r => (strVs r).map (x :: ·)
  | _ :: _ => none
theorem strVs_vals : ∀ {l : List Value} {xs : List Str}, strVs l = some xs → Vals (xs.map V.str) l
  | [], _, e => by cases e; exact .nil
  | .str x t :: r, xs, e => by
    simp only [strVs] at e
    cases q : strVs r with
    | none => rw [q] at e; cases e
    | some ys =>
      rw [q] at e
      cases e
      exact .cons ⟨t, rfl⟩ (strVs_vals q)
theorem all_strs {K : PySem.W.Frag} {M : Addr → Prop} {H : Hp} : ∀ {xs : List Str}, xs.all sokB = true → IsAll K M H (xs.map V.str) (xs.map D.str)
  | [], _ => .nil
  | x :: xs, h => by
    rw [List.all_cons, Bool.and_eq_true] at h
    exact .cons (.str (sok_of h.1)) (all_strs h.2)
theorem isK_tup {K : PySem.W.Frag} {a : Addr} {od : Option Addr} {its : Array Value} {n : Nat} {sl : Array (Option Value)} {xs : List Str} (hl : K.lookup a = some ⟨.type "tuple", od, .seq its n, sl⟩) (h : strVs its.toList = some xs) (hs : xs.all sokB = true) (hn : xs.length ≤ 1000000) (M : Addr → Prop) (H : Hp) : Is K M H (.ref a) (.tup (xs.map .str)) := by
  have v := strVs_vals h
  refine .tup (xs := xs.map V.str) (.inr ⟨_, its, n, hl, rfl, rfl, ?_, v⟩) (all_strs hs)
  have e := v.length
  rw [List.length_map] at e
  have e2 : its.size = xs.length := by rw [← Array.length_toList]; exact e.symm
  rw [e2, sizeLine_eq]
  omega
theorem u65 {k : Nat} {A : Around} (r : Room k A) : A.units + 65 < cLine := by have := r.un; omega
theorem memD_str (z : Str) (xs : List Str) : memD (.str z) (xs.map .str) = xs.any fun y => y == z := by
  unfold memD
  rw [List.any_map]
  congr 1
theorem flat_strs (xs : List Str) : (xs.map D.str).all flat = true := by
  rw [List.all_map, List.all_eq_true]
  exact fun _ _ => rfl
theorem oIn_t {z : Str} {xs : List Str} {k : D → Prop} (h : k (.bl (xs.any fun y => y == z))) : oIn false (.str z) (.tup (xs.map .str)) k := ⟨⟨rfl, flat_strs xs, by rw [cond_false, memD_str]; exact h⟩⟩
theorem oAll_of {f : List Bool → Bool} {xs : List D} {bs : List Bool} {k : D → Prop} (h : bls xs = some bs) (q : k (.bl (f bs))) : oAll f [.lst xs] k := by
  refine ⟨?_⟩
  show (match bls xs with | some bs => k (.bl (f bs)) | none => False)
  rw [h]
  exact q
theorem bls_of {α : Type} (f : α → Bool) (xs : List α) : bls (xs.map fun x => D.bl (f x)) = some (xs.map f) := by
  have := bls_map (xs.map f)
  rw [List.map_map] at this
  exact this
theorem abc_in : ((List.range 123).all fun c => isLet c == decide (c ∈ tl abc)) = true := by decide +kernel
theorem abc_max : ((tl abc).all fun c => decide (c < 123)) = true := by decide +kernel
theorem isLet_abc (c : Nat) : decide (c ∈ tl abc) = isLet c := by
  by_cases h : c < 123
  · exact (eq_of_beq (List.all_eq_true.mp abc_in c (List.mem_range.mpr h))).symm
  · have h1 : c ∉ tl abc := fun m => h (of_decide_eq_true (List.all_eq_true.mp abc_max c m))
    rw [decide_eq_false h1]
    unfold isLet
    have : ¬ c ≤ 122 := by omega
    simp [this]
def isNameD : D → Bool | .str z => isNm z | _ => false
def spIsName : SpX := fun ds r P _ => ∃ d, ds = [d] ∧ plain d = true ∧ P (.bl (isNameD d)) r
end G
namespace G
open PySem PySem.Spec L2
open PyProof.Rows (envOfC)
def Own (r : Rs) (l : Addr) (ds : List D) : Prop := ∃ pre post, r = pre ++ lstA l ds :: post
theorem Own.hd {r : Rs} {l : Addr} {ds : List D} : Own (lstA l ds :: r) l ds := ⟨[], r, rfl⟩
theorem Own.last {r : Rs} {l : Addr} {ds : List D} : Own (r ++ [lstA l ds]) l ds := ⟨r, [], rfl⟩
section
variable {K : PySem.W.Frag} {r pre post : Rs} {H : Hp} {l p : Addr} {ds es : List D} {vs ws : List V}
theorem mem_mid {x y : At} (h : x.M = y.M) : mem (pre ++ x :: post) = mem (pre ++ y :: post) := by
  funext a
  refine propext ((mem_append (r := pre) (r' := x :: post)).trans (Iff.trans ?_ (mem_append (r := pre) (r' := y :: post)).symm))
  show (mem pre a ∨ (x.M a ∨ mem post a)) ↔ (mem pre a ∨ (y.M a ∨ mem post a))
  rw [h]
theorem own_mid (h : Rok K (pre ++ lstA l ds :: post) H) : ∃ vs, H l = some (.lst vs) ∧ IsAll K (mem (pre ++ lstA l ds :: post)) H vs ds := by
  obtain ⟨_, ⟨h2, _⟩, _⟩ := hold_append.mp h
  exact h2
theorem own_get (h : Rok K r H) (o : Own r l ds) : ∃ vs, H l = some (.lst vs) ∧ IsAll K (mem r) H vs ds := by
  obtain ⟨pre, post, rfl⟩ := o
  exact own_mid h
theorem own_mem : mem (pre ++ lstA l ds :: post) l := mem_append.mpr (.inr (.inl rfl))
theorem own_put (h : Rok K (pre ++ lstA l ds :: post) H) (i : IsAll K (mem (pre ++ lstA l ds :: post)) H ws es) : Rok K (pre ++ lstA l es :: post) (upd H l (.lst ws)) ∧ Kp K (pre ++ lstA l ds :: post) H (pre ++ lstA l es :: post) (upd H l (.lst ws)) := by
  obtain ⟨vs, e1, _⟩ := own_mid h
  obtain ⟨h1, ⟨h2, h3, h4⟩, h5⟩ := hold_append.mp h
  have me : mem (pre ++ lstA l ds :: post) = mem (pre ++ lstA l es :: post) := mem_mid rfl
  have go : ∀ w e, Is K (mem (pre ++ lstA l ds :: post)) H w e → Is K (mem (pre ++ lstA l ds :: post)) (upd H l (.lst ws)) w e := fun w e q => is_other own_mem e1 q
  refine ⟨hold_append.mpr ⟨?_, ⟨⟨ws, upd_same, ?_⟩, h3, ?_⟩, h5⟩, fun w e q => me ▸ go w e q⟩
  · rw [← me]
    exact hold_loc (fun b o m q => by rw [upd_ne (fun e => h5 b m (.inl e))]; exact q) go h1
  · rw [← me]
    exact all_of go i
  · rw [← me]
    exact hold_loc (fun b o m q => by rw [upd_ne (fun e => h3 b e m)]; exact q) go h4
theorem own_drop (h : Rok K (pre ++ lstA l ds :: post) H) : Rok K (pre ++ post) H ∧ Is K (mem (pre ++ post)) H (.ref l) (.lst ds) ∧ Kp K (pre ++ lstA l ds :: post) H (pre ++ post) H := by
  obtain ⟨h1, ⟨h2, h3, h4⟩, h5⟩ := hold_append.mp h
  have an : ∀ a, mem (pre ++ post) a → mem (pre ++ lstA l ds :: post) a := fun a z => (mem_append.mp z).elim (fun z => mem_append.mpr (.inl z)) fun z => mem_append.mpr (.inr (.inr z))
  obtain ⟨vs, e1, e2⟩ := h2
  refine ⟨hold_append.mpr ⟨hold_anti an h1, hold_anti an h4, fun a m z => h5 a m (.inr z)⟩, .lst (fun z => ?_) e1 (all_of (fun _ _ => is_anti an) e2), fun _ _ => is_anti an⟩
  rcases mem_append.mp z with z | z
  · exact h5 l z (.inl rfl)
  · exact h3 l rfl z
theorem rok_new (h : Rok K r H) (hp : H p = none) (i : IsAll K (mem r) H vs ds) : Rok K (r ++ [lstA p ds]) (upd H p (.lst vs)) ∧ Kp K r H (r ++ [lstA p ds]) (upd H p (.lst vs)) := by
  have e : ∀ a, mem (r ++ [lstA p ds]) a → mem r a ∨ a = p := fun a z => (mem_append.mp z).elim .inl fun z => z.elim .inr False.elim
  have go : Kp K r H (r ++ [lstA p ds]) (upd H p (.lst vs)) := fun v d q => is_anti e (is_ext (Ext.new hp) _ _ (is_grow hp q))
  refine ⟨hold_append.mpr ⟨hold_anti e (hold_ext (Ext.new hp) (hold_grow hp h)), ⟨⟨vs, upd_same, all_of go i⟩, fun _ _ z => z, True.intro⟩, fun a m z => ?_⟩, go⟩
  have : a = p := z.elim (fun z => z) False.elim
  subst this
  exact not_al h hp m
end
def aLstO (l : AL) : AT := fun x δ r P => l x δ r fun ds r1 => small ds.length ∧ ∀ p, P (.adr p) (r1 ++ [lstA p ds])
section
variable {X : Cx} {W : WX} {e : Expr} {es : List Expr} {pos : Pos} {l : AL} {te : AT}
theorem d_lstO (ha : PDL X W es l) : PD X W (.List es pos) (aLstO l) := imE (pe_lst ha) fun σ H Q q => by
  obtain ⟨XR, δ, r, P, o, h, k⟩ := q
  refine tdl_bind o h fun ds r1 vs H1 h1 o1 k1 i1 => ⟨by rw [i1.length]; exact h1.1.sz, fun p hp => ?_⟩
  obtain ⟨q1, q2⟩ := rok_new o1.r hp i1
  exact k _ _ _ _ (h1.2 p) (o1.step q2 q1) (k1.trans q2) (.adr p)
/-- a name's own list handed on as data -/
def aMove (te : AT) : AT := fun x δ r P => te x δ r fun d r1 => ∃ l ds pre post, d = .adr l ∧ r1 = pre ++ lstA l ds :: post ∧ P (.lst ds) (pre ++ post)
theorem d_move (h : PD X W e te) : PD X W e (aMove te) := imE h fun σ H Q q => by
  obtain ⟨XR, δ, r, P, o, h, k⟩ := q
  refine td_bind o h fun d r1 v H1 h1 o1 k1 i1 => ?_
  obtain ⟨l, ds, pre, post, rfl, rfl, h1⟩ := h1
  cases i1
  obtain ⟨q1, q2, q3⟩ := own_drop o1.r
  exact k _ _ _ _ h1 (o1.step q3 q1) (k1.trans q3) q2
def rC2 (K : PySem.W.Frag) (o : Rs → OC) : List V → Hp → VK → Prop := fun vs H Q => ∃ (r : Rs) (ds : List D) (P : D → Prop), Rok K r H ∧ IsAll K (mem r) H vs ds ∧ o r ds P ∧ ∀ d v H', P d → Ext H H' → Is K (mem r) H' v d → Q v H'
def aBlt2 (o : Rs → OC) (l : AL) : AT := fun x δ r P => l x δ r fun ds r1 => o r1 ds fun d => P d r1
theorem tcb2 {K : PySem.W.Frag} {W : WX} {o : Rs → OC} {l : AL} {σ : L2.St} {H : Hp} {Q : VK} (q : TD K W (aBlt2 o l) σ H Q) : tCB (rC2 K o) (TDL K W l) σ H Q := by
  obtain ⟨XR, δ, r, P, ok, h, k⟩ := q
  refine tdl_bind ok h fun ds r1 vs H1 h1 o1 k1 i1 => ⟨r1, ds, fun d => P d r1, o1.r, i1, h1, fun d v H' p e i => k d r1 v H' p (o1.ext e) (k1.trans (Kp.ext e)) i⟩
theorem d_blt2 {bid : String} {o : Rs → OC} {x : Str} {p : Pos} (hc : CallR X (.builtin bid) (rC2 X.K o)) (hg : Gl X x) (hm : X.mg x = none) (ha : PDL X W (e :: es) l) (hv : bootBuiltins x = some (.builtin bid) := by decide +kernel) (hn : x ≠ "__name__" := by decide) (hdb : (x == ("__debug__" : Str)) = false := by decide)
    (he : starEach (e :: es) X.env = (false, eval e X.env) :: starEach es X.env := by rfl) (hpl : (backTo pos (starEach es X.env)).any (·.1) = false := by rfl) : PD X W (.Call (.Name x p) (e :: es) [] pos) (aBlt2 o l) :=
  imE (pe_callB hc hg hm hv ha hn hdb he hpl) fun _ _ _ q => tcb2 q
structure oLenO (r : Rs) (ds : List D) (k : D → Prop) : Prop where
  ex : ∃ l xs, ds = [.adr l] ∧ Own r l xs ∧ (xs.length ≤ sizeLine → k (.int xs.length))
theorem c_lenO : CallR X (.builtin "len") (rC2 X.K oLenO) := by
  rintro pins s σ H vs us Q I rv ⟨r, ds, P, hr, i, ⟨l, xs, rfl, ow, ho⟩, k⟩
  obtain ⟨ws, h1, h2⟩ := own_get hr ow
  cases i with
  | cons i t =>
    cases t
    cases i
    obtain ⟨_, _, _, hz⟩ := I.list (SqL.of h1)
    exact call_len pins s σ H _ us Q I rv ⟨_, _, rfl, .inl ⟨_, SqL.of h1, rfl⟩, by rw [h2.length] at hz ⊢; exact k _ _ H (ho hz) (Ext.refl H) (.int _)⟩
def rD2 (K : PySem.W.Frag) (o : Rs → O2) : R2 := fun x y H Q => ∃ (r : Rs) (d1 d2 : D) (P : D → Prop), Rok K r H ∧ Is K (mem r) H x d1 ∧ Is K (mem r) H y d2 ∧ o r d1 d2 P ∧ ∀ d v H', P d → Ext H H' → Is K (mem r) H' v d → Q v H'
def aOp2 (o : Rs → O2) (ta tb : AT) : AT := fun x δ r P => ta x δ r fun d1 r1 => tb x δ r1 fun d2 r2 => o r2 d1 d2 fun d => P d r2
theorem td_op2 {K : PySem.W.Frag} {W : WX} {o : Rs → O2} {ta tb : AT} {σ : L2.St} {H : Hp} {Q : VK} (q : TD K W (aOp2 o ta tb) σ H Q) : tOp (rD2 K o) (TD K W ta) (TD K W tb) σ H Q := by
  obtain ⟨XR, δ, r, P, ok, h, k⟩ := q
  refine td_bind ok h fun d1 r1 v1 H1 h1 o1 k1 i1 => td_bind o1 h1 fun d2 r2 v2 H2 h2 o2 k2 i2 => ?_
  exact ⟨r2, d1, d2, fun d => P d r2, o2.r, k2 _ _ i1, i2, h2, fun d v H' p e i => k d r2 v H' p (o2.ext e) ((k1.trans k2).trans (Kp.ext e)) i⟩
structure oIxO (r : Rs) (x y : D) (k : D → Prop) : Prop where
  ex : ∃ l xs i d, x = .adr l ∧ y = .int i ∧ Own r l xs ∧ atI xs i = some d ∧ k d
theorem p_ixO : IxR X (rD2 X.K oIxO) := by
  rintro value slice pins s σ H x y v u Q I rx ry ⟨r, d1, d2, P, hr, i1, i2, ⟨l, xs, i, d, rfl, rfl, ow, hd, ho⟩, k⟩ hs
  cases i1
  cases i2
  obtain ⟨ws, h1, h2⟩ := own_get hr ow
  obtain ⟨w, hw, iw⟩ := at_all h2 hd
  exact ix_list value slice pins s σ H _ _ v u Q I rx ry ⟨_, _, _, _, rfl, rfl, SqL.of h1, hw, k _ _ H ho (Ext.refl H) iw⟩ hs
theorem d_ixO {a b : Expr} {ta tb : AT} (ha : PD X W a ta) (hb : PD X W b tb) (hs : PlainIx b := by exact fun _ _ => rfl) : PD X W (.Subscript a b pos) (aOp2 oIxO ta tb) := imE (pe_ix p_ixO ha hb hs) fun _ _ _ q => td_op2 q
abbrev OM := Rs → Addr → List D → (D → Rs → Prop) → Prop
def aMth (om : OM) (to : AT) (l : AL) : AT := fun x δ r P => to x δ r fun d r1 => ∃ a xs, d = .adr a ∧ Own r1 a xs ∧ l x δ r1 fun ds r2 => om r2 a ds P
def OMok (K : PySem.W.Frag) (om : OM) (rr : V → List V → Hp → VK → Prop) : Prop := ∀ r a ds P H vs Q, Rok K r H → IsAll K (mem r) H vs ds → om r a ds P → (∀ d r' v H', P d r' → Rok K r' H' → Kp K r H r' H' → Is K (mem r') H' v d → Q v H') → rr (.ref a) vs H Q
theorem d_mth {om : OM} {rr : V → List V → Hp → VK → Prop} {o : Expr} {to : AT} {name : Str} {id : String} {apos cpos : Pos} (slot : Slot "list" name id) (hty : typeOf (.builtin id) = pure (.type "method_descriptor")) (hm : MtR X id rr) (hom : OMok X.K om rr) (ho : PD X W o to) (ha : PDL X W (e :: es) l)
    (hbase : attributeBase o name X.env (eval o X.env) = eval o X.env := by rfl)
    (hfew : ((backTo cpos (starEach (e :: es) X.env)).all (fun x => !x.1) && (backToKw cpos (keywordEach [] X.env)).all (fun x => x.1.isSome)
      && decide ((e :: es).length + ([] : List Keyword).length + (if ([] : List Keyword).isEmpty then 0 else 1) < 30)) = true := by rfl)
    (hline : (apos.endLine == cpos.line) = true := by rfl) (hs : starEach (e :: es) X.env = (false, eval e X.env) :: starEach es X.env := by rfl) (hplain : (backTo cpos (starEach es X.env)).any (·.1) = false := by rfl) :
    PD X W (.Call (.Attribute o name apos) (e :: es) [] cpos) (aMth om to l) := imE (pe_bm PySem.F.plainAttrs_list slot hty hm ho ha hbase hfew hline hs hplain) fun σ H Q q => by
  obtain ⟨XR, δ, r, P, ok, h, k⟩ := q
  refine td_bind ok h fun d r1 v H1 h1 o1 k1 i1 => ?_
  obtain ⟨a, xs, rfl, ow, h1⟩ := h1
  cases i1
  obtain ⟨ws, g1, g2⟩ := own_get o1.r ow
  refine ⟨.inl ⟨rfl, ws, SqL.of g1⟩, tdl_bind o1 h1 fun ds r2 vs H2 h2 o2 k2 i2 => ?_⟩
  exact hom r2 a ds P H2 vs Q o2.r i2 h2 fun d r' v H' p ro kk i => k d r' v H' p (o2.step kk ro) ((k1.trans k2).trans kk) i
structure oApp (r : Rs) (a : Addr) (ds : List D) (P : D → Rs → Prop) : Prop where
  ex : ∃ pre xs post y, ds = [y] ∧ r = pre ++ lstA a xs :: post ∧ small (xs.length + 1) ∧ P .non (pre ++ lstA a (xs ++ [y]) :: post)
theorem om_app {K : PySem.W.Frag} : OMok K oApp rAppend := by
  rintro r a ds P H vs Q ro i ⟨pre, xs, post, y, rfl, rfl, hz, hp⟩ k
  cases i with
  | cons i t =>
    cases t
    obtain ⟨ws, e1, e2⟩ := own_mid ro
    obtain ⟨q1, q2⟩ := own_put ro (e2.append (.cons i .nil))
    exact ⟨a, ws, _, rfl, rfl, e1, by rw [e2.length]; exact Nat.lt_of_lt_of_le (Nat.lt_succ_self _) hz.sz, k _ _ _ _ hp q1 q2 .non⟩
theorem d_app {o : Expr} {to : AT} {apos cpos : Pos} (ho : PD X W o to) (ha : PDL X W [e] l) (hbase : attributeBase o "append" X.env (eval o X.env) = eval o X.env := by rfl)
    (hfew : ((backTo cpos (starEach [e] X.env)).all (fun x => !x.1) && (backToKw cpos (keywordEach [] X.env)).all (fun x => x.1.isSome)
      && decide (([e] : List Expr).length + ([] : List Keyword).length + (if ([] : List Keyword).isEmpty then 0 else 1) < 30)) = true := by rfl)
    (hline : (apos.endLine == cpos.line) = true := by rfl) (hs : starEach [e] X.env = (false, eval e X.env) :: starEach [] X.env := by rfl) (hplain : (backTo cpos (starEach [] X.env)).any (·.1) = false := by rfl) : PD X W (.Call (.Attribute o "append" apos) [e] [] cpos) (aMth oApp to l) :=
  d_mth PySem.F.slot_list_append PySem.F.type_list_append mt_append om_app ho ha hbase hfew hline hs hplain
theorem set_all {K : PySem.W.Frag} {N : Addr → Prop} {H : Hp} {v : V} {d : D} (i : Is K N H v d) : ∀ {vs : List V} {ds : List D} (n : Nat), IsAll K N H vs ds → IsAll K N H (vs.set n v) (ds.set n d)
  | _, _, _, .nil => .nil
  | _, _, 0, .cons _ t => .cons i t
  | _, _, n + 1, .cons h t => .cons h (set_all i n t)
end
end G
namespace G
open PySem PySem.Spec L2
def gd (n : Nat) : Nat → D → Bool
  | _, .adr _ => false
  | _, .ins _ _ _ => false
  | _, .dct _ _ => false
  | 0, .lst _ => false
  | 0, .tup _ => false
  | m + 1, .lst ds => decide (ds.length ≤ n) && ds.all (gd n m)
  | m + 1, .tup ds => decide (ds.length ≤ n) && ds.all (gd n m)
  | _, _ => true
theorem deps_le {k : Nat} : ∀ {ds : List D}, (∀ d ∈ ds, dep d ≤ k) → deps ds ≤ k
  | [], _ => Nat.zero_le _
  | d :: ds, h => by
    simp only [deps]
    have h1 := h d List.mem_cons_self
    have h2 := deps_le (ds := ds) fun d m => h d (List.mem_cons_of_mem _ m)
    omega
theorem len_app (a b : Str) : (a ++ b).length = a.length + b.length := by
  show (a.cps ++ b.cps).size = _
  rw [Array.size_append]
  rfl
/-- at a place of a written list of data -/
theorem pick_in {l : List D} {k : Int} (h0 : 0 ≤ k) (h1 : k < (l.length : Nat)) : ∃ d, d ∈ l ∧ atI l k = some d := by
  obtain ⟨n, rfl⟩ : ∃ n : Nat, k = n := ⟨k.toNat, by omega⟩
  have hn : n < l.length := by omega
  exact ⟨l[n], List.getElem_mem _, L2.atI_nat (by simp)⟩
end G
namespace G
open PySem PySem.Spec L2
/-- [e(x) for x in ds if f(x)] -/
theorem lc_fm {x : XT} {g : AG} {te : AT} {tt : AB} {δw : Dl} {ds : List D} {r1 : Rs} {P : PK1} (f : D → Bool) (e : D → D) (hz : small ds.length)
    (he : ∀ d ∈ ds, ∀ (r' : Rs) (Q1 : PK1) (Q2 : Rs → Prop), (f d = true → Q1 (e d) r') → (f d = false → Q2 r') → g d δw fun δ2 => tt x δ2 r' fun b r2 => (b = true → te x δ2 r2 Q1) ∧ (b = false → Q2 r2)) (hP : P (.lst ((ds.filter f).map e)) r1) : aLcK x g tt te δw ds r1 P := by
  refine ⟨fun i acc r' => acc = ((ds.take i).filter f).map e ∧ r' = r1, ⟨rfl, rfl⟩, ?_, ?_⟩
  · rintro p i d acc r' hd ⟨rfl, rfl⟩
    have hi := (List.getElem?_eq_some_iff.mp hd).1
    refine he d (List.mem_of_getElem? hd) _ _ _ (fun q => ⟨?_, r', le.refl, ?_, rfl⟩) (fun q => ⟨r', le.refl, ?_, rfl⟩)
    · rw [List.length_map]
      have h1 := List.length_filter_le f (ds.take i)
      rw [List.length_take] at h1
      have : small ds.length := hz
      unfold small at *
      omega
    · rw [List.take_add_one, hd, List.filter_append, List.map_append]
      show _ = _ ++ List.map e (List.filter f [d])
      rw [List.filter_cons, q]
      rfl
    · rw [List.take_add_one, hd, List.filter_append, List.map_append]
      show _ = _ ++ List.map e (List.filter f [d])
      rw [List.filter_cons, q]
      simp
  · rintro acc r' ⟨rfl, rfl⟩
    rw [List.take_length]
    exact hP
theorem eq_nil (xs : List D) : eqD (.lst xs) (.lst []) = xs.isEmpty := by
  cases xs <;> rfl
theorem filter_none {xs : List D} {f : D → Bool} : (xs.filter fun d => !f d).isEmpty = xs.all f := by
  induction xs with
  | nil => rfl
  | cons x xs ih =>
    rw [List.filter_cons, List.all_cons]
    cases f x with
    | true => exact ih
    | false => rfl
end G
namespace G
open PySem PySem.Spec L2
end G
namespace G
open PySem PySem.Spec L2
end G
namespace G
open PySem PySem.Spec L2
section
variable {X : Cx} {W : WX} {o e : Expr} {ta tb : AT} {apos pos : Pos}
theorem d_ty2 {T : String} {oo : Rs → OC} {es : List Expr} {l : AL} {x : Str} {p : Pos} (hc : CallR X (.type T) (rC2 X.K oo)) (hg : Gl X x) (hm : X.mg x = none) (ha : PDL X W (e :: es) l) (hv : bootBuiltins x = some (.type T) := by decide +kernel) (hn : x ≠ "__name__" := by decide) (hdb : (x == ("__debug__" : Str)) = false := by decide)
    (he : starEach (e :: es) X.env = (false, eval e X.env) :: starEach es X.env := by rfl) (hpl : (backTo pos (starEach es X.env)).any (·.1) = false := by rfl) : PD X W (.Call (.Name x p) (e :: es) [] pos) (aBlt2 oo l) :=
  imE (pe_callTy hc hg hm hv ha hn hdb he hpl) fun _ _ _ q => tcb2 q
end
end G
namespace G
open PySem PySem.Spec L2
end G
namespace G
open PySem PySem.Spec L2 PySem.W PyProof.Rows
/-- what the written part says of such a class at C: its __init__ at f stores under fld -/
structure ErrK (P : Program) (K : Frag) (mg : Str → Option Value) (C : Addr) : Prop where
  cls : OexC K C
  mro : mroIn K C (.ref C) = some true
  sub : subIn K (.ref C) (.type "ValueError") = some true
  sup : ks_superIn K C C "__init__" = some (some (.builtin "ValueError.__init__"))
  opq : nsIn K cStatics "thirdparty.any" = some none
  mgs : mg "super" = none
  top : (P.main.scope.names.lookup ("super" : Str)).isSome = false
def spEI (C : Addr) (fld : Str) : Sp := fun vs H Q _ => ∃ (a : Addr) (v : V), vs = [.ref a, v] ∧ H a = some (exo a C none) ∧ ∀ dx, H dx = none → dx ≠ a → Q .non (upd (upd H dx (exd dx [(fld, v)])) a (exo a C (some dx)))
def cxE (P : Program) (w : World) (K : Frag) (mg : Str → Option Value) (base : Heap) (N : List Str) (qual : Str) (scope : Scope) (f : Addr) (cda cc : Addr) (A : Around) (outer : List Env) (s : Shared) (H : Hp) (xe : Value → Shared → Prop) : Cx where
  prog := P
  w := w
  K := K
  mg := mg
  base := base
  A := A.deeper (ksEnv qual scope s.heap.objs.size f (.ref cda) cc)
  N := N
  s_0 := s
  H_0 := H
  env := ksEnv qual scope s.heap.objs.size f (.ref cda) cc
  outer := outer
  stack := ksEnv qual scope s.heap.objs.size f (.ref cda) cc :: outer
  ex := []
  calm := true
  fn := fun _ => false
  pn := []
  xe := xe
section
variable {P : Program} {w : World} {K : Frag} {mg : Str → Option Value} {base : Heap}
theorem exinit {C fI cc cda : Addr} {cd0 : ClassData} {prm fld : Str} {qual name : Str} {params : Arguments} {scope : Scope} {dV kV doc pm cdv ct oc ccl cl : Value} {an od cdd cld : Option Addr} {osl ccs csl : Array (Option Value)} {vs0 : Array Value} {file : Str} {tf : Tok}
    {p0 p1 p2 p3 p4 p5 p6 p7 p8 p9 : Pos} {txt : Str} {j : Nat} {jj : _}
    (T : ErrK P K mg C)
    (lk : K.lookup fI = some ⟨oc, od, .func (ksFn name qual params [.Expr (.Call (.Attribute (.Call (.Name "super" p0) [] [] p1) "__init__" p2) [.Constant (.str txt) jj p3] [] p4) p5, .Assign [.Attribute (.Name "self" p6) fld p7] (.Name prm p8) p9] scope dV kV doc pm an (.ref cda) ct cc), osl⟩)
    (hcd : codeIn K (.ref cda) qual = true) (hD : clsIn K C = some cd0) (hno : findIn K (.ref C) fld = some none)
    (hcode : K.lookup cda = some ⟨ccl, cdd, .fields vs0, ccs⟩) (hvs : vs0[2]? = some (.str file tf)) (hfile : ((P.main.file : Str) == file) = true)
    (hcell : K.lookup cc = some ⟨cl, cld, .cell (some (.ref C)), csl⟩)
    (hp : ∃ ar : Arg, (params.posonlyargs ++ params.args).head? = some ar ∧ ar.arg = "self")
    (hnm : scope.names.lookup ("self" : Str) = some .local ∧ scope.names.lookup prm = some .local ∧ scope.names.lookup ("super" : Str) = some .globalImplicit ∧ scope.names.lookup ("__class__" : Str) = some .free)
    (hfree : ∀ x, scope.names.lookup x = some .cell ∨ scope.names.lookup x = some .free → x = "__class__") (hcl : ∀ x ∈ scope.names, x.2 ≠ .cell)
    (hsc : scope.isCoroutine = false ∧ scope.isGenerator = false ∧ scope.kind = .function) (hps : ("self" : Str) ≠ prm) (hcdbg : (prm == ("__debug__" : Str)) = false ∧ (prm == ("__classdict__" : Str)) = false)
    (hin : ∀ L, interactive (ksEnv qual scope L fI (.ref cda) cc) = false)
    (hpl1 : ∀ L, swapsWith (.Call (.Attribute (.Call (.Name "super" p0) [] [] p1) "__init__" p2) [.Constant (.str txt) jj p3] [] p4) none p5.line (ksEnv qual scope L fI (.ref cda) cc) = pure false)
    (hev : ∀ L, ∃ pl : Sem Bool, eval (.Call (.Attribute (.Call (.Name "super" p0) [] [] p1) "__init__" p2) [.Constant (.str txt) jj p3] [] p4) (ksEnv qual scope L fI (.ref cda) cc) = (do
      let ov ← attributeBase (.Call (.Name "super" p0) [] [] p1) "__init__" (ksEnv qual scope L fI (.ref cda) cc) (eval (.Call (.Name "super" p0) [] [] p1) (ksEnv qual scope L fI (.ref cda) cc))
      standAt p2.atName
      let (f, first) ← holding [ov] (getMethod ov "__init__" pl)
      callWith p4 f first (backTo p4 (starEach [.Constant (.str txt) jj p3] (ksEnv qual scope L fI (.ref cda) cc))) []))
    (hpl2 : ∀ L, swapsWith (.Name prm p8) (some (.Attribute (.Name "self" p6) fld p7)) p9.line (ksEnv qual scope L fI (.ref cda) cc) = pure false) :
    FnOk P w K mg base CX0 1 fI (ksFn name qual params [.Expr (.Call (.Attribute (.Call (.Name "super" p0) [] [] p1) "__init__" p2) [.Constant (.str txt) jj p3] [] p4) p5, .Assign [.Attribute (.Name "self" p6) fld p7] (.Name prm p8) p9] scope dV kV doc pm an (.ref cda) ct cc) ["self", prm] (spEI C fld) := by
  refine ⟨fun vs H Q E ⟨a, v, e, _⟩ => by rw [e]; rfl, fun A outer s H args us vs Q E hr e0 hb r hsp => ?_⟩
  obtain ⟨a, v, rfl, hea, hq⟩ := hsp
  obtain ⟨u, rfl, rv⟩ : ∃ u, us = [.ref a, u] ∧ RelV v u := by
    match us, r with
    | [_, u], .cons ra (.cons rv .nil) => exact ⟨u, by rw [show _ = Value.ref a from ra], rv⟩
  have KX : K.In s.heap := e0.mod.kin.keeps fun b o e => (e0.bs b o e).1
  have lim : s.heap.NoLimit := e0.mod.nolimit.keeps fun b o e => (e0.bs b o e).1
  refine ks_codeAny_call_defAt hr.depth (KX _ _ lk) rfl lim (codeRec_of KX hcd) rfl hb hcl (fun x hx => ?_) (fun h₀ hns hk => ?_) hsc.1 hsc.2.1 hsc.2.2
  · simp only [List.zip_cons_cons, List.zip_nil_right, List.mem_cons, List.not_mem_nil, or_false] at hx
    rcases hx with rfl | rfl
    · exact hnm.1
    · exact hnm.2.1
  have kX : K.In h₀ := KX.keeps hk
  have hcc : H cc = none := (e0.bs _ _ (e0.mod.kin _ _ hcell)).2
  have lkc : ∀ {x : Str} {c : Addr}, List.lookup x [(("__class__" : Str), cc)] = some c → x = "__class__" ∧ c = cc := fun {x c} h => by
    by_cases e : x = "__class__"
    · subst e
      simp at h
      exact ⟨rfl, h.symm⟩
    · have e2 : (x == ("__class__" : Str)) = false := by simpa using e
      simp [List.lookup, e2] at h
  have hm1 : ((("self" : Str), Value.ref a) :: (prm, u) :: []).reverse.lookup ("self" : Str) = some (.ref a) := by
    have : (("self" : Str) == prm) = false := by simpa using hps
    simp [List.lookup, this]
  have hm2 : ((("self" : Str), Value.ref a) :: (prm, u) :: []).reverse.lookup prm = some u := by
    simp [List.lookup]
  have hns' : h₀.Ns s.heap.objs.size fun x => ((("self" : Str), Value.ref a) :: (prm, u) :: []).reverse.lookup x := hns
  have I : L2.Inv (cxE P w K mg base ["self", prm] qual scope fI cda cc A outer s H fun _ _ => False) [] [some (.ref a), some v] H { s with heap := h₀, toks := s.toks + 2 } := by
    refine ⟨⟨e0.mod, hsc.2.2, rfl, rfl, Nat.le_refl _, fun x y c h1 h2 => ?_, fun x hx => ?_, fun x c z _ => (by cases z), fun _ => hr.hd, Around.frames_deeper e0.frames, .inr ⟨rfl, rfl⟩, fun b z => (by cases z), e0.bs, e0.bsz, fun b o _ z => (by cases z), fun b z => (by cases z), e0.funs, e0.frf⟩,
      rfl, e0.bare, Un.kept hk, ⟨_, hns', fun i x v' h1 h2 h3 => ?_⟩, fun x c h => ?_, e0.hok.fresh (Nat.le_refl _), fun x c h => ?_, fun p z => (by cases z), e0.hok.kept hk, rfl⟩
    · rw [(lkc h1).1, (lkc h2).1]
    · have := hfree x hx
      subst this
      exact ⟨cc, by simp [cxE, ksEnv, envX]⟩
    · match i, h1, h2 with
      | 0, h1, h2 =>
        cases h1
        cases h2
        exact ⟨_, rfl, .inl ⟨hnm.1, hm1⟩⟩
      | 1, h1, h2 =>
        cases h1
        cases h2
        exact ⟨u, rv, .inl ⟨hnm.2.1, hm2⟩⟩
    · rw [(lkc h).2]
      exact ⟨_, _, kX _ _ hcell, rfl⟩
    · rw [(lkc h).2]
      exact hcc
  obtain ⟨ar, hp1, hp2⟩ := hp
  obtain ⟨pl, hev⟩ := hev s.heap.objs.size
  -- super().__init__(text)
  refine ks_wpAt_execs_cons (ks_wpAt_Expr_any (ks_wpAt_MethodCall (c := _) (ks_wpAt_super_base (env := ksEnv qual scope s.heap.objs.size fI (.ref cda) cc) hnm.2.2.1 hnm.2.2.2 rfl rfl (kX _ _ lk) rfl hp1 rfl (kX _ _ hcode) rfl hvs hfile T.top ?_) hev) (hin _) (hpl1 _))
  obtain ⟨mb, hmb, hmb2⟩ := e0.mod.blt
  have kb : ∀ b o, base.get? b = some o → h₀.get? b = some o := fun b o e => hk _ _ (e0.bs b o e).1
  refine ks_loadName_global hsc.2.2 hnm.2.2.1 (PySem.Calls.loadGlobal_builtin (env := ksEnv qual scope s.heap.objs.size fI (.ref cda) cc) (e0.mod.glob.keeps kb) T.mgs (hmb.keeps kb) ((hmb2 _ (by decide +kernel)).trans PyProof.Rows.Boot.super) ⟨rfl, ?_⟩)
  refine wpAny_loadName_free hsc.2.2 hnm.2.2.2 rfl ⟨_, kX _ _ hcell, rfl⟩ ?_
  rw [hp2]
  refine wpAny_loadName_local hsc.2.2 hnm.1 hns' hm1 ?_
  obtain ⟨t1, ho⟩ := exo_at I.hok hea
  obtain ⟨oD, hD1, hD2⟩ : ∃ oD, h₀.get? C = some oD ∧ oD.data = .cls cd0 := by
    unfold clsIn at hD
    split at hD
    · rename_i c d cd' sl ho
      cases hD
      exact ⟨_, kX _ _ ho, rfl⟩
    · cases hD
  refine ks_wpAny_isType_cls hD1 hD2 ⟨rfl, ?_⟩
  replace ho : h₀.get? a = _ := ho
  refine ks_wpAny_call_super hD1 hD2 ho rfl (fun c e => by cases e) (looks_mroIn kX T.mro) (fun h2 hso k2 => ?_)
  have kX2 : K.In h2 := kX.keeps k2
  have hne : a ≠ C := fun e => by
    subst e
    rw [hD1] at ho
    cases ho
    cases hD2
  have hmro : ∃ l, alongIn K "__init__" l = some (some (.builtin "ValueError.__init__")) ∧ (cd0.mro.dropWhile (· != .ref C)).drop 1 = l := by
    have q := T.sup
    unfold ks_superIn at q
    rw [hD] at q
    exact ⟨_, q, rfl⟩
  obtain ⟨ml, hml, hdl⟩ := hmro
  have ho2 := k2 _ _ ho
  have hI2 : Looks (model P w) h2 (isInstance (.ref a) (.type "ValueError")) true := (InstAt.type (show InstAt h2 a _ C none from ⟨ho2, rfl, rfl, trivial⟩)).andThen (looks_subIn kX2 T.sub)
  refine kxs_getMethod kxs_ValueError hso (looks_opaque kX2 T.opq) (l₀ := cd0.mro) (fun A Q E s k q => wpAny_bind ((looks_clsIn kX2 hD) A _ E s k (wpAny_pure q))) hdl kX2 hml hI2 hne rfl ?_
  have hlt : h₀.objs.size < h2.objs.size := Heap.lt_size hso
  have hsz : h₀.objs.size ≤ h2.objs.size := Nat.le_of_lt hlt
  have k3 : ∀ b o, h₀.get? b = some o → (h2.push (kxs_mw "ValueError.__init__" a)).get? b = some o := fun b o e => Heap.get?_push_of_some _ (k2 b o e)
  have hu3 : (h2.push (kxs_mw "ValueError.__init__" a)).get? h2.objs.size = some (kxs_mw "ValueError.__init__" a) := Heap.get?_push_size h2 rfl
  have J3 := ClX.pin_new (t' := s.toks + 2 + 1) I k3 hsz hu3 (fun v e => by cases e)
  dsimp only
  refine kxs_callWith (i := "ValueError.__init__") (x := a) rfl ?_
  refine PySem.Calls.evalArgs_plain ?_
  refine wpAny_mono (((pa_cons (X := cxE P w K mg base ["self", prm] qual scope fI cda cc A outer s H fun _ _ => False) (e := .Constant (.str txt) jj p3) (es := []) pe_str pa_nil).run p4 _ _ _ H (fun vs H' => vs = [.str txt] ∧ H' = H) J3 ⟨rfl, rfl⟩)) (fun vs s4 ⟨ws, H4, I4, r4, e4, e5⟩ => ?_) (fun _ _ z => False.elim z)
  subst e4
  have e5' := e5.symm
  subst e5'
  have hu4 : s4.heap.get? h2.objs.size = some (kxs_mw "ValueError.__init__" a) := ClX.pin_at I4
  have J4 := ClX.unpin I4
  refine ⟨hu4, ?_⟩
  obtain ⟨t4, ho4⟩ := exo_at J4.hok hea
  obtain ⟨hp4, g4, d4, tk4, os4⟩ := s4
  have hl4 : vs.length ≤ sizeLine := by
    rw [← r4.length]
    show 1 ≤ sizeLine
    rw [sizeLine_eq]
    omega
  obtain ⟨nm, q, N, bs, bm, sn, sub, ab, col, dd, k0, k1, k2', k3', k5, hC, hbm⟩ := T.cls.cls
  refine wpAny_call (codeAny_of_tree ?_)
  show wpAny _ _ (callAny (.ref h2.objs.size) ⟨vs, []⟩) _ _ _
  simp only [callAny]
  refine wpAny_bind (wpAny_load hu4 ?_)
  simp only [kxs_mw, show (Value.type "method-wrapper" == Value.type "method" || Value.type "method-wrapper" == Value.type "builtin_function_or_method" || Value.type "method-wrapper" == Value.type "method-wrapper") = true by decide, if_true]
  refine KFB.if_so (by decide) ?_
  refine wpAny_bind (check_bound_init F.excBase_ValueError.toExcCallFacts (J4.kIn _ _ hC) ho4 rfl ?_)
  refine wpAny_bind (wpAny_pure (wpAny_pure ?_))
  refine ⟨plainId_quiet F.excBase_ValueError.init.plain _, codeAny_builtin F.excBase_ValueError.initEntry ?_⟩
  refine exc_init_tree (cls := .ref C) (t0 := t4) (dv := none) (c2 := .none) (c3 := .none) (b4 := .bool false) ho4 hl4 fun h5 kk5 ho5 _ => ?_
  have J5 := J4.write (t' := tk4) (x := a) (e := a) (o := exo a C none) (by rw [hea]; exact True.intro) (.inl rfl) kk5 ⟨_, ho5⟩ (exo_ok ho5)
  have eu : upd H a (exo a C none) = H := by
    funext b
    by_cases hb : b = a
    · rw [hb, upd_same, hea]
    · rw [upd_ne hb]
  rw [eu] at J5
  dsimp only
  refine wpAt_of_wpAny (wpAny_mono ((pss_one (ps_ost (X := cxE P w K mg base ["self", prm] qual scope fI cda cc A outer s H fun _ _ => False) (pe_var (i := 0) rfl (.inl hnm.1)) (pe_var (i := 1) rfl (.inl hnm.2.1) hcdbg.1 hcdbg.2) (hpl2 _))).run [] _ _ H { nx := fun _ H' => Q .non H', rt := Q } J5 ⟨v, rfl, .ref a, rfl, a, C, rfl, T.cls, hno, .inl ⟨hea, fun dx n1 n2 => hq dx n1 n2⟩⟩) (fun fl s' hs => ?_) fun _ _ z => False.elim z)
  cases fl with
  | next =>
    obtain ⟨σ', H', J, q⟩ := hs
    exact ⟨.non, H', J.os, J.bare, J.base, J.hok, rfl, q⟩
  | ret u =>
    obtain ⟨v, σ', H', J, rv, q⟩ := hs
    exact ⟨v, H', J.os, J.bare, J.base, J.hok, rv, q⟩
  | brk =>
    obtain ⟨_, _, _, q⟩ := hs
    exact False.elim q
  | cont =>
    obtain ⟨_, _, _, q⟩ := hs
    exact False.elim q
end
end G
namespace L2
open PySem PySem.Spec PyProof.Rows
/-- what the clauses wish of an exception of the body, one after the other; some i: the slot of the clause's name -/
def wManyA (K : PySem.W.Frag) (Wout : WX) (D : Ends) : List (Value × Option Nat × (Addr → Value → Option Addr → TS)) → WX
  | [] => Wout
  | (c, none, ts) :: r => fun cls d σ H => ∃ b, PySem.W.exmOne K cls c = some b ∧ (b = true → ∀ a, H a = none → ts a cls d D σ H) ∧ (b = false → wManyA K Wout D r cls d σ H)
  | (c, some i, ts) :: r => fun cls d σ H => ∃ b, PySem.W.exmOne K cls c = some b ∧
      (b = true → ∀ a, H a = none → ts a cls d { nx := fun σ' H' => D.nx (σ'.set i none) H', rt := D.rt, bk := fun σ' H' => D.bk (σ'.set i none) H', ct := fun σ' H' => D.ct (σ'.set i none) H' } (σ.set i (some (.ref a))) H) ∧ (b = false → wManyA K Wout D r cls d σ H)
inductive HdsA (X : Cx) : List ExceptHandler → List (Value × Option Nat × (Addr → Value → Option Addr → TS)) → Prop
  | nil : HdsA X [] []
  | cons {x : Str} {c : Value} {ts : Addr → Value → Option Addr → TS} {b₀ : Stmt} {suite : List Stmt} {np pos' : Pos} {hds : List ExceptHandler} {l : List (Value × Option Nat × (Addr → Value → Option Addr → TS))} (hc : Names X x c)
      (hsu : ∀ (a : Addr) (oe : Obj) (cls : Value) (d : Option Addr) (pn : List (Addr × Obj)), Zc cls d oe → (∃ vs, oe.data = .fields vs) → PSs (X.suite a ((a, oe) :: pn)) (b₀ :: suite) (ts a cls d)) (r : HdsA X hds l) :
      HdsA X (.ExceptHandler (some (.Name x np)) none (b₀ :: suite) pos' :: hds) ((c, none, ts) :: l)
  | as {x n : Str} {i : Nat} {c : Value} {ts : Addr → Value → Option Addr → TS} {b₀ : Stmt} {suite : List Stmt} {np pos' : Pos} {hds : List ExceptHandler} {l : List (Value × Option Nat × (Addr → Value → Option Addr → TS))} (hN : X.N.Nodup) (hi : X.N[i]? = some n) (hln : X.env.kindOf n = some .local) (hc : Names X x c)
      (hsu : ∀ (a : Addr) (oe : Obj) (cls : Value) (d : Option Addr) (pn : List (Addr × Obj)), Zc cls d oe → (∃ vs, oe.data = .fields vs) → PSs (X.suite a ((a, oe) :: pn)) (b₀ :: suite) (ts a cls d)) (r : HdsA X hds l) :
      HdsA X (.ExceptHandler (some (.Name x np)) (some n) (b₀ :: suite) pos' :: hds) ((c, some i, ts) :: l)
section
variable {X : Cx} {body : List Stmt} {h₀ : ExceptHandler} {hds : List ExceptHandler} {l : List (Value × Option Nat × (Addr → Value → Option Addr → TS))} {pos : Pos} {tb : WX → TS} {Wout : WX}
theorem ps_try_manyA (hs : X.stack = X.env :: X.outer) (hf : X.env.frame = some X.env.locals) (tk : Takes X Wout)
    (hb : ∀ (W : WX) (pn : List (Addr × Obj)) (xe : Value → Shared → Prop), Takes (X.tr pn xe) W → PassesOwn (model X.prog X.w) X.A X.env xe → PSs (X.tr pn xe) body (tb W))
    (hh : HdsA X (h₀ :: hds) l) : PS X (.Try body (h₀ :: hds) [] [] pos) (fun D σ H => tb (wManyA X.K Wout D l) D σ H) := by
  refine ⟨fun pins s σ H D I h => ?_⟩
  have ok := I.ok
  have hfr : X.A.frames = some (X.env :: X.outer) := by rw [ok.frames, hs]
  refine wpAny_Try_except ?_
  refine wpAny_mono ((hb (wManyA X.K Wout D l) (X.pn ++ pins) (fun e s₁ => wpAny (model X.prog X.w) X.A (noteFrame e X.env) (fun _ s₂ => wpAny (model X.prog X.w) X.A (setFlight e none) (fun _ s₃ =>
    wpAny (model X.prog X.w) X.A (handleBy e X.env (h₀ :: hds)) (SP X pins D) X.xe s₃) X.xe s₂) X.xe s₁) (fun u s' xx => ?_) PassesOwn.looking).run [] s σ H D (I.toTry _) h) (fun f s1 hsp => ?_) (fun e s1 he => he)
  · obtain ⟨a, B, sI, pins', σ', H', cls, d, rfl, J', nb, up, sky, na, os, ag, w⟩ := xx
    have J : Inv X pins σ' H' sI := J'.ofTry ok
    have sky' : Sky B (X.env :: X.outer) a (Zc cls d) X.env.locals s'.heap := by rw [← hs]; exact sky
    show wpAny (model X.prog X.w) X.A (noteFrame (.ref a) X.env) _ _ _
    refine Sky.land Zc.steady hfr hf sky' fun h3 fl3 up3 => ?_
    have J3 : Inv X pins σ' H' { s' with heap := h3 } := J.landed nb fl3.1 (up.trans up3) os ag
    obtain ⟨oe3, vs3, he3, hz3, hd3⟩ := fl3.there
    have notFr : ∀ {h : Heap} {o : Obj} {vs : Array Value}, h.FunFrames B (X.env :: X.outer) → h.get? a = some o → o.data = .fields vs → a ∉ frs (X.env :: X.outer) := fun {h o vs} ff e dd hm => by
      obtain ⟨_, o', e', hnf⟩ := ff.mem hm
      rw [e] at e'; cases e'
      exact hnf _ dd
    have nfr := notFr fl3.2.2.1 he3 hd3
    have nL : a ≠ X.env.locals := fun z => nfr (List.mem_filterMap.mpr ⟨X.env, List.mem_cons_self, by rw [hf, z]⟩)
    have nF : a ∉ X.fs := fun hm => by
      obtain ⟨e, he, q⟩ := List.mem_filterMap.mp hm
      exact nfr (List.mem_filterMap.mpr ⟨e, List.mem_cons_of_mem _ he, q⟩)
    have S3 := J3.suite he3 hd3 na nL nF
    have go : ∀ {hds' : List ExceptHandler} {l' : List (Value × Option Nat × (Addr → Value → Option Addr → TS))}, HdsA X hds' l' → wManyA X.K Wout D l' cls d σ' H' →
        wpAny (model X.prog X.w) X.A (handleBy (.ref a) X.env hds') (SP X pins D) X.xe { s' with heap := h3 } := by
      intro hds' l' hk
      induction hk with
      | nil =>
        intro w
        refine wpAny_handleBy_nil ?_
        obtain ⟨k1, k2, k3, oe, vs, T, oT, ts', he, hz, hd, h1, hr⟩ := id fl3
        unfold PySem.passOn
        refine wpAny_bind (wpAny_field he hd h1 ?_)
        rw [if_neg (show ¬ ((Value.ref T == Value.none) = true) from by simp)]
        have fin : wpAny (model X.prog X.w) X.A (setFlight (.ref a) X.env.frame) (fun _ s4 => wpAny (model X.prog X.w) X.A (throw (.ref a) : Sem Flow) (SP X pins D) X.xe s4) X.xe { s' with heap := h3 } := by
          rw [hf]
          refine HandSPX.setFlight_upZ fl3 fun h4 hh4 up4 => wpAny_throw (tk _ _ ?_)
          exact ⟨a, B, sI, pins, σ', H', cls, d, rfl, J, nb, (up.trans up3).trans up4, .inr (.inr (by rw [hs]; exact hh4)), na, os, ag, w⟩
        first
          | exact wpAny_bind (wpAny_pure (wpAny_bind fin))
          | exact wpAny_bind fin
      | @cons x c ts b₀ suite np pos' hds2 l2 hc hsu r ih =>
        intro w
        obtain ⟨b, hb1, hyes, hno⟩ := w
        refine wpAny_handleBy_cons (codeAny_handlers_test ?_) (by intro q; cases q)
        have LT : PySem.W.Looks (model X.prog X.w) h3 (typeOf (.ref a)) cls := fun A Q E s k q => wpAny_typeOf_ref (k _ _ he3) (by rw [hz3.1]; exact q)
        have LM := PySem.W.exm_one (M := model X.prog X.w) (J3.kIn) LT hb1
        have test : ∀ {Q : Value → Shared → Prop} {E : Value → Shared → Prop}, Q c { s' with heap := h3 } → wpAny (model X.prog X.w) (X.A.mark (some (.ref a))) (eval (.Name x np) X.env) Q E { s' with heap := h3 } := fun {Q E} q => by
          obtain ⟨hg, hdbg, hm | ⟨hm, hv, hnn⟩⟩ := hc
          · exact ld_glob (X := X.suite a ((a, oe3) :: (X.pn ++ pins))) S3 hg hm q hdbg
          · exact ld_blt (X := X.suite a ((a, oe3) :: (X.pn ++ pins))) S3 hg hm hv q hnn hdbg
        refine test (LM.here ?_)
        cases b with
        | true =>
          refine codeAny_handlers_suite ?_
          refine HandSPX.lands_againZ fl3 fun h4 fl4 up4 => ?_
          have J4 : Inv X pins σ' H' { s' with heap := h4 } := J.landed nb fl4.1 ((up.trans up3).trans up4) os ag
          obtain ⟨oe4, vs4, he4, hz4, hd4⟩ := fl4.there
          have S4 := J4.suite he4 hd4 na nL nF
          refine wpAny_mono ((hsu a oe4 cls d (X.pn ++ pins) hz4 ⟨_, hd4⟩).run [] _ _ H' _ S4 (hyes rfl a na)) (fun f s6 hsp => ?_) (fun _ _ z => False.elim z)
          cases f with
          | next =>
            obtain ⟨σ6, H6, S6, q6⟩ := hsp
            exact ⟨_, _, S6.unsuite ok, q6⟩
          | brk =>
            obtain ⟨σ6, H6, S6, q6⟩ := hsp
            exact ⟨_, _, S6.unsuite ok, q6⟩
          | cont =>
            obtain ⟨σ6, H6, S6, q6⟩ := hsp
            exact ⟨_, _, S6.unsuite ok, q6⟩
          | ret u =>
            obtain ⟨v6, σ6, H6, S6, r6, q6⟩ := hsp
            exact ⟨_, _, _, S6.unsuite ok, r6, q6⟩
        | false =>
          show wpAny _ X.A (handleBy (.ref a) X.env hds2) _ _ _
          exact ih (hno rfl)
      | @as x n i c ts b₀ suite np pos' hds2 l2 hN hi hln hc hsu r ih =>
        intro w
        obtain ⟨b, hb1, hyes, hno⟩ := w
        have hloc : Loc X.env.scope n := .inl hln
        refine wpAny_handleBy_cons (codeAny_handlers_test ?_) (by intro q; cases q)
        have LT : PySem.W.Looks (model X.prog X.w) h3 (typeOf (.ref a)) cls := fun A Q E s k q => wpAny_typeOf_ref (k _ _ he3) (by rw [hz3.1]; exact q)
        have LM := PySem.W.exm_one (M := model X.prog X.w) (J3.kIn) LT hb1
        have test : ∀ {Q : Value → Shared → Prop} {E : Value → Shared → Prop}, Q c { s' with heap := h3 } → wpAny (model X.prog X.w) (X.A.mark (some (.ref a))) (eval (.Name x np) X.env) Q E { s' with heap := h3 } := fun {Q E} q => by
          obtain ⟨hg, hdbg, hm | ⟨hm, hv, hnn⟩⟩ := hc
          · exact ld_glob (X := X.suite a ((a, oe3) :: (X.pn ++ pins))) S3 hg hm q hdbg
          · exact ld_blt (X := X.suite a ((a, oe3) :: (X.pn ++ pins))) S3 hg hm hv q hnn hdbg
        refine test (LM.here ?_)
        cases b with
        | true =>
          refine codeAny_handlers_suite_as ?_
          refine HandSPX.lands_againZ fl3 fun h4 fl4 up4 => ?_
          have J4 : Inv X pins σ' H' { s' with heap := h4 } := J.landed nb fl4.1 ((up.trans up3).trans up4) os ag
          obtain ⟨oe4, vs4, he4, hz4, hd4⟩ := fl4.there
          have S4 := J4.suite he4 hd4 na nL nF
          refine store_ok (X := X.suite a ((a, oe4) :: (X.pn ++ pins))) (v := .ref a) S4 hN hi hloc rfl (fun s5 S5 => ?_) (.inr hln)
          refine wpAny_mono ((hsu a oe4 cls d (X.pn ++ pins) hz4 ⟨_, hd4⟩).run [] s5 _ H' _ S5 (hyes rfl a na)) (fun f s6 hsp => ?_) (fun _ _ z => False.elim z)
          have end_ : ∀ {σ6 : St} {H6 : Hp} {Q : Shared → Prop}, Inv (X.suite a ((a, oe4) :: (X.pn ++ pins))) [] σ6 H6 s6 → (∀ s7, Inv X pins (σ6.set i none) H6 s7 → Q s7) →
              wpAny (model X.prog X.w) X.A (do bindName X.env n .none; unbindBehindTheSuite X.env n pos') (fun _ s7 => Q s7) X.xe s6 := fun {σ6 H6 Q} S6 hq => gone_ok (S6.unsuite ok) hN hi hln hq
          cases f with
          | next =>
            obtain ⟨σ6, H6, S6, q6⟩ := hsp
            exact end_ S6 fun s7 J7 => ⟨_, _, J7, q6⟩
          | brk =>
            obtain ⟨σ6, H6, S6, q6⟩ := hsp
            exact end_ S6 fun s7 J7 => ⟨_, _, J7, q6⟩
          | cont =>
            obtain ⟨σ6, H6, S6, q6⟩ := hsp
            exact end_ S6 fun s7 J7 => ⟨_, _, J7, q6⟩
          | ret u =>
            obtain ⟨v6, σ6, H6, S6, r6, q6⟩ := hsp
            exact end_ S6 fun s7 J7 => ⟨_, _, _, J7, r6, q6⟩
        | false =>
          show wpAny _ X.A (handleBy (.ref a) X.env hds2) _ _ _
          exact ih (hno rfl)
    exact go hh w
  · cases f with
    | next =>
      obtain ⟨σ', H', J', q⟩ := hsp
      exact wpAny_execs_nil ⟨σ', H', J'.ofTry ok, q⟩
    | brk =>
      obtain ⟨σ', H', J', q⟩ := hsp
      exact ⟨σ', H', J'.ofTry ok, q⟩
    | cont =>
      obtain ⟨σ', H', J', q⟩ := hsp
      exact ⟨σ', H', J'.ofTry ok, q⟩
    | ret u =>
      obtain ⟨v, σ', H', J', r, q⟩ := hsp
      exact ⟨v, σ', H', J'.ofTry ok, r, q⟩
end
end L2
namespace G
open PySem PySem.Spec L2
/-- the module's name x is an own error at C; its one argument is its field fld -/
structure ErrC (P : Program) (w : World) (K : PySem.W.Frag) (mg : Str → Option Value) (base : Heap) (x : Str) (C : Addr) (fld : Str) : Prop where
  g : mg x = some (.ref C)
  cls : OexC K C
  init : ∃ fI fd prm, PySem.W.findIn K (.ref C) "__init__" = some (some (.ref fI)) ∧ PySem.W.typeIn K (.ref fI) = some (.type "function") ∧ FnOk P w K mg base CX0 1 fI fd ["self", prm] (spEI C fld) ∧ Binds K fd ["self", prm] []
def sRaise (C : Addr) (fld : Str) (l : AL) : AS := fun A δ r => l A.xr δ r fun ds r1 => ∃ d, ds = [d] ∧ A.xr C [fld] [d] δ r1
section
variable {X : Cx} {W : WX} {x fld : Str} {C : Addr} {e : Expr} {l : AL} {p pos pos2 : Pos} {k : Nat}
theorem s_raise (T : ErrC X.prog X.w X.K X.mg X.base x C fld) (tk : Takes X W) (hr : Room k X.A) (ha : PDL X W [e] l) (hk : 2 ≤ k := by first | decide | omega) (hc : X.calm = true := by rfl) (hg : Gl X x := by rfl) (hdb : (x == ("__debug__" : Str)) = false := by decide)
    (he : starEach [e] X.env = (false, eval e X.env) :: starEach [] X.env := by rfl) (hpl : (backTo pos (starEach [] X.env)).any (·.1) = false := by rfl) : PSD X W (.Raise (some (.Call (.Name x p) [e] [] pos)) none pos2) (sRaise C fld l) := by
  obtain ⟨fI, fd, prm, i1, i2, F, hb⟩ := T.init
  refine imS (ps_raise hc tk (pmk_oex (CX := CX0) T.cls i1 i2 F (hr.mono hk) hb .nil (fun _ _ _ _ _ _ _ z => z.elim) hg T.g ha hdb he hpl)) fun D σ H ⟨δ, r, A, o, h, f⟩ => ?_
  refine tdl_bind o h fun ds r1 vs H1 h1 o1 k1 i1 => ?_
  obtain ⟨d, rfl, h1⟩ := h1
  cases i1 with
  | cons iv it =>
    cases it
    rename_i v
    refine ⟨by show 1 ≤ 1000; decide, fun a na => ⟨a, v, rfl, upd_same, fun dx n1 n2 => ⟨rfl, dx, [(fld, v)], upd_same, ?_, ?_, ?_⟩⟩⟩
    · rw [upd_ne n2, upd_same]
    · rw [upd_ne n2] at n1
      exact n1
    · have nd : H1 dx = none := by rw [upd_ne n2] at n1; exact n1
      have ext : Ext H1 (upd (del (upd (upd (upd H1 a (exo a C none)) dx (exd dx [(fld, v)])) a (exo a C (some dx))) a) dx (.xd [(fld, v)])) := fun b u e => by
        have h1 : b ≠ a := ne_of_none e na
        have h2 : b ≠ dx := ne_of_none e nd
        rw [upd_ne h2, del_ne h1, upd_ne h1, upd_ne h2, upd_ne h1]
        exact e
      exact o1.x C [fld] [d] δ r1 σ (some dx) _ h1 (o1.b.step (Kp.ext ext) (o1.r.ext ext)) (Kp.ext ext) ⟨not_al o1.r nd, [(fld, v)], upd_same, rfl, .cons (is_ext ext _ _ iv) .nil⟩
end
/-- an exception's own dict, while it is held -/
def xdA (dx : Addr) (fs : List Str) (ds : List D) : At where
  M := fun a => a = dx
  R := fun K N H => ∃ kvs : List (Str × V), H dx = some (.xd kvs) ∧ kvs.map Prod.fst = fs ∧ IsAll K N H (kvs.map Prod.snd) ds
  loc := fun f g ⟨vs, h, e, i⟩ => ⟨vs, f _ _ rfl h, e, all_of g i⟩
  anti := fun q ⟨vs, h, e, i⟩ => ⟨vs, h, e, all_of (fun _ _ => is_anti q) i⟩
  grow := fun hp ⟨vs, h, e, i⟩ => ⟨vs, h, e, all_of (fun _ _ => is_growD hp) i⟩
  al := fun ⟨vs, h, _⟩ a z => ⟨.xd vs, by rw [show a = dx from z]; exact h⟩
theorem rok_xd {K : PySem.W.Frag} {r : Rs} {H : Hp} {dx : Addr} {fs : List Str} {ds : List D} (h : Rok K r H) (e : ExAt K r H (some dx) fs ds) : Rok K (r ++ [xdA dx fs ds]) H ∧ Kp K r H (r ++ [xdA dx fs ds]) H := by
  obtain ⟨nm, kvs, h1, h2, h3⟩ := e
  have e : ∀ a, mem (r ++ [xdA dx fs ds]) a → mem r a ∨ a = dx := fun a z => (mem_append.mp z).elim .inl fun z => z.elim .inr False.elim
  have nd : NoDat H dx := fun o q => by rw [h1] at q; cases q; exact fun z => z
  have go : Kp K r H (r ++ [xdA dx fs ds]) H := fun v d q => is_anti e (is_growD nd q)
  refine ⟨hold_append.mpr ⟨hold_anti e (hold_growD nd h), ⟨⟨kvs, h1, h2, all_of go h3⟩, fun _ _ z => z, True.intro⟩, fun a m z => ?_⟩, go⟩
  have : a = dx := z.elim (fun z => z) False.elim
  subst this
  exact nm m
/-- an except clause's reading: what its class answers of the classes that may come (Cs), the slot of its name, its suite's reading -/
structure Cl1 where
  Cs : List (Addr × Bool)
  i : Option Nat
  u : Addr → Value → Option Addr → AS
def held : Option Addr → List Str → List D → Rs
  | some dx, fs, ds => [xdA dx fs ds]
  | none, _, _ => []
def dropR (Q : Dl → Rs → Prop) : Dl → Rs → Prop := fun δ r => ∃ r', le r r' ∧ Q δ r'
def sHds (A : An) : List Cl1 → XT
  | [] => A.xr
  | c :: cs => fun C fs ds δ r => ∃ b, (C, b) ∈ c.Cs ∧ (b = true → ∀ (a : Addr) (d : Option Addr), (d = none → fs = [] ∧ ds = []) → match c.i with
      | none => c.u a (.ref C) d { nx := dropR A.nx, rt := fun v r' => ∃ r2, le r' r2 ∧ A.rt v r2, bk := dropR A.bk, ct := dropR A.ct } δ (r ++ held d fs ds)
      | some i => c.u a (.ref C) d { nx := dropR fun δ' => A.nx (δ'.set i none), rt := fun v r' => ∃ r2, le r' r2 ∧ A.rt v r2, bk := dropR fun δ' => A.bk (δ'.set i none), ct := dropR fun δ' => A.ct (δ'.set i none) } (δ.set i (some (.adr a))) (r ++ held d fs ds)) ∧
    (b = false → sHds A cs C fs ds δ r)
def sTry (tb : AS) (cs : List Cl1) : AS := fun A δ r => tb { A with xr := sHds A cs } δ r
inductive HdsD (X : Cx) : List ExceptHandler → List Cl1 → Prop
  | nil : HdsD X [] []
  | cons {x : Str} {c : Value} {Cs : List (Addr × Bool)} {u : Addr → Value → Option Addr → AS} {b₀ : Stmt} {suite : List Stmt} {np pos' : Pos} {hds : List ExceptHandler} {l : List Cl1} (hc : Names X x c) (hC : ∀ p ∈ Cs, PySem.W.exmOne X.K (.ref p.1) c = some p.2)
      (hsu : ∀ (a : Addr) (oe : Obj) (cls : Value) (d : Option Addr) (pn : List (Addr × Obj)), Zc cls d oe → (∃ vs, oe.data = .fields vs) → PBD (X.suite a ((a, oe) :: pn)) W0 (b₀ :: suite) (u a cls d)) (r : HdsD X hds l) :
      HdsD X (.ExceptHandler (some (.Name x np)) none (b₀ :: suite) pos' :: hds) (⟨Cs, none, u⟩ :: l)
  | as {x n : Str} {i : Nat} {c : Value} {Cs : List (Addr × Bool)} {u : Addr → Value → Option Addr → AS} {b₀ : Stmt} {suite : List Stmt} {np pos' : Pos} {hds : List ExceptHandler} {l : List Cl1} (hN : X.N.Nodup) (hi : X.N[i]? = some n) (hln : X.env.kindOf n = some .local) (hc : Names X x c) (hC : ∀ p ∈ Cs, PySem.W.exmOne X.K (.ref p.1) c = some p.2)
      (hsu : ∀ (a : Addr) (oe : Obj) (cls : Value) (d : Option Addr) (pn : List (Addr × Obj)), Zc cls d oe → (∃ vs, oe.data = .fields vs) → PBD (X.suite a ((a, oe) :: pn)) W0 (b₀ :: suite) (u a cls d)) (r : HdsD X hds l) :
      HdsD X (.ExceptHandler (some (.Name x np)) (some n) (b₀ :: suite) pos' :: hds) (⟨Cs, some i, u⟩ :: l)
theorem held_ok {K : PySem.W.Frag} {r : Rs} {H : Hp} {d : Option Addr} {fs : List Str} {ds : List D} (h : Rok K r H) (e : ExAt K r H d fs ds) : Rok K (r ++ held d fs ds) H ∧ Kp K r H (r ++ held d fs ds) H := by
  cases d with
  | none =>
    show Rok K (r ++ []) H ∧ Kp K r H (r ++ []) H
    rw [List.append_nil]
    exact ⟨h, Kp.refl⟩
  | some dx => exact rok_xd h e
theorem hdsA_of {X : Cx} {W : WX} : ∀ {hds : List ExceptHandler} {cs : List Cl1}, HdsD X hds cs → ∃ l, HdsA X hds l ∧ ∀ (D : Ends) (A : An) (r : Rs) (H : Hp), Xc X.K W A.xr r H → Fin X.K W A r H D → Xc X.K (wManyA X.K W D l) (sHds A cs) r H := by
  intro hds cs h
  induction h with
  | nil => exact ⟨[], .nil, fun D A r H x f => x⟩
  | @cons x c Cs u b₀ suite np pos' hds l hc hC hsu r ih =>
    obtain ⟨l', hl, hx⟩ := ih
    refine ⟨(c, none, fun a cls d => TSD X.K W0 (u a cls d)) :: l', .cons hc hsu hl, fun D A r H x f => ?_⟩
    rintro C fs ds δ' r' σ' a H' ⟨b, hb, ht, hf⟩ o k e
    refine ⟨b, hC _ hb, fun q a0 na => ?_, fun q => hx D A r H x f C fs ds δ' r' σ' a H' (hf q) o k e⟩
    obtain ⟨q1, q2⟩ := held_ok o.r e
    have hh := ht q a0 a (fun z => by subst z; exact e)
    refine ⟨δ', r' ++ held a fs ds, _, ⟨o.step q2 q1, ?_⟩, hh, ?_⟩
    · exact fun _ _ _ _ _ _ _ _ z => z.elim
    refine ⟨?_, ?_, ?_, ?_⟩
    · rintro δ2 r2 σ2 H2 ⟨r3, l3, q3⟩ o2 k2
      exact f.nx _ _ _ _ q3 ⟨o2.b.step l3.kp (l3.r _ _ o2.r), x.step (((k.trans q2).trans k2).trans l3.kp)⟩ (((k.trans q2).trans k2).trans l3.kp)
    · rintro d r2 v H2 ⟨r3, l3, q3⟩ o2 k2 i
      exact f.rt _ _ _ _ q3 (l3.r _ _ o2) (((k.trans q2).trans k2).trans l3.kp) (l3.kp _ _ i)
    · rintro δ2 r2 σ2 H2 ⟨r3, l3, q3⟩ o2 k2
      exact f.bk _ _ _ _ q3 ⟨o2.b.step l3.kp (l3.r _ _ o2.r), x.step (((k.trans q2).trans k2).trans l3.kp)⟩ (((k.trans q2).trans k2).trans l3.kp)
    · rintro δ2 r2 σ2 H2 ⟨r3, l3, q3⟩ o2 k2
      exact f.ct _ _ _ _ q3 ⟨o2.b.step l3.kp (l3.r _ _ o2.r), x.step (((k.trans q2).trans k2).trans l3.kp)⟩ (((k.trans q2).trans k2).trans l3.kp)
  | @as x n i c Cs u b₀ suite np pos' hds l hN hi hln hc hC hsu r ih =>
    obtain ⟨l', hl, hx⟩ := ih
    refine ⟨(c, some i, fun a cls d => TSD X.K W0 (u a cls d)) :: l', .as hN hi hln hc hsu hl, fun D A r H x f => ?_⟩
    rintro C fs ds δ' r' σ' a H' ⟨b, hb, ht, hf⟩ o k e
    refine ⟨b, hC _ hb, fun q a0 na => ?_, fun q => hx D A r H x f C fs ds δ' r' σ' a H' (hf q) o k e⟩
    obtain ⟨q1, q2⟩ := held_ok o.r e
    have hh := ht q a0 a (fun z => by subst z; exact e)
    refine ⟨δ'.set i (some (.adr a0)), r' ++ held a fs ds, _, ⟨(o.step q2 q1).set (.adr a0), ?_⟩, hh, ?_⟩
    · exact fun _ _ _ _ _ _ _ _ z => z.elim
    refine ⟨?_, ?_, ?_, ?_⟩
    · rintro δ2 r2 σ2 H2 ⟨r3, l3, q3⟩ o2 k2
      exact f.nx _ _ _ _ q3 ⟨(o2.b.step l3.kp (l3.r _ _ o2.r)).drop, x.step (((k.trans q2).trans k2).trans l3.kp)⟩ (((k.trans q2).trans k2).trans l3.kp)
    · rintro d r2 v H2 ⟨r3, l3, q3⟩ o2 k2 i
      exact f.rt _ _ _ _ q3 (l3.r _ _ o2) (((k.trans q2).trans k2).trans l3.kp) (l3.kp _ _ i)
    · rintro δ2 r2 σ2 H2 ⟨r3, l3, q3⟩ o2 k2
      exact f.bk _ _ _ _ q3 ⟨(o2.b.step l3.kp (l3.r _ _ o2.r)).drop, x.step (((k.trans q2).trans k2).trans l3.kp)⟩ (((k.trans q2).trans k2).trans l3.kp)
    · rintro δ2 r2 σ2 H2 ⟨r3, l3, q3⟩ o2 k2
      exact f.ct _ _ _ _ q3 ⟨(o2.b.step l3.kp (l3.r _ _ o2.r)).drop, x.step (((k.trans q2).trans k2).trans l3.kp)⟩ (((k.trans q2).trans k2).trans l3.kp)
section
variable {X : Cx} {W : WX} {body : List Stmt} {h₀ : ExceptHandler} {hds : List ExceptHandler} {cs : List Cl1} {pos : Pos} {tb : AS}
theorem s_try (tk : Takes X W) (hb : ∀ (W' : WX) (pn : List (Addr × Obj)) (xe : Value → Shared → Prop), Takes (X.tr pn xe) W' → PassesOwn (model X.prog X.w) X.A X.env xe → PBD (X.tr pn xe) W' body tb)
    (hh : HdsD X (h₀ :: hds) cs) (hs : X.stack = X.env :: X.outer := by rfl) (hf : X.env.frame = some X.env.locals := by rfl) : PSD X W (.Try body (h₀ :: hds) [] [] pos) (sTry tb cs) := by
  obtain ⟨l, hl, hx⟩ := hdsA_of (W := W) hh
  refine imS (ps_try_manyA (tb := fun W' => TSD X.K W' tb) hs hf tk (fun W' pn xe tk' po => hb W' pn xe tk' po) hl) fun D σ H ⟨δ, r, A, o, h, f⟩ => ?_
  refine ⟨δ, r, { A with xr := sHds A cs }, ⟨o.b, hx D A r H o.x f⟩, h, ?_⟩
  have ok : ∀ {r' : Rs} {δ' : Dl} {σ' : L2.St} {H' : Hp} {W' : WX} {XR : XT}, Ok X.K W' XR r' δ' σ' H' → Kp X.K r H r' H' → Ok X.K W A.xr r' δ' σ' H' := fun o' k => ⟨o'.b, o.x.step k⟩
  exact ⟨fun δ' r' σ' H' a o' k => f.nx _ _ _ _ a (ok o' k) k, f.rt, fun δ' r' σ' H' a o' k => f.bk _ _ _ _ a (ok o' k) k, fun δ' r' σ' H' a o' k => f.ct _ _ _ _ a (ok o' k) k⟩
end
end G
namespace G
open PySem PySem.Spec L2
open PyProof.Rows (envOfC)
def ixF : List Str → Str → Option Nat
  | [], _ => none
  | f :: fs, g => if f = g then some 0 else (ixF fs g).map (· + 1)
theorem ixF_mem : ∀ {fs : List Str} {g : Str} {i : Nat}, ixF fs g = some i → g ∈ fs
  | f :: fs, g, i, h => by
    unfold ixF at h
    split at h
    · rename_i e
      subst e
      exact List.mem_cons_self
    · obtain ⟨j, hj, _⟩ := Option.map_eq_some_iff.mp h
      exact List.mem_cons_of_mem _ (ixF_mem hj)
theorem ixF_get : ∀ {kvs : List (Str × V)} {fs : List Str} {g : Str} {i : Nat} {v : V}, kvs.map Prod.fst = fs → ixF fs g = some i → (kvs.map Prod.snd)[i]? = some v → kvs.lookup g = some v
  | [], _, g, i, v, e, h, hv => by simp at hv
  | (f, x) :: kvs, _, g, i, v, e, h, hv => by
    subst e
    unfold List.map ixF at h
    by_cases q : f = g
    · rw [if_pos q] at h
      cases h
      subst q
      have : x = v := by simpa using hv
      rw [← this]
      simp [List.lookup]
    · rw [if_neg q] at h
      obtain ⟨j, hj, rfl⟩ := Option.map_eq_some_iff.mp h
      have hb : (g == f) = false := beq_eq_false_iff_ne.mpr fun e => q e.symm
      rw [List.lookup, hb]
      exact ixF_get rfl hj (by simpa using hv)
theorem ixF_put : ∀ {kvs : List (Str × V)} {g : Str} {i : Nat} {v : V}, ixF (kvs.map Prod.fst) g = some i → (putF g v kvs).map Prod.fst = kvs.map Prod.fst ∧ (putF g v kvs).map Prod.snd = (kvs.map Prod.snd).set i v
  | [], g, i, v, h => by cases h
  | (f, x) :: kvs, g, i, v, h => by
    unfold List.map ixF at h
    unfold putF
    by_cases q : f = g
    · rw [if_pos q] at h ⊢
      cases h
      exact ⟨rfl, rfl⟩
    · rw [if_neg q] at h ⊢
      obtain ⟨j, hj, rfl⟩ := Option.map_eq_some_iff.mp h
      obtain ⟨h1, h2⟩ := ixF_put (v := v) hj
      exact ⟨by rw [List.map_cons, List.map_cons, h1], by rw [List.map_cons, List.map_cons, h2] <;> rfl⟩
theorem ixF_new : ∀ {kvs : List (Str × V)} {g : Str} {v : V}, ixF (kvs.map Prod.fst) g = none → (putF g v kvs).map Prod.fst = kvs.map Prod.fst ++ [g] ∧ (putF g v kvs).map Prod.snd = kvs.map Prod.snd ++ [v]
  | [], g, v, h => ⟨rfl, rfl⟩
  | (f, x) :: kvs, g, v, h => by
    unfold List.map ixF at h
    unfold putF
    by_cases q : f = g
    · rw [if_pos q] at h
      cases h
    · rw [if_neg q] at h ⊢
      have hj := Option.map_eq_none_iff.mp h
      obtain ⟨h1, h2⟩ := ixF_new (v := v) hj
      exact ⟨by rw [List.map_cons, List.map_cons, h1] <;> rfl, by rw [List.map_cons, List.map_cons, h2] <;> rfl⟩
section
variable {K : PySem.W.Frag} {r pre post : Rs} {H : Hp} {l : Addr} {t t' : At} {u u' : HO}
theorem mid_R (h : Rok K (pre ++ t :: post) H) : t.R K (mem (pre ++ t :: post)) H := (hold_append.mp h).2.1.1
theorem mid_mem {a : Addr} (h : t.M a) : mem (pre ++ t :: post) a := mem_append.mpr (.inr (.inl h))
theorem mid_put (hm : t.M = fun b => b = l) (hm' : t'.M = fun b => b = l) (hu : H l = some u) (nt : ∀ xs, u ≠ .tup xs ∧ ∀ o : Obj, u ≠ .frz o (.tup xs)) (h : Rok K (pre ++ t :: post) H)
    (ht : (∀ w e, Is K (mem (pre ++ t :: post)) H w e → Is K (mem (pre ++ t' :: post)) (upd H l u') w e) → t'.R K (mem (pre ++ t' :: post)) (upd H l u')) :
    Rok K (pre ++ t' :: post) (upd H l u') ∧ Kp K (pre ++ t :: post) H (pre ++ t' :: post) (upd H l u') := by
  obtain ⟨h1, ⟨h2, h3, h4⟩, h5⟩ := hold_append.mp h
  have me : mem (pre ++ t :: post) = mem (pre ++ t' :: post) := mem_mid (by rw [hm, hm'])
  have tl : t.M l := by rw [hm]
  have go : ∀ w e, Is K (mem (pre ++ t :: post)) H w e → Is K (mem (pre ++ t :: post)) (upd H l u') w e := fun w e q => is_otherO (mid_mem tl) hu nt q
  refine ⟨hold_append.mpr ⟨?_, ⟨ht fun w e q => me ▸ go w e q, ?_, ?_⟩, ?_⟩, fun w e q => me ▸ go w e q⟩
  · rw [← me]
    exact hold_loc (fun b o m q => by rw [upd_ne (fun e => h5 b m (.inl (by rw [hm]; exact e)))]; exact q) go h1
  · intro a z
    exact h3 a (by rw [hm]; rw [hm'] at z; exact z)
  · rw [← me]
    exact hold_loc (fun b o m q => by rw [upd_ne (fun e => h3 b (by rw [hm]; exact e) m)]; exact q) go h4
  · intro a m z
    refine h5 a m (z.elim (fun z => .inl ?_) .inr)
    rw [hm]; rw [hm'] at z; exact z
theorem mid_new {p : Addr} {H' : Hp} (hm : t.M = fun b => b = p) (h : Rok K r H) (hp : H p = none) (e : Ext H H') (ht : (∀ w d, Is K (mem r) H w d → Is K (mem (r ++ [t])) H' w d) → t.R K (mem (r ++ [t])) H') : Rok K (r ++ [t]) H' ∧ Kp K r H (r ++ [t]) H' := by
  have an : ∀ a, mem (r ++ [t]) a → mem r a ∨ a = p := fun a z => (mem_append.mp z).elim .inl fun z => z.elim (fun z => .inr (by rw [hm] at z; exact z)) False.elim
  have go : Kp K r H (r ++ [t]) H' := fun v d q => is_anti an (is_ext e _ _ (is_grow hp q))
  refine ⟨hold_append.mpr ⟨hold_anti an (hold_ext e (hold_grow hp h)), ⟨ht go, fun _ _ z => z, True.intro⟩, fun a m z => ?_⟩, go⟩
  have : a = p := z.elim (fun z => by rw [hm] at z; exact z) False.elim
  subst this
  exact not_al h hp m
end
/-- an instance of our own at a -/
def insA (a C : Addr) (fs : List Str) (ds : List D) : At where
  M := fun b => b = a
  R := fun K N H => Good K C fs ∧ ∃ (dx : Addr) (kvs : List (Str × V)), H a = some (.ins C dx kvs) ∧ kvs.map Prod.fst = fs ∧ IsAll K N H (kvs.map Prod.snd) ds
  loc := fun f g ⟨q, dx, vs, h, e, i⟩ => ⟨q, dx, vs, f _ _ rfl h, e, all_of g i⟩
  anti := fun q ⟨z, dx, vs, h, e, i⟩ => ⟨z, dx, vs, h, e, all_of (fun _ _ => is_anti q) i⟩
  grow := fun hp ⟨z, dx, vs, h, e, i⟩ => ⟨z, dx, vs, h, e, all_of (fun _ _ => is_growD hp) i⟩
  al := fun ⟨z, dx, vs, h, _⟩ b e => ⟨.ins C dx vs, by rw [show b = a from e]; exact h⟩
section
variable {K : PySem.W.Frag} {r pre post : Rs} {H : Hp} {a C : Addr} {fs : List Str} {ds : List D}
theorem ins_new {dx : Addr} (h : Rok K r H) (g : Plain K C) (ha : H a = none) (hd : H dx = none) (ne : dx ≠ a) : Ext H (upd (upd H dx (.own a)) a (.ins C dx [])) ∧ Rok K (r ++ [insA a C [] []]) (upd (upd H dx (.own a)) a (.ins C dx [])) ∧ Kp K r H (r ++ [insA a C [] []]) (upd (upd H dx (.own a)) a (.ins C dx [])) := by
  have e : Ext H (upd (upd H dx (.own a)) a (.ins C dx [])) := fun b o q => by
    rw [upd_ne (ne_of_none q ha), upd_ne (ne_of_none q hd)]
    exact q
  exact ⟨e, mid_new rfl h ha e fun _ => ⟨⟨g, fun f z => by cases z⟩, dx, [], upd_same, rfl, .nil⟩⟩
end
inductive oFld (f : Str) : D → Rs → PK1 → Prop
  | fro {C : Addr} {fs : List Str} {ds : List D} {r : Rs} {P : PK1} (i : Nat) (y : D) (h : ixF fs f = some i) (hy : ds[i]? = some y) (p : P y r) : oFld f (.ins C fs ds) r P
  | own {a C : Addr} {fs : List Str} {ds : List D} {r : Rs} {P : PK1} (pre post : Rs) (i : Nat) (y : D) (e : r = pre ++ insA a C fs ds :: post) (h : ixF fs f = some i) (hy : ds[i]? = some y) (p : P y r) : oFld f (.adr a) r P
def aFld (f : Str) (te : AT) : AT := fun x δ r P => te x δ r fun d r1 => oFld f d r1 P
section
variable {X : Cx} {W : WX} {e o value : Expr} {f : Str} {pos pos' : Pos} {te to tv : AT}
theorem d_fld (he : PD X W e te) (hb : attributeBase e f X.env (eval e X.env) = eval e X.env := by rfl) : PD X W (.Attribute e f pos) (aFld f te) := imE (pe_fld he hb) fun σ H Q q => by
  obtain ⟨XR, δ, r, P, ok, h, k⟩ := q
  refine td_bind ok h fun d r1 v H1 h1 o1 k1 i1 => ?_
  cases h1 with
  | @fro C fs ds _ _ i y h hy p =>
    cases i1 with
    | ins n s e2 g a =>
      obtain ⟨v, hv, iv⟩ := a.getD hy
      exact ⟨_, _, _, _, v, rfl, s, g.cls, g.no _ (ixF_mem h), ixF_get e2 h hv, k _ _ _ _ p o1 k1 iv⟩
  | @own a C fs ds _ _ pre post i y e2 h hy p =>
    cases i1
    subst e2
    obtain ⟨g, dx, kvs, s, e3, a⟩ := mid_R o1.r
    obtain ⟨v, hv, iv⟩ := a.getD hy
    exact ⟨_, _, _, _, v, rfl, s, g.cls, g.no _ (ixF_mem h), ixF_get e3 h hv, k _ _ _ _ p o1 k1 iv⟩
/-- o.f = value -/
inductive oPut (C : Addr) (f : Str) (y : D) : D → Rs → (Rs → Prop) → Prop
  | new {a : Addr} {fs : List Str} {ds : List D} {r : Rs} {k : Rs → Prop} (pre post : Rs) (e : r = pre ++ insA a C fs ds :: post) (h : ixF fs f = none) (z : fs.length < 1000) (p : k (pre ++ insA a C (fs ++ [f]) (ds ++ [y]) :: post)) : oPut C f y (.adr a) r k
  | old {a : Addr} {fs : List Str} {ds : List D} {r : Rs} {k : Rs → Prop} (pre post : Rs) (i : Nat) (e : r = pre ++ insA a C fs ds :: post) (h : ixF fs f = some i) (z : fs.length < 1000) (p : k (pre ++ insA a C fs (ds.set i y) :: post)) : oPut C f y (.adr a) r k
def sPut (C : Addr) (f : Str) (to tv : AT) : AS := fun A δ r => tv A.xr δ r fun y r1 => to A.xr δ r1 fun d r2 => oPut C f y d r2 fun r3 => A.nx δ r3
theorem s_put {C : Addr} (n : NoAttr X.K C f) (ho : PD X W o to) (hv : PD X W value tv) (hs : swapsWith value (some (.Attribute o f pos')) pos.line X.env = pure false := by rfl) : PSD X W (.Assign [.Attribute o f pos'] value pos) (sPut C f to tv) :=
  imS (ps_fld ho hv hs) fun Dd σ H ⟨δ, r, A, ok, h, ff⟩ => td_bind ok h fun y r1 v H1 h1 o1 k1 i1 => td_bind o1 h1 fun d r2 v2 H2 h2 o2 k2 i2 => by
    cases h2 with
    | @new a fs ds _ _ pre post e h z p =>
      cases i2
      subst e
      obtain ⟨g, dx, kvs, s, e3, i⟩ := mid_R o2.r
      subst e3
      obtain ⟨q1, q2⟩ := ixF_new (v := v) h
      obtain ⟨z1, z2⟩ := mid_put (t := insA a C _ ds) (t' := insA a C (kvs.map Prod.fst ++ [f]) (ds ++ [y])) (u' := .ins C dx (putF f v kvs)) rfl rfl s (fun xs => ⟨(fun e => by cases e), fun o e => by cases e⟩) o2.r
        (fun go => ⟨⟨g.p, fun x hx => (List.mem_append.mp hx).elim (g.no x) fun hx => by rw [List.mem_singleton.mp hx]; exact n⟩, dx, putF f v kvs, upd_same, q1, by rw [q2]; exact (all_of go i).append (.cons (go _ _ (k2 _ _ i1)) .nil)⟩)
      exact ⟨a, C, dx, kvs, rfl, s, g.cls, n, by rw [List.length_map] at z; exact z, ff.nx _ _ _ _ p (o2.step z2 z1) ((k1.trans k2).trans z2)⟩
    | @old a fs ds _ _ pre post i e h z p =>
      cases i2
      subst e
      obtain ⟨g, dx, kvs, s, e3, i2⟩ := mid_R o2.r
      subst e3
      obtain ⟨q1, q2⟩ := ixF_put (v := v) h
      obtain ⟨z1, z2⟩ := mid_put (t := insA a C _ ds) (t' := insA a C (kvs.map Prod.fst) (ds.set i y)) (u' := .ins C dx (putF f v kvs)) rfl rfl s (fun xs => ⟨(fun e => by cases e), fun o e => by cases e⟩) o2.r
        (fun go => ⟨g, dx, putF f v kvs, upd_same, q1, by rw [q2]; exact set_all (go _ _ (k2 _ _ i1)) i (all_of go i2)⟩)
      exact ⟨a, C, dx, kvs, rfl, s, g.cls, n, by rw [List.length_map] at z; exact z, ff.nx _ _ _ _ p (o2.step z2 z1) ((k1.trans k2).trans z2)⟩
end
def aNew (C : Addr) (sd : SpX) (l : AL) : AT := fun x δ r P => l x δ r fun ds r1 => ∀ a, sd (.adr a :: ds) (r1 ++ [insA a C [] []]) (fun d r2 => d = .non ∧ P (.adr a) r2) fun E fs es r' => x E fs es δ r'
section
variable {X : Cx} {W : WX} {k : Nat} {f C : Addr} {sd : SpX} {x : Str} {p pos : Pos} {e : Expr} {es : List Expr} {l : AL}
theorem run_mk {sp : Sp} {E : XK} {pins : List (Addr × Obj)} {σ : L2.St} {H : Hp} {s : Shared} {Q : VK} {us : List Value} {vs : List V} (M : Mk X.K C f) (F : FnR X.prog X.w X.K X.mg X.base (L2.CX X.prog X.w) k f sp) (hr : Room (k + 1) X.A) (hx : PassesAt (L2.CX X.prog X.w) X σ E) (I : L2.Inv X pins σ H s) (r : Vals vs us)
    (h : ∀ x dx, H x = Option.none → H dx = Option.none → dx ≠ x → sp (V.ref x :: vs) (upd (upd H dx (.own x)) x (.ins C dx [])) (fun v H2 => v = .non ∧ Q (.ref x) H2) E) :
    wpAny (model X.prog X.w) X.A (call (.ref C) us) (EP X pins σ Q) X.xe s := by
  have hq := h (s.heap.objs.size + 1) s.heap.objs.size (I.hok.fresh (Nat.le_succ _)) (I.hok.fresh (Nat.le_refl _)) (Nat.ne_of_lt (Nat.lt_succ_self _))
  have I2 := Inv.made (C := C) I
  have r2 : Vals (V.ref (s.heap.objs.size + 1) :: vs) (Value.ref (s.heap.objs.size + 1) :: us) := .cons rfl r
  refine wpAny_call (make_map (f := f) I.kIn M.makes M.init (beq_iff_eq.mp M.fn) (codeAny_mono (F _ X.stack _ _ (Value.ref (s.heap.objs.size + 1) :: us) _ _ E (hr.make C us []) (I2.env0.make C us []) r2 hq) fun r s' hq' => ?_))
  cases r with
  | error e => exact hx pins _ _ e s' I2 hq'
  | ok fl =>
    cases fl with
    | ret u =>
      obtain ⟨v, H', I3, rv, ev, q3⟩ := I2.after hq'
      subst ev
      exact ⟨rv, ⟨V.ref (s.heap.objs.size + 1), H', I3, rfl, q3⟩⟩
    | next => exact False.elim hq'
    | brk => exact False.elim hq'
    | cont => exact False.elim hq'
theorem d_new (M : Mk X.K C f) (g : Plain X.K C) (F : FR X.prog X.w X.K X.mg X.base k f sd) (tk : Takes X W) (hr : Room (k + 1) X.A) (hm : X.mg x = some (.ref C)) (ha : PDL X W (e :: es) l)
    (hg : Gl X x := by rfl) (hdb : (x == ("__debug__" : Str)) = false := by decide) (he : starEach (e :: es) X.env = (false, eval e X.env) :: starEach es X.env := by rfl) (hpl : (backTo pos (starEach es X.env)).any (·.1) = false := by rfl) :
    PD X W (.Call (.Name x p) (e :: es) [] pos) (aNew C sd l) := by
  refine ⟨fun pins s σ H Q I h => ?_⟩
  refine wpAny_Call_Name_kw (ld_glob I hg hm ?_ hdb)
  obtain ⟨XR, δ, r, P, ok, h, kk⟩ := h
  refine PySem.W.callWith_K (h₀ := X.base) I.ok.mod.kin M.kp (thn (ha.run pos pins s σ H _ I (tdl_bind (Q := fun vs H1 => ∀ x dx, H1 x = Option.none → H1 dx = Option.none → dx ≠ x → lift X.K sd (V.ref x :: vs) (upd (upd H1 dx (.own x)) x (.ins C dx [])) (fun v H2 => v = .non ∧ Q (.ref x) H2) (WE W σ)) ok h fun ds r1 vs H1 h1 o1 k1 i1 x dx hx hd ne => ?_)) fun us s1 ⟨vs, H1, I1, r, q⟩ => ⟨I1.kIn, ?_⟩) he hpl
  · obtain ⟨e1, q1, q2⟩ := ins_new o1.r g hx hd ne
    refine ⟨r1 ++ [insA x C [] []], .adr x :: ds, _, _, q1, .cons (.adr x) (q2.all i1), h1 x, fun d r' v H' ⟨a, b⟩ rr c i => ?_, fun C' fs es r' a H' z ro kk e => ?_⟩
    · subst a
      cases i
      exact ⟨rfl, kk _ r' _ H' b (o1.step (q2.trans c) rr) (k1.trans (q2.trans c)) (.adr x)⟩
    · exact o1.x C' fs es δ r' σ a H' z (o1.b.step (q2.trans kk) ro) (q2.trans kk) e
  · exact run_mk M F hr (passAt tk _) I1 r q
theorem d_new0 (M : Mk X.K C f) (g : Plain X.K C) (F : FR X.prog X.w X.K X.mg X.base k f sd) (tk : Takes X W) (hr : Room (k + 1) X.A) (hm : X.mg x = some (.ref C)) (hg : Gl X x := by rfl) (hdb : (x == ("__debug__" : Str)) = false := by decide) :
    PD X W (.Call (.Name x p) [] [] pos) (aNew C sd aNil) := by
  refine ⟨fun pins s σ H Q I h => ?_⟩
  refine wpAny_Call_Name_kw (ld_glob I hg hm ?_ hdb)
  obtain ⟨XR, δ, r, P, ok, h, kk⟩ := h
  refine PySem.W.callWith_K0 I.kIn M.kp (run_mk (us := []) (vs := []) M F hr (passAt tk _) I .nil fun x dx hx hd ne => ?_)
  obtain ⟨e1, q1, q2⟩ := ins_new ok.r g hx hd ne
  refine ⟨r ++ [insA x C [] []], [.adr x], _, _, q1, .cons (.adr x) .nil, h x, fun d r' v H' ⟨a, b⟩ rr c i => ?_, fun C' fs es r' a H' z ro kk e => ?_⟩
  · subst a
    cases i
    exact ⟨rfl, kk _ r' _ H' b (ok.step (q2.trans c) rr) (q2.trans c) (.adr x)⟩
  · exact ok.x C' fs es δ r' σ a H' z (ok.b.step (q2.trans kk) ro) (q2.trans kk) e
end
inductive isC (C : Addr) : D → Rs → Prop
  | fro {fs : List Str} {ds : List D} {r : Rs} : isC C (.ins C fs ds) r
  | own {a : Addr} {fs : List Str} {ds : List D} {r : Rs} (pre post : Rs) (e : r = pre ++ insA a C fs ds :: post) : isC C (.adr a) r
theorem isC_at {K : PySem.W.Frag} {C : Addr} {d : D} {r : Rs} {v : V} {H : Hp} (h : isC C d r) (ro : Rok K r H) (i : Is K (mem r) H v d) : ∃ a dx kvs, v = .ref a ∧ H a = some (.ins C dx kvs) ∧ Good K C (kvs.map Prod.fst) := by
  cases h with
  | fro =>
    cases i with
    | ins n s e g a => exact ⟨_, _, _, rfl, s, by rw [show List.map Prod.fst _ = _ from e]; exact g⟩
  | own pre post e =>
    cases i
    subst e
    obtain ⟨g, dx, kvs, s, e3, a⟩ := mid_R ro
    exact ⟨_, _, _, rfl, s, by rw [e3]; exact g⟩
theorem lookup_none : ∀ {kvs : List (Str × V)} {m : Str}, m ∉ kvs.map Prod.fst → kvs.lookup m = none
  | [], _, _ => rfl
  | (f, x) :: kvs, m, h => by
    have hb : (m == f) = false := beq_eq_false_iff_ne.mpr fun e => h (by rw [e]; exact List.mem_cons_self)
    rw [List.lookup, hb]
    exact lookup_none fun z => h (List.mem_cons_of_mem _ z)
theorem Meth.free {K : PySem.W.Frag} {C g : Addr} {m : Str} {kvs : List (Str × V)} (k : Meth K C m g) (q : Good K C (kvs.map Prod.fst)) : kvs.lookup m = none := lookup_none fun z => by
  have := (q.no m z).symm.trans k.at_
  cases this
def aMeth (C : Addr) (sd : SpX) (to : AT) (l : AL) : AT := fun x δ r P => to x δ r fun d r1 => isC C d r1 ∧ l x δ r1 fun ds r2 => sd (d :: ds) r2 P fun E fs es r' => x E fs es δ r'
section
variable {X : Cx} {W : WX} {k : Nat} {f C : Addr} {sd : SpX} {m : Str} {apos pos : Pos} {o e : Expr} {es : List Expr} {to : AT} {l : AL} {pl : Sem Bool}
theorem d_meth0 (hm : Meth X.K C m f) (F : FR X.prog X.w X.K X.mg X.base k f sd) (tk : Takes X W) (hr : Room k X.A) (ho : PD X W o to)
    (ht : eval (.Call (.Attribute o m apos) [] [] pos) X.env = (do
      let ov ← eval o X.env
      standAt apos.atName
      let (f, first) ← holding [ov] (getMethod ov m pl)
      callWith pos f first (backTo pos (starEach [] X.env)) (backToKw pos (keywordEach [] X.env))) := by rfl) :
    PD X W (.Call (.Attribute o m apos) [] [] pos) (aMeth C sd to aNil) := by
  refine ⟨fun pins s σ H Q I h => ?_⟩
  obtain ⟨XR, δ, r, P, ok, h, kk⟩ := h
  refine PySem.W.methodCall_KW (pl := pl) (thn (ho.run pins s σ H (fun x H1 => ∃ a dx fs, x = V.ref a ∧ H1 a = some (.ins C dx fs) ∧ Cls X.K C ∧ fs.lookup m = none ∧ lift X.K sd [x] H1 Q (WE W σ)) I (td_bind ok h fun d r1 v H1 ⟨hc, h1⟩ o1 k1 i1 => ?_)) fun u s1 ⟨x, H1, I1, rx, a, dx, fs, ex, ea, c, lk, q⟩ => ?_) ht
  · obtain ⟨a, dx, kvs, rfl, s, g⟩ := isC_at hc o1.r i1
    exact ⟨a, dx, kvs, rfl, s, g.cls, Meth.free hm g, lift_at o1 (.cons i1 .nil) h1 fun d' r' v' H' p o3 k3 i3 => kk d' r' v' H' p o3 (k1.trans k3) i3⟩
  · subst ex
    obtain rfl : u = Value.ref a := rx
    refine getmeth_ok I1 ea c hm lk ?_
    exact PySem.W.callWith_K0 (first := [.ref a]) I1.kIn hm.kp (call_P (us := [.ref a]) (vs := [.ref a]) F hr (passAt tk _) I1 (.cons rfl .nil) q)
end
end G
namespace PySem.W
open Sem (wp)
end PySem.W
namespace G
open PySem PySem.Spec L2
open PyProof.Rows (envOfC)
theorem tyC {K : PySem.W.Frag} {C : Addr} {d : D} {r : Rs} {v : V} {H : Hp} (h : isC C d r) (ro : Rok K r H) (i : Is K (mem r) H v d) : TyX K H v (.ref C) := by
  obtain ⟨a, dx, kvs, rfl, s, g⟩ := isC_at h ro i
  exact .base (.ins s g.cls g.p.kls g.p.get g.p.tak g.p.mro)
/-- what isinstance(.., C) finds at plain data -/
structure IsK (K : PySem.W.Frag) (C : Addr) : Prop where
  ic : PySem.W.isClsIn K C = true
  ty : PySem.W.typeIn K (.ref C) = some (.type "type")
  sub : ∀ n ∈ ks6, PySem.W.subIn K (.type n) (.ref C) = some false
theorem IsK.of {K : PySem.W.Frag} {C : Addr} (k : IsK K C) {t : Value} {b : Bool} (h : PySem.W.subIn K t (.ref C) = some b) (ne : t ≠ .ref C) : PySem.W.kitOne K t (.ref C) = some b := by
  unfold PySem.W.kitOne
  rw [if_neg (fun e => ne (beq_iff_eq.mp e))]
  have e : ((PySem.W.clsIn K C).isSome && PySem.W.typeIn K (.ref C) == some (.type "type")) = true := by
    have := k.ic
    unfold PySem.W.isClsIn at this
    rw [this, k.ty] <;> rfl
  show (if ((PySem.W.clsIn K C).isSome && PySem.W.typeIn K (.ref C) == some (.type "type")) = true then PySem.W.subIn K t (.ref C) else none) = some b
  rw [if_pos e]
  exact h
theorem IsK.no {K : PySem.W.Frag} {C : Addr} (k : IsK K C) : ∀ n ∈ ks6, PySem.W.kitOne K (.type n) (.ref C) = some false := fun n hn => k.of (k.sub n hn) (fun e => by cases e)
def aXf (a : Addr) (cls : Value) (d : Option Addr) (Cs : List Addr) (f : Str) (te : AT) : AT := fun x δ r P => te x δ r fun v r1 => v = .adr a ∧ ∃ C dx fs ds i y pre post, C ∈ Cs ∧ cls = .ref C ∧ d = some dx ∧ r1 = pre ++ xdA dx fs ds :: post ∧ ixF fs f = some i ∧ ds[i]? = some y ∧ P y r1
section
theorem d_xf {X : Cx} {W : WX} {a : Addr} {oe : Obj} {cls : Value} {d : Option Addr} {pn : List (Addr × Obj)} {Cs : List Addr} {e : Expr} {te : AT} {pos : Pos} {f : Str} (T : ∀ C ∈ Cs, XfC X.K C ∧ PySem.W.findIn X.K (.ref C) f = some none)
    (hz : Zc cls d oe) (hf : ∃ vs, oe.data = .fields vs) (he : PD (X.suite a ((a, oe) :: pn)) W e te) (hb : attributeBase e f X.env (eval e X.env) = eval e X.env := by rfl) : PD (X.suite a ((a, oe) :: pn)) W (.Attribute e f pos) (aXf a cls d Cs f te) := by
  refine ⟨fun pins s σ H Q I h => ?_⟩
  obtain ⟨XR, δ, r, P, ok, h, kk⟩ := h
  refine attr_of hb (thn (he.run pins s σ H (fun x H1 => x = V.ref a ∧ ∃ C ∈ Cs, cls = .ref C ∧ ∃ (dd : Addr) (fs : List (Str × V)) (v : V), d = some dd ∧ H1 dd = some (.xd fs) ∧ fs.lookup f = some v ∧ Q v H1) I (td_bind ok h fun dv r1 v H1 h1 o1 k1 i1 => ?_)) fun u s1 hh => ?_)
  · obtain ⟨rfl, C, dx, fs, ds, i, y, pre, post, hC, ec, ed, er, hi, hy, p⟩ := h1
    cases i1
    subst er
    obtain ⟨kvs, e1, e2, e3⟩ := mid_R o1.r
    obtain ⟨v, hv, iv⟩ := e3.getD hy
    exact ⟨rfl, C, hC, ec, dx, kvs, v, ed, e1, ixF_get e2 hi hv, kk _ _ _ _ p o1 k1 iv⟩
  · obtain ⟨x, H1, I1, rx, ex, C, hC, ec, dd, fs, v, ed, ea, l, q⟩ := hh
    subst ex
    obtain rfl : u = Value.ref a := rx
    subst ec
    subst ed
    obtain ⟨T1, hno⟩ := T C hC
    obtain ⟨ha, _⟩ := I1.pin (a, oe) (List.mem_append_left _ List.mem_cons_self)
    obtain ⟨vs, hd⟩ := hf
    have hx : ObjOk X.prog X.w H1 s1.heap dd (.xd fs) := I1.hok dd _ ea
    obtain ⟨mA, hns, hr⟩ := hx
    obtain ⟨od, ho, hl⟩ := lookIn_ns hns
    obtain ⟨u, hu, ru⟩ := RelO.some_of (v := v) (o := mA f) (by rw [← l]; exact hr f)
    have J : PySem.W.InstAt s1.heap a oe C (some od) := ⟨ha, hz.1, by unfold PySem.W.notCls; rw [hd] <;> rfl, by rw [hz.2]; exact ho⟩
    exact HandSPX.exc_get I1.kIn J T1.ga T1.gg T1.exC (PySem.W.findObj_own T1.hdC hno rfl (by rw [hl, hu])) (handed_of ru) ⟨v, H1, I1.tok _, ru, q⟩
end
end G
namespace G
open PySem PySem.Spec L2
open PyProof.Rows (envOfC)
/-- a def as it stands behind the top, whatever its defaults are -/
structure FunA (K : PySem.W.Frag) (x qual : Str) (st : Stmt) (f : Addr) (fd : FuncData) : Prop where
  ex : ∃ (oc : Value) (od : Option Addr) (dV kV doc pm : Value) (an : Option Addr) (cdv ct : Value) (osl : Array (Option Value)),
    fd = PySem.W.fnOf x qual (defArgs st) (defBody st) (defScope st) dV kV doc pm an cdv ct ∧ K.lookup f = some ⟨oc, od, .func fd, osl⟩ ∧ PySem.W.codeIn K cdv qual = true
section
variable {P : Program} {w : World} {K : PySem.W.Frag} {mg : Str → Option Value} {base : Heap}
/-- THE RULE for such a def -/
theorem fnA_d {x qual : Str} {st : Stmt} {f : Addr} {fd : FuncData} {N ps : List Str} {k : Nat} {sd : SpX} (F : FunA K x qual st f fd) (S : FnScope N ps (defScope st)) (len : ∀ ds r P' XR, sd ds r P' XR → ds.length = ps.length)
    (hbody : ∀ (cdv : Value) (A : Around) (outer : List Env) (s : Shared) (H : Hp) (E : XK), Room k (A.deeper (envOfC qual (defScope st) s.heap.objs.size f cdv)) → Takes (cxOf (L2.CX P w) P w K mg base N qual (defScope st) f cdv A outer s H E) (WK E) →
      PassesOwn (model P w) (cxOf (L2.CX P w) P w K mg base N qual (defScope st) f cdv A outer s H E).A (cxOf (L2.CX P w) P w K mg base N qual (defScope st) f cdv A outer s H E).env (cxOf (L2.CX P w) P w K mg base N qual (defScope st) f cdv A outer s H E).xe →
      ∃ t : AS, PBD (cxOf (L2.CX P w) P w K mg base N qual (defScope st) f cdv A outer s H E) (WK E) (defBody st) t ∧
      ∀ ds r P' XR, sd ds r P' XR → t { nx := fun _ r' => fit P' .non r', rt := fit P', xr := fitX XR } (startD N ds) r) : FO P w K mg base (k + 1) f fd ps sd := by
  obtain ⟨oc, od, dV, kV, doc, pm, an, cdv, ct, osl, rfl, lk, hcd⟩ := F.ex
  refine fn_of lk hcd S (fun vs H Q E h => ?_) fun A outer s H vs Q E hr h => ?_
  · obtain ⟨r, ds, P', XR, hr, hi, hs, _, _⟩ := h
    rw [hi.length]
    exact len _ _ _ _ hs
  · obtain ⟨r, ds, P', XR, ro, hi, hs, hq, hx⟩ := h
    obtain ⟨t, ht, hread⟩ := hbody cdv A outer s H E hr (takes_of rfl rfl rfl rfl) (passes_of rfl)
    refine ⟨_, ht, startD N ds, r, { nx := fun _ r' => fit P' .non r', rt := fit P', xr := fitX XR }, start_ok ro hi ?_, hread ds r P' XR hs, ⟨fun δ' r' σ' H' a o k => ?_, fun d r' v H' a o k i => ?_, fun _ _ _ _ z => z.elim, fun _ _ _ _ z => z.elim⟩⟩
    · rintro C fs es δ' r' σ' a H' ⟨r0, l, q⟩ o k e
      exact hx C fs es r0 a H' q (l.r _ _ o.r) (k.trans l.kp) (e.anti l.m)
    · obtain ⟨r0, l, a⟩ := a
      exact hq _ r0 _ H' a (l.r _ _ o.r) (k.trans l.kp) .non
    · obtain ⟨r0, l, a⟩ := a
      exact hq _ r0 _ H' a (l.r _ _ o) (k.trans l.kp) (is_anti l.m i)
end
/-- what a body must give -/
def Bod (P : Program) (w : World) (K : PySem.W.Frag) (mg : Str → Option Value) (base : Heap) (qual : Str) (st : Stmt) (N : List Str) (k : Nat) (sd : SpX) : Prop :=
  ∀ (f : Addr) (cdv : Value) (A : Around) (outer : List Env) (s : Shared) (H : Hp) (E : XK), Room k (A.deeper (envOfC qual (defScope st) s.heap.objs.size f cdv)) → Takes (cxOf (L2.CX P w) P w K mg base N qual (defScope st) f cdv A outer s H E) (WK E) →
      PassesOwn (model P w) (cxOf (L2.CX P w) P w K mg base N qual (defScope st) f cdv A outer s H E).A (cxOf (L2.CX P w) P w K mg base N qual (defScope st) f cdv A outer s H E).env (cxOf (L2.CX P w) P w K mg base N qual (defScope st) f cdv A outer s H E).xe →
      ∃ t : AS, PBD (cxOf (L2.CX P w) P w K mg base N qual (defScope st) f cdv A outer s H E) (WK E) (defBody st) t ∧
      ∀ ds r P' XR, sd ds r P' XR → t { nx := fun _ r' => fit P' .non r', rt := fit P', xr := fitX XR } (startD N ds) r
/-- an own class: where it stands, how it answers -/
structure KCls (K : PySem.W.Frag) (mg : Str → Option Value) (x : Str) (C : Addr) (fs : List Str) : Prop where
  g : mg x = some (.ref C)
  p : Plain K C
  no : ∀ f ∈ fs, NoAttr K C f
  isk : IsK K C
theorem fm_nil {α : Type} {p : α → Prop} : ∀ x ∈ ([] : List α), p x := fun _ h => by cases h
theorem fm_cons {α : Type} {p : α → Prop} {a : α} {l : List α} (h : p a) (t : ∀ x ∈ l, p x) : ∀ x ∈ a :: l, p x := fun x hx => by
  rcases List.mem_cons.mp hx with e | hx
  · rw [e]; exact h
  · exact t x hx
/-- methods, static methods, makers: where their defs stand -/
def DfM (K : PySem.W.Frag) (C : Addr) (m qual : Str) (st : Stmt) (ps : List Str) : Prop := ∃ f fd, FunA K m qual st f fd ∧ Meth K C m f ∧ Binds K fd ps []
/-- .. and what they promise -/
def ClM (P : Program) (w : World) (K : PySem.W.Frag) (mg : Str → Option Value) (base : Heap) (k : Nat) (C : Addr) (m : Str) (sd : SpX) : Prop := ∃ f, Meth K C m f ∧ FR P w K mg base k f sd
def ClN (P : Program) (w : World) (K : PySem.W.Frag) (mg : Str → Option Value) (base : Heap) (k : Nat) (C : Addr) (dd : List D) (sd : SpX) : Prop := ∃ f, Mk K C f ∧ ∀ j, j ≤ dd.length → FR P w K mg base k f (fun ds r P XR => sd (ds ++ dd.drop j) r P XR)
section
variable {P : Program} {w : World} {K : PySem.W.Frag} {mg : Str → Option Value} {base : Heap} {C : Addr} {m qual : Str} {st : Stmt} {N ps : List Str} {dd : List D} {k j : Nat} {sd sd' : SpX}
theorem clm_of (d : DfM K C m qual st ps) (S : FnScope N ps (defScope st)) (len : ∀ ds r P' XR, sd ds r P' XR → ds.length = ps.length) (h : Bod P w K mg base qual st N k sd) : ClM P w K mg base (k + 1) C m sd := by
  obtain ⟨f, fd, F, M, b⟩ := d
  exact ⟨f, M, fr_of (fnA_d F S len (h f)) b⟩
end
section
variable {X : Cx} {W : WX} {k j : Nat} {C : Addr} {sd : SpX} {dd : List D} {x y m : Str} {fs : List Str} {p q apos pos : Pos} {e o a b : Expr} {es : List Expr} {l : AL} {to ta tb : AT} {pl : Sem Bool}
theorem d_mt0 (M : ClM X.prog X.w X.K X.mg X.base k C m sd) (tk : Takes X W) (hr : Room j X.A) (ho : PD X W o to) (hj : k ≤ j := by first | decide | exact Nat.le_refl _ | omega)
    (ht : eval (.Call (.Attribute o m apos) [] [] pos) X.env = (do
      let ov ← eval o X.env
      standAt apos.atName
      let (f, first) ← holding [ov] (getMethod ov m pl)
      callWith pos f first (backTo pos (starEach [] X.env)) (backToKw pos (keywordEach [] X.env))) := by rfl) :
    PD X W (.Call (.Attribute o m apos) [] [] pos) (aMeth C sd to aNil) := by
  obtain ⟨f, M, F⟩ := M
  exact d_meth0 M F tk (hr.mono hj) ho ht
/-- C(..), the defaults behind the first i used -/
theorem d_mk (i : Nat) (M : ClN X.prog X.w X.K X.mg X.base k C dd sd) (kc : KCls X.K X.mg x C fs) (tk : Takes X W) (hr : Room j X.A) (ha : PDL X W (e :: es) l) (hi : i ≤ dd.length := by first | decide | exact Nat.le_refl _) (hj : k + 1 ≤ j := by first | decide | exact Nat.le_refl _ | omega)
    (hg : Gl X x := by rfl) (hdb : (x == ("__debug__" : Str)) = false := by decide) (he : starEach (e :: es) X.env = (false, eval e X.env) :: starEach es X.env := by rfl) (hpl : (backTo pos (starEach es X.env)).any (·.1) = false := by rfl) :
    PD X W (.Call (.Name x p) (e :: es) [] pos) (aNew C (fun ds r P XR => sd (ds ++ dd.drop i) r P XR) l) := by
  obtain ⟨f, M, F⟩ := M
  exact d_new M kc.p (F i hi) tk (hr.mono hj) kc.g ha hg hdb he hpl
end
end G
namespace G
open PySem PySem.Spec PySem.W L2 PyProof.Rows
theorem lookup_mem : ∀ {α : Type} {l : List (Str × α)} {x : Str} {k : α}, l.lookup x = some k → (x, k) ∈ l
  | _, [], x, k, h => by cases h
  | _, (y, j) :: l, x, k, h => by
    rw [List.lookup] at h
    split at h
    · rename_i e
      cases h
      rw [beq_iff_eq.mp e]
      exact List.mem_cons_self
    · exact List.mem_cons_of_mem _ (lookup_mem h)
def freeOk (q : Str × NameKind) : Bool := match q.2 with
  | .cell => false
  | .free => q.1 == "__class__"
  | _ => true
theorem free_of {l : List (Str × NameKind)} (h : l.all freeOk = true) : (∀ x, l.lookup x = some .cell ∨ l.lookup x = some .free → x = "__class__") ∧ ∀ x ∈ l, x.2 ≠ .cell := by
  refine ⟨fun x e => ?_, fun x hx e => ?_⟩
  · rcases e with e | e
    · have := List.all_eq_true.mp h _ (lookup_mem e)
      cases this
    · have := List.all_eq_true.mp h _ (lookup_mem e)
      exact beq_iff_eq.mp this
  · have := List.all_eq_true.mp h x hx
    unfold freeOk at this
    rw [e] at this
    cases this
/-- what an except clause and a read of the field ask, too -/
structure ErrX (P : Program) (w : World) (K : PySem.W.Frag) (mg : Str → Option Value) (base : Heap) (x : Str) (C : Addr) (fld : Str) : Prop where
  c : ErrC P w K mg base x C fld
  xf : XfC K C
  no : findIn K (.ref C) fld = some none
  hd : hasDictIn K C = true
  se : subIn K (.ref C) (.ref C) = some true
theorem ErrX.exm {P : Program} {w : World} {K : PySem.W.Frag} {mg : Str → Option Value} {base : Heap} {x fld : Str} {C C' : Addr} {b : Bool} (e : ErrX P w K mg base x C fld) (h : subIn K (.ref C') (.ref C) = some b) : exmOne K (.ref C') (.ref C) = some b :=
  exm_ref e.c.cls.exC e.hd e.c.cls.tyC h
theorem errX_mk {P : Program} {w : World} {K : PySem.W.Frag} {h : Heap} {mg : Str → Option Value} {base : Heap} (X : K.In h) (G : h.Ns mainGlobals mg) {x fld prm qual : Str} {C fI cc cda N : Addr} {st : Stmt} {dV kV doc pm ct oc ccl cl : Value} {an od cdd cld : Option Addr} {osl ccs csl : Array (Option Value)} {vs0 : Array Value} {file : Str} {tf : Tok}
    {p0 p1 p2 p3 p4 p5 p6 p7 p8 p9 : Pos} {txt : Str} {jj : _} {nm q : Str} {bs bm : List Value} {sn : List Str} {sub : List Value} {ab : Bool} {col : Option Bool} {dd : Option Addr} {k0 k1 k2 k3 k5 : Option Value}
    (cg : nsIn K mainGlobals x = some (some (.ref C))) (xL : K.lookup C = some (excClassObj nm q C N bs bm true sn sub ab col dd k0 k1 k2 k3 k5 "ValueError.__new__"))
    (sa : findIn K (.ref C) "__setattr__" = some (some (.builtin "object.__setattr__"))) (exC : subIn K (.ref C) (.type "BaseException") = some true) (tyC : typeIn K (.ref C) = some (.type "type")) (kC : keepIn K (.ref C) = true)
    (i1 : findIn K (.ref C) "__init__" = some (some (.ref fI))) (i2 : typeIn K (.ref fI) = some (.type "function"))
    (mro : mroIn K C (.ref C) = some true) (sve : subIn K (.ref C) (.type "ValueError") = some true) (sup : ks_superIn K C C "__init__" = some (some (.builtin "ValueError.__init__"))) (opq : nsIn K cStatics "thirdparty.any" = some none) (zs : nsIn K mainGlobals "super" = some none)
    (lk : K.lookup fI = some ⟨oc, od, .func (ksFn "__init__" qual (defArgs st) (defBody st) (defScope st) dV kV doc pm an (.ref cda) ct cc), osl⟩)
    (hcd : codeIn K (.ref cda) qual = true) (hno : findIn K (.ref C) fld = some none)
    (hcode : K.lookup cda = some ⟨ccl, cdd, .fields vs0, ccs⟩) (hcell : K.lookup cc = some ⟨cl, cld, .cell (some (.ref C)), csl⟩)
    (ga : findIn K (.ref C) "__getattribute__" = some (some (.builtin "BaseException.__getattribute__"))) (gg : findIn K (.ref C) "__getattr__" = some none) (hd : hasDictIn K C = true) (se : subIn K (.ref C) (.ref C) = some true)
    (hbm : PySem.HandSPX.refsVE bm = true) (hvs : vs0[2]? = some (.str file tf)) (hfile : ((P.main.file : Str) == file) = true) (top : (P.main.scope.names.lookup ("super" : Str)).isSome = false)
    (hbody : defBody st = [.Expr (.Call (.Attribute (.Call (.Name "super" p0) [] [] p1) "__init__" p2) [.Constant (.str txt) jj p3] [] p4) p5, .Assign [.Attribute (.Name "self" p6) fld p7] (.Name prm p8) p9])
    (hp : ∃ ar : Arg, ((defArgs st).posonlyargs ++ (defArgs st).args).head? = some ar ∧ ar.arg = "self")
    (hnm : (defScope st).names.lookup ("self" : Str) = some .local ∧ (defScope st).names.lookup prm = some .local ∧ (defScope st).names.lookup ("super" : Str) = some .globalImplicit ∧ (defScope st).names.lookup ("__class__" : Str) = some .free)
    (hfree : (defScope st).names.all freeOk = true) (hsc : (defScope st).isCoroutine = false ∧ (defScope st).isGenerator = false ∧ (defScope st).kind = .function) (hps : ("self" : Str) ≠ prm) (hcdbg : (prm == ("__debug__" : Str)) = false ∧ (prm == ("__classdict__" : Str)) = false)
    (hin : ∀ L, interactive (ksEnv qual (defScope st) L fI (.ref cda) cc) = false)
    (hpl1 : ∀ L, swapsWith (.Call (.Attribute (.Call (.Name "super" p0) [] [] p1) "__init__" p2) [.Constant (.str txt) jj p3] [] p4) none p5.line (ksEnv qual (defScope st) L fI (.ref cda) cc) = pure false)
    (hev : ∀ L, ∃ pl : Sem Bool, eval (.Call (.Attribute (.Call (.Name "super" p0) [] [] p1) "__init__" p2) [.Constant (.str txt) jj p3] [] p4) (ksEnv qual (defScope st) L fI (.ref cda) cc) = (do
      let ov ← attributeBase (.Call (.Name "super" p0) [] [] p1) "__init__" (ksEnv qual (defScope st) L fI (.ref cda) cc) (eval (.Call (.Name "super" p0) [] [] p1) (ksEnv qual (defScope st) L fI (.ref cda) cc))
      standAt p2.atName
      let (f, first) ← holding [ov] (getMethod ov "__init__" pl)
      callWith p4 f first (backTo p4 (starEach [.Constant (.str txt) jj p3] (ksEnv qual (defScope st) L fI (.ref cda) cc))) []))
    (hpl2 : ∀ L, swapsWith (.Name prm p8) (some (.Attribute (.Name "self" p6) fld p7)) p9.line (ksEnv qual (defScope st) L fI (.ref cda) cc) = pure false)
    (bnd : ∀ us : List Value, us.length = 2 → bindArgs (ksFn "__init__" qual (defArgs st) (defBody st) (defScope st) dV kV doc pm an (.ref cda) ct cc) ⟨us, []⟩ = pure ((["self", prm] : List Str).zip us)) : ErrX P w K mg base x C fld := by
  have oc : OexC K C := ⟨⟨_, _, _, _, _, _, _, _, _, _, _, _, _, _, _, xL, hbm⟩, sa, exC, tyC, kC⟩
  have T : ErrK P K mg C := ⟨oc, mro, sve, sup, opq, mg_none_of X G zs, top⟩
  obtain ⟨f1, f2⟩ := free_of hfree
  obtain ⟨cd0, hD, _⟩ := any_some hd
  refine ⟨⟨mg_of X G cg, oc, fI, _, prm, i1, i2, ?_, .all bnd⟩, ⟨ga, gg, exC, hd⟩, hno, hd, se⟩
  rw [hbody] at lk ⊢
  exact exinit (j := 0) (cdv := .none) T lk hcd hD hno hcode hvs hfile hcell hp hnm f1 f2 hsc hps hcdbg hin hpl1 hev hpl2
end G
namespace G
open PySem PySem.Spec L2
def melt (i : Nat) (t : AS) : AS := fun A δ r => ∃ q ds pre post, lk δ i = some (.adr q) ∧ r = pre ++ lstA q ds :: post ∧ t A (δ.set i (some (.lst ds))) (pre ++ post)
theorem Okb.name {K : PySem.W.Frag} {r : Rs} {δ : Dl} {σ : L2.St} {H : Hp} (o : Okb K r δ σ H) {i : Nat} {d d' : D} (hi : δ[i]? = some (some d)) (h : ∀ v, Is K (mem r) H v d → Is K (mem r) H v d') : Okb K r (δ.set i (some d')) σ H := by
  refine ⟨fun j e he => ?_, o.r, by rw [List.length_set]; exact o.len⟩
  by_cases hj : j = i
  · subst hj
    have hl : j < δ.length := by
      have := (List.getElem?_eq_some_iff.mp he).1
      rwa [List.length_set] at this
    rw [List.getElem?_set_self hl] at he
    cases he
    obtain ⟨v, h1, h2⟩ := o.env j d hi
    exact ⟨v, h1, h v h2⟩
  · rw [List.getElem?_set_ne (Ne.symm hj)] at he
    exact o.env j e he
theorem tsd_melt {K : PySem.W.Frag} {W : WX} {t : AS} {i : Nat} {D : Ends} {σ : L2.St} {H : Hp} (h : TSD K W (melt i t) D σ H) : TSD K W t D σ H := by
  obtain ⟨δ, r, A, o, ⟨q, ds, pre, post, hl, rfl, h⟩, f⟩ := h
  obtain ⟨h1, h2, h3⟩ := own_drop o.r
  refine ⟨_, _, A, ⟨(o.b.step h3 h1).name (lk_get hl) (fun v z => by cases z; exact h2), o.x.step h3⟩, h, ⟨fun δ' r' σ' H' a o' k => f.nx _ _ _ _ a o' (h3.trans k), fun d r' v H' a o' k i => f.rt _ _ _ _ a o' (h3.trans k) i, fun δ' r' σ' H' a o' k => f.bk _ _ _ _ a o' (h3.trans k), fun δ' r' σ' H' a o' k => f.ct _ _ _ _ a o' (h3.trans k)⟩⟩
section
variable {X : Cx} {W : WX} {st : Stmt} {t : AS}
theorem s_melt (i : Nat) (h : PSD X W st t) : PSD X W st (melt i t) := imS h fun D σ H q => tsd_melt q
end
theorem hc0 {K : PySem.W.Frag} {c : Value} : ∀ p ∈ ([] : List (Addr × Bool)), PySem.W.exmOne K (.ref p.1) c = some p.2 := fm_nil
theorem hcc {K : PySem.W.Frag} {c : Value} {C : Addr} {b : Bool} {l : List (Addr × Bool)} (h : PySem.W.exmOne K (.ref C) c = some b) (t : ∀ p ∈ l, PySem.W.exmOne K (.ref p.1) c = some p.2) : ∀ p ∈ (C, b) :: l, PySem.W.exmOne K (.ref p.1) c = some p.2 := fm_cons h t
def aCut (t : AT) : AT := fun x δ r P => ∃ S : D → Rs → Prop, t x δ r S ∧ ∀ d r', S d r' → P d r'
section
variable {X : Cx} {W : WX} {st : Stmt} {e : Expr} {t : AT} {u : AS}
theorem d_cut (h : PD X W e t) : PD X W e (aCut t) := imE h fun σ H Q ⟨XR, δ, r, P, o, ⟨S, h, hS⟩, k⟩ => ⟨XR, δ, r, S, o, h, fun d r' v H' p => k d r' v H' (hS d r' p)⟩
end
end G
namespace G
open PySem PySem.Spec L2
open PyProof.Rows (envOfC)
section
variable {X : Cx} {W : WX} {a b : Expr} {ta tb : AT} {pos : Pos}
structure oInO (neg : Bool) (r : Rs) (x y : D) (k : D → Prop) : Prop where
  ex : ∃ l xs, y = .adr l ∧ Own r l xs ∧ oIn neg x (.lst xs) fun d => ∃ b, d = .bl b ∧ k d
theorem inO_go {neg : Bool} {f : Value → Value → Sem Value} (hp : OpR X f (rD X.K (oIn neg))) : OpR X f (rD2 X.K (oInO neg)) := by
  rintro pins s σ H x y v u Q I rx ry ⟨r, d1, d2, P, hr, i1, i2, ⟨l, xs, rfl, ⟨pre, post, rfl⟩, ho⟩, k⟩
  cases i2
  obtain ⟨q1, q2, q3⟩ := own_drop hr
  exact hp pins s σ H _ _ v u Q I rx ry ⟨pre ++ post, d1, .lst xs, _, q1, q3 _ _ i1, q2, ho, fun d v H' ⟨b, e, p⟩ ex i => by
    subst e
    cases i
    exact k _ _ H' p ex (.bl _)⟩
theorem p_inO (hu : X.A.units + 65 < cLine) : OpR X (compareOp .In) (rD2 X.K (oInO false)) := inO_go (p_in hu)
theorem d_cmpO {op : CmpOp} {o : Rs → O2} (ho : OpR X (compareOp op) (rD2 X.K o)) (ha : PD X W a ta) (hb : PD X W b tb) (hm : behindInMarks op b = false := by first | exact nomark _ | with_unfolding_all rfl) : PD X W (.Compare a [op] [b] pos) (aOp2 o ta tb) :=
  imE (pe_cmpR ho ha hb hm) fun _ _ _ q => td_op2 q
theorem b_cmpO {op : CmpOp} {o : Rs → O2} (ho : OpR X (compareOp op) (rD2 X.K o)) (ha : PD X W a ta) (hb : PD X W b tb) (hm : behindInMarks op b = false := by first | exact nomark _ | with_unfolding_all rfl) : PDB X W (.Compare a [op] [b] pos) (aTest (aOp2 o ta tb)) :=
  imT (pt_cmpR ho ha hb hm) fun _ _ _ q => tdb_test (fun _ q => td_op2 q) q
end
theorem all_split {K : PySem.W.Frag} {M : Addr → Prop} {H : Hp} : ∀ {a rest : List D} {vs : List V}, IsAll K M H vs (a ++ rest) → ∃ ws us, vs = ws ++ us ∧ IsAll K M H ws a ∧ IsAll K M H us rest
  | [], rest, vs, h => ⟨[], vs, rfl, .nil, h⟩
  | d :: a, rest, _, .cons h t => by
    obtain ⟨ws, us, e, h1, h2⟩ := all_split (a := a) t
    exact ⟨_ :: ws, us, by rw [e]; rfl, .cons h h1, h2⟩
/-- the promise of a def with *args, told of its arguments one by one -/
def starP (n : Nat) (sd : SpX) : SpX := fun ds r P XR => ∃ a rest, ds = a ++ rest ∧ a.length = n ∧ rest.length ≤ 1000000 ∧ sd (a ++ [.tup rest]) r P XR
end G
namespace G
open PySem PySem.Spec L2
open PyProof.Rows (envOfC)
end G
namespace G
open PySem PySem.Spec L2
open PyProof.Rows (envOfC)
inductive IsKV (K : PySem.W.Frag) (M : Addr → Prop) (H : Hp) : List (Key × V) → List (Key × D) → Prop
  | nil : IsKV K M H [] []
  | cons {k : Key} {v : V} {d : D} {xs : List (Key × V)} {es : List (Key × D)} : Is K M H v d → IsKV K M H xs es → IsKV K M H ((k, v) :: xs) ((k, d) :: es)
def dGet (kvs : List (Key × D)) (k : Key) : Option D := (kvs.find? fun kv => decide (kv.1 = k)).map (·.2)
def dPut (kvs : List (Key × D)) (k : Key) (d : D) : List (Key × D) :=
  if (kvs.any fun kv => decide (kv.1 = k)) = true then kvs.map (fun kv => if kv.1 = k then (kv.1, d) else kv) else kvs ++ [(k, d)]
def dDrop (kvs : List (Key × D)) (k : Key) : List (Key × D) := kvs.filter fun kv => decide (kv.1 ≠ k)
def keyD : D → Option Key | .int i => some (.inl i) | .str z => some (.inr z) | _ => none
theorem dGet_pos {k : Key} {d : D} {r : List (Key × D)} : dGet ((k, d) :: r) k = some d := by simp [dGet]
theorem dGet_neg {k j : Key} {d : D} {r : List (Key × D)} (h : j ≠ k) : dGet ((j, d) :: r) k = dGet r k := by simp [dGet, List.find?_cons, h]
section
variable {K : PySem.W.Frag} {N N' : Addr → Prop} {H H' : Hp}
theorem IsKV.go (f : ∀ v d, Is K N H v d → Is K N' H' v d) : ∀ {xs : List (Key × V)} {es : List (Key × D)}, IsKV K N H xs es → IsKV K N' H' xs es
  | _, _, .nil => .nil
  | _, _, .cons h t => .cons (f _ _ h) (IsKV.go f t)
theorem IsKV.length : ∀ {xs : List (Key × V)} {es : List (Key × D)}, IsKV K N H xs es → xs.length = es.length
  | _, _, .nil => rfl
  | _, _, .cons _ t => by rw [List.length_cons, List.length_cons, IsKV.length t]
theorem IsKV.any (k : Key) : ∀ {xs : List (Key × V)} {es : List (Key × D)}, IsKV K N H xs es → (xs.any fun kv => decide (kv.1 = k)) = es.any fun kv => decide (kv.1 = k)
  | _, _, .nil => rfl
  | _, _, .cons _ t => by rw [List.any_cons, List.any_cons, IsKV.any k t]
theorem IsKV.get (k : Key) : ∀ {xs : List (Key × V)} {es : List (Key × D)}, IsKV K N H xs es → match dGet es k with | some d => ∃ v, valV xs k = some v ∧ Is K N H v d | none => valV xs k = none
  | _, _, .nil => rfl
  | _, _, .cons (k := j) (v := v) (d := d) h t => by
    by_cases e : j = k
    · subst e
      rw [dGet_pos]
      exact ⟨v, valV_pos rfl, h⟩
    · rw [dGet_neg e, valV_neg e]
      exact IsKV.get k t
theorem IsKV.snoc {k : Key} {v : V} {d : D} (i : Is K N H v d) : ∀ {xs : List (Key × V)} {es : List (Key × D)}, IsKV K N H xs es → IsKV K N H (xs ++ [(k, v)]) (es ++ [(k, d)])
  | _, _, .nil => .cons i .nil
  | _, _, .cons h t => .cons h (IsKV.snoc i t)
theorem IsKV.repl {k : Key} {v : V} {d : D} (i : Is K N H v d) : ∀ {xs : List (Key × V)} {es : List (Key × D)}, IsKV K N H xs es → IsKV K N H (xs.map fun kv => if kv.1 = k then (kv.1, v) else kv) (es.map fun kv => if kv.1 = k then (kv.1, d) else kv)
  | _, _, .nil => .nil
  | _, _, .cons (k := j) h t => by
    rw [List.map_cons, List.map_cons]
    by_cases e : j = k
    · rw [if_pos e, if_pos e]
      exact .cons i (IsKV.repl i t)
    · rw [if_neg e, if_neg e]
      exact .cons h (IsKV.repl i t)
theorem IsKV.put {k : Key} {v : V} {d : D} {xs : List (Key × V)} {es : List (Key × D)} (h : IsKV K N H xs es) (i : Is K N H v d) : IsKV K N H (putK xs k v) (dPut es k d) := by
  unfold putK dPut
  rw [h.any k]
  split
  · exact h.repl i
  · exact h.snoc i
theorem IsKV.drop (k : Key) : ∀ {xs : List (Key × V)} {es : List (Key × D)}, IsKV K N H xs es → IsKV K N H (dropK xs k) (dDrop es k)
  | _, _, .nil => .nil
  | _, _, .cons (k := j) h t => by
    unfold dropK dDrop
    rw [List.filter_cons, List.filter_cons]
    have ih := IsKV.drop k t
    unfold dropK dDrop at ih
    by_cases e : j = k
    · rw [if_neg (by simp [e]), if_neg (by simp [e])]
      exact ih
    · rw [if_pos (by simp [e]), if_pos (by simp [e])]
      exact .cons h ih
theorem IsKV.of_zip : ∀ {xs : List (Key × V)} {ds : List D}, IsAll K N H (xs.map (·.2)) ds → IsKV K N H xs ((xs.map (·.1)).zip ds)
  | [], ds, h => by cases h; exact .nil
  | (k, v) :: xs, _, .cons h t => .cons h (IsKV.of_zip t)
theorem key_val {v : V} {y : D} {key : Key} (hk : keyD y = some key) (i : Is K N H v y) : v = kV key := by
  cases i <;> simp [keyD] at hk <;> subst hk <;> rfl
end
def dctA (a : Addr) (kvs : List (Key × D)) : At where
  M := fun b => b = a
  R := fun K N H => ∃ xs : List (Key × V), H a = some (.dK xs) ∧ IsKV K N H xs kvs
  loc := fun f g ⟨xs, h, i⟩ => ⟨xs, f _ _ rfl h, i.go g⟩
  anti := fun e ⟨xs, h, i⟩ => ⟨xs, h, i.go fun _ _ => is_anti e⟩
  grow := fun hp ⟨xs, h, i⟩ => ⟨xs, h, i.go fun _ _ => is_growD hp⟩
  al := fun ⟨xs, h, _⟩ b z => ⟨.dK xs, by rw [show b = a from z]; exact h⟩
/-- a dict of our own that is locked while something walks over it -/
def lckA (a : Addr) (od : Obj) (xs : List (Key × V)) (kvs : List (Key × D)) : At where
  M := fun b => b = a
  R := fun K N H => H a = some (.frz od (.dK xs)) ∧ IsKV K N H xs kvs
  loc := fun f g ⟨h, i⟩ => ⟨f _ _ rfl h, i.go g⟩
  anti := fun e ⟨h, i⟩ => ⟨h, i.go fun _ _ => is_anti e⟩
  grow := fun hp ⟨h, i⟩ => ⟨h, i.go fun _ _ => is_growD hp⟩
  al := fun ⟨h, _⟩ b z => ⟨.frz od (.dK xs), by rw [show b = a from z]; exact h⟩
def OwnLk (r : Rs) (a : Addr) (kvs : List (Key × D)) : Prop := ∃ pre post od xs, r = pre ++ lckA a od xs kvs :: post
def OwnD (r : Rs) (a : Addr) (kvs : List (Key × D)) : Prop := ∃ pre post, r = pre ++ dctA a kvs :: post
section
variable {K : PySem.W.Frag} {r pre post : Rs} {H : Hp} {a p : Addr} {kvs es : List (Key × D)} {xs ys : List (Key × V)}
theorem dct_at (h : Rok K r H) (o : OwnD r a kvs) : ∃ xs, H a = some (.dK xs) ∧ IsKV K (mem r) H xs kvs := by
  obtain ⟨pre, post, rfl⟩ := o
  exact mid_R h
theorem lck_at (h : Rok K r H) (o : OwnLk r a kvs) : ∃ xs, Rd H a (.dK xs) ∧ IsKV K (mem r) H xs kvs := by
  obtain ⟨pre, post, od, xs, rfl⟩ := o
  obtain ⟨e, i⟩ := mid_R h
  exact ⟨xs, .inr ⟨od, e⟩, i⟩
theorem dct_put (h : Rok K (pre ++ dctA a kvs :: post) H) (i : IsKV K (mem (pre ++ dctA a kvs :: post)) H ys es) : Rok K (pre ++ dctA a es :: post) (upd H a (.dK ys)) ∧ Kp K (pre ++ dctA a kvs :: post) H (pre ++ dctA a es :: post) (upd H a (.dK ys)) := by
  obtain ⟨xs, e1, _⟩ := dct_at h ⟨pre, post, rfl⟩
  exact mid_put rfl rfl e1 (fun xs => ⟨(fun e => by cases e), fun o e => by cases e⟩) h fun go => ⟨ys, upd_same, i.go go⟩
end
inductive oDGet (r : Rs) : D → D → (Option D → Prop) → Prop
  | own {a : Addr} {kvs : List (Key × D)} {y : D} {key : Key} {k : Option D → Prop} (ow : OwnD r a kvs) (hk : keyD y = some key) (p : k (dGet kvs key)) : oDGet r (.adr a) y k
  | lck {a : Addr} {kvs : List (Key × D)} {y : D} {key : Key} {k : Option D → Prop} (ow : OwnLk r a kvs) (hk : keyD y = some key) (p : k (dGet kvs key)) : oDGet r (.adr a) y k
  | fro {ks : List Key} {ds : List D} {y : D} {key : Key} {k : Option D → Prop} (hk : keyD y = some key) (p : k (dGet (ks.zip ds) key)) : oDGet r (.dct ks ds) y k
theorem oDGet.imp {r : Rs} {d y : D} {k k' : Option D → Prop} (h : oDGet r d y k) (f : ∀ o, k o → k' o) : oDGet r d y k' := by
  cases h with
  | own ow hk p => exact .own ow hk (f _ p)
  | lck ow hk p => exact .lck ow hk (f _ p)
  | fro hk p => exact .fro hk (f _ p)
theorem dgets {K : PySem.W.Frag} {r : Rs} {H : Hp} {d y : D} {vd vy : V} {k : Option D → Prop} (h : oDGet r d y k) (ro : Rok K r H) (i1 : Is K (mem r) H vd d) (i2 : Is K (mem r) H vy y) :
    ∃ a xs o, vd = .ref a ∧ Rd H a (.dK xs) ∧ k o ∧ (match o with | some d => ∃ v, DGet H a vy (some v) ∧ Is K (mem r) H v d | none => DGet H a vy none) := by
  cases h with
  | @own a kvs _ key _ ow hk p =>
    cases i1
    obtain ⟨xs, e1, e2⟩ := dct_at ro ow
    have g := e2.get key
    refine ⟨a, xs, _, rfl, .inl e1, p, ?_⟩
    have hv := key_val hk i2
    subst hv
    cases q : dGet kvs key with
    | none =>
      rw [q] at g
      exact .inl ⟨xs, key, .inl e1, rfl, g.symm⟩
    | some d =>
      rw [q] at g
      obtain ⟨v, g1, g2⟩ := g
      exact ⟨v, .inl ⟨xs, key, .inl e1, rfl, g1.symm⟩, g2⟩
  | @lck a kvs _ key _ ow hk p =>
    cases i1
    obtain ⟨xs, e1, e2⟩ := lck_at ro ow
    have g := e2.get key
    refine ⟨a, xs, _, rfl, e1, p, ?_⟩
    have hv := key_val hk i2
    subst hv
    cases q : dGet kvs key with
    | none =>
      rw [q] at g
      exact .inl ⟨xs, key, e1, rfl, g.symm⟩
    | some d =>
      rw [q] at g
      obtain ⟨v, g1, g2⟩ := g
      exact ⟨v, .inl ⟨xs, key, e1, rfl, g1.symm⟩, g2⟩
  | @fro ks ds _ key _ hk p =>
    cases i1 with
    | @dct a xs _ _ n s e al =>
      have kv := IsKV.of_zip al
      rw [e] at kv
      have g := kv.get key
      refine ⟨a, xs, _, rfl, .inl s, p, ?_⟩
      have hv := key_val hk i2
      subst hv
      cases q : dGet (ks.zip ds) key with
      | none =>
        rw [q] at g
        exact .inl ⟨xs, key, .inl s, rfl, g.symm⟩
      | some d =>
        rw [q] at g
        obtain ⟨v, g1, g2⟩ := g
        exact ⟨v, .inl ⟨xs, key, .inl s, rfl, g1.symm⟩, g2⟩
def aDNew : AT := fun x δ r P => ∀ p, P (.adr p) (r ++ [dctA p []])
def aDIx (td ty : AT) : AT := fun x δ r P => td x δ r fun d r1 => ty x δ r1 fun y r2 => oDGet r2 d y fun o => ∃ z, o = some z ∧ P z r2
inductive oDPut (r : Rs) (y z : D) : D → (Rs → Prop) → Prop
  | mk {a : Addr} {k : Rs → Prop} (pre post : Rs) (kvs : List (Key × D)) (key : Key) (e : r = pre ++ dctA a kvs :: post) (hk : keyD y = some key) (sz : small (kvs.length + 1)) (p : k (pre ++ dctA a (dPut kvs key z) :: post)) : oDPut r y z (.adr a) k
def sDPutA (td ty tv : AT) : AS := fun A δ r => tv A.xr δ r fun z r1 => td A.xr δ r1 fun d r2 => ty A.xr δ r2 fun y r3 => oDPut r3 y z d fun r4 => A.nx δ r4
structure oDIn (neg : Bool) (r : Rs) (x y : D) (k : D → Prop) : Prop where
  ex : oDGet r y x fun o => k (.bl (cond neg (!o.isSome) o.isSome))
section
variable {X : Cx} {W : WX} {o i e f value : Expr} {pos pos' apos cpos : Pos} {td ty tv tx : AT}
theorem d_dnew : PD X W (.Dict [] [] pos) aDNew := imE pe_dnewK fun σ H Q q => by
  obtain ⟨XR, δ, r, P, o, h, k⟩ := q
  intro p hp
  obtain ⟨q1, q2⟩ := mid_new (t := dctA p []) rfl o.r hp (Ext.new hp) fun _ => ⟨[], upd_same, .nil⟩
  exact k _ _ _ _ (h p) (o.step q2 q1) q2 (.adr p)
theorem d_dix (hu : X.A.units + 65 < cLine) (ho : PD X W o td) (hi : PD X W i ty) (hs : NoSl i := by exact fun _ _ => rfl) : PD X W (.Subscript o i pos) (aDIx td ty) := imE (pe_dget (by omega) ho hi hs) fun σ H Q q => by
  obtain ⟨XR, δ, r, P, ok, h, k⟩ := q
  refine td_bind ok h fun d r1 v1 H1 h1 o1 k1 i1 => td_bind o1 h1 fun y r2 v2 H2 h2 o2 k2 i2 => ?_
  obtain ⟨a, xs, oo, rfl, e1, ⟨z, rfl, p⟩, g⟩ := dgets h2 o2.r (k2 _ _ i1) i2
  obtain ⟨v, g1, g2⟩ := g
  exact ⟨a, v, rfl, g1, k _ _ _ _ p o2 (k1.trans k2) g2⟩
theorem s_dput (hu : X.A.units + 65 < cLine) (ho : PD X W o td) (hi : PD X W i ty) (hv : PD X W value tv) (hs : swapsWith value (some (.Subscript o i pos')) pos.line X.env = pure false := by rfl) : PSD X W (.Assign [.Subscript o i pos'] value pos) (sDPutA td ty tv) :=
  imS (ps_dput (by omega) ho hi hv hs) fun Dd σ H ⟨δ, r, A, ok, h, ff⟩ => td_bind ok h fun z r1 v H1 h1 o1 k1 i1 => td_bind o1 h1 fun d r2 v2 H2 h2 o2 k2 i2 => td_bind o2 h2 fun y r3 v3 H3 h3 o3 k3 i3 => by
    cases h3 with
    | @mk a _ pre post kvs key e hk sz p =>
      cases i2
      subst e
      obtain ⟨xs, e1, e2⟩ := dct_at o3.r ⟨pre, post, rfl⟩
      have hv := key_val hk i3
      subst hv
      obtain ⟨q1, q2⟩ := dct_put o3.r (e2.put (k := key) (k3 _ _ (k2 _ _ i1)))
      exact ⟨a, _, rfl, .inl ⟨xs, key, e1, rfl, by rw [e2.length]; exact Nat.lt_of_lt_of_le (Nat.lt_succ_self _) sz.sz, rfl⟩, ff.nx _ _ _ _ p (o3.step q2 q1) (((k1.trans k2).trans k3).trans q2)⟩
theorem p_din (hu : X.A.units + 65 < cLine) : OpR X (compareOp .In) (rD2 X.K (oDIn false)) := by
  rintro pins s σ H x y v u Q I rx ry ⟨r, d1, d2, P, hr, i1, i2, ⟨ho⟩, k⟩
  obtain ⟨a, xs, oo, rfl, e1, p, g⟩ := dgets ho hr i2 i1
  obtain rfl : u = Value.ref a := ry
  cases oo with
  | none => exact d_in (by omega) I g rx fun s' I' => ⟨.bl _, H, I', rfl, k _ _ H p (Ext.refl H) (.bl _)⟩
  | some d =>
    obtain ⟨w, g1, g2⟩ := g
    exact d_in (by omega) I g1 rx fun s' I' => ⟨.bl _, H, I', rfl, k _ _ H p (Ext.refl H) (.bl _)⟩
/-- is a dict -/
def isDc (d : D) (r : Rs) : Prop := (∃ a kvs, d = .adr a ∧ (OwnD r a kvs ∨ OwnLk r a kvs)) ∨ ∃ ks ds, d = .dct ks ds
theorem isDc_at {K : PySem.W.Frag} {r : Rs} {H : Hp} {d : D} {v : V} (h : isDc d r) (ro : Rok K r H) (i : Is K (mem r) H v d) : ∃ a xs, v = .ref a ∧ Rd H a (.dK xs) := by
  rcases h with ⟨a, kvs, rfl, ow | ow⟩ | ⟨ks, ds, rfl⟩
  · cases i
    obtain ⟨xs, e, _⟩ := dct_at ro ow
    exact ⟨a, xs, rfl, .inl e⟩
  · cases i
    obtain ⟨xs, e, _⟩ := lck_at ro ow
    exact ⟨a, xs, rfl, e⟩
  · cases i with
    | dct n s e al => exact ⟨_, _, rfl, .inl s⟩
def aDGt2 (td ty tx : AT) : AT := fun x δ r P => td x δ r fun d r1 => isDc d r1 ∧ ty x δ r1 fun y r2 => tx x δ r2 fun z r3 => oDGet r3 d y fun o => P (o.getD z) r3
theorem d_dgt2 (hu : X.A.units + 65 < cLine) (ho : PD X W o td) (he : PD X W e ty) (hf : PD X W f tx) (m : M2 X o "get" apos e f cpos) : PD X W (.Call (.Attribute o "get" apos) [e, f] [] cpos) (aDGt2 td ty tx) := imE (pe_dget2 (by omega) ho he hf m) fun σ H Q q => by
  obtain ⟨XR, δ, r, P, ok, h, k⟩ := q
  refine td_bind ok h fun d r1 v1 H1 ⟨hd, h1⟩ o1 k1 i1 => ?_
  obtain ⟨a, xs, rfl, e1⟩ := isDc_at hd o1.r i1
  refine ⟨a, rfl, .inl ⟨xs, e1⟩, td_bind o1 h1 fun y r2 v2 H2 h2 o2 k2 i2 => td_bind o2 h2 fun z r3 v3 H3 h3 o3 k3 i3 => ?_⟩
  obtain ⟨a', xs', oo, ea, e2, p, g⟩ := dgets h3 o3.r (k3 _ _ (k2 _ _ i1)) (k3 _ _ i2)
  cases ea
  cases oo with
  | none => exact ⟨none, g, k _ _ _ _ p o3 ((k1.trans k2).trans k3) i3⟩
  | some d =>
    obtain ⟨w, g1, g2⟩ := g
    exact ⟨some w, g1, k _ _ _ _ p o3 ((k1.trans k2).trans k3) g2⟩
end
structure aDcK (x : XT) (g : AG) (tt : AB) (tk te : AT) (δw : Dl) (ds : List D) (r1 : Rs) (P : PK1) : Prop where
  ex : ∃ I : Nat → List (Key × D) → Rs → Prop, I 0 [] r1 ∧
  (∀ (p : Addr) i d acc r', ds[i]? = some d → I i acc r' → g d δw fun δ2 => tt x δ2 (r' ++ [dctA p acc]) fun b r2 =>
    (b = true → tk x δ2 r2 fun y r3 => te x δ2 r3 fun z r4 => ∃ key, keyD y = some key ∧ small (acc.length + 1) ∧ ∃ r5, r4 = r5 ++ [dctA p acc] ∧ I (i + 1) (dPut acc key z) r5) ∧ (b = false → ∃ r4, r2 = r4 ++ [dctA p acc] ∧ I (i + 1) acc r4)) ∧
  ∀ (p : Addr) acc r', I ds.length acc r' → P (.adr p) (r' ++ [dctA p acc])
def aDc (ti : AI) (g : AG) (tt : AB) (tk te : AT) (vs : List Nat) : AT := fun x δ r P => ti x δ r fun ds r1 => aDcK x g tt tk te (wipeD δ vs) ds r1 P
theorem td_dc {K : PySem.W.Frag} {W : WX} {ti : AI} {g : AG} {tt : AB} {tk te : AT} {vs js : List Nat} (hj : ∀ j ∈ js, j ∈ vs) {σ : L2.St} {H : Hp} {Q : VK} (q : TD K W (aDc ti g tt tk te vs) σ H Q) : tDc (TDI K W ti) (TDG K js g) (TDB K W tt) (TD K W tk) (TD K W te) vs σ H Q := by
  obtain ⟨XR, δ, r, P, o, h, k⟩ := q
  refine ⟨XR, δ, r, _, o, h, fun ds r1 J H1 ⟨⟨I, h0, hst, hd⟩⟩ o1 k1 w p hp => ?_⟩
  obtain ⟨s1, s2⟩ := mid_new (t := dctA p []) rfl o1.r hp (Ext.new hp) fun _ => ⟨[], upd_same, .nil⟩
  refine ⟨fun i m H' => m = ds.length - i ∧ i ≤ ds.length ∧ ∃ acc r', I i acc r' ∧ Rok K (r' ++ [dctA p acc]) H' ∧ Kp K r1 H1 (r' ++ [dctA p acc]) H', ⟨ds.length, by simp, Nat.zero_le _, [], r1, h0, s1, s2⟩, ?_⟩
  rintro i m H' ⟨rfl, hi, acc, r', hI, ro, kp⟩
  by_cases hlt : i < ds.length
  · obtain ⟨hgo, hy⟩ := (w i _ H' kp ro).1 hlt
    refine .inr ⟨hgo, fun H2 => ∃ acc r2, I (i + 1) acc r2 ∧ Rok K (r2 ++ [dctA p acc]) H2 ∧ Kp K r1 H1 (r2 ++ [dctA p acc]) H2, fun H2 ⟨acc, r2, q1, q2, q3⟩ => ⟨ds.length - (i + 1), by omega, rfl, hlt, acc, r2, q1, q2, q3⟩, fun x H2 y => ?_⟩
    obtain ⟨ex, d, hd', ix⟩ := hy x H2 y
    have k2 := kp.trans (Kp.ext ex)
    have o2 : Ok K W XR (r' ++ [dctA p acc]) (wipeD δ vs) (wipe σ vs) H2 := (o1.step k2 (ro.ext ex)).wipe vs
    refine ⟨W, XR, wipeD δ vs, _, d, _, o2, ix, hst p i d acc r' hd' hI, fun δ2 σ2 q o3 ag => ⟨wipe_agree ag hj, XR, δ2, _, _, o3, q, fun b r3 H3 q3 o4 k4 => ?_⟩⟩
    cases b with
    | true =>
      show TD K W tk σ2 H3 _
      refine td_bind o4 (q3.1 rfl) fun y r5 v H5 h5 o5 k5 i5 => td_bind o5 h5 fun z r6 v6 H6 ⟨key, hk, sz, r7, e7, h7⟩ o6 k6 i6 => ?_
      subst e7
      obtain ⟨xs, e1, e2⟩ := dct_at o6.r ⟨r7, [], rfl⟩
      obtain ⟨q1, q2⟩ := dct_put o6.r (e2.put (k := key) i6)
      exact ⟨xs, key, key_val hk (k6 _ _ i5), e1, by rw [e2.length]; exact Nat.lt_of_lt_of_le (Nat.lt_succ_self _) sz.sz, _, r7, h7, q1, ((((k2.trans k4).trans k5).trans k6).trans q2)⟩
    | false =>
      show ∃ acc r2, _
      obtain ⟨r6, e6, h5⟩ := q3.2 rfl
      subst e6
      exact ⟨acc, r6, h5, o4.r, k2.trans k4⟩
  · have e : i = ds.length := by omega
    exact .inl ⟨(w i _ H' kp ro).2 e, k _ _ _ _ (hd p acc r' (e ▸ hI)) (o1.step kp ro) (k1.trans kp) (.adr p)⟩
theorem d_dc {X : Cx} {W : WX} {kx vx tg iter : Expr} {ifs : List Expr} {scope : Scope} {own : List (Str × Nat)} {pos : Pos} {js : List Nat} {wi : AI} {g : AG} {tt : AB} {tk te : AT} (hN : X.N.Nodup) (hi : PDI X W tg iter wi) (ok : BlkOk X.N X.env.scope scope own)
    (hg : ∀ (s : Shared) (H : Hp) (C : Addr) (cl : List (Str × Addr)) (fp : List Addr), PDG (X.blk s H scope (compEnvC scope cl C X.env) fp) tg js g) (ht : ∀ (s : Shared) (H : Hp) (C : Addr) (cl : List (Str × Addr)) (fp : List Addr), PTs (X.blk s H scope (compEnvC scope cl C X.env) fp) ifs (TDB X.K W tt))
    (hk : ∀ (s : Shared) (H : Hp) (C : Addr) (cl : List (Str × Addr)) (fp : List Addr), PD (X.blk s H scope (compEnvC scope cl C X.env) fp) W kx tk)
    (he : ∀ (s : Shared) (H : Hp) (C : Addr) (cl : List (Str × Addr)) (fp : List Addr), PD (X.blk s H scope (compEnvC scope cl C X.env) fp) W vx te) (hj : ∀ j ∈ js, j ∈ own.map (·.2) := by decide) (hc : X.calm = true := by rfl) (hs : ∀ x, foldedSetIterable iter X.env x = pure x := by intro _; rfl) :
    PD X W (.DictComp kx vx [⟨tg, iter, ifs, 0⟩] scope pos) (aDc wi g tt tk te (own.map (·.2))) :=
  imE (pe_dc (g := TDG X.K js g) (tt := TDB X.K W tt) (tk := TD X.K W tk) (tv := TD X.K W te) hc hN hi ok hg ht hk he hs) fun _ _ _ q => td_dc hj q
end G
namespace G
open PySem PySem.Spec L2
open PyProof.Rows (envOfC Call_ Subscript_)
structure GiK (K : PySem.W.Frag) (C f : Addr) (m : Str) : Prop where
  at_ : PySem.W.findIn K (.ref C) m = some (some (.ref f))
  fnI : PySem.W.fnIn K f = true
  fn : PySem.W.isFn K (.ref f) = true
/-- d op y by the class's own def, nothing changed in what the name of the def is -/
def aDun (C : Addr) (sd : SpX) (ta tb : AT) : AT := fun x δ r P => ta x δ r fun d r1 => tb x δ r1 fun y r2 => isC C d r2 ∧ sd [d, y] r2 P fun E fs es r' => x E fs es δ r'
def rDun (C : Addr) (sp : Sp) (E : XK) : V → V → Hp → VK → Prop := fun x y H Q => ∃ a dx kvs, x = .ref a ∧ H a = some (.ins C dx kvs) ∧ sp [x, y] H Q E
section
variable {X : Cx} {W : WX} {k : Nat} {C f : Addr} {sd : SpX} {ta tb : AT} {a b : Expr} {pos : Pos}
theorem td_dun {σ : L2.St} {H : Hp} {Q : VK} (q : TD X.K W (aDun C sd ta tb) σ H Q) : tOp (rDun C (lift X.K sd) (WE W σ)) (TD X.K W ta) (TD X.K W tb) σ H Q := by
  obtain ⟨XR, δ, r, P, ok, h, kk⟩ := q
  refine td_bind ok h fun d1 r1 v1 H1 h1 o1 k1 i1 => td_bind o1 h1 fun d2 r2 v2 H2 h2 o2 k2 i2 => ?_
  obtain ⟨hc, h2⟩ := h2
  obtain ⟨a, dx, kvs, rfl, s, gd⟩ := isC_at hc o2.r (k2 _ _ i1)
  exact ⟨a, dx, kvs, rfl, s, lift_at o2 (.cons (k2 _ _ i1) (.cons i2 .nil)) h2 fun d r' v H' p o3 k3 i3 => kk _ r' _ H' p o3 ((k1.trans k2).trans k3) i3⟩
theorem call_in1 {sp : Sp} {E : XK} {Q : VK} {pins : List (Addr × Obj)} {σ : L2.St} {H : Hp} {s : Shared} {us : List Value} {vs : List V} (F : FnR X.prog X.w X.K X.mg X.base (L2.CX X.prog X.w) k f sp) (hr : Room (k + 1) X.A) (hx : PassesAt (L2.CX X.prog X.w) X σ E) (I : L2.Inv X pins σ H s) (r : Vals vs us) (h : sp vs H Q E) :
    wpAny (model X.prog X.w) X.A.in1 (call (.ref f) us) (EP X pins σ Q) X.xe s := by
  refine wpAny_call (codeAny_mono (F X.A.in1 X.stack s H us vs Q E hr.in1 I.env0.in1 r h) fun r s' hq => ?_)
  cases r with
  | error e => exact hx pins H s e s' I hq
  | ok fl =>
    cases fl with
    | ret u => exact I.after hq
    | next => exact False.elim hq
    | brk => exact False.elim hq
    | cont => exact False.elim hq
/-- o[i] by __getitem__ -/
theorem d_gi (e : GiK X.K C f "__getitem__") (F : FR X.prog X.w X.K X.mg X.base k f sd) (tk : Takes X W) (hr : Room (k + 1) X.A) (ha : PD X W a ta) (hb : PD X W b tb)
    (hsl : ∀ x i, subscripted b true x i = runValue (.builtin "lifetime.subscript" ⟨[x, i], []⟩) := by intros; with_unfolding_all rfl) : PD X W (.Subscript a b pos) (aDun C sd ta tb) := by
  refine ⟨fun pins s σ H Q I h => ?_⟩
  have h2 := td_dun h
  refine Subscript_ (binT ha hb I h2 fun v u s2 x y H2 I2 rx ry ⟨p, dx, kvs, ex, hp, q⟩ => ?_)
  subst ex
  obtain rfl : v = Value.ref p := rx
  obtain ⟨mA, O, _⟩ := ins_get I2.hok hp
  obtain ⟨od, J, _⟩ := O.look
  obtain ⟨m, hF⟩ := I2.fr
  exact PySem.W.sub_K hF I2.ok.mod.kin J e.at_ e.fnI e.fn (call_in1 (us := [.ref p, u]) (vs := [.ref p, y]) F hr (passAt tk _) I2 (.cons rfl (.cons ry .nil)) q) (hsl _ _)
end
/-- x in o, x not in o by __contains__ -/
structure InK (K : PySem.W.Frag) (C f : Addr) : Prop where
  at_ : PySem.W.findIn K (.ref C) "__contains__" = some (some (.ref f))
  fn : PySem.W.isFn K (.ref f) = true
def aInI (C : Addr) (sd : SpX) (neg : Bool) (ta tb : AT) : AT := fun x δ r P => ta x δ r fun y r1 => tb x δ r1 fun d r2 => isC C d r2 ∧ sd [d, y] r2 (fun d r3 => ∃ b, d = .bl b ∧ P (.bl (cond neg (!b) b)) r3) noX
def rInI (C : Addr) (sp : Sp) (neg : Bool) : R2 := fun y x H Q => ∃ a dx kvs, x = .ref a ∧ H a = some (.ins C dx kvs) ∧ sp [x, y] H (fun v H' => ∃ b : Bool, v = .bl b ∧ Q (.bl (cond neg (!b) b)) H') E0
section
variable {X : Cx} {W : WX} {k : Nat} {C g : Addr} {sp : Sp} {sd : SpX} {ta tb : AT} {a b : Expr} {pos : Pos}
theorem op_inI (e : InK X.K C g) (F : FnR X.prog X.w X.K X.mg X.base (L2.CX X.prog X.w) k g sp) (hr : Room k X.A) : OpR X (compareOp .In) (rInI C sp false) := by
  intro pins s σ H y x v u Q I ry rx h
  obtain ⟨a, dx, kvs, rfl, ha, q⟩ := h
  cases (show u = Value.ref a from rx)
  obtain ⟨mA, O, _⟩ := ins_get I.hok ha
  obtain ⟨od, J, _⟩ := O.look
  obtain ⟨m, hF⟩ := I.fr
  refine PySem.W.in_K hF I.ok.mod.kin J e.at_ e.fn ?_
  refine thn (call_P (us := [.ref a, v]) (vs := [.ref a, y]) F hr passE I (.cons rfl (.cons ry .nil)) q) fun w s' z => ?_
  obtain ⟨z', H', I', rz, b, eb, qz⟩ := z
  subst eb
  obtain rfl : w = Value.bool b := rz
  exact wpAny_pure ⟨.bl _, H', I', rfl, qz⟩
theorem td_inI {neg : Bool} {σ : L2.St} {H : Hp} {Q : VK} (q : TD X.K W (aInI C sd neg ta tb) σ H Q) : tOp (rInI C (lift X.K sd) neg) (TD X.K W ta) (TD X.K W tb) σ H Q := by
  obtain ⟨XR, δ, r, P, ok, h, kk⟩ := q
  refine td_bind ok h fun d1 r1 v1 H1 h1 o1 k1 i1 => td_bind o1 h1 fun d2 r2 v2 H2 h2 o2 k2 i2 => ?_
  obtain ⟨hc, h2⟩ := h2
  obtain ⟨a, dx, kvs, rfl, s, gd⟩ := isC_at hc o2.r i2
  refine ⟨a, dx, kvs, rfl, s, lift_n o2 (.cons i2 (.cons (k2 _ _ i1) .nil)) h2 fun d r' v H' p o3 k3 i3 => ?_⟩
  obtain ⟨b, rfl, p⟩ := p
  cases i3
  exact ⟨b, rfl, kk _ r' _ H' p o3 ((k1.trans k2).trans k3) (.bl _)⟩
theorem d_inI (e : InK X.K C g) (F : FR X.prog X.w X.K X.mg X.base k g sd) (hr : Room k X.A) (ha : PD X W a ta) (hb : PD X W b tb) (hm : behindInMarks .In b = false := by with_unfolding_all rfl) : PD X W (.Compare a [.In] [b] pos) (aInI C sd false ta tb) := imE (pe_cmpR (op_inI e F hr) ha hb hm) fun _ _ _ q => td_inI q
end
end G
namespace G
open PySem PySem.Spec L2
open PyProof.Rows (envOfC)
def DfG (K : PySem.W.Frag) (C : Addr) (m qual : Str) (st : Stmt) (ps : List Str) : Prop := ∃ f fd, FunA K m qual st f fd ∧ GiK K C f m ∧ Binds K fd ps []
def DfI (K : PySem.W.Frag) (C : Addr) (qual : Str) (st : Stmt) (ps : List Str) : Prop := ∃ f fd, FunA K "__contains__" qual st f fd ∧ InK K C f ∧ Binds K fd ps []
def ClG (P : Program) (w : World) (K : PySem.W.Frag) (mg : Str → Option Value) (base : Heap) (k : Nat) (C : Addr) (m : Str) (sd : SpX) : Prop := ∃ f, GiK K C f m ∧ FR P w K mg base k f sd
def ClI (P : Program) (w : World) (K : PySem.W.Frag) (mg : Str → Option Value) (base : Heap) (k : Nat) (C : Addr) (sd : SpX) : Prop := ∃ f, InK K C f ∧ FR P w K mg base k f sd
section
variable {P : Program} {w : World} {K : PySem.W.Frag} {mg : Str → Option Value} {base : Heap} {C : Addr} {m qual pv : Str} {st : Stmt} {N ps : List Str} {k j : Nat} {sd sd' : SpX}
theorem clg_of (d : DfG K C m qual st ps) (S : FnScope N ps (defScope st)) (len : ∀ ds r P' XR, sd ds r P' XR → ds.length = ps.length) (h : Bod P w K mg base qual st N k sd) : ClG P w K mg base (k + 1) C m sd := by
  obtain ⟨f, fd, F, M, b⟩ := d
  exact ⟨f, M, fr_of (fnA_d F S len (h f)) b⟩
theorem cli_of (d : DfI K C qual st ps) (S : FnScope N ps (defScope st)) (len : ∀ ds r P' XR, sd ds r P' XR → ds.length = ps.length) (h : Bod P w K mg base qual st N k sd) : ClI P w K mg base (k + 1) C sd := by
  obtain ⟨f, fd, F, M, b⟩ := d
  exact ⟨f, M, fr_of (fnA_d F S len (h f)) b⟩
end
section
variable {X : Cx} {W : WX} {k j : Nat} {C : Addr} {sd : SpX} {pos : Pos} {a b : Expr} {ta tb : AT}
theorem d_gix (M : ClG X.prog X.w X.K X.mg X.base k C "__getitem__" sd) (tk : Takes X W) (hr : Room j X.A) (ha : PD X W a ta) (hb : PD X W b tb) (hj : k + 1 ≤ j := by first | decide | exact Nat.le_refl _ | omega)
    (hsl : ∀ x i, subscripted b true x i = runValue (.builtin "lifetime.subscript" ⟨[x, i], []⟩) := by intros; with_unfolding_all rfl) : PD X W (.Subscript a b pos) (aDun C sd ta tb) := by
  obtain ⟨f, M, F⟩ := M
  exact d_gi M F tk (hr.mono hj) ha hb hsl
theorem d_ini (M : ClI X.prog X.w X.K X.mg X.base k C sd) (hr : Room j X.A) (ha : PD X W a ta) (hb : PD X W b tb) (hj : k ≤ j := by first | decide | exact Nat.le_refl _ | omega) (hm : behindInMarks .In b = false := by with_unfolding_all rfl) : PD X W (.Compare a [.In] [b] pos) (aInI C sd false ta tb) := by
  obtain ⟨f, M, F⟩ := M
  exact d_inI M F (hr.mono hj) ha hb hm
end
end G
namespace G
open PySem PySem.Spec L2
open PyProof.Rows (envOfC)
end G
namespace G
open PySem PySem.Spec L2
open PyProof.Rows (envOfC)
end G
namespace G
open PySem PySem.Spec L2
open PyProof.Rows (envOfC)
def aIsiO (T : String) (t : AT) : AT := fun x δ r P => t x δ r fun d r1 => ∃ a xs, d = .adr a ∧ Own r1 a xs ∧ P (.bl (T == "list")) r1
section
variable {X : Cx} {W : WX} {a : Expr} {ta : AT} {p q pos : Pos} {T : String} {y : Str}
theorem d_isiO (ht : Ty5 T) (hg : Gl X "isinstance") (hm : X.mg "isinstance" = none) (ha : PD X W a ta) (gy : Gl X y) (my : X.mg y = none) (by_ : bootBuiltins y = some (.type T) := by decide +kernel) (hny : y ≠ "__name__" := by decide) (hdy : (y == ("__debug__" : Str)) = false := by decide)
    (he : starEach [a, .Name y q] X.env = (false, eval a X.env) :: starEach [.Name y q] X.env := by rfl) (hpl : (backTo pos (starEach [.Name y q] X.env)).any (·.1) = false := by rfl) (he2 : starEach [.Name y q] X.env = (false, eval (.Name y q) X.env) :: starEach [] X.env := by rfl) :
    PD X W (.Call (.Name "isinstance" p) [a, .Name y q] [] pos) (aIsiO T ta) := imE (pe_callB call_isi hg hm (by decide +kernel) (pa_cons ha (pa_cons (pe_bltn (v := .ty T) gy my by_ rfl hny hdy) pa_nil he2) he) (by decide) (by decide) he hpl) fun σ H Q q => by
  obtain ⟨XR, δ, r, P, ok, h, k⟩ := q
  refine td_bind ok h fun d r1 v H1 ⟨l, xs, e, ow, h1⟩ o1 k1 i1 => ?_
  subst e
  cases i1
  obtain ⟨vs, h2, al⟩ := own_get o1.r ow
  have kt : PySem.W.kitOne X.K (.type "list") (.type T) = some (T == "list") := by
    have := kit5 (K := X.K) ht (.lst []) rfl
    have e : isTy T (.lst []) = (T == "list") := by cases ht <;> decide
    rw [e] at this
    exact this
  exact ⟨.ref l, .ty T, _, _, _, rfl, .ty T, .base (.lst h2), kt, k _ r1 _ H1 h1 o1 k1 (.bl _)⟩
end
end G
namespace G
open PySem PySem.Spec L2
end G
namespace G
open PySem PySem.Spec L2
end G
namespace G
open PySem PySem.Spec L2
end G
namespace G
open PySem PySem.Spec L2
theorem own_more {r t : Rs} {a : Addr} {xs : List D} (h : Own r a xs) : Own (r ++ t) a xs := by
  obtain ⟨pre, post, rfl⟩ := h
  exact ⟨pre, post ++ t, by rw [List.append_assoc]; rfl⟩
variable {K : PySem.W.Frag}
end G
namespace G
open PySem
end G
namespace G
open PySem PySem.Spec L2
open PyProof.Rows (envOfC)
inductive Pt where | n (i : Nat) | t (is : List Nat)
def gP2 : List Pt → List D → Dl → (Dl → Prop) → Prop
  | [], ds, δ, Q => ds = [] ∧ Q δ
  | .n i :: ps, ds, δ, Q => (match ds with | d :: ds => gP2 ps ds (δ.set i (some d)) Q | [] => False)
  | .t is :: ps, ds, δ, Q => (match ds with | .tup es :: ds => es.length = is.length ∧ gP2 ps ds (setAll δ is es) Q | _ => False)
def gM (ps : List Pt) : AG := fun d δ Q => match d with | .tup ds => ds.length = ps.length ∧ gP2 ps ds δ Q | _ => False
end G
namespace G
open PySem PySem.Spec L2
open PyProof.Rows (envOfC)
end G
namespace G
open PySem PySem.Spec L2
open PyProof.Rows (envOfC)
end G
namespace G
open PySem PySem.Spec L2
open PyProof.Rows (envOfC)
structure oEqO (neg : Bool) (r : Rs) (x y : D) (k : D → Prop) : Prop where
  ex : ∃ l xs, x = .adr l ∧ Own r l xs ∧ deps xs ≤ 63 ∧ dep y ≤ 64 ∧ k (.bl (cond neg (!eqD (.lst xs) y) (eqD (.lst xs) y)))
theorem p_eqO {X : Cx} (hu : X.A.units + 64 < cLine) : OpR X (compareOp .Eq) (rD2 X.K (oEqO false)) := by
  rintro pins s σ H x y v u Q I rx ry ⟨r, d1, d2, P, hr, i1, i2, ⟨l, xs, rfl, ⟨pre, post, rfl⟩, h1, h2, ho⟩, k⟩
  cases i1
  obtain ⟨q1, q2, q3⟩ := own_drop hr
  obtain ⟨a1, b1⟩ := shaped_py q2 (show dep (.lst xs) ≤ 64 by show deps xs + 1 ≤ 64; omega)
  obtain ⟨a2, b2⟩ := shaped_py i2 h2
  exact op_eqD hu pins s σ H _ _ v u Q I rx ry ⟨_, _, a1, a2, b1, b2, k _ _ H ho (Ext.refl H) (.bl _)⟩
end G
namespace G
open PySem PySem.Spec L2
open PyProof.Rows (envOfC)
end G
namespace G
open PySem PySem.Spec L2
open PyProof.Rows (envOfC)
end G
namespace G
open PySem PySem.Spec L2
open PyProof.Rows (envOfC)
end G
namespace G
open PySem PySem.Spec L2
open PyProof.Rows (envOfC)
def aIsiO2 (T U : String) (t : AT) : AT := fun x δ r P => t x δ r fun d r1 => ∃ a xs, d = .adr a ∧ Own r1 a xs ∧ P (.bl (T == "list" || U == "list")) r1
theorem kit_list {K : PySem.W.Frag} {T : String} (ht : Ty5 T) : PySem.W.kitOne K (.type "list") (.type T) = some (T == "list") := by
  have := kit5 (K := K) ht (.lst []) rfl
  have e : isTy T (.lst []) = (T == "list") := by cases ht <;> decide
  rw [e] at this
  exact this
theorem d_isiO2 {X : Cx} {W : WX} {a : Expr} {ta : AT} {p pos : Pos} {T U : String} {q q2 q3 : Pos} {kk} {y z : Str} (ht : Ty5 T) (hu : Ty5 U) (hg : Gl X "isinstance") (hm : X.mg "isinstance" = none) (ha : PD X W a ta) (gy : Gl X y) (my : X.mg y = none) (gz : Gl X z) (mz : X.mg z = none) (by_ : bootBuiltins y = some (.type T) := by decide +kernel) (bz : bootBuiltins z = some (.type U) := by decide +kernel)
    (hny : y ≠ "__name__" := by decide) (hdy : (y == ("__debug__" : Str)) = false := by decide) (hnz : z ≠ "__name__" := by decide) (hdz : (z == ("__debug__" : Str)) = false := by decide)
    (he : starEach [a, .Tuple [.Name y q, .Name z q2] kk q3] X.env = (false, eval a X.env) :: starEach [.Tuple [.Name y q, .Name z q2] kk q3] X.env := by rfl) (hpl : (backTo pos (starEach [.Tuple [.Name y q, .Name z q2] kk q3] X.env)).any (·.1) = false := by rfl)
    (he2 : starEach [.Tuple [.Name y q, .Name z q2] kk q3] X.env = (false, eval (.Tuple [.Name y q, .Name z q2] kk q3) X.env) :: starEach [] X.env := by rfl)
    (he3 : starEach [.Name y q, .Name z q2] X.env = (false, eval (.Name y q) X.env) :: starEach [.Name z q2] X.env := by rfl) (he4 : starEach [.Name z q2] X.env = (false, eval (.Name z q2) X.env) :: starEach [] X.env := by rfl) :
    PD X W (.Call (.Name "isinstance" p) [a, .Tuple [.Name y q, .Name z q2] kk q3] [] pos) (aIsiO2 T U ta) :=
  imE (pe_callB call_isiT hg hm (by decide +kernel) (pa_cons ha (pa_cons (pe_tup (pa_cons (pe_bltn (v := .ty T) gy my by_ rfl hny hdy) (pa_cons (pe_bltn (v := .ty U) gz mz bz rfl hnz hdz) pa_nil he4) he3)) pa_nil he2) he) (by decide) (by decide) he hpl) fun σ H Q q => by
  obtain ⟨XR, δ, r, P, ok, h, k⟩ := q
  refine td_bind ok h fun d r1 v H1 ⟨l, xs, e, ow, h1⟩ o1 k1 i1 => ?_
  subst e
  cases i1
  obtain ⟨vs, h2, al⟩ := own_get o1.r ow
  refine ⟨(by decide : 2 ≤ sizeLine), fun tp htp => ?_⟩
  have h3 := Ext.new htp (o := .tup [.ty T, .ty U]) _ _ h2
  refine ⟨.ref l, tp, _, _, [.type T, .type U], T == "list" || U == "list", rfl, upd_same, .cons (.ty T) (.cons (.ty U) .nil), .base (.lst h3), ?_, k _ r1 _ _ h1 (o1.new htp) (k1.trans (Kp.ext (Ext.new htp))) (.bl _)⟩
  exact kitAny_cons (kit_list ht) (fun e => by rw [e, Bool.false_or]; exact kitAny_cons (kit_list hu) (fun e => by rw [e]; exact kitAny_nil) (fun e => e)) (fun e => by rw [e]; rfl)
/-- [e(x) for x in ds if f(x)], what they look at being told -/
theorem lc_fmR {x : XT} {g : AG} {te : AT} {tt : AB} {δw : Dl} {ds : List D} {r1 : Rs} {P : PK1} (f : D → Bool) (e : D → D) (hz : small ds.length)
    (he : ∀ d ∈ ds, ∀ (T : Rs) (Q1 : PK1) (Q2 : Rs → Prop), (f d = true → Q1 (e d) (r1 ++ T)) → (f d = false → Q2 (r1 ++ T)) → g d δw fun δ2 => tt x δ2 (r1 ++ T) fun b r2 => (b = true → te x δ2 r2 Q1) ∧ (b = false → Q2 r2)) (hP : P (.lst ((ds.filter f).map e)) r1) : aLcK x g tt te δw ds r1 P := by
  refine ⟨fun i acc r' => acc = ((ds.take i).filter f).map e ∧ r' = r1, ⟨rfl, rfl⟩, ?_, ?_⟩
  · rintro p i d acc r' hd ⟨rfl, rfl⟩
    have hi := (List.getElem?_eq_some_iff.mp hd).1
    refine he d (List.mem_of_getElem? hd) _ _ _ (fun q => ⟨?_, r', le.refl, ?_, rfl⟩) (fun q => ⟨r', le.refl, ?_, rfl⟩)
    · rw [List.length_map]
      have h1 := List.length_filter_le f (ds.take i)
      rw [List.length_take] at h1
      have : small ds.length := hz
      unfold small at *
      omega
    · rw [List.take_add_one, hd, List.filter_append, List.map_append]
      show _ = _ ++ List.map e (List.filter f [d])
      rw [List.filter_cons, q]
      rfl
    · rw [List.take_add_one, hd, List.filter_append, List.map_append]
      show _ = _ ++ List.map e (List.filter f [d])
      rw [List.filter_cons, q]
      simp
  · rintro acc r' ⟨rfl, rfl⟩
    rw [List.take_length]
    exact hP
end G
namespace G
open PySem PySem.Spec L2
open PyProof.Rows (envOfC)
end G
namespace G
open PySem PySem.Spec L2
open PyProof.Rows (envOfC)
end G
namespace G
open PySem PySem.Spec L2
open PyProof.Rows (envOfC)
end G
namespace G
open PySem PySem.Spec L2
open PyProof.Rows (envOfC)
end G
namespace G
open PySem PySem.Spec L2
open PyProof.Rows (envOfC)
end G
namespace G
open PySem PySem.Spec L2 PyProof.Rows
end G
namespace G
open PySem PySem.Spec L2 PyProof.Rows
end G
namespace G
open PySem PySem.Spec L2
open PyProof.Rows (envOfC)
end G
namespace G
open PySem PySem.Spec L2 PyProof.Rows
def rLenI (C : Addr) (sp : Sp) : List V → Hp → VK → Prop := fun vs H Q => ∃ a dx kvs, vs = [.ref a] ∧ H a = some (.ins C dx kvs) ∧ sp [.ref a] H (fun v H' => ∃ n : Nat, v = .int (n : Nat) ∧ n ≤ 1000000 ∧ Q v H') E0
def aLenI (C : Addr) (sd : SpX) (l : AL) : AT := fun x δ r P => l x δ r fun ds r1 => ∃ d, ds = [d] ∧ isC C d r1 ∧ sd [d] r1 (fun d r2 => ∃ n : Nat, d = .int (n : Nat) ∧ n ≤ 1000000 ∧ P d r2) noX
section
variable {X : Cx} {W : WX} {k j : Nat} {C g : Addr} {sp : Sp} {sd : SpX} {l : AL} {e : Expr} {es : List Expr} {pos p : Pos}
theorem cr_lenI (M : GiK X.K C g "__len__") (F : FnR X.prog X.w X.K X.mg X.base (L2.CX X.prog X.w) k g sp) (hr : Room (k + 1) X.A) : CallR X (.builtin "len") (rLenI C sp) := by
  intro pins s σ H vs us Q I rv h
  obtain ⟨a, dx, kvs, rfl, ha, q⟩ := h
  obtain ⟨u, rfl, rx⟩ := vals1 rv
  obtain rfl : u = Value.ref a := rx
  obtain ⟨mA, O, _⟩ := ins_get I.hok ha
  obtain ⟨od, J, _⟩ := O.look
  obtain ⟨m, hF⟩ := I.fr
  refine PySem.W.len_K hF I.ok.mod.kin J M.at_ M.fn ?_
  refine thn (call_in1 (us := [.ref a]) (vs := [.ref a]) F hr passE I (.cons rfl .nil) q) fun w s' z => ?_
  obtain ⟨z', H', I', rz, n, en, hn, qz⟩ := z
  subst en
  obtain ⟨t, rfl⟩ := rz
  refine ⟨⟨Int.natCast_nonneg _, ?_⟩, ?_⟩
  · have : (n : Int) ≤ 1000000 := by omega
    exact Int.lt_of_le_of_lt this (by decide)
  · exact ⟨.int _, H', I'.tok _, ⟨_, rfl⟩, qz⟩
theorem d_lenI (M : ClG X.prog X.w X.K X.mg X.base k C "__len__" sd) (hr : Room j X.A) (hg : Gl X "len") (hm : X.mg "len" = none) (ha : PDL X W (e :: es) l) (hj : k + 1 ≤ j := by first | decide | exact Nat.le_refl _ | omega)
    (he : starEach (e :: es) X.env = (false, eval e X.env) :: starEach es X.env := by rfl) (hpl : (backTo pos (starEach es X.env)).any (·.1) = false := by rfl) : PD X W (.Call (.Name "len" p) (e :: es) [] pos) (aLenI C sd l) := by
  obtain ⟨g, M, F⟩ := M
  refine imE (pe_callB (cr_lenI M F (hr.mono hj)) hg hm (by decide +kernel) ha (by decide) (by decide) he hpl) fun σ H Q q => ?_
  obtain ⟨XR, δ, r, P, ok, h, kk⟩ := q
  refine tdl_bind ok h fun ds r1 vs H1 ⟨d, ed, hc, h1⟩ o1 k1 i1 => ?_
  subst ed
  cases i1 with
  | cons i1 t =>
    cases t
    obtain ⟨a, dx, kvs, rfl, s, gd⟩ := isC_at hc o1.r i1
    refine ⟨a, dx, kvs, rfl, s, lift_n o1 (.cons i1 .nil) h1 fun d' r' v H' p o3 k3 i3 => ?_⟩
    obtain ⟨n, rfl, hn, p⟩ := p
    cases i3
    exact ⟨n, rfl, hn, kk _ r' _ H' p o3 (k1.trans k3) (.int _)⟩
end
end G
namespace G
open PySem PySem.Spec L2
def leS (a b : Str) : Bool := !ltCps b.cps.toList a.cps.toList
def srt (zs : List Str) : List Str := zs.mergeSort leS
theorem ltC {a b : List Nat} : ltCps a b = true ↔ a < b := by rw [PyProof.Rows.ltCps_eq]; exact decide_eq_true_iff
theorem leS_iff {a b : Str} : leS a b = true ↔ a.cps.toList ≤ b.cps.toList := by
  unfold leS
  cases h : ltCps b.cps.toList a.cps.toList with
  | true =>
    have := ltC.mp h
    constructor
    · intro e; cases e
    · intro e; exact absurd this (List.not_lt.mpr e)
  | false =>
    constructor
    · intro _
      exact List.not_lt.mp fun q => by rw [ltC.mpr q] at h; cases h
    · intro _; rfl
theorem leS_trans (a b c : Str) (h1 : leS a b = true) (h2 : leS b c = true) : leS a c = true := leS_iff.mpr (List.le_trans (leS_iff.mp h1) (leS_iff.mp h2))
theorem leS_total (a b : Str) : (leS a b || leS b a) = true := by
  rw [Bool.or_eq_true, leS_iff, leS_iff]
  exact List.le_total ..
theorem leS_anti {a b : Str} (h1 : leS a b = true) (h2 : leS b a = true) : a = b := by
  have e : a.cps.toList = b.cps.toList := List.le_antisymm (leS_iff.mp h1) (leS_iff.mp h2)
  obtain ⟨⟨a⟩⟩ := a
  obtain ⟨⟨b⟩⟩ := b
  have e : a = b := e
  rw [e]
theorem rising_pair : ∀ {p : Str} {l : List Str}, PyProof.Rows.risingS p l = true → (p :: l).Pairwise fun a b => leS a b = true
  | p, [], _ => by simp
  | p, x :: l, h => by
    have h : (!ltCps x.cps.toList p.cps.toList && PyProof.Rows.risingS x l) = true := h
    rw [Bool.and_eq_true] at h
    have ih := rising_pair h.2
    refine List.pairwise_cons.mpr ⟨fun y hy => ?_, ih⟩
    rcases List.mem_cons.mp hy with rfl | hy
    · exact h.1
    · exact leS_trans _ _ _ h.1 ((List.pairwise_cons.mp ih).1 y hy)
theorem sorted_pair : ∀ {l : List Str}, PyProof.Rows.sortedS l = true → l.Pairwise fun a b => leS a b = true
  | [], _ => .nil
  | _ :: _, h => rising_pair h
theorem srt_pair (zs : List Str) : (srt zs).Pairwise fun a b => leS a b = true := List.pairwise_mergeSort leS_trans leS_total zs
theorem srt_perm (zs : List Str) : (srt zs).Perm zs := List.mergeSort_perm zs leS
theorem srt_eq {ys zs : List Str} (h : ys.Perm zs) (s : ys.Pairwise fun a b => leS a b = true) : ys = srt zs := List.Perm.eq_of_pairwise (fun _ _ _ _ h1 h2 => leS_anti h1 h2) s (srt_pair zs) (h.trans (srt_perm zs).symm)
theorem srt_congr {ys zs : List Str} (h : ys.Perm zs) : srt ys = srt zs := srt_eq ((srt_perm ys).trans h) (srt_pair ys)
theorem srt_len (zs : List Str) : (srt zs).length = zs.length := (srt_perm zs).length_eq
theorem srt_mem {zs : List Str} {z : Str} : z ∈ srt zs ↔ z ∈ zs := (srt_perm zs).mem_iff
theorem strs_allS {K : PySem.W.Frag} {N : Addr → Prop} {H : Hp} : ∀ {vs : List V} {zs : List Str}, IsAll K N H vs (zs.map .str) → vs = zs.map V.str ∧ ∀ z ∈ zs, sok z
  | _, [], h => by cases h; exact ⟨rfl, fun _ h => by cases h⟩
  | _, z :: zs, h => by
    cases h with
    | cons h t =>
      obtain ⟨e, hs⟩ := strs_allS t
      cases h with
      | str o =>
        refine ⟨by rw [e]; rfl, fun y hy => ?_⟩
        rcases List.mem_cons.mp hy with rfl | hy
        · exact o
        · exact hs y hy
theorem all_strsS {K : PySem.W.Frag} {N : Addr → Prop} {H : Hp} : ∀ {zs : List Str}, (∀ z ∈ zs, sok z) → IsAll K N H (zs.map V.str) (zs.map .str)
  | [], _ => .nil
  | z :: zs, h => .cons (.str (h z List.mem_cons_self)) (all_strsS fun y hy => h y (List.mem_cons_of_mem _ hy))
structure oSortS (ds : List D) (k : D → Prop) : Prop where
  ex : ∃ zs : List Str, ds = [.lst (zs.map .str)] ∧ zs.length < 64 ∧ k (.lst ((srt zs).map .str))
theorem c_sortedS {X : Cx} : CallR X (.builtin "sorted") (rC X.K oSortS) := by
  rintro pins s σ H vs us Q I rv ⟨r, ds, P, hr, i, ⟨zs, rfl, h64, ho⟩, k⟩
  cases i with
  | cons i t =>
    cases t
    cases i with
    | lst n h a =>
      obtain ⟨rfl, hs⟩ := strs_allS a
      refine cr_sortedS pins s σ H _ us Q I rv ⟨_, zs, rfl, SqL.of h, h64, fun ys p hp hy hn => ?_⟩
      obtain rfl : ys = srt zs := srt_eq hp (sorted_pair hy)
      exact k _ _ _ ho (Ext.new hn) (new_lst hr hn (all_strsS fun z hz => hs z (srt_mem.mp hz)))
def DctV (r : Rs) (d : D) (kvs : List (Key × D)) : Prop := (∃ a, d = .adr a ∧ (OwnD r a kvs ∨ OwnLk r a kvs)) ∨ d = .dct (kvs.map (·.1)) (kvs.map (·.2))
theorem zip_unz : ∀ (kvs : List (Key × D)), (kvs.map (·.1)).zip (kvs.map (·.2)) = kvs
  | [] => rfl
  | (a, b) :: l => by rw [List.map_cons, List.map_cons, List.zip_cons_cons, zip_unz l]
theorem oDGet.of {r : Rs} {d y : D} {kvs : List (Key × D)} {key : Key} {k : Option D → Prop} (h : DctV r d kvs) (hk : keyD y = some key) (p : k (dGet kvs key)) : oDGet r d y k := by
  rcases h with ⟨a, rfl, ow | ow⟩ | rfl
  · exact .own ow hk p
  · exact .lck ow hk p
  · exact .fro hk (by rw [zip_unz]; exact p)
theorem DctV.at_ {K : PySem.W.Frag} {r : Rs} {H : Hp} {d : D} {v : V} {kvs : List (Key × D)} (h : DctV r d kvs) (ro : Rok K r H) (i : Is K (mem r) H v d) : ∃ a xs, v = .ref a ∧ Rd H a (.dK xs) ∧ IsKV K (mem r) H xs kvs := by
  rcases h with ⟨a, rfl, ow | ow⟩ | rfl
  · cases i
    obtain ⟨xs, e1, e2⟩ := dct_at ro ow
    exact ⟨a, xs, rfl, .inl e1, e2⟩
  · cases i
    obtain ⟨xs, e1, e2⟩ := lck_at ro ow
    exact ⟨a, xs, rfl, e1, e2⟩
  · cases i with
    | dct n h e a =>
      have := IsKV.of_zip a
      rw [e, zip_unz] at this
      exact ⟨_, _, rfl, .inl h, this⟩
theorem DctV.dc {r : Rs} {d : D} {kvs : List (Key × D)} (h : DctV r d kvs) : isDc d r := by
  rcases h with ⟨a, rfl, ow⟩ | rfl
  · exact .inl ⟨a, _, rfl, ow⟩
  · exact .inr ⟨_, _, rfl⟩
def kD : Key → D | .inl i => .int i | .inr z => .str z
theorem keys_all {K : PySem.W.Frag} {N : Addr → Prop} {H : Hp} : ∀ {xs : List (Key × V)} {kvs : List (Key × D)}, IsKV K N H xs kvs → (∀ z, Sum.inr z ∈ kvs.map (·.1) → sok z) → IsAll K N H (xs.map fun kv => kV kv.1) (kvs.map fun kv => kD kv.1)
  | _, _, .nil, _ => .nil
  | _, _, .cons (k := k) h t, hs => by
    refine .cons ?_ (keys_all t fun z hz => hs z (List.mem_cons_of_mem _ hz))
    cases k with
    | inl i => exact .int i
    | inr z => exact .str (hs z List.mem_cons_self)
structure oListDc (r : Rs) (ds : List D) (k : D → Prop) : Prop where
  ex : ∃ d kvs, ds = [d] ∧ DctV r d kvs ∧ (∀ z, Sum.inr z ∈ kvs.map (·.1) → sok z) ∧ k (.lst (kvs.map fun kv => kD kv.1))
theorem c_listDc {X : Cx} (hc : X.calm = true := by rfl) : CallR X (.type "list") (rC2 X.K oListDc) := by
  rintro pins s σ H vs us Q I rv ⟨r, ds, P, hr, i, ⟨d, kvs, rfl, hd, hs, ho⟩, k⟩
  cases i with
  | cons i t =>
    cases t
    obtain ⟨a, xs, rfl, e1, e2⟩ := hd.at_ hr i
    exact call_listD hc pins s σ H _ us Q I rv ⟨a, xs, rfl, e1, fun p hp => k _ _ _ ho (Ext.new hp) (new_lst hr hp (keys_all e2 hs))⟩
section
variable {X : Cx} {W : WX} {o e f : Expr} {td ty tx : AT} {l : AL} {apos cpos : Pos}
/-- d.pop(k, x) of our own dict -/
inductive oDPop (r : Rs) (y z : D) : D → PK1 → Prop
  | mk {a : Addr} {P : PK1} (pre post : Rs) (kvs : List (Key × D)) (key : Key) (e : r = pre ++ dctA a kvs :: post) (hk : keyD y = some key) (p : match dGet kvs key with | some d => P d (pre ++ dctA a (dDrop kvs key) :: post) | none => P z r) : oDPop r y z (.adr a) P
def aDPop2 (td ty tx : AT) : AT := fun x δ r P => td x δ r fun d r1 => isDc d r1 ∧ ty x δ r1 fun y r2 => tx x δ r2 fun z r3 => oDPop r3 y z d P
theorem d_dpop2 (ho : PD X W o td) (he : PD X W e ty) (hf : PD X W f tx) (m : M2 X o "pop" apos e f cpos) : PD X W (.Call (.Attribute o "pop" apos) [e, f] [] cpos) (aDPop2 td ty tx) := imE (pe_dpop2 ho he hf m) fun σ H Q q => by
  obtain ⟨XR, δ, r, P, ok, h, k⟩ := q
  refine td_bind ok h fun d r1 v1 H1 ⟨hc, h1⟩ o1 k1 i1 => ?_
  obtain ⟨a0, xs0, rfl, e0⟩ := isDc_at hc o1.r i1
  refine ⟨a0, rfl, .inl ⟨_, e0⟩, td_bind o1 h1 fun y r2 v2 H2 h2 o2 k2 i2 => td_bind o2 h2 fun z r3 v3 H3 h3 o3 k3 i3 => ?_⟩
  cases h3 with
  | mk pre post kvs key er hk p =>
    cases i1
    subst er
    obtain ⟨xs, e1, e2⟩ := dct_at o3.r ⟨pre, post, rfl⟩
    have hv := key_val hk (k3 _ _ i2)
    subst hv
    have g := e2.get key
    refine ⟨xs, key, e1, rfl, fun v hv => ?_, fun hv => ?_⟩
    · cases hd : dGet kvs key with
      | none =>
        rw [hd] at g
        rw [show valV xs key = none from g] at hv
        cases hv
      | some d =>
        rw [hd] at g p
        obtain ⟨v', g1, g2⟩ := g
        rw [g1] at hv
        cases hv
        obtain ⟨q1, q2⟩ := dct_put o3.r (e2.drop key)
        exact k _ _ _ _ p (o3.step q2 q1) (((k1.trans k2).trans k3).trans q2) (q2 _ _ g2)
    · cases hd : dGet kvs key with
      | none =>
        rw [hd] at p
        exact k _ _ _ _ p o3 ((k1.trans k2).trans k3) i3
      | some d =>
        rw [hd] at g
        obtain ⟨v', g1, g2⟩ := g
        rw [g1] at hv
        cases hv
end
end G
namespace GB
open PySem PySem.Spec PySem.W PyProof.Rows
/-- t looks the names up in the dict at D, one behind another, and goes on as r -/
def KwTo {α : Type} (D : Addr) : List (Str × Value) → Sem α → Sem α → Prop
  | [], t, r => t = r
  | q :: l, t, r => ∃ (β γ : Type) (k1 : Option Value → Sem β) (k2 : β → Sem γ) (k3 : γ → Sem α) (a : β), t = ((nsGet D q.1 >>= k1) >>= k2) >>= k3 ∧ k1 (some q.2) = pure a ∧ KwTo D l (k2 a >>= k3) r
theorem KwTo.run {α : Type} {K : Frag} {M : Model} {A : Around} {D : Addr} {E : Value → Shared → Prop} {s : Shared} {Q : α → Shared → Prop} (X : K.In s.heap) : ∀ {l : List (Str × Value)} {t r : Sem α}, (∀ q ∈ l, nsIn K D q.1 = some (some q.2)) → KwTo D l t r → wpAny M A r Q E s → wpAny M A t Q E s
  | [], t, r, _, e, h => by rw [show t = r from e]; exact h
  | q :: l, t, r, hl, e, h => by
    obtain ⟨β, γ, k1, k2, k3, a, e1, e2, e3⟩ := e
    have ih := KwTo.run X (fun p hp => hl p (List.mem_cons_of_mem _ hp)) e3 h
    have L : Looks M s.heap (nsGet D q.1 >>= k1) a := (looks_nsIn X (hl q List.mem_cons_self)).andThen (Looks.of_pure e2)
    rw [e1, bind_assoc]
    exact wpAny_bind (L.here ih)
end GB
namespace G
open PySem PySem.Spec L2
open PyProof.Rows (envOfC)
/-- the promise of such a def: what stands ahead, the keyword's value, the rest -/
def kwP (n : Nat) (sd : SpX) : SpX := fun ds r P XR => ∃ a rest z, ds = a ++ (rest ++ [z]) ∧ a.length = n ∧ rest.length ≤ 1000000 ∧ sd (a ++ [z, .tup rest]) r P XR
/-- the same called without the keyword: z is the default -/
def kw0P (n : Nat) (z : D) (sd : SpX) : SpX := starP n fun ds r P XR => ∃ a t, ds = a ++ [t] ∧ a.length = n ∧ sd (a ++ [z, t]) r P XR
/-- called with one keyword, its value behind the others -/
def FRK (P : Program) (w : World) (K : PySem.W.Frag) (mg : Str → Option Value) (base : Heap) (k : Nat) (f : Addr) (ks : Str) (sd : SpX) : Prop :=
  ∀ (A : Around) (outer : List Env) (s : Shared) (H : Hp) (us : List Value) (w1 : Value) (vs : List V) (z : V) (Q : VK) (E : XK), Room k A → Env0 P w K mg base A outer s H → Vals vs us → RelV z w1 → lift K sd (vs ++ [z]) H Q E →
    codeAny (model P w) A (.call (.ref f) ⟨us, [(ks, w1)]⟩) (CR (L2.CX P w) outer P w H s Q E) s
section
variable {P : Program} {w : World} {K : PySem.W.Frag} {mg : Str → Option Value} {base : Heap}
/-- the body's promise, at slots that are laid -/
theorem bod_at {qual : Str} {st : Stmt} {N : List Str} {k : Nat} {sd : SpX} {f : Addr} {cdv : Value} {A : Around} {outer : List Env} {s : Shared} {H : Hp} {vs : List V} {Q : VK} {E : XK} (hbody : Bod P w K mg base qual st N k sd) (hr : Room k (A.deeper (envOfC qual (defScope st) s.heap.objs.size f cdv))) (h : lift K sd vs H Q E) :
    ∃ t, PSs (cxOf (L2.CX P w) P w K mg base N qual (defScope st) f cdv A outer s H E) (defBody st) t ∧ t { nx := fun _ H' => Q .non H', rt := Q } (start N vs) H := by
  obtain ⟨r, ds, P', XR, ro, hi, hs, hq, hx⟩ := h
  obtain ⟨t, ht, hread⟩ := hbody f cdv A outer s H E hr (takes_of rfl rfl rfl rfl) (passes_of rfl)
  refine ⟨_, ht, startD N ds, r, { nx := fun _ r' => fit P' .non r', rt := fit P', xr := fitX XR }, start_ok ro hi ?_, hread ds r P' XR hs, ⟨fun δ' r' σ' H' a o k => ?_, fun d r' v H' a o k i => ?_, fun _ _ _ _ z => z.elim, fun _ _ _ _ z => z.elim⟩⟩
  · rintro C fs es δ' r' σ' a H' ⟨r0, l, q⟩ o k e
    exact hx C fs es r0 a H' q (l.r _ _ o.r) (k.trans l.kp) (e.anti l.m)
  · obtain ⟨r0, l, a⟩ := a
    exact hq _ r0 _ H' a (l.r _ _ o.r) (k.trans l.kp) .non
  · obtain ⟨r0, l, a⟩ := a
    exact hq _ r0 _ H' a (l.r _ _ o) (k.trans l.kp) (is_anti l.m i)
/-- what such a def binds: hb with the keyword, h0 without -/
structure KwB (K : PySem.W.Frag) (fd : FuncData) (ps : List Str) (pk pv : Str) (z : D) : Prop where
  hb : ∀ (us rest : List Value) (w1 : Value), us.length = ps.length → bindArgs fd ⟨us ++ rest, [(pk, w1)]⟩ = (newTuple rest >>= fun t => pure (ps.zip us ++ [(pk, w1), (pv, t)]))
  h0 : ∃ (D0 : Addr) (u : Value) (v : V), PySem.W.nsIn K D0 pk = some (some u) ∧ RelV v u ∧ (∀ M H, Is K M H v z) ∧ ∀ us rest : List Value, us.length = ps.length → GB.KwTo D0 [(pk, u)] (bindArgs fd ⟨us ++ rest, []⟩) (newTuple rest >>= fun t => pure (ps.zip us ++ [(pk, u), (pv, t)]))
theorem bnd_tup {CX0 : CXT} {fd : FuncData} {args : Args} {ps : List Str} {A : Around} {outer : List Env} {s : Shared} {H : Hp} {E : XK} {us rest : List Value} {ws vrest : List V} {w1 : Value} {z : V} {pk pv : Str} (hCX : StX.CXUp CX0) (e0 : Env0 P w K mg base A outer s H) (r1 : Vals ws us) (r2 : Vals vrest rest) (rz : RelV z w1) (hl : us.length = ps.length) (hz : vrest.length ≤ sizeLine)
    (hb : ∀ (A' : Around) (Ex : Value → Shared → Prop) (Q : List (Str × Value) → Shared → Prop), wpAny (model P w) A' (newTuple rest >>= fun t => pure (ps.zip us ++ [(pk, w1), (pv, t)])) Q Ex s → wpAny (model P w) A' (bindArgs fd args) Q Ex s) :
    StX.Bnd CX0 P w K mg base fd args (ps ++ [pk, pv]) A outer s H E (fun xs H2 => ∃ p, H p = none ∧ xs = ws ++ [z, V.ref p] ∧ H2 = upd H p (.tup vrest)) := by
  have hn : H s.heap.objs.size = none := e0.hok.fresh (Nat.le_refl _)
  intro A' Ex Q h
  refine hb A' Ex Q (wpAny_bind (wpAny_newTuple (wpAny_pure ?_) (by rw [← r2.length]; exact hz)))
  have new : ObjOk P w (upd H s.heap.objs.size (.tup vrest)) (s.heap.push ({ cls := .type "tuple", data := .seq rest.toArray } : Obj)) s.heap.objs.size (.tup vrest) := ⟨hz, rest, r2, ⟨_, Heap.get?_push_size _ rfl, rfl, _, rfl⟩⟩
  have un := StX.un_laid (fs := frs outer) (s := s) (o := ({ cls := .type "tuple", data := .seq rest.toArray } : Obj)) (u := .tup vrest) hn
  have zz := h _ _ (ws ++ [z, V.ref s.heap.objs.size]) (us ++ [w1, Value.ref s.heap.objs.size]) (StX.env0_laid e0 new) un rfl (fun e s' => hCX outer s H _ _ E e s' un (fun b o q => Heap.get?_push_of_some _ q) rfl) (r1.append (.cons rz (.cons rfl .nil)))
    (by rw [List.length_append, List.length_append, r1.length, hl] <;> rfl) ⟨_, hn, rfl, rfl⟩
  rw [List.zip_append hl.symm] at zz
  exact zz
theorem frk_d {x qual pk pv : Str} {st : Stmt} {f : Addr} {fd : FuncData} {N ps : List Str} {k : Nat} {sd : SpX} {z : D} (F : FunA K x qual st f fd) (S : FnScope N (ps ++ [pk, pv]) (defScope st)) (b : KwB K fd ps pk pv z) (hbody : Bod P w K mg base qual st N k sd) :
    FRK P w K mg base (k + 1) f pk (kwP ps.length sd) := by
  obtain ⟨oc, od, dV, kV, doc, pm, an, cdv, ct, osl, rfl, lk, hcd⟩ := F.ex
  rintro A outer s H us w1 vs zv Q E hr e0 rv rz ⟨r, ds, P', XR, ro, hi, ⟨a, rest, z1, rfl, hl, hz, hs⟩, hq, hx⟩
  obtain ⟨ws, ts, e, h1, h2⟩ := all_split hi
  obtain ⟨vr, tz, rfl, h3, h4⟩ := all_split h2
  cases h4 with
  | cons h4 t =>
    cases t
    rename_i zv'
    have e2 : vs ++ [zv] = (ws ++ vr) ++ [zv'] := by rw [e, List.append_assoc]
    obtain ⟨e3, e4⟩ := List.append_inj' e2 rfl
    cases e4
    subst e3
    obtain ⟨u1, u2, rfl, q1, q2⟩ := StX.vals_split rv
    have hl1 : u1.length = ps.length := by rw [← q1.length, h1.length, hl]
    have hz2 : vr.length ≤ sizeLine := by rw [h3.length]; exact Nat.le_trans hz (by decide)
    refine StX.run_bnd lk hcd S hr e0 (bnd_tup StX.cxUp e0 q1 q2 rz hl1 hz2 fun A' Ex Q' h => by rw [b.hb u1 u2 w1 hl1]; exact h) fun s2 H2 xs ⟨p, hp, ex, eH⟩ hr' => ?_
    subst ex eH
    have e := Ext.new (o := .tup vr) hp
    refine bod_at hbody hr' ⟨r, a ++ [z1, .tup rest], P', XR, ro.ext e, (Kp.all (Kp.ext e) h1).append (.cons (Kp.ext e _ _ h4) (.cons (new_tup hp h3) .nil)), hs, fun d r' v H' q ro' kk i => hq d r' v H' q ro' ((Kp.ext e).trans kk) i, fun C fs es r' a H' q ro' kk ea => hx C fs es r' a H' q ro' ((Kp.ext e).trans kk) ea⟩
theorem fr0_d {x qual pk pv : Str} {st : Stmt} {f : Addr} {fd : FuncData} {N ps : List Str} {k : Nat} {sd : SpX} {z : D} (F : FunA K x qual st f fd) (S : FnScope N (ps ++ [pk, pv]) (defScope st)) (b : KwB K fd ps pk pv z) (hbody : Bod P w K mg base qual st N k sd) :
    FR P w K mg base (k + 1) f (kw0P ps.length z sd) := by
  obtain ⟨oc, od, dV, kV, doc, pm, an, cdv, ct, osl, rfl, lk, hcd⟩ := F.ex
  obtain ⟨D0, u, zv, hn, rz, hz0, h0⟩ := b.h0
  rintro A outer s H us vs Q E hr e0 rv ⟨r, ds, P', XR, ro, hi, ⟨a, rest, rfl, hl, hz, a2, t2, ea, hl2, hs⟩, hq, hx⟩
  obtain ⟨e3, e4⟩ := List.append_inj' ea rfl
  cases e4
  subst e3
  obtain ⟨ws, vr, rfl, h1, h2⟩ := all_split hi
  obtain ⟨u1, u2, rfl, q1, q2⟩ := StX.vals_split rv
  have hl1 : u1.length = ps.length := by rw [← q1.length, h1.length, hl]
  have hz2 : vr.length ≤ sizeLine := by rw [h2.length]; exact Nat.le_trans hz (by decide)
  have KX : K.In s.heap := e0.mod.kin.keeps fun b o e => (e0.bs b o e).1
  refine StX.run_bnd lk hcd S hr e0 (bnd_tup StX.cxUp e0 q1 q2 rz hl1 hz2 fun A' Ex Q' h => GB.KwTo.run KX (fun q hq => by rw [List.mem_singleton.mp hq]; exact hn) (h0 u1 u2 hl1) h) fun s2 H2 xs ⟨p, hp, ex, eH⟩ hr' => ?_
  subst ex eH
  have e := Ext.new (o := .tup vr) hp
  refine bod_at hbody hr' ⟨r, a ++ [z, .tup rest], P', XR, ro.ext e, (Kp.all (Kp.ext e) h1).append (.cons (hz0 _ _) (.cons (new_tup hp h2) .nil)), hs, fun d r' v H' q ro' kk i => hq d r' v H' q ro' ((Kp.ext e).trans kk) i, fun C fs es r' a H' q ro' kk ea => hx C fs es r' a H' q ro' ((Kp.ext e).trans kk) ea⟩
end
end G
namespace G
open PySem PySem.Spec L2
open PyProof.Rows (envOfC)
def DfNK (K : PySem.W.Frag) (C : Addr) (qual : Str) (st : Stmt) (ps : List Str) (pk pv : Str) (z : D) : Prop := ∃ f fd, FunA K "__init__" qual st f fd ∧ Mk K C f ∧ KwB K fd ps pk pv z
def ClNK (P : Program) (w : World) (K : PySem.W.Frag) (mg : Str → Option Value) (base : Heap) (k : Nat) (C : Addr) (pk : Str) (z : D) (sd : SpX) : Prop := ∃ f, Mk K C f ∧ FR P w K mg base k f (kw0P 1 z sd) ∧ FRK P w K mg base k f pk (kwP 1 sd)
section
variable {P : Program} {w : World} {K : PySem.W.Frag} {mg : Str → Option Value} {base : Heap}
theorem clnk_of {C : Addr} {qual p0 pk pv : Str} {st : Stmt} {N : List Str} {k : Nat} {sd : SpX} {z : D} (d : DfNK K C qual st [p0] pk pv z) (S : FnScope N ([p0] ++ [pk, pv]) (defScope st)) (h : Bod P w K mg base qual st N k sd) : ClNK P w K mg base (k + 1) C pk z sd := by
  obtain ⟨f, fd, F, M, b⟩ := d
  exact ⟨f, M, fr0_d F S b h, frk_d F S b h⟩
theorem ClNK.n {C : Addr} {pk : Str} {z : D} {k : Nat} {sd : SpX} (h : ClNK P w K mg base k C pk z sd) : ClN P w K mg base k C [] (kw0P 1 z sd) := by
  obtain ⟨f, M, F, _⟩ := h
  refine ⟨f, M, fun j hj => ?_⟩
  have e : (fun (ds : List D) (r : Rs) (P : PK1) (XR : XD) => kw0P 1 z sd (ds ++ ([] : List D).drop j) r P XR) = kw0P 1 z sd := by
    funext ds r P XR
    rw [List.drop_nil, List.append_nil]
  rw [e]
  exact F
end
def aNewK (C : Addr) (sd : SpX) (l : AL) (t : AT) : AT := fun x δ r P => l x δ r fun ds r1 => t x δ r1 fun z r2 => ∀ a, sd (.adr a :: (ds ++ [z])) (r2 ++ [insA a C [] []]) (fun d r3 => d = .non ∧ P (.adr a) r3) fun E fs es r' => x E fs es δ r'
section
variable {X : Cx} {W : WX} {k j : Nat} {C f : Addr} {sd : SpX} {x pk : Str} {p pos p1 kpos : Pos} {e e1 : Expr} {es : List Expr} {l : AL} {t te : AT} {fs : List Str} {z : D}
theorem run_mkK {E : XK} {pins : List (Addr × Obj)} {σ : L2.St} {H : Hp} {s : Shared} {Q : VK} {us : List Value} {vs : List V} {w1 : Value} {zv : V} (M : Mk X.K C f) (F : FRK X.prog X.w X.K X.mg X.base k f pk sd) (hr : Room (k + 1) X.A) (hx : PassesAt (L2.CX X.prog X.w) X σ E) (I : L2.Inv X pins σ H s) (r : Vals vs us) (rz : RelV zv w1)
    (h : ∀ x dx, H x = Option.none → H dx = Option.none → dx ≠ x → lift X.K sd (V.ref x :: (vs ++ [zv])) (upd (upd H dx (.own x)) x (.ins C dx [])) (fun v H2 => v = .non ∧ Q (.ref x) H2) E) :
    wpAny (model X.prog X.w) X.A (call (.ref C) us [(pk, w1)]) (EP X pins σ Q) X.xe s := by
  have hq := h (s.heap.objs.size + 1) s.heap.objs.size (I.hok.fresh (Nat.le_succ _)) (I.hok.fresh (Nat.le_refl _)) (Nat.ne_of_lt (Nat.lt_succ_self _))
  have I2 := Inv.made (C := C) I
  have r2 : Vals (V.ref (s.heap.objs.size + 1) :: vs) (Value.ref (s.heap.objs.size + 1) :: us) := .cons rfl r
  refine wpAny_call (make_map (f := f) I.kIn M.makes M.init (beq_iff_eq.mp M.fn) (codeAny_mono (F _ X.stack _ _ (Value.ref (s.heap.objs.size + 1) :: us) w1 _ zv _ E (hr.make C us [(pk, w1)]) (I2.env0.make C us [(pk, w1)]) r2 rz hq) fun r s' hq' => ?_))
  cases r with
  | error e => exact hx pins _ _ e s' I2 hq'
  | ok fl =>
    cases fl with
    | ret u =>
      obtain ⟨v, H', I3, rv, ev, q3⟩ := I2.after hq'
      subst ev
      exact ⟨rv, ⟨V.ref (s.heap.objs.size + 1), H', I3, rfl, q3⟩⟩
    | next => exact False.elim hq'
    | brk => exact False.elim hq'
    | cont => exact False.elim hq'
/-- a reading of one keyword's value -/
theorem pk_one (ht : PD X W e1 t) : PK X [⟨some pk, e1, kpos⟩] (tCons (TD X.K W t) tNil) := pk_cons ht pk_nil
/-- the new instance's promise, from readings -/
theorem mk_lift {XR : XT} {δ : Dl} {r r2 : Rs} {P : PK1} {σ : L2.St} {H H2 : Hp} {Q : VK} {ds : List D} {vs : List V} (kp : Plain X.K C) (o2 : Ok X.K W XR r2 δ σ H2) (i : IsAll X.K (mem r2) H2 vs ds) (kx : Kp X.K r H r2 H2) (h : ∀ a, sd (.adr a :: ds) (r2 ++ [insA a C [] []]) (fun d r3 => d = .non ∧ P (.adr a) r3) fun E fs es r' => XR E fs es δ r')
    (kk : ∀ d r' v H', P d r' → Ok X.K W XR r' δ σ H' → Kp X.K r H r' H' → Is X.K (mem r') H' v d → Q v H') :
    ∀ x dx, H2 x = Option.none → H2 dx = Option.none → dx ≠ x → lift X.K sd (V.ref x :: vs) (upd (upd H2 dx (.own x)) x (.ins C dx [])) (fun v H3 => v = .non ∧ Q (.ref x) H3) (WE W σ) := fun x dx hx hd ne => by
  obtain ⟨e1, q1, q2⟩ := ins_new o2.r kp hx hd ne
  refine ⟨r2 ++ [insA x C [] []], .adr x :: ds, _, _, q1, .cons (.adr x) (q2.all i), h x, fun d r' v H' ⟨a, b⟩ rr c i => ?_, fun C' fs es r' a H' z ro k2 e => ?_⟩
  · subst a
    cases i
    exact ⟨rfl, kk _ r' _ H' b (o2.step (q2.trans c) rr) (kx.trans (q2.trans c)) (.adr x)⟩
  · exact o2.x C' fs es δ r' σ a H' z (o2.b.step (q2.trans k2) ro) (q2.trans k2) e
theorem d_mk0 (M : ClN X.prog X.w X.K X.mg X.base k C [] sd) (kc : KCls X.K X.mg x C fs) (tk : Takes X W) (hr : Room j X.A) (hj : k + 1 ≤ j := by first | decide | exact Nat.le_refl _ | omega) (hg : Gl X x := by rfl) (hdb : (x == ("__debug__" : Str)) = false := by decide) :
    PD X W (.Call (.Name x p) [] [] pos) (aNew C (fun ds r P XR => sd (ds ++ []) r P XR) aNil) := by
  obtain ⟨f, M, F⟩ := M
  exact d_new0 M kc.p (F 0 (Nat.le_refl _)) tk (hr.mono hj) kc.g hg hdb
theorem d_mkK0 (M : ClNK X.prog X.w X.K X.mg X.base k C pk z sd) (kc : KCls X.K X.mg x C fs) (tk : Takes X W) (hr : Room j X.A) (ht : PD X W e1 t) (hj : k + 1 ≤ j := by first | decide | exact Nat.le_refl _ | omega) (hg : Gl X x := by rfl) (hdb : (x == ("__debug__" : Str)) = false := by decide)
    (hall : (backToKw pos (keywordEach [⟨some pk, e1, kpos⟩] X.env)).all (·.1.isSome) = true := by rfl) (hks : (backToKw pos (keywordEach [⟨some pk, e1, kpos⟩] X.env)).filterMap (·.1) = [pk] := by rfl)
    (hpl : ((backTo pos (starEach [] X.env)).any (·.1) || (backToKw pos (keywordEach [⟨some pk, e1, kpos⟩] X.env)).any (·.1.isNone)) = false := by rfl) :
    PD X W (.Call (.Name x p) [] [⟨some pk, e1, kpos⟩] pos) (aNewK C (kwP 1 sd) aNil t) := by
  obtain ⟨f, M, _, F⟩ := M
  refine ⟨fun pins s σ H Q I h => ?_⟩
  refine wpAny_Call_Name_kw (ld_glob I hg kc.g ?_ hdb)
  obtain ⟨XR, δ, r, P, ok, h, kk⟩ := h
  refine PySem.W.callWith_KW0 (h₀ := X.base) I.ok.mod.kin M.kp hall ?_ hpl
  refine thn ((pk_one ht).run pos pins s σ H (fun zs H1 => ∃ zv, zs = [zv] ∧ ∀ x dx, H1 x = Option.none → H1 dx = Option.none → dx ≠ x → lift X.K (kwP 1 sd) (V.ref x :: [zv]) (upd (upd H1 dx (.own x)) x (.ins C dx [])) (fun v H3 => v = .non ∧ Q (.ref x) H3) (WE W σ)) I (td_bind ok h fun d r2 v H2 h2 o2 k2 i2 => ⟨v, rfl, mk_lift kc.p o2 (.cons i2 .nil) k2 h2 kk⟩)) fun ws s2 ⟨zs, H2, I2, rz, zv, ez, q2⟩ => ⟨I2.kIn, ?_⟩
  subst ez
  obtain ⟨w1, rfl, rw1⟩ := vals1 rz
  rw [hks]
  exact run_mkK (us := []) (vs := []) M F (hr.mono hj) (passAt tk _) I2 .nil rw1 q2
theorem d_mkK (M : ClNK X.prog X.w X.K X.mg X.base k C pk z sd) (kc : KCls X.K X.mg x C fs) (tk : Takes X W) (hr : Room j X.A) (ha : PDL X W (e :: es) l) (ht : PD X W e1 t) (hj : k + 1 ≤ j := by first | decide | exact Nat.le_refl _ | omega) (hg : Gl X x := by rfl) (hdb : (x == ("__debug__" : Str)) = false := by decide)
    (hall : (backToKw pos (keywordEach [⟨some pk, e1, kpos⟩] X.env)).all (·.1.isSome) = true := by rfl) (hks : (backToKw pos (keywordEach [⟨some pk, e1, kpos⟩] X.env)).filterMap (·.1) = [pk] := by rfl)
    (he : starEach (e :: es) X.env = (false, eval e X.env) :: starEach es X.env := by rfl) (hpl : ((backTo pos (starEach (e :: es) X.env)).any (·.1) || (backToKw pos (keywordEach [⟨some pk, e1, kpos⟩] X.env)).any (·.1.isNone)) = false := by rfl) :
    PD X W (.Call (.Name x p) (e :: es) [⟨some pk, e1, kpos⟩] pos) (aNewK C (kwP 1 sd) l t) := by
  obtain ⟨f, M, _, F⟩ := M
  refine ⟨fun pins s σ H Q I h => ?_⟩
  refine wpAny_Call_Name_kw (ld_glob I hg kc.g ?_ hdb)
  obtain ⟨XR, δ, r, P, ok, h, kk⟩ := h
  refine PySem.W.callWith_KW (h₀ := X.base) I.ok.mod.kin M.kp hall (thn (ha.run pos pins s σ H (fun vs H1 => TD X.K W t σ H1 fun zv H2 => ∀ x dx, H2 x = Option.none → H2 dx = Option.none → dx ≠ x → lift X.K (kwP 1 sd) (V.ref x :: (vs ++ [zv])) (upd (upd H2 dx (.own x)) x (.ins C dx [])) (fun v H3 => v = .non ∧ Q (.ref x) H3) (WE W σ)) I (tdl_bind ok h fun ds r1 vs H1 h1 o1 k1 i1 => td_bind o1 h1 fun d r2 v H2 h2 o2 k2 i2 => mk_lift kc.p o2 ((k2.all i1).append (.cons i2 .nil)) (k1.trans k2) h2 kk)) fun us s1 ⟨vs, H1, I1, r, q⟩ => ?_) hpl he
  refine thn ((pk_one ht).run pos pins s1 σ H1 (fun zs H2 => ∃ zv, zs = [zv] ∧ ∀ x dx, H2 x = Option.none → H2 dx = Option.none → dx ≠ x → lift X.K (kwP 1 sd) (V.ref x :: (vs ++ [zv])) (upd (upd H2 dx (.own x)) x (.ins C dx [])) (fun v H3 => v = .non ∧ Q (.ref x) H3) (WE W σ)) I1 (let ⟨XR, δ, r, P, o, h, k⟩ := q; ⟨XR, δ, r, P, o, h, fun d r' v H' p o k2 i => ⟨_, rfl, k d r' v H' p o k2 i⟩⟩)) fun ws s2 ⟨zs, H2, I2, rz, zv, ez, q2⟩ => ⟨I2.kIn, ?_⟩
  subst ez
  obtain ⟨w1, rfl, rw1⟩ := vals1 rz
  rw [hks]
  exact run_mkK M F (hr.mono hj) (passAt tk _) I2 r rw1 q2
end
end G
namespace GB
open PySem PySem.Spec PySem.W PyProof.Rows
section
variable {prog : Program} {w : World} {A : Around} {E : Value → Shared → Prop} {s : Shared} {K : Frag} {x C L f : Addr} {h₀ : Heap} {m : Str → Option Value} {ox : Obj} {od : Option Obj}
/-- an own instance's truth by its __len__ -/
theorem truthy_len {Q : Bool → Shared → Prop} (F : Fr h₀ L s.heap m) (X₀ : K.In h₀) (I : InstAt s.heap x ox C od) (hbo : findIn K (.ref C) "__bool__" = some none) (hs : findIn K (.ref C) "__len__" = some (some (.ref f))) (hf : isFn K (.ref f) = true)
    (h : wpAny (model prog w) A.in1 (call (.ref f) [.ref x]) (W.LenBack fun r s' => ∃ n t, r = .int n t ∧ Q (n != 0) s') E s) : wpAny (model prog w) A (truthy (.ref x)) Q E s := by
  have X := X₀.keeps F.keep
  unfold truthy
  refine wpAny_bind (m := callSpecial? (.ref x) (Str.ofString "__bool__")) (wpAny_bind (wpAny_bind (I.type.here ((looks_findIn X hbo).here (wpAny_pure ?_)))))
  refine wpAny_bind (wpAny_bind (I.type.here ((looks_findIn X hs).here ?_)))
  have key : wpAny (model prog w) A (runValue (.builtin "len" ⟨[.ref x], []⟩)) (fun r s' => ∃ n t, r = .int n t ∧ Q (n != 0) s') E s := by
    refine wpAny_runValue (codeAny_builtin entry_len ?_)
    rw [Around.under_plainId plain_len _]
    unfold Builtin.«len»
    refine wpAny_bind (m := oneArg "len" _) (wpAny_pure ?_)
    refine wpAny_bind (m := callSpecial? (.ref x) (Str.ofString "__len__")) (special_fn X I hs (beq_iff_eq.mp hf) (wpAny_mono h (fun r s' hr => ?_) fun _ _ y => y))
    cases r <;> first | exact hr.elim | skip
    rename_i n u
    obtain ⟨⟨h0, h1⟩, hq⟩ := hr
    refine wpAny_bind (wpAny_holding (wpAny_pure ?_))
    refine wpAny_bind (wpAny_letGo ?_)
    show wpAny _ _ (if n < 0 then _ else _) _ _ _
    rw [if_neg (by omega)]
    show wpAny _ _ (if n ≥ 2 ^ 63 then _ else _) _ _ _
    rw [if_neg (by omega)]
    exact wpAny_bind (wpAny_mkInt (wpAny_pure hq))
  exact wpAny_bind (wpAny_mono key (fun r s' ⟨n, t, e, q⟩ => by subst e; exact wpAny_pure q) fun _ _ e => e)
theorem new_bool (x : Value) : MeetsIn prog w (Builtin.«bool.__new__» ⟨[.type "bool", x], []⟩) (fun A R s => wpAny (model prog w) A.in1 (truthy x) (fun b s1 => R (.ok (.ret (.bool b))) s1) (fun e s1 => R (.error e) s1) s) :=
  .of_wp fun A R s h => by
    have f1 := F.conv_sub_bool
    obtain ⟨hp, g, d, tk, os⟩ := s
    have q1 : ∀ {Q : Bool → Shared → Prop} {E : Value → Shared → Prop}, (∀ b s1, R (.ok (.ret (.bool b))) s1 → Q b s1) → (∀ e s1, R (.error e) s1 → E e s1) → wpAny (model prog w) A.in1 (truthy x) Q E ⟨hp, g, d, tk, os⟩ := fun h1 h2 => wpAny_mono h h1 h2
    repeat (any_goals (first | assumption | (with_reducible refine q1 (fun b s1 hb => ?_) (fun e s1 he => he)) | wp_step))
    all_goals first | exact ⟨_, rfl, hb⟩ | skip
theorem call_bool_any {x : Value} {Q : Value → Shared → Prop} (h : wpAny (model prog w) A.in1.in1 (truthy x) (fun b s1 => Q (.bool b) s1) E s) : wpAny (model prog w) A (call (.type "bool") [x]) Q E s := by
  refine callType_newIn F.called_bool F.newNe_bool (F.typeCall_bool_1 x) (F.newCall_bool_1 x) (fun obj => F.args_object_init_2 obj x) F.entry_bool_new (new_bool x) ?_
  show wpAny (model prog w) A.in1.in1 (truthy x) _ _ _
  refine wpAny_mono h (fun b s1 hb => ?_) fun _ _ z => z
  exact ⟨rfl, hb⟩
end
end GB
namespace G
open PySem PySem.Spec L2 PyProof.Rows
def ClL (P : Program) (w : World) (K : PySem.W.Frag) (mg : Str → Option Value) (base : Heap) (k : Nat) (C : Addr) (sd : SpX) : Prop := PySem.W.findIn K (.ref C) "__bool__" = some none ∧ ClG P w K mg base k C "__len__" sd
def lenQ (P : Bool → Rs → Prop) : PK1 := fun d r2 => ∃ n : Nat, d = .int (n : Nat) ∧ n ≤ 1000000 ∧ P (decide (n ≠ 0)) r2
def rTruI (C : Addr) (sp : Sp) : V → Hp → (Bool → Hp → Prop) → Prop := fun x H Q => ∃ a dx kvs, x = .ref a ∧ H a = some (.ins C dx kvs) ∧ sp [.ref a] H (fun v H' => ∃ n : Nat, v = .int (n : Nat) ∧ n ≤ 1000000 ∧ Q (decide (n ≠ 0)) H') E0
section
variable {X : Cx} {W : WX} {k j : Nat} {C g : Addr} {sp : Sp} {sd : SpX} {a b : Expr} {ta tb : AT} {pos p : Pos}
theorem nat_ne0 (n : Nat) : ((n : Int) != 0) = decide (n ≠ 0) := by
  cases n with
  | zero => rfl
  | succ n => rw [decide_eq_true (Nat.succ_ne_zero n)]; exact bne_iff_ne.mpr (by omega)
theorem truI_at {pins : List (Addr × Obj)} {s : Shared} {σ : L2.St} {H : Hp} {x : V} {v : Value} {Q : Bool → Hp → Prop} {A : Around} {E : Value → Shared → Prop} (hb : PySem.W.findIn X.K (.ref C) "__bool__" = some none) (M : GiK X.K C g "__len__")
    (run : ∀ {vs : List V} {us : List Value} {Q : VK}, Vals vs us → sp vs H Q E0 → wpAny (model X.prog X.w) A.in1 (call (.ref g) us) (EP X pins σ Q) E s) (I : Inv X pins σ H s) (rx : RelV x v) (h : rTruI C sp x H Q) :
    wpAny (model X.prog X.w) A (truthy v) (TP X pins σ Q) E s := by
  obtain ⟨a, dx, kvs, rfl, ha, q⟩ := h
  obtain rfl : v = Value.ref a := rx
  obtain ⟨mA, O, _⟩ := ins_get I.hok ha
  obtain ⟨od, J, _⟩ := O.look
  obtain ⟨m, hF⟩ := I.fr
  refine GB.truthy_len hF I.ok.mod.kin J hb M.at_ M.fn ?_
  refine thn (run (us := [.ref a]) (vs := [.ref a]) (.cons rfl .nil) q) fun w s' z => ?_
  obtain ⟨z', H', I', rz, n, en, hn, qz⟩ := z
  subst en
  obtain ⟨t, rfl⟩ := rz
  refine ⟨⟨Int.natCast_nonneg _, ?_⟩, ?_⟩
  · have : (n : Int) ≤ 1000000 := by omega
    exact Int.lt_of_le_of_lt this (by decide)
  · exact ⟨_, _, rfl, H', I'.tok _, by rw [nat_ne0]; exact qz⟩
/-- bool(o) -/
def aBoolI (C : Addr) (sd : SpX) (l : AL) : AT := fun x δ r P => l x δ r fun ds r1 => ∃ d, ds = [d] ∧ isC C d r1 ∧ sd [d] r1 (lenQ fun b r2 => P (.bl b) r2) noX
theorem d_boolI {e : Expr} {l : AL} (M : ClL X.prog X.w X.K X.mg X.base k C sd) (hr : Room j X.A) (hg : Gl X "bool") (hm : X.mg "bool" = none) (ha : PDL X W [e] l) (hj : k + 3 ≤ j := by first | decide | exact Nat.le_refl _ | omega)
    (he : starEach [e] X.env = (false, eval e X.env) :: starEach [] X.env := by rfl) (hpl : (backTo pos (starEach [] X.env)).any (·.1) = false := by rfl) : PD X W (.Call (.Name "bool" p) [e] [] pos) (aBoolI C sd l) := by
  obtain ⟨hb, g, M, F⟩ := M
  refine imE (pe_callTy (T := "bool") (r := fun vs H Q => ∃ x, vs = [x] ∧ rTruI C (lift X.K sd) x H fun b H' => Q (.bl b) H') (fun pins s σ H vs us Q I rv h => ?_) hg hm (by decide +kernel) ha (by decide) (by decide) he hpl) fun σ H Q q => ?_
  · obtain ⟨x, rfl, h⟩ := h
    obtain ⟨u, rfl, rx⟩ := vals1 rv
    refine GB.call_bool_any (wpAny_mono (truI_at (A := X.A.in1.in1) hb M (fun {vs us Q} r q => ?_) I rx h) (fun b s1 ⟨H', I', q⟩ => ⟨.bl b, H', I', rfl, q⟩) fun _ _ z => z)
    have hr3 : Room (k + 3) X.A := hr.mono hj
    refine wpAny_call (codeAny_mono (F X.A.in1.in1.in1 X.stack s H us vs Q E0 hr3.in1.in1.in1 I.env0.in1.in1.in1 r q) fun r s' hq => ?_)
    cases r with
    | error e => exact passE pins H s e s' I hq
    | ok fl =>
      cases fl with
      | ret u => exact I.after hq
      | next => exact hq.elim
      | brk => exact hq.elim
      | cont => exact hq.elim
  · obtain ⟨XR, δ, r, P, ok, h, kk⟩ := q
    refine tdl_bind ok h fun ds r1 vs H1 ⟨d, ed, hc, h1⟩ o1 k1 i1 => ?_
    subst ed
    cases i1 with
    | cons i1 t =>
      cases t
      obtain ⟨a, dx, kvs, rfl, s, gd⟩ := isC_at hc o1.r i1
      refine ⟨_, rfl, a, dx, kvs, rfl, s, lift_n o1 (.cons i1 .nil) h1 fun d' r' v H' p o3 k3 i3 => ?_⟩
      obtain ⟨n, rfl, hn, p⟩ := p
      cases i3
      exact ⟨n, rfl, hn, kk _ r' _ H' p o3 (k1.trans k3) (.bl _)⟩
structure SiK (K : PySem.W.Frag) (C f : Addr) : Prop where
  at_ : PySem.W.findIn K (.ref C) "__setitem__" = some (some (.ref f))
  fn : PySem.W.isFn K (.ref f) = true
  nq : PySem.W.noSeq K C = true
def DfSi (K : PySem.W.Frag) (C : Addr) (qual : Str) (st : Stmt) (ps : List Str) : Prop := ∃ f fd, FunA K "__setitem__" qual st f fd ∧ SiK K C f ∧ Binds K fd ps []
def ClSi (P : Program) (w : World) (K : PySem.W.Frag) (mg : Str → Option Value) (base : Heap) (k : Nat) (C : Addr) (sd : SpX) : Prop := ∃ f, SiK K C f ∧ FR P w K mg base k f sd
theorem clsi_of {P : Program} {w : World} {K : PySem.W.Frag} {mg : Str → Option Value} {base : Heap} {C : Addr} {qual : Str} {st : Stmt} {N ps : List Str} {k : Nat} {sd : SpX} (d : DfSi K C qual st ps) (S : FnScope N ps (defScope st)) (len : ∀ ds r P' XR, sd ds r P' XR → ds.length = ps.length) (h : Bod P w K mg base qual st N k sd) : ClSi P w K mg base (k + 1) C sd := by
  obtain ⟨f, fd, F, M, b⟩ := d
  exact ⟨f, M, fr_of (fnA_d F S len (h f)) b⟩
def sSetIt (C : Addr) (sd : SpX) (td ty tv : AT) : AS := fun A δ r => tv A.xr δ r fun z r1 => td A.xr δ r1 fun d r2 => ty A.xr δ r2 fun y r3 => isC C d r3 ∧ sd [d, y, z] r3 (fun _ r4 => A.nx δ r4) fun E fs es r' => A.xr E fs es δ r'
theorem s_setit {o i value : Expr} {td ty tv : AT} {pos' : Pos} (M : ClSi X.prog X.w X.K X.mg X.base k C sd) (tk : Takes X W) (hr : Room j X.A) (ho : PD X W o td) (hi : PD X W i ty) (hv : PD X W value tv) (hj : k ≤ j := by first | decide | exact Nat.le_refl _ | omega)
    (hs : swapsWith value (some (.Subscript o i pos')) pos.line X.env = pure false := by rfl) : PSD X W (.Assign [.Subscript o i pos'] value pos) (sSetIt C sd td ty tv) := by
  obtain ⟨f, M0, F⟩ := M
  refine ⟨fun pins s σ H D I ⟨δ, r, A, ok, h, ff⟩ => ?_⟩
  refine wpAny_Assign_Subscript (thn (hv.run pins s σ H (fun v H1 => TD X.K W td σ H1 fun x H2 => TD X.K W ty σ H2 fun y H3 => ∃ a dx kvs, x = .ref a ∧ H3 a = some (.ins C dx kvs) ∧ lift X.K sd [x, y, v] H3 (fun _ H4 => D.nx σ H4) (WE W σ)) I (td_bind ok h fun z r1 v H1 h1 o1 k1 i1 => td_bind o1 h1 fun d r2 x H2 h2 o2 k2 i2 => td_bind o2 h2 fun y r3 v3 H3 ⟨hc, h3⟩ o3 k3 i3 => ?_)) fun r0 s1 ⟨v, H1, I1, rv, q1⟩ => thn (ho.run pins s1 σ H1 _ I1 q1) fun u s2 ⟨x, H2, I2, rx, q2⟩ => thn (hi.run pins s2 σ H2 _ I2 q2) fun iv s3 ⟨y, H3, I3, ry, a, dx, kvs, ex, hp, q⟩ => ?_) hs
  · obtain ⟨a, dx, kvs, rfl, s0, gd⟩ := isC_at hc o3.r (k3 _ _ i2)
    exact ⟨a, dx, kvs, rfl, s0, lift_at o3 (.cons (k3 _ _ i2) (.cons i3 (.cons (k3 _ _ (k2 _ _ i1)) .nil))) h3 fun d' r' v' H' p o4 k4 i4 => ff.nx _ _ _ _ p o4 (((k1.trans k2).trans k3).trans k4)⟩
  · subst ex
    obtain rfl : u = Value.ref a := rx
    obtain ⟨mA, O, _⟩ := ins_get I3.hok hp
    obtain ⟨od, J, _⟩ := O.look
    obtain ⟨m, hF⟩ := I3.fr
    refine PySem.W.ksp_setItem hF I3.ok.mod.kin J M0.nq M0.at_ M0.fn ?_
    refine thn (call_P (us := [.ref a, iv, r0]) (vs := [.ref a, y, v]) F (hr.mono hj) (passAt tk _) I3 (.cons rfl (.cons ry (.cons rv .nil))) q) fun w s' hz => ?_
    obtain ⟨z', H', I', rz, qz⟩ := hz
    exact ⟨σ, H', I', qz⟩
end
end G
namespace G
open PySem PySem.Spec L2
def sm (l : List (Str × Str)) : List (Key × D) := l.map fun e => (.inr e.1, .str e.2)
def sGet (l : List (Str × Str)) (z : Str) : Option Str := (l.find? fun e => decide (e.1 = z)).map (·.2)
theorem sm_get (z : Str) : ∀ l : List (Str × Str), dGet (sm l) (.inr z) = (sGet l z).map D.str
  | [] => rfl
  | e :: l => by
    have ih := sm_get z l
    unfold sGet at ih ⊢
    unfold dGet at ih ⊢
    show Option.map _ (List.find? _ ((Sum.inr e.1, D.str e.2) :: sm l)) = _
    rw [List.find?_cons, List.find?_cons]
    by_cases h : e.1 = z
    · rw [show decide ((Sum.inr e.1 : Key) = Sum.inr z) = true from decide_eq_true (by rw [h]), show decide (e.1 = z) = true from decide_eq_true h]
      rfl
    · rw [show decide ((Sum.inr e.1 : Key) = Sum.inr z) = false from decide_eq_false fun q => h (Sum.inr.inj q), show decide (e.1 = z) = false from decide_eq_false h]
      exact ih
inductive SeqV (r : Rs) : D → List D → Prop
  | lst (xs : List D) : SeqV r (.lst xs) xs
  | tup (xs : List D) : SeqV r (.tup xs) xs
  | own {l : Addr} {xs : List D} (h : Own r l xs) : SeqV r (.adr l) xs
theorem SeqV.at_ {K : PySem.W.Frag} {r : Rs} {H : Hp} {d : D} {v : V} {xs : List D} (h : SeqV r d xs) (ro : Rok K r H) (i : Is K (mem r) H v d) : ∃ a vs, v = .ref a ∧ (SqT K H a vs ∨ SqL K H a vs) ∧ IsAll K (mem r) H vs xs := by
  cases h with
  | lst => cases i with | lst n s al => exact ⟨_, _, rfl, .inr (SqL.of s), al⟩
  | tup => cases i with | tup s al => exact ⟨_, _, rfl, .inl s, al⟩
  | own ow =>
    cases i
    obtain ⟨vs, h, al⟩ := own_get ro ow
    exact ⟨_, vs, rfl, .inr (SqL.of h), al⟩
def aStarE (t : AT) (l : AL) : AL := fun x δ r P => t x δ r fun d r1 => ∃ xs, SeqV r1 d xs ∧ l x δ r1 fun ds r2 => P (xs ++ ds) r2
theorem dl_starE {X : Cx} {W : WX} {e : Expr} {es : List Expr} {p : Pos} {t : AT} {l : AL} (ha : PD X W e t) (hr : PDL X W es l) (hs : starEach (.Starred e p :: es) X.env = (true, eval e X.env) :: starEach es X.env := by rfl) : PDL X W (.Starred e p :: es) (aStarE t l) := imA (StX.pa_star ha hr hs) fun σ H Q q => by
  obtain ⟨XR, δ, r, P, o, h, k⟩ := q
  refine td_bind o h fun d r1 v H1 ⟨xs, hs, h1⟩ o1 k1 i1 => ?_
  obtain ⟨a, vs, rfl, hq, al⟩ := hs.at_ o1.r i1
  exact ⟨a, vs, rfl, hq, tdl_bind o1 h1 fun ds r2 vs H2 h2 o2 k2 i2 => k _ r2 _ H2 h2 o2 (k1.trans k2) ((k2.all al).append i2)⟩
end G
namespace G
open PySem PySem.Spec L2
theorem lck_put {K : PySem.W.Frag} {pre post : Rs} {H : Hp} {a : Addr} {kvs : List (Key × D)} {xs : List (Key × V)} (od : Obj) (h : Rok K (pre ++ dctA a kvs :: post) H) (e : H a = some (.dK xs)) (i : IsKV K (mem (pre ++ dctA a kvs :: post)) H xs kvs) :
    Rok K (pre ++ lckA a od xs kvs :: post) (upd H a (.frz od (.dK xs))) ∧ Kp K (pre ++ dctA a kvs :: post) H (pre ++ lckA a od xs kvs :: post) (upd H a (.frz od (.dK xs))) :=
  mid_put (t := dctA a kvs) (t' := lckA a od xs kvs) (u' := .frz od (.dK xs)) rfl rfl e (fun xs => ⟨(fun e => by cases e), fun o e => by cases e⟩) h fun go => ⟨upd_same, i.go go⟩
theorem lck_off {K : PySem.W.Frag} {pre post : Rs} {H : Hp} {a : Addr} {kvs : List (Key × D)} {xs : List (Key × V)} {od : Obj} (h : Rok K (pre ++ lckA a od xs kvs :: post) H) :
    H a = some (.frz od (.dK xs)) ∧ Rok K (pre ++ dctA a kvs :: post) (upd H a (.dK xs)) ∧ Kp K (pre ++ lckA a od xs kvs :: post) H (pre ++ dctA a kvs :: post) (upd H a (.dK xs)) := by
  obtain ⟨e, i⟩ := mid_R h
  obtain ⟨q1, q2⟩ := mid_put (t := lckA a od xs kvs) (t' := dctA a kvs) (u' := .dK xs) rfl rfl e (fun xs => ⟨(fun e => by cases e), fun o e => by cases e⟩) h fun go => ⟨xs, upd_same, i.go go⟩
  exact ⟨e, q1, q2⟩
/-- behind the lock -/
def unl (a : Addr) (od : Obj) (xs : List (Key × V)) (kvs : List (Key × D)) (f : Rs → Prop) (r' : Rs) : Prop := ∃ pre post, r' = pre ++ lckA a od xs kvs :: post ∧ f (pre ++ dctA a kvs :: post)
def noXT : XT := fun _ _ _ _ _ => False
theorem Ok.noX {K : PySem.W.Frag} {W : WX} {r : Rs} {δ : Dl} {σ : L2.St} {H : Hp} (o : Okb K r δ σ H) : Ok K W noXT r δ σ H := ⟨o, fun _ _ _ _ _ _ _ _ z => z.elim⟩
def lckN (A : An) (a : Addr) (od : Obj) (xs : List (Key × V)) (kvs : List (Key × D)) (I : Dl → Rs → Prop) : An :=
  { nx := I, ct := I, bk := fun δ' r' => unl a od xs kvs (A.nx δ') r', rt := fun d r' => unl a od xs kvs (A.rt d) r', xr := noXT }
def sForD (i : Nat) (g : AG) (tb : AS) : AS := fun A δ r => ∃ a kvs pre post, lk δ i = some (.adr a) ∧ r = pre ++ dctA a kvs :: post ∧ (∀ z, Sum.inr z ∈ kvs.map (·.1) → sok z) ∧ ∀ od xs, ∃ I : Nat → Dl → Rs → Prop, I 0 δ (pre ++ lckA a od xs kvs :: post) ∧
  (∀ j δ' r', I j δ' r' → ∃ pre' post', r' = pre' ++ lckA a od xs kvs :: post') ∧ (∀ j k d δ' r', kvs[j]? = some (k, d) → I j δ' r' → g (kD k) δ' fun δ2 => tb (lckN A a od xs kvs (I (j + 1))) δ2 r') ∧ ∀ δ' r', I kvs.length δ' r' → unl a od xs kvs (A.nx δ') r'
theorem kv_at {K : PySem.W.Frag} {N : Addr → Prop} {H : Hp} : ∀ {xs : List (Key × V)} {kvs : List (Key × D)}, IsKV K N H xs kvs → ∀ {j : Nat} {k : Key} {v : V}, xs[j]? = some (k, v) → ∃ d, kvs[j]? = some (k, d)
  | _, _, .nil, j, k, v, e => by simp at e
  | _, _, .cons (d := d) h t, 0, k, v, e => by
    cases e
    exact ⟨d, rfl⟩
  | _, _, .cons h t, j + 1, k, v, e => by
    obtain ⟨d, hd⟩ := kv_at t (j := j) (by simpa using e)
    exact ⟨d, by simpa using hd⟩
theorem s_forD {X : Cx} {W : WX} {tg : Expr} {x : Str} {p pos : Pos} {body : List Stmt} {js : List Nat} {g : AG} {tb : AS} (i : Nat) (hg : PDG X tg js g) (hb : PBD X W body tb) (hp : PassesOwn (model X.prog X.w) X.A X.env X.xe) (hN : X.N[i]? = some x := by rfl) (hv : Vis X.env.scope x := by first | exact Or.inl rfl | exact Or.inr (Or.inl rfl) | exact Or.inr (Or.inr rfl))
    (hd : (x == ("__debug__" : Str)) = false := by decide) (hcd : (x == ("__classdict__" : Str)) = false := by decide) (hc : X.calm = true := by rfl) (hs : ∀ y, foldedSetIterable (.Name x p) X.env y = pure y := by intro _; rfl) :
    PSD X W (.For tg (.Name x p) body [] pos) (sForD i g tb) := imS (ps_lock (ps_for hp hc (pi_keys (pe_var hN hv hd hcd)) hg hb hs)) fun D σ H ⟨δ, r, A, o, h, f⟩ => by
  obtain ⟨a, kvs, pre, post, hi, rfl, hsk, h⟩ := h
  obtain ⟨xs, e1, e2⟩ := dct_at o.r ⟨pre, post, rfl⟩
  refine ⟨a, .dK xs, e1, True.intro, fun od => ?_⟩
  obtain ⟨I, h0, hlk, hst, hend⟩ := h od xs
  obtain ⟨l1, l2⟩ := lck_put od o.r e1 e2
  obtain ⟨v, hv1, hv2⟩ := o.env i _ (lk_get hi)
  have hlen : xs.length = kvs.length := e2.length
  have finish : ∀ {σ' : L2.St} {H' : Hp} {δ' : Dl} {r' : Rs}, unl a od xs kvs (A.nx δ') r' → Okb X.K r' δ' σ' H' → Kp X.K (pre ++ lckA a od xs kvs :: post) (upd H a (.frz od (.dK xs))) r' H' → H' a = some (.frz od (.dK xs)) ∧ D.nx σ' (upd H' a (.dK xs)) := fun {σ' H' δ' r'} hu ob kp => by
    obtain ⟨pre', post', rfl, hn⟩ := hu
    obtain ⟨q1, q2, q3⟩ := lck_off ob.r
    have kk := (l2.trans kp).trans q3
    exact ⟨q1, f.nx _ _ _ _ hn ⟨ob.step q3 q2, o.x.step kk⟩ kk⟩
  refine ⟨v, hv1, a, od, (by cases hv2; rfl), .inl ⟨xs, upd_same, ?_⟩⟩
  refine ⟨fun j m σ' H' => m = kvs.length - j ∧ j ≤ kvs.length ∧ ∃ δ' r', I j δ' r' ∧ Okb X.K r' δ' σ' H' ∧ Kp X.K (pre ++ lckA a od xs kvs :: post) (upd H a (.frz od (.dK xs))) r' H', ⟨kvs.length, by simp, Nat.zero_le _, δ, _, h0, o.b.step l2 l1, Kp.refl⟩, ?_⟩
  rintro j m σ' H' ⟨rfl, hj, δ', r', hI, ob, kp⟩
  obtain ⟨pre', post', er⟩ := hlk _ _ _ hI
  have mr : H' a = some (.frz od (.dK xs)) ∧ IsKV X.K (mem r') H' xs kvs := by
    subst er
    exact mid_R ob.r
  by_cases hlt : j < kvs.length
  · refine .inr ⟨⟨mr.1, by rw [hlen]; exact hlt⟩, fun σ2 H2 => ∃ δ2 r2, I (j + 1) δ2 r2 ∧ Okb X.K r2 δ2 σ2 H2 ∧ Kp X.K (pre ++ lckA a od xs kvs :: post) (upd H a (.frz od (.dK xs))) r2 H2, fun σ2 H2 ⟨δ2, r2, q1, q2, q3⟩ => ⟨kvs.length - (j + 1), by omega, rfl, hlt, δ2, r2, q1, q2, q3⟩, fun y H2 hy => ?_⟩
    obtain ⟨rfl, k, v, hk, rfl⟩ := hy
    obtain ⟨d, hd⟩ := kv_at mr.2 hk
    have ik : Is X.K (mem r') H2 (kV k) (kD k) := by
      obtain ⟨d', q1, q2⟩ := (keys_all mr.2 hsk).get (i := j) (v := kV k) (by rw [List.getElem?_map, hk]; rfl)
      rw [List.getElem?_map, hd] at q1
      cases q1
      exact q2
    refine ⟨W, noXT, δ', r', _, _, Ok.noX ob, ik, hst j k d δ' r' hd hI, fun δ2 σ2 q o2 _ => ⟨δ2, r', _, o2, q, ?_⟩⟩
    refine ⟨fun δ3 r3 σ3 H3 a3 o3 k3 => ⟨δ3, r3, a3, o3.b, kp.trans k3⟩, fun d r3 v H3 a3 o3 k3 i3 => ?_, fun δ3 r3 σ3 H3 a3 o3 k3 => finish a3 o3.b (kp.trans k3), fun δ3 r3 σ3 H3 a3 o3 k3 => ⟨δ3, r3, a3, o3.b, kp.trans k3⟩⟩
    obtain ⟨pre2, post2, rfl, hn⟩ := a3
    obtain ⟨q1, q2, q3⟩ := lck_off o3
    have kk := (l2.trans (kp.trans k3)).trans q3
    exact ⟨q1, f.rt _ _ _ _ hn q2 kk (q3 _ _ i3)⟩
  · have e : j = kvs.length := by omega
    exact .inl ⟨⟨mr.1, by rw [hlen, e] <;> exact Nat.le_refl _⟩, finish (hend δ' r' (e ▸ hI)) ob kp⟩
structure aLcDK (g : AG) (tt : AB) (te : AT) (δw : Dl) (a : Addr) (od : Obj) (xs : List (Key × V)) (kvs : List (Key × D)) (r1 : Rs) (P : PK1) : Prop where
  ex : ∃ I : Nat → List D → Rs → Prop, I 0 [] r1 ∧ (∀ j acc r', I j acc r' → ∃ pre' post', r' = pre' ++ lckA a od xs kvs :: post') ∧
  (∀ (p : Addr) j k d acc r', kvs[j]? = some (k, d) → I j acc r' → g (kD k) δw fun δ2 => tt noXT δ2 (r' ++ [lstA p acc]) fun b r2 =>
    (b = true → te noXT δ2 r2 fun y r3 => small (acc.length + 1) ∧ ∃ r4, le r3 (r4 ++ [lstA p acc]) ∧ I (j + 1) (acc ++ [y]) r4) ∧ (b = false → ∃ r4, le r2 (r4 ++ [lstA p acc]) ∧ I (j + 1) acc r4)) ∧
  ∀ acc r', I kvs.length acc r' → unl a od xs kvs (P (.lst acc)) r'
def aLcD (i : Nat) (g : AG) (tt : AB) (te : AT) (vs : List Nat) : AT := fun x δ r P => ∃ a kvs pre post, lk δ i = some (.adr a) ∧ r = pre ++ dctA a kvs :: post ∧ (∀ z, Sum.inr z ∈ kvs.map (·.1) → sok z) ∧ ∀ od xs, aLcDK g tt te (wipeD δ vs) a od xs kvs (pre ++ lckA a od xs kvs :: post) P
theorem d_lcD {X : Cx} {W : WX} {elt tg : Expr} {x : Str} {p0 : Pos} {ifs : List Expr} {scope : Scope} {own : List (Str × Nat)} {pos : Pos} {js : List Nat} {g : AG} {tt : AB} {te : AT} (i : Nat) (hN : X.N.Nodup) (ok : BlkOk X.N X.env.scope scope own)
    (hg : ∀ (s : Shared) (H : Hp) (C : Addr) (cl : List (Str × Addr)) (fp : List Addr), PDG (X.blk s H scope (compEnvC scope cl C X.env) fp) tg js g) (ht : ∀ (s : Shared) (H : Hp) (C : Addr) (cl : List (Str × Addr)) (fp : List Addr), PTs (X.blk s H scope (compEnvC scope cl C X.env) fp) ifs (TDB X.K W tt))
    (he : ∀ (s : Shared) (H : Hp) (C : Addr) (cl : List (Str × Addr)) (fp : List Addr), PD (X.blk s H scope (compEnvC scope cl C X.env) fp) W elt te) (hj : ∀ j ∈ js, j ∈ own.map (·.2) := by decide) (hc : X.calm = true := by rfl) (hi : X.N[i]? = some x := by rfl) (hv : Vis X.env.scope x := by first | exact Or.inl rfl | exact Or.inr (Or.inl rfl) | exact Or.inr (Or.inr rfl))
    (hd : (x == ("__debug__" : Str)) = false := by decide) (hcd : (x == ("__classdict__" : Str)) = false := by decide) (hs : ∀ y, foldedSetIterable (.Name x p0) X.env y = pure y := by intro _; rfl) :
    PD X W (.ListComp elt [⟨tg, .Name x p0, ifs, 0⟩] scope pos) (aLcD i g tt te (own.map (·.2))) :=
  imE (pe_lock (pe_lc (g := TDG X.K js g) (tt := TDB X.K W tt) (te := TD X.K W te) hc hN (pi_keys (pe_var hi hv hd hcd)) ok hg ht he hs)) fun σ H Q ⟨XR, δ, r, P, o, h, k⟩ => by
    obtain ⟨a, kvs, pre, post, hi, rfl, hsk, h⟩ := h
    obtain ⟨xs, e1, e2⟩ := dct_at o.r ⟨pre, post, rfl⟩
    refine ⟨a, .dK xs, e1, True.intro, fun od => ?_⟩
    obtain ⟨I, h0, hlk, hst, hend⟩ := (h od xs).ex
    obtain ⟨l1, l2⟩ := lck_put od o.r e1 e2
    obtain ⟨v, hv1, hv2⟩ := o.env i _ (lk_get hi)
    have hlen : xs.length = kvs.length := e2.length
    refine ⟨v, hv1, a, od, (by cases hv2; rfl), .inl ⟨xs, upd_same, fun p hp => ?_⟩⟩
    obtain ⟨s1, s2⟩ := rok_plus l1 hp
    refine ⟨fun j m H' => m = kvs.length - j ∧ j ≤ kvs.length ∧ ∃ acc r', I j acc r' ∧ Rok X.K (r' ++ [lstA p acc]) H' ∧ Kp X.K (pre ++ lckA a od xs kvs :: post) (upd H a (.frz od (.dK xs))) (r' ++ [lstA p acc]) H', ⟨kvs.length, by simp, Nat.zero_le _, [], _, h0, s1, s2⟩, ?_⟩
    rintro j m H' ⟨rfl, hj', acc, r', hI, ro, kp⟩
    obtain ⟨pre', post', er⟩ := hlk _ _ _ hI
    have mr : H' a = some (.frz od (.dK xs)) ∧ IsKV X.K (mem (r' ++ [lstA p acc])) H' xs kvs := by
      subst er
      rw [List.append_assoc] at ro ⊢
      exact mid_R ro
    by_cases hlt : j < kvs.length
    · refine .inr ⟨⟨mr.1, by rw [hlen]; exact hlt⟩, fun H2 => ∃ acc r2, I (j + 1) acc r2 ∧ Rok X.K (r2 ++ [lstA p acc]) H2 ∧ Kp X.K (pre ++ lckA a od xs kvs :: post) (upd H a (.frz od (.dK xs))) (r2 ++ [lstA p acc]) H2, fun H2 ⟨acc, r2, q1, q2, q3⟩ => ⟨kvs.length - (j + 1), by omega, rfl, hlt, acc, r2, q1, q2, q3⟩, fun y H2 hy => ?_⟩
      obtain ⟨rfl, kk, v, hk, rfl⟩ := hy
      obtain ⟨d, hd⟩ := kv_at mr.2 hk
      have ik : Is X.K (mem (r' ++ [lstA p acc])) H2 (kV kk) (kD kk) := by
        obtain ⟨d', q1, q2⟩ := (keys_all mr.2 hsk).get (i := j) (v := kV kk) (by rw [List.getElem?_map, hk]; rfl)
        rw [List.getElem?_map, hd] at q1
        cases q1
        exact q2
      have o1 : Ok X.K W noXT (r' ++ [lstA p acc]) δ σ H2 := Ok.noX (o.b.step (l2.trans kp) ro)
      refine ⟨W, noXT, wipeD δ (own.map (·.2)), _, _, _, o1.wipe _, ik, hst p j kk d acc r' hd hI, fun δ2 σ2 q o3 ag => ⟨wipe_agree ag hj, noXT, δ2, _, _, o3, q, fun b r3 H3 q3 o4 k4 => ?_⟩⟩
      cases b with
      | true =>
        show TD X.K W te σ2 H3 _
        refine td_bind o4 (q3.1 rfl) fun y r5 v H5 ⟨sz, r6, l6, h5⟩ o5 k5 i5 => ?_
        obtain ⟨ws, e1, e2, e3, e4⟩ := rok_more (le_rok l6 o5.r) (is_anti l6.m i5)
        refine ⟨ws, e1, by rw [e2]; exact Nat.lt_of_lt_of_le (Nat.lt_succ_self _) sz.sz, acc ++ [y], r6, h5, e3, fun v' d' z => e4 _ _ (is_anti l6.m (k5 _ _ (k4 _ _ (kp _ _ z))))⟩
      | false =>
        show ∃ acc r2, _
        obtain ⟨r6, l6, h5⟩ := q3.2 rfl
        exact ⟨acc, r6, h5, le_rok l6 o4.r, fun v' d' z => is_anti l6.m (k4 _ _ (kp _ _ z))⟩
    · have e : j = kvs.length := by omega
      obtain ⟨d1, d2, d3⟩ := rok_done ro
      refine .inl ⟨⟨mr.1, by rw [hlen, e] <;> exact Nat.le_refl _⟩, mr.1, ?_⟩
      obtain ⟨pre2, post2, e5, hn⟩ := hend acc r' (e ▸ hI)
      subst e5
      obtain ⟨q1, q2, q3⟩ := lck_off d1
      have kk := ((l2.trans kp).trans d3).trans q3
      exact k _ _ _ _ hn ⟨o.b.step kk q2, o.x.step kk⟩ kk (q3 _ _ d2)
end G
namespace G
open PySem PySem.Spec L2
structure oLenDv (r : Rs) (ds : List D) (k : D → Prop) : Prop where
  ex : ∃ d kvs, ds = [d] ∧ DctV r d kvs ∧ k (.int (kvs.length : Nat))
theorem c_lenDv {X : Cx} : CallR X (.builtin "len") (rC2 X.K oLenDv) := by
  rintro pins s σ H vs us Q I rv ⟨r, ds, P, hr, i, ⟨d, kvs, rfl, hd, ho⟩, k⟩
  cases i with
  | cons i t =>
    cases t
    obtain ⟨a, xs, rfl, e1, e2⟩ := hd.at_ hr i
    obtain ⟨u, rfl, ru⟩ := vals1 rv
    cases ru
    exact d_len I e1 fun t s' I' => ⟨.int xs.length, H, I', ⟨t, rfl⟩, by rw [e2.length]; exact k _ _ H ho (Ext.refl H) (.int _)⟩
theorem app_mem {α : Type} {x : α} {l : List α} (h : x ∈ l) : ∃ pre post, l = pre ++ x :: post := List.append_of_mem h
def mPut (l : List (Str × Str)) (z m : Str) : List (Str × Str) := if (l.any fun e => decide (e.1 = z)) = true then l.map (fun e => if e.1 = z then (e.1, m) else e) else l ++ [(z, m)]
def mDrop (l : List (Str × Str)) (z : Str) : List (Str × Str) := l.filter fun e => decide (e.1 ≠ z)
theorem sm_any (z : Str) : ∀ l : List (Str × Str), ((sm l).any fun kv => decide (kv.1 = (Sum.inr z : Key))) = l.any fun e => decide (e.1 = z)
  | [] => rfl
  | e :: l => by
    have ih := sm_any z l
    unfold sm at ih ⊢
    rw [List.map_cons, List.any_cons, List.any_cons, ih]
    congr 1
    by_cases h : e.1 = z
    · rw [decide_eq_true h]
      exact decide_eq_true (by rw [h])
    · rw [decide_eq_false h]
      exact decide_eq_false fun q => h (Sum.inr.inj q)
theorem sm_put (l : List (Str × Str)) (z m : Str) : dPut (sm l) (.inr z) (.str m) = sm (mPut l z m) := by
  unfold dPut mPut
  rw [sm_any]
  by_cases h : (l.any fun e => decide (e.1 = z)) = true
  · rw [if_pos h, if_pos h]
    unfold sm
    rw [List.map_map, List.map_map]
    refine List.map_congr_left fun e _ => ?_
    show (if (Sum.inr e.1 : Key) = Sum.inr z then (Sum.inr e.1, D.str m) else (Sum.inr e.1, D.str e.2)) = ((Sum.inr (if e.1 = z then (e.1, m) else e).1 : Key), D.str (if e.1 = z then (e.1, m) else e).2)
    by_cases q : e.1 = z
    · rw [if_pos q, if_pos (by rw [q])]
    · rw [if_neg q, if_neg fun k => q (Sum.inr.inj k)]
  · rw [if_neg h, if_neg h]
    unfold sm
    rw [List.map_append]
    rfl
theorem sm_drop (l : List (Str × Str)) (z : Str) : dDrop (sm l) (.inr z) = sm (mDrop l z) := by
  unfold dDrop mDrop sm
  rw [List.filter_map]
  congr 1
  refine List.filter_congr fun e _ => ?_
  exact decide_eq_decide.mpr ⟨fun k w => k (by show (Sum.inr e.1 : Key) = Sum.inr z; rw [w]), fun k w => k (Sum.inr.inj w)⟩
theorem sm_len (l : List (Str × Str)) : (sm l).length = l.length := List.length_map _
theorem sm_keys (l : List (Str × Str)) : ((sm l).map fun kv => kD kv.1) = (l.map (·.1)).map D.str := by
  unfold sm
  rw [List.map_map, List.map_map]
  rfl
theorem sm_sok {l : List (Str × Str)} (h : ∀ e ∈ l, sok e.1) : ∀ z, Sum.inr z ∈ (sm l).map (·.1) → sok z := fun z hz => by
  unfold sm at hz
  rw [List.map_map] at hz
  obtain ⟨e, he, q⟩ := List.mem_map.mp hz
  have : e.1 = z := Sum.inr.inj q
  rw [← this]
  exact h e he
/-- what is known of mPut, mDrop, sGet -/
theorem sGet_cons (e : Str × Str) (l : List (Str × Str)) (y : Str) : sGet (e :: l) y = if e.1 = y then some e.2 else sGet l y := by
  unfold sGet
  rw [List.find?_cons]
  by_cases h : e.1 = y
  · rw [decide_eq_true h, if_pos h]; rfl
  · rw [decide_eq_false h, if_neg h]
theorem sGet_none {l : List (Str × Str)} {y : Str} : sGet l y = none ↔ y ∉ l.map (·.1) := by
  induction l with
  | nil => exact ⟨fun _ m => (by cases m), fun _ => rfl⟩
  | cons e l ih =>
    rw [sGet_cons, List.map_cons, List.mem_cons, not_or]
    by_cases h : e.1 = y
    · rw [if_pos h]
      exact ⟨(fun q => by cases q), fun q => absurd h.symm q.1⟩
    · rw [if_neg h, ih]
      exact ⟨fun q => ⟨fun k => h k.symm, q⟩, fun q => q.2⟩
theorem sGet_mem {l : List (Str × Str)} {y m : Str} (h : sGet l y = some m) : (y, m) ∈ l := by
  induction l with
  | nil => cases h
  | cons e l ih =>
    rw [sGet_cons] at h
    by_cases q : e.1 = y
    · rw [if_pos q] at h
      cases h
      rw [← q]
      exact List.mem_cons_self
    · rw [if_neg q] at h
      exact List.mem_cons_of_mem _ (ih h)
theorem sGet_of {l : List (Str × Str)} (hn : (l.map (·.1)).Nodup) {y m : Str} (h : (y, m) ∈ l) : sGet l y = some m := by
  induction l with
  | nil => cases h
  | cons e l ih =>
    obtain ⟨h1, h2⟩ := List.nodup_cons.mp (show (e.1 :: l.map (·.1)).Nodup from hn)
    rw [sGet_cons]
    rcases List.mem_cons.mp h with q | q
    · rw [← q, if_pos rfl]
    · rw [if_neg fun k => h1 (by rw [k]; exact List.mem_map.mpr ⟨_, q, rfl⟩)]
      exact ih h2 q
theorem sGet_app (l m : List (Str × Str)) (y : Str) : sGet (l ++ m) y = (sGet l y).or (sGet m y) := by
  induction l with
  | nil => rfl
  | cons e l ih =>
    rw [List.cons_append, sGet_cons, sGet_cons, ih]
    by_cases q : e.1 = y
    · rw [if_pos q, if_pos q]; rfl
    · rw [if_neg q, if_neg q]
theorem mPut_keys (l : List (Str × Str)) (z m : Str) : (mPut l z m).map (·.1) = if z ∈ l.map (·.1) then l.map (·.1) else l.map (·.1) ++ [z] := by
  unfold mPut
  have hm : (l.any fun e => decide (e.1 = z)) = true ↔ z ∈ l.map (·.1) := by
    rw [List.any_eq_true, List.mem_map]
    exact ⟨fun ⟨e, h1, h2⟩ => ⟨e, h1, of_decide_eq_true h2⟩, fun ⟨e, h1, h2⟩ => ⟨e, h1, decide_eq_true h2⟩⟩
  by_cases h : (l.any fun e => decide (e.1 = z)) = true
  · rw [if_pos h, if_pos (hm.mp h), List.map_map]
    refine List.map_congr_left fun e _ => ?_
    show (if e.1 = z then (e.1, m) else e).1 = e.1
    by_cases q : e.1 = z
    · rw [if_pos q]
    · rw [if_neg q]
  · rw [if_neg h, if_neg fun k => h (hm.mpr k), List.map_append]
    rfl
theorem mPut_get (l : List (Str × Str)) (z m y : Str) : sGet (mPut l z m) y = if z = y then some m else sGet l y := by
  unfold mPut
  by_cases h : (l.any fun e => decide (e.1 = z)) = true
  · rw [if_pos h]
    have key : ∀ k : List (Str × Str), sGet (k.map fun e => if e.1 = z then (e.1, m) else e) y = if z = y then (if z ∈ k.map (·.1) then some m else none) else sGet k y := fun k => by
      induction k with
      | nil => rw [show sGet (List.map _ ([] : List (Str × Str))) y = none from rfl]; split <;> simp [sGet]
      | cons e k ih =>
        rw [List.map_cons, sGet_cons, sGet_cons, ih, List.map_cons]
        by_cases q : e.1 = z
        · rw [if_pos q]
          show (if e.1 = y then some m else _) = _
          by_cases q2 : z = y
          · rw [if_pos (q.trans q2), if_pos q2, if_pos (by rw [q]; exact List.mem_cons_self)]
          · rw [if_neg fun w => q2 (q.symm.trans w), if_neg q2, if_neg q2, if_neg fun w => q2 (q.symm.trans w)]
        · rw [if_neg q]
          by_cases q2 : z = y
          · rw [if_neg fun w => q (w.trans q2.symm), if_pos q2, if_pos q2]
            have : z ∈ e.1 :: k.map (·.1) ↔ z ∈ k.map (·.1) := by
              rw [List.mem_cons]
              exact ⟨fun w => w.resolve_left fun v => q v.symm, .inr⟩
            by_cases q3 : z ∈ k.map (·.1)
            · rw [if_pos q3, if_pos (this.mpr q3)]
            · rw [if_neg q3, if_neg fun w => q3 (this.mp w)]
          · rw [if_neg q2, if_neg q2]
    rw [key]
    obtain ⟨e, he, q⟩ := List.any_eq_true.mp h
    rw [if_pos (List.mem_map.mpr ⟨e, he, of_decide_eq_true q⟩)]
  · rw [if_neg h, sGet_app, sGet_cons]
    have hn : z ∉ l.map (·.1) := fun k => h (by
      obtain ⟨e, h1, h2⟩ := List.mem_map.mp k
      exact List.any_eq_true.mpr ⟨e, h1, decide_eq_true h2⟩)
    by_cases q : z = y
    · rw [if_pos q, if_pos q, ← q, sGet_none.mpr hn]; rfl
    · rw [if_neg q, if_neg q]
      show (sGet l y).or none = _
      cases sGet l y <;> rfl
theorem mDrop_get (l : List (Str × Str)) (z y : Str) : sGet (mDrop l z) y = if z = y then none else sGet l y := by
  unfold mDrop
  induction l with
  | nil => split <;> rfl
  | cons e l ih =>
    rw [List.filter_cons]
    by_cases q : e.1 = z
    · rw [decide_eq_false fun k => k q, if_neg (by decide), ih, sGet_cons]
      by_cases q2 : z = y
      · rw [if_pos q2, if_pos q2]
      · rw [if_neg q2, if_neg q2, if_neg fun w => q2 (q.symm.trans w)]
    · rw [decide_eq_true q, if_pos rfl, sGet_cons, ih, sGet_cons]
      by_cases q2 : z = y
      · rw [if_pos q2, if_pos q2, if_neg fun w => q (w.trans q2.symm)]
      · rw [if_neg q2, if_neg q2]
theorem mDrop_keys (l : List (Str × Str)) (z : Str) : (mDrop l z).map (·.1) = (l.map (·.1)).filter fun y => decide (y ≠ z) := by
  unfold mDrop
  rw [List.filter_map]
  rfl
end G
namespace G
open PySem PySem.Spec L2
theorem DctV.mono {r r' : Rs} {d : D} {kvs : List (Key × D)} (h : DctV r d kvs) (m : ∀ t, t ∈ r → t ∈ r') : DctV r' d kvs := by
  rcases h with ⟨a, e, ⟨pre, post, er⟩ | ⟨pre, post, od, xs, er⟩⟩ | e
  · obtain ⟨p2, q2, e2⟩ := app_mem (m _ (by rw [er]; exact List.mem_append.mpr (.inr List.mem_cons_self)))
    exact .inl ⟨a, e, .inl ⟨p2, q2, e2⟩⟩
  · obtain ⟨p2, q2, e2⟩ := app_mem (m _ (by rw [er]; exact List.mem_append.mpr (.inr List.mem_cons_self)))
    exact .inl ⟨a, e, .inr ⟨p2, q2, od, xs, e2⟩⟩
  · exact .inr e
theorem DctV.own {r : Rs} {a : Addr} {kvs : List (Key × D)} (h : dctA a kvs ∈ r) : DctV r (.adr a) kvs := by
  obtain ⟨p2, q2, e2⟩ := app_mem h
  exact .inl ⟨a, rfl, .inl ⟨p2, q2, e2⟩⟩
inductive SetV (F : Str) (CS : Addr) (r : Rs) : D → List (Str × Str) → Prop
  | fro (l : List (Str × Str)) : SetV F CS r (.ins CS [F] [.dct ((sm l).map (·.1)) ((sm l).map (·.2))]) l
  | own {a c : Addr} {l : List (Str × Str)} (h1 : insA a CS [F] [.adr c] ∈ r) (h2 : dctA c (sm l) ∈ r) : SetV F CS r (.adr a) l
section
variable {F : Str} {CS : Addr} {r r' : Rs} {d : D} {l : List (Str × Str)} {P : PK1}
theorem SetV.isC (h : SetV F CS r d l) : isC CS d r := by
  cases h with
  | fro => exact .fro
  | own h1 h2 =>
    obtain ⟨p2, q2, e2⟩ := app_mem h1
    exact .own p2 q2 e2
theorem SetV.fld (h : SetV F CS r d l) (k : ∀ cd, DctV r cd (sm l) → P cd r) : oFld F d r P := by
  have e : ixF [F] F = some 0 := by unfold ixF; rw [if_pos rfl]
  cases h with
  | fro => exact .fro 0 _ e rfl (k _ (.inr rfl))
  | own h1 h2 =>
    obtain ⟨p2, q2, e2⟩ := app_mem h1
    exact .own p2 q2 0 _ e2 e rfl (k _ (.own h2))
theorem SetV.mono (h : SetV F CS r d l) (m : ∀ t, t ∈ r → t ∈ r') : SetV F CS r' d l := by
  cases h with
  | fro => exact .fro l
  | own h1 h2 => exact .own (m _ h1) (m _ h2)
theorem sm_dget {r : Rs} {d : D} {l : List (Str × Str)} {z : Str} {k : Option D → Prop} (h : DctV r d (sm l)) (p : k ((sGet l z).map .str)) : oDGet r d (.str z) k := .of h rfl (by rw [sm_get]; exact p)
end
end G
namespace G
open PySem PySem.Spec L2
def aSortO (l : AL) : AT := fun x δ r P => l x δ r fun ds r1 => ∃ zs : List Str, ds = [.lst (zs.map .str)] ∧ zs.length < 64 ∧ ∀ p, P (.adr p) (r1 ++ [lstA p ((srt zs).map .str)])
theorem d_sortO {X : Cx} {W : WX} {e : Expr} {p pos : Pos} {l : AL} (hg : Gl X "sorted") (hm : X.mg "sorted" = none) (ha : PDL X W [e] l) (he : starEach [e] X.env = (false, eval e X.env) :: starEach [] X.env := by rfl) (hpl : (backTo pos (starEach [] X.env)).any (·.1) = false := by rfl) :
    PD X W (.Call (.Name "sorted" p) [e] [] pos) (aSortO l) := imE (pe_callB cr_sortedS hg hm (by decide +kernel) ha (by decide) (by decide) he hpl) fun σ H Q q => by
  obtain ⟨XR, δ, r, P, o, h, k⟩ := q
  refine tdl_bind o h fun ds r1 vs H1 ⟨zs, ed, h64, h1⟩ o1 k1 i1 => ?_
  subst ed
  cases i1 with
  | cons i t =>
    cases t
    cases i with
    | lst n s al =>
      obtain ⟨rfl, hs⟩ := strs_allS al
      refine ⟨_, zs, rfl, SqL.of s, h64, fun ys p hp hy hn => ?_⟩
      obtain rfl : ys = srt zs := srt_eq hp (sorted_pair hy)
      obtain ⟨q1, q2⟩ := rok_new o1.r hn (all_strsS (N := mem r1) (H := H1) (K := X.K) fun z hz => hs z (srt_mem.mp hz))
      exact k _ _ _ _ (h1 p) (o1.step q2 q1) (k1.trans q2) (.adr p)
end G
namespace G
open PySem PySem.Spec L2
end G
namespace G
open PySem PySem.Spec L2
end G
namespace G
open PySem PySem.Spec L2
def repS (z : Str) (n : Nat) : Str := ⟨(List.replicate n z.cps).foldl (· ++ ·) #[]⟩
theorem rep_all (p : Nat → Bool) (c : Array Nat) (hc : c.all p = true) : ∀ (n : Nat) (acc : Array Nat), acc.all p = true → ((List.replicate n c).foldl (· ++ ·) acc).all p = true
  | 0, _, h => h
  | n + 1, acc, h => by
    rw [List.replicate_succ, List.foldl_cons]
    exact rep_all p c hc n _ (by rw [Array.all_append]; exact Bool.and_eq_true_iff.mpr ⟨h, hc⟩)
theorem rep_size (c : Array Nat) : ∀ (n : Nat) (acc : Array Nat), ((List.replicate n c).foldl (· ++ ·) acc).size = acc.size + n * c.size
  | 0, acc => by simp
  | n + 1, acc => by
    rw [List.replicate_succ, List.foldl_cons, rep_size c n, Array.size_append, Nat.succ_mul]
    omega
theorem repS_len (z : Str) (n : Nat) : (repS z n).length = n * z.length := by
  show ((List.replicate n z.cps).foldl (· ++ ·) #[]).size = _
  rw [rep_size]
  simp
  rfl
theorem sok_rep {z : Str} {n : Nat} (h : sok z) (hn : n * z.length ≤ 1000000) : sok (repS z n) := by
  refine ⟨?_, by rw [repS_len]; exact hn⟩
  exact rep_all _ _ h.1 n #[] (by simp)
structure oMulS (x y : D) (k : D → Prop) : Prop where
  ex : ∃ z, ∃ n : Nat, x = .str z ∧ y = .int n ∧ 2 ≤ n ∧ n ≤ 1000 ∧ 1 ≤ z.length ∧ z.length ≤ 1000 ∧ k (.str (repS z n))
theorem p_mulS {X : Cx} : OpR X (binaryOp .Mult) (rD X.K oMulS) := by
  rintro pins s σ H x y v u Q I rx ry ⟨r, d1, d2, P, hr, i1, i2, ⟨z, n, rfl, rfl, h1, h2, h3, h4, ho⟩, k⟩
  cases i1 with
  | str oz =>
    cases i2
    obtain ⟨t, rfl⟩ := rx
    obtain ⟨t', rfl⟩ := ry
    have hle : n * z.length ≤ 1000 * 1000 := Nat.mul_le_mul h2 h4
    refine PySem.P.mul_str (by rw [decide_eq_false (by omega), decide_eq_false (by omega)]; rfl) (fun _ _ => ?_) (fun _ _ => ?_) ?_
    · intro hgt
      have : (2 ^ 63 - 1) / (n : Int) ≥ 1000 := by
        rw [ge_iff_le, Int.le_ediv_iff_mul_le (by omega)]
        omega
      omega
    · show decide _ = false
      rw [Int.toNat_natCast, Nat.mul_comm]
      exact decide_eq_false (by rw [sizeLine_eq]; omega)
    · have e1 : ¬ ((n : Int) < 1) := by omega
      have e2 : (((n : Int) == 1) || (z.length == 0)) = false := by
        rw [Bool.or_eq_false_iff]
        exact ⟨beq_eq_false_iff_ne.mpr (by omega), beq_eq_false_iff_ne.mpr (by omega)⟩
      rw [if_neg e1, if_neg (by rw [e2]; exact Bool.false_ne_true), Int.toNat_natCast]
      refine ⟨?_, ⟨.str (repS z n), H, I.tok _, ⟨_, rfl⟩, k _ _ H ho (Ext.refl H) (.str (sok_rep oz (by omega)))⟩⟩
      show (repS z n).length ≤ _
      rw [repS_len, sizeLine_eq]
      omega
end G
namespace G
open PySem PySem.Spec L2
end G
namespace G
open PySem PySem.Spec L2
end G
namespace G
open PySem PySem.Spec L2
end G
namespace G
open PySem PySem.Spec L2
end G
namespace G
open PySem PySem.Spec L2
end G
namespace G
open PySem PySem.Spec L2
open PyProof.Rows (envOfC)
end G
namespace G
open PySem PySem.Spec L2
end G
namespace G
open PySem PySem.Spec L2
open PyProof.Rows (envOfC)
def ClMD (P : Program) (w : World) (K : PySem.W.Frag) (mg : Str → Option Value) (base : Heap) (k : Nat) (C : Addr) (m : Str) (dd : List D) (sd : SpX) : Prop := ∃ f, Meth K C m f ∧ ∀ j, j ≤ dd.length → FR P w K mg base k f (fun ds r P XR => sd (ds ++ dd.drop j) r P XR)
section
variable {P : Program} {w : World} {K : PySem.W.Frag} {mg : Str → Option Value} {base : Heap} {C : Addr} {m qual : Str} {st : Stmt} {N ps : List Str} {dd : List D} {k j : Nat} {sd : SpX}
/-- called with all but the last dd.length - j values -/
theorem ClMD.at_ (h : ClMD P w K mg base k C m dd sd) (j : Nat) (hj : j ≤ dd.length) : ClM P w K mg base k C m (fun ds r P XR => sd (ds ++ dd.drop j) r P XR) := by
  obtain ⟨f, M, F⟩ := h
  exact ⟨f, M, F j hj⟩
end
end G
namespace G
open PySem PySem.Spec L2
open PyProof.Rows (envOfC)
end G
namespace G
open PySem PySem.Spec L2
open PyProof.Rows (envOfC)
end G
namespace G
open PySem PySem.Spec L2
open PyProof.Rows (envOfC)
end G
namespace G
open PySem PySem.Spec L2
open PyProof.Rows (envOfC)
mutual
/-- flat things and tuples of such -/
def tt : D → Bool
  | .non => true | .bl _ => true | .int _ => true | .str _ => true | .adr _ => false | .lst _ => false | .tup ds => tts ds | .ins _ _ _ => false | .dct _ _ => false
def tts : List D → Bool
  | [] => true
  | d :: ds => tt d && tts ds
end
end G
namespace G
open PySem PySem.Spec L2
section
variable {prog : PySem.Program} {w : PySem.World} {K : Type} [DecidableEq K] {knd : PySem.KeyKind prog w K} {A : Around} {E : Value → Shared → Prop} {s : Shared}
theorem Paired.len {α β : Type} {R : α → β → Prop} {xs : List α} {ys : List β} (h : Paired R xs ys) : xs.length = ys.length := by
  induction h with
  | nil => rfl
  | cons _ _ ih => rw [List.length_cons, List.length_cons, ih]
end
end G
namespace G
open PySem PySem.Spec L2
end G
namespace G
open PySem PySem.Spec L2
end G
namespace G
open PySem PySem.Spec L2
end G
namespace PySem.W
open PySem PySem.Spec PySem.Calls PyProof.Rows
section
variable {prog : Program} {w : World} {A : Around} {E : Value → Shared → Prop} {s : Shared} {K : Frag} {x D : Addr} {ox : Obj} {od : Option Obj}
theorem gx_findObj {C : Addr} {name : Str} {a g : Value} {od : Option Obj} (hc : (clsIn K C).isSome = true) (ha : findIn K (.ref C) name = some (some a)) (hg : specialIn K a "__get__" = some (some g)) (ht : takesIn K a = some true) : findObj K C od name = some (.bind g a) := by
  obtain ⟨cd, hc⟩ := Option.isSome_iff_exists.mp hc
  unfold findObj
  rw [hc, Option.bind_some, ha, Option.bind_some]
  simp [hg, ht]
theorem gx_classE {Q : Option Value → Shared → Prop} (hga : findIn K (.ref D) "__getattribute__" = some (some (.builtin "BaseException.__getattribute__"))) (hgt : findIn K (.ref D) "__getattr__" = some none) (hsub : subIn K (.ref D) (.type "BaseException") = some true)
    (hdct : hasDictIn K D = true) (ha : findIn K (.ref D) "__class__" = some (some (.builtin "object.__class__")))
    (hn : specialIn K (.builtin "object.__class__") "__get__" = some (some (.builtin "getset_descriptor.__get__"))) (htk : takesIn K (.builtin "object.__class__") = some true) (hm : mroIn K D (.type "object") = some true)
    (X : K.In s.heap) (I : InstAt s.heap x ox D od) (h : Q (some (.ref D)) { s with toks := s.toks + 1 }) : wpAny (model prog w) A (getAttr? (.ref x) "__class__") Q E s := by
  have hf : findObj K D od "__class__" = some (.bind (.builtin "getset_descriptor.__get__") (.builtin "object.__class__")) := gx_findObj (by obtain ⟨cd, hc, _⟩ := any_some hdct; rw [hc]; rfl) ha hn htk
  obtain ⟨hp, g, d, t, os⟩ := s
  have L0 := I.type (M := model prog w)
  have L1 := looks_findIn (M := model prog w) X hga
  have L2 := looks_findIn (M := model prog w) X hgt
  have L3 := looks_find (M := model prog w) X I hf
  have sub : Looks (model prog w) hp (isInstance (.ref x) (.type "BaseException")) true := L0.andThen (looks_subIn X hsub)
  have hx0 : (false && onTheHeap (Value.builtin "BaseException.__getattribute__")) = false := rfl
  have hx2 : (Value.builtin "BaseException.__getattribute__" == Value.builtin "object.__getattribute__") = false := by decide +kernel
  have hx1 : (onTheHeap (Value.ref D) && Value.builtin "BaseException.__getattribute__" == Value.builtin "object.__getattribute__") = false := by rw [hx2]; rfl
  unfold getAttr? getAttrBy? getAttrBy
  refine wpAny_bind (wpAny_mkText (wpAny_bind (wpAny_attempt (wpAny_holding (wpAny_bind (L0.at (wpAny_bind (L1.at ?_))))))))
  show wpAny _ _ (if (onTheHeap (Value.ref D) && Value.builtin "BaseException.__getattribute__" == Value.builtin "object.__getattribute__") = true then _ else _) _ _ _
  rw [hx1, if_neg Bool.false_ne_true]
  unfold getAttrByItsOwn hookBefore
  refine wpAny_bind ?_
  rw [if_pos (show onTheHeap (Value.ref D) = true from rfl)]
  refine L2.at ?_
  refine wpAny_bind (wpAny_attempt (wpAny_holding ?_))
  unfold callGetattribute
  rw [hx0, if_neg Bool.false_ne_true]
  unfold boundAndCalled
  rw [PySem.F.excAttr_ValueError.ga.bind (.ref x)]
  refine wpAny_bind (wpAny_pure ?_)
  show wpAny _ _ (call (.builtin "BaseException.__getattribute__") [.ref x, .str "__class__" t]) _ _ _
  refine wpAny_call (codeAny_call_builtin PySem.F.excAttr_ValueError.ga.plain PySem.F.entry_bexc_ga ?_)
  refine @check_slot (model prog w) _ _ ⟨hp, g, d, t + 1, os⟩ "BaseException.__getattribute__" "BaseException" "__getattribute__" (.ref x) [.str "__class__" t] [] _ (by decide +kernel) (by decide +kernel) sub (PySem.F.args_bexc_ga (.ref x) (.str "__class__" t)) ?_
  unfold Builtin.«object.__getattribute__»
  refine wpAny_bind (wpAny_of_eq (a := ((Value.ref x : Value), [Value.str "__class__" t])) (by first | rfl | (simp only [slotArgs]; rfl)) ?_)
  refine wpAny_bind (wpAny_pure (wpAny_bind (L0.at (wpAny_bind (L3.at ?_)))))
  show wpAny _ _ (holding [Value.builtin "object.__class__"] (call (.builtin "getset_descriptor.__get__") [.builtin "object.__class__", .ref x, .ref D]) >>= ret) _ _ _
  refine wpAny_bind (wpAny_holding (wpAny_call (class_get (s := ⟨hp, g, d, t + 1, os⟩) (ox := ox) (od := od) X I hm ?_)))
  refine wpAny_pure ?_
  show wpAny _ _ (handedOut (.ref D)) _ _ _
  rw [handedOut_of (v := .ref D) rfl]
  first
    | exact wpAny_pure (wpAny_pure h)
    | exact wpAny_pure h
    | exact wpAny_pure (wpAny_bind (wpAny_pure (wpAny_pure h)))
theorem gx_kitx (hga : findIn K (.ref D) "__getattribute__" = some (some (.builtin "BaseException.__getattribute__"))) (hgt : findIn K (.ref D) "__getattr__" = some none) (hsub : subIn K (.ref D) (.type "BaseException") = some true) (hdct : hasDictIn K D = true) (ha : findIn K (.ref D) "__class__" = some (some (.builtin "object.__class__")))
    (hn : specialIn K (.builtin "object.__class__") "__get__" = some (some (.builtin "getset_descriptor.__get__"))) (htk : takesIn K (.builtin "object.__class__") = some true) (hm : mroIn K D (.type "object") = some true) :
    KitX K (.ref x) (.ref D) (fun h => InstAt h x ox D od) where
  ty := fun _ _ _ I => I.type
  it := fun _ _ X _ => by
    obtain ⟨cdD, hcD, _⟩ := any_some hdct
    unfold clsIn at hcD
    split at hcD
    · rename_i c' d' cd' sl' ho
      intro A' Q' E' s' k q
      unfold isType loadHead
      exact wpAny_bind (wpAny_loadPart (k _ _ (X _ _ ho)) (wpAny_pure q))
    · cases hcD
  ne := fun h tp dd its n sl X htp => by
    obtain ⟨cdD, hcD, _⟩ := any_some hdct
    refine Bool.eq_false_iff.mpr fun q => ?_
    have e : D = tp := Value.ref.inj (beq_iff_eq.mp q)
    subst e
    unfold clsIn at hcD
    split at hcD
    · rename_i c' d' cd' sl' ho
      have z := (X _ _ ho).symm.trans htp
      cases z
    · cases hcD
  ca := fun X I k => gx_classE hga hgt hsub hdct ha hn htk hm X I k
end
end PySem.W
namespace L2
open PySem PySem.Spec PyProof.Rows
/-- isinstance(e, c), e an exception that is pinned -/
def rIsP (K : PySem.W.Frag) (a : Addr) (cls : Value) (d : Option Addr) : List V → Hp → VK → Prop := fun xs H Q => ∃ (D : Addr) (c : V) (cv : Value) (b : Bool), cls = .ref D ∧ ExcC K D ∧ xs = [.ref a, c] ∧ (∀ u, RelV c u → u = cv) ∧ PySem.W.kitOne K (.ref D) cv = some b ∧ (∀ dx, d = some dx → ∃ fs, H dx = some (.xd fs)) ∧ Q (.bl b) H
theorem call_isP {X : Cx} {a : Addr} {oe : Obj} {cls : Value} {d : Option Addr} (hp : (a, oe) ∈ X.pn) (hz : Zc cls d oe) (hf : ∃ vs, oe.data = .fields vs) : CallR X (.builtin "isinstance") (rIsP X.K a cls d) := by
  intro pins s σ H xs us Q I r h
  obtain ⟨D, c, cv, b, rfl, C, rfl, hcv, e, hd, q⟩ := h
  cases r with
  | cons rx rr =>
    cases rr with
    | cons rt rr =>
      cases rr
      cases rx
      have ec := hcv _ rt
      subst ec
      obtain ⟨hget, _⟩ := I.pin (a, oe) (List.mem_append.mpr (.inl hp))
      obtain ⟨vs, hv⟩ := hf
      obtain ⟨od, J⟩ : ∃ od, PySem.W.InstAt s.heap a oe D od := by
        obtain ⟨oc, odd, oda, osl⟩ := oe
        obtain ⟨h1, h2⟩ := hz
        dsimp only at h1 h2 hv
        subst h1 h2 hv
        cases odd with
        | none => exact ⟨none, hget, rfl, rfl, trivial⟩
        | some dx =>
          obtain ⟨fs, ea⟩ := hd dx rfl
          have hx : ObjOk X.prog X.w H s.heap dx (.xd fs) := I.hok dx _ ea
          obtain ⟨mA, hns, hr⟩ := hx
          obtain ⟨o, es, ep, ho, _⟩ := id hns
          exact ⟨some o, hget, rfl, rfl, ho⟩
      exact PySem.W.kia_one (PySem.W.gx_kitx C.hg C.hk C.hs C.hd C.ha C.hn C.ht C.hm) I.kIn J e (fun z => nomatch z) fun tk => ⟨.bl b, H, I.kept (t' := tk) fun _ _ z => z, rfl, q⟩
/-- an exception class may be named by kitOne -/
theorem kit_exc {K : PySem.W.Frag} {D C : Addr} {b : Bool} (hd : PySem.W.hasDictIn K C = true) (ht : PySem.W.typeIn K (.ref C) = some (.type "type")) (h : PySem.W.subIn K (.ref D) (.ref C) = some b) (hs : D = C → b = true) : PySem.W.kitOne K (.ref D) (.ref C) = some b := by
  unfold PySem.W.kitOne
  split
  · rename_i e
    have e := beq_iff_eq.mp e
    rw [hs (by cases e; rfl)]
  · obtain ⟨cd, hc, _⟩ := PySem.W.any_some hd
    have e : ((PySem.W.clsIn K C).isSome && PySem.W.typeIn K (.ref C) == some (.type "type")) = true := by rw [hc, ht] <;> rfl
    show (if ((PySem.W.clsIn K C).isSome && PySem.W.typeIn K (.ref C) == some (.type "type")) = true then PySem.W.subIn K (.ref D) (.ref C) else none) = some b
    rw [if_pos e]
    exact h
def SPK (X : Cx) (pins : List (Addr × Obj)) (rest : List Stmt) (D : Ends) (u : TS) (f : Flow) (s' : Shared) : Prop :=
  match f with
  | .next => (∃ σ' H', Inv X pins σ' H' s' ∧ u D σ' H') ∨ ∃ (a : Addr) (oe : Obj) (tr : TS) (σ' : St) (H' : Hp), PSs (X.tr ((a, oe) :: (X.pn ++ pins)) fun _ _ => False) rest tr ∧ Inv (X.tr ((a, oe) :: (X.pn ++ pins)) fun _ _ => False) [] σ' H' s' ∧ tr D σ' H'
  | .brk => ∃ σ' H', Inv X pins σ' H' s' ∧ D.bk σ' H'
  | .cont => ∃ σ' H', Inv X pins σ' H' s' ∧ D.ct σ' H'
  | .ret u => ∃ v σ' H', Inv X pins σ' H' s' ∧ RelV v u ∧ D.rt v H'
section
variable {X : Cx} {pins : List (Addr × Obj)} {σ : St} {H : Hp} {s : Shared}
theorem Inv.ofKeep {q : Addr × Obj} {pn' : List (Addr × Obj)} {xe : Value → Shared → Prop} (I : Inv (X.tr (q :: (X.pn ++ pins)) xe) pn' σ H s) (ok : X.Ok) : Inv X pins σ H s :=
  ⟨ok, I.os, I.bare, I.base, I.loc, I.cell, I.free, I.freeC, fun p hp => I.pin p (List.mem_append_left _ (List.mem_cons_of_mem _ hp)), I.hok, I.len⟩
theorem Inv.suiteK {a : Addr} {oe : Obj} (I : Inv (X.suite a ((a, oe) :: (X.pn ++ pins))) [] σ H s) (ok : X.Ok) (xe : Value → Shared → Prop) : Inv (X.tr ((a, oe) :: (X.pn ++ pins)) xe) [] σ H s :=
  ⟨ok.toTry _ _, I.os, I.bare, I.base, I.loc, I.cell, I.free, I.freeC, fun p hp => I.pin p hp, I.hok, I.len⟩
end
/-- what the clauses wish; each has its suite's reading and that of what follows -/
def wKeepA (K : PySem.W.Frag) (Wout : WX) (D : Ends) : List (Value × Nat × (Addr → Value → Option Addr → TS) × (Addr → Value → Option Addr → TS)) → WX
  | [] => Wout
  | (c, i, ts, tr) :: r => fun cls d σ H => ∃ b, PySem.W.exmOne K cls c = some b ∧
      (b = true → ∀ a, H a = none → ts a cls d { nx := fun σ' H' => tr a cls d D (σ'.set i none) H', rt := D.rt, bk := fun σ' H' => D.bk (σ'.set i none) H', ct := fun σ' H' => D.ct (σ'.set i none) H' } (σ.set i (some (.ref a))) H) ∧ (b = false → wKeepA K Wout D r cls d σ H)
inductive HdsK (X : Cx) (rest : List Stmt) : List ExceptHandler → List (Value × Nat × (Addr → Value → Option Addr → TS) × (Addr → Value → Option Addr → TS)) → Prop
  | nil : HdsK X rest [] []
  | as {x n : Str} {i : Nat} {c : Value} {ts tr : Addr → Value → Option Addr → TS} {b₀ : Stmt} {suite : List Stmt} {np pos' : Pos} {hds : List ExceptHandler} {l : List (Value × Nat × (Addr → Value → Option Addr → TS) × (Addr → Value → Option Addr → TS))} (hN : X.N.Nodup) (hi : X.N[i]? = some n) (hln : X.env.kindOf n = some .local) (hc : Names X x c)
      (hsu : ∀ (a : Addr) (oe : Obj) (cls : Value) (d : Option Addr) (pn : List (Addr × Obj)), Zc cls d oe → (∃ vs, oe.data = .fields vs) → PSs (X.suite a ((a, oe) :: pn)) (b₀ :: suite) (ts a cls d))
      (hre : ∀ (a : Addr) (oe : Obj) (cls : Value) (d : Option Addr) (pn : List (Addr × Obj)), Zc cls d oe → (∃ vs, oe.data = .fields vs) → PSs (X.tr ((a, oe) :: pn) fun _ _ => False) rest (tr a cls d)) (r : HdsK X rest hds l) :
      HdsK X rest (.ExceptHandler (some (.Name x np)) (some n) (b₀ :: suite) pos' :: hds) ((c, i, ts, tr) :: l)
section
variable {X : Cx} {body rest : List Stmt} {h₀ : ExceptHandler} {hds : List ExceptHandler} {l : List (Value × Nat × (Addr → Value → Option Addr → TS) × (Addr → Value → Option Addr → TS))} {pos : Pos} {tb : WX → TS} {u : TS} {Wout : WX}
theorem pss_try_keep (hs : X.stack = X.env :: X.outer) (hf : X.env.frame = some X.env.locals) (tk : Takes X Wout)
    (hb : ∀ (W : WX) (pn : List (Addr × Obj)) (xe : Value → Shared → Prop), Takes (X.tr pn xe) W → PassesOwn (model X.prog X.w) X.A X.env xe → PSs (X.tr pn xe) body (tb W))
    (hh : HdsK X rest (h₀ :: hds) l) (hr : PSs X rest u) : PSs X (.Try body (h₀ :: hds) [] [] pos :: rest) (fun D σ H => tb (wKeepA X.K Wout D l) { D with nx := u D } σ H) := by
  refine ⟨fun pins s σ H D I h => ?_⟩
  have ok := I.ok
  refine wpAny_execs_cons (wpAny_mono (Q := SPK X pins rest D u) (E := X.xe) ?_ (fun f s1 q => ?_) fun _ _ x => x)
  · have hfr : X.A.frames = some (X.env :: X.outer) := by rw [ok.frames, hs]
    refine wpAny_Try_except ?_
    refine wpAny_mono ((hb (wKeepA X.K Wout D l) (X.pn ++ pins) (fun e s₁ => wpAny (model X.prog X.w) X.A (noteFrame e X.env) (fun _ s₂ => wpAny (model X.prog X.w) X.A (setFlight e none) (fun _ s₃ =>
      wpAny (model X.prog X.w) X.A (handleBy e X.env (h₀ :: hds)) (SPK X pins rest D u) X.xe s₃) X.xe s₂) X.xe s₁) (fun u s' xx => ?_) PassesOwn.looking).run [] s σ H { D with nx := u D } (I.toTry _) h) (fun f s1 hsp => ?_) (fun e s1 he => he)
    · obtain ⟨a, B, sI, pins', σ', H', cls, d, rfl, J', nb, up, sky, na, os, ag, w⟩ := xx
      have J : Inv X pins σ' H' sI := J'.ofTry ok
      have sky' : Sky B (X.env :: X.outer) a (Zc cls d) X.env.locals s'.heap := by rw [← hs]; exact sky
      show wpAny _ X.A (noteFrame (.ref a) X.env) _ _ _
      refine Sky.land Zc.steady hfr hf sky' fun h3 fl3 up3 => ?_
      have J3 : Inv X pins σ' H' { s' with heap := h3 } := J.landed nb fl3.1 (up.trans up3) os ag
      obtain ⟨oe3, vs3, he3, hz3, hd3⟩ := fl3.there
      have notFr : ∀ {h : Heap} {o : Obj} {vs : Array Value}, h.FunFrames B (X.env :: X.outer) → h.get? a = some o → o.data = .fields vs → a ∉ frs (X.env :: X.outer) := fun {h o vs} ff e dd hm => by
        obtain ⟨_, o', e', hnf⟩ := ff.mem hm
        rw [e] at e'; cases e'
        exact hnf _ dd
      have nfr := notFr fl3.2.2.1 he3 hd3
      have nL : a ≠ X.env.locals := fun z => nfr (List.mem_filterMap.mpr ⟨X.env, List.mem_cons_self, by rw [hf, z]⟩)
      have nF : a ∉ X.fs := fun hm => by
        obtain ⟨e, he, q⟩ := List.mem_filterMap.mp hm
        exact nfr (List.mem_filterMap.mpr ⟨e, List.mem_cons_of_mem _ he, q⟩)
      have S3 := J3.suite he3 hd3 na nL nF
      have go : ∀ {hds' : List ExceptHandler} {l' : List (Value × Nat × (Addr → Value → Option Addr → TS) × (Addr → Value → Option Addr → TS))}, HdsK X rest hds' l' → wKeepA X.K Wout D l' cls d σ' H' →
          wpAny (model X.prog X.w) X.A (handleBy (.ref a) X.env hds') (SPK X pins rest D u) X.xe { s' with heap := h3 } := by
        intro hds' l' hk
        induction hk with
        | nil =>
          intro w
          refine wpAny_handleBy_nil ?_
          obtain ⟨k1, k2, k3, oe, vs, T, oT, ts', he, hz, hd, h1, hr⟩ := id fl3
          unfold PySem.passOn
          refine wpAny_bind (wpAny_field he hd h1 ?_)
          rw [if_neg (show ¬ ((Value.ref T == Value.none) = true) from by simp)]
          have fin : wpAny (model X.prog X.w) X.A (setFlight (.ref a) X.env.frame) (fun _ s4 => wpAny (model X.prog X.w) X.A (throw (.ref a) : Sem Flow) (SPK X pins rest D u) X.xe s4) X.xe { s' with heap := h3 } := by
            rw [hf]
            refine HandSPX.setFlight_upZ fl3 fun h4 hh4 up4 => wpAny_throw (tk _ _ ?_)
            exact ⟨a, B, sI, pins, σ', H', cls, d, rfl, J, nb, (up.trans up3).trans up4, .inr (.inr (by rw [hs]; exact hh4)), na, os, ag, w⟩
          first
            | exact wpAny_bind (wpAny_pure (wpAny_bind fin))
            | exact wpAny_bind fin
        | @as x n i c ts tr b₀ suite np pos' hds2 l2 hN hi hln hc hsu hre r ih =>
          intro w
          obtain ⟨b, hb1, hyes, hno⟩ := w
          have hloc : Loc X.env.scope n := .inl hln
          refine wpAny_handleBy_cons (codeAny_handlers_test ?_) (by intro q; cases q)
          have LT : PySem.W.Looks (model X.prog X.w) h3 (typeOf (.ref a)) cls := fun A Q E s k q => wpAny_typeOf_ref (k _ _ he3) (by rw [hz3.1]; exact q)
          have LM := PySem.W.exm_one (M := model X.prog X.w) (J3.kIn) LT hb1
          have test : ∀ {Q : Value → Shared → Prop} {E : Value → Shared → Prop}, Q c { s' with heap := h3 } → wpAny (model X.prog X.w) (X.A.mark (some (.ref a))) (eval (.Name x np) X.env) Q E { s' with heap := h3 } := fun {Q E} q => by
            obtain ⟨hg, hdbg, hm | ⟨hm, hv, hnn⟩⟩ := hc
            · exact ld_glob (X := X.suite a ((a, oe3) :: (X.pn ++ pins))) S3 hg hm q hdbg
            · exact ld_blt (X := X.suite a ((a, oe3) :: (X.pn ++ pins))) S3 hg hm hv q hnn hdbg
          refine test (LM.here ?_)
          cases b with
          | true =>
            refine codeAny_handlers_suite_as ?_
            refine HandSPX.lands_againZ fl3 fun h4 fl4 up4 => ?_
            have J4 : Inv X pins σ' H' { s' with heap := h4 } := J.landed nb fl4.1 ((up.trans up3).trans up4) os ag
            obtain ⟨oe4, vs4, he4, hz4, hd4⟩ := fl4.there
            have S4 := J4.suite he4 hd4 na nL nF
            refine store_ok (X := X.suite a ((a, oe4) :: (X.pn ++ pins))) (v := .ref a) S4 hN hi hloc rfl (fun s5 S5 => ?_) (.inr hln)
            refine wpAny_mono ((hsu a oe4 cls d (X.pn ++ pins) hz4 ⟨_, hd4⟩).run [] s5 _ H' _ S5 (hyes rfl a na)) (fun f s6 hsp => ?_) (fun _ _ z => False.elim z)
            have end_ : ∀ {σ6 : St} {H6 : Hp} {Q : Shared → Prop}, Inv (X.suite a ((a, oe4) :: (X.pn ++ pins))) [] σ6 H6 s6 → (∀ s7, Inv X pins (σ6.set i none) H6 s7 → Q s7) →
                wpAny (model X.prog X.w) X.A (do bindName X.env n .none; unbindBehindTheSuite X.env n pos') (fun _ s7 => Q s7) X.xe s6 := fun {σ6 H6 Q} S6 hq => gone_ok (S6.unsuite ok) hN hi hln hq
            cases f with
            | next =>
              obtain ⟨σ6, H6, S6, q6⟩ := hsp
              refine gone_ok (X := X.tr ((a, oe4) :: (X.pn ++ pins)) fun _ _ => False) (pins := []) (S6.suiteK ok _) hN hi hln fun s7 J7 => ?_
              exact .inr ⟨a, oe4, tr a cls d, _, _, hre a oe4 cls d (X.pn ++ pins) hz4 ⟨_, hd4⟩, J7, q6⟩
            | brk =>
              obtain ⟨σ6, H6, S6, q6⟩ := hsp
              exact end_ S6 fun s7 J7 => ⟨_, _, J7, q6⟩
            | cont =>
              obtain ⟨σ6, H6, S6, q6⟩ := hsp
              exact end_ S6 fun s7 J7 => ⟨_, _, J7, q6⟩
            | ret u =>
              obtain ⟨v6, σ6, H6, S6, r6, q6⟩ := hsp
              exact end_ S6 fun s7 J7 => ⟨_, _, _, J7, r6, q6⟩
          | false =>
            show wpAny _ X.A (handleBy (.ref a) X.env hds2) _ _ _
            exact ih (hno rfl)
      exact go hh w
    · cases f with
      | next =>
        obtain ⟨σ', H', J', q⟩ := hsp
        exact wpAny_execs_nil (.inl ⟨σ', H', J'.ofTry ok, q⟩)
      | brk =>
        obtain ⟨σ', H', J', q⟩ := hsp
        exact ⟨σ', H', J'.ofTry ok, q⟩
      | cont =>
        obtain ⟨σ', H', J', q⟩ := hsp
        exact ⟨σ', H', J'.ofTry ok, q⟩
      | ret u =>
        obtain ⟨v, σ', H', J', r, q⟩ := hsp
        exact ⟨v, σ', H', J'.ofTry ok, r, q⟩
  · cases f with
    | next =>
      rcases q with ⟨σ', H', J, q⟩ | ⟨a, oe, tr, σ', H', ht, J, q⟩
      · exact hr.run pins s1 σ' H' D J q
      · refine wpAny_mono (ht.run [] s1 σ' H' D J q) (fun f s2 hsp => ?_) fun _ _ z => False.elim z
        cases f with
        | next =>
          obtain ⟨σ6, H6, S6, q6⟩ := hsp
          exact ⟨_, _, S6.ofKeep ok, q6⟩
        | brk =>
          obtain ⟨σ6, H6, S6, q6⟩ := hsp
          exact ⟨_, _, S6.ofKeep ok, q6⟩
        | cont =>
          obtain ⟨σ6, H6, S6, q6⟩ := hsp
          exact ⟨_, _, S6.ofKeep ok, q6⟩
        | ret u =>
          obtain ⟨v6, σ6, H6, S6, r6, q6⟩ := hsp
          exact ⟨_, _, _, S6.ofKeep ok, r6, q6⟩
    | ret v => exact q
    | brk => exact q
    | cont => exact q
end
end L2
namespace G
open PySem PySem.Spec L2
/-- the exception's own dict is still told -/
def Hld (d : Option Addr) (r : Rs) : Prop := ∀ dx, d = some dx → ∃ fs ds pre post, r = pre ++ xdA dx fs ds :: post
theorem hld_app0 {d : Option Addr} {r : Rs} {fs : List Str} {ds : List D} : Hld d (r ++ held d fs ds) := fun dx e => by
  subst e
  exact ⟨fs, ds, r, [], by simp [held]⟩
theorem Hld.at_ {K : PySem.W.Frag} {d : Option Addr} {r : Rs} {H : Hp} (h : Hld d r) (o : Rok K r H) : ∀ dx, d = some dx → ∃ fs, H dx = some (.xd fs) := fun dx e => by
  obtain ⟨fs, ds, pre, post, rfl⟩ := h dx e
  obtain ⟨_, ⟨⟨kvs, h1, _, _⟩, _, _⟩, _⟩ := hold_append.mp (show hold K _ (pre ++ (xdA dx fs ds :: post)) H from o)
  exact ⟨kvs, h1⟩
/-- Cs: the classes that it may be of, and what isinstance answers -/
def aIsP (a : Addr) (cls : Value) (d : Option Addr) (Cs : List (Addr × Bool)) (t : AT) : AT := fun x δ r P => t x δ r fun e r1 => e = .adr a ∧ ∃ D b, cls = .ref D ∧ (D, b) ∈ Cs ∧ Hld d r1 ∧ P (.bl b) r1
section
variable {X : Cx} {W : WX} {a : Expr} {ta : AT} {p pos : Pos} {ea : Addr} {oe : Obj} {cls : Value} {d : Option Addr} {Cs : List (Addr × Bool)}
/-- isinstance(e, C), C an own class -/
theorem d_isP {q : Pos} {y : Str} {C : Addr} (hp : (ea, oe) ∈ X.pn) (hz : Zc cls d oe) (hf : ∃ vs, oe.data = .fields vs) (hC : ∀ p ∈ Cs, ExcC X.K p.1 ∧ PySem.W.kitOne X.K (.ref p.1) (.ref C) = some p.2) (hg : Gl X "isinstance") (hm : X.mg "isinstance" = none) (ha : PD X W a ta) (my : X.mg y = some (.ref C)) (gy : Gl X y := by rfl) (hdy : (y == ("__debug__" : Str)) = false := by decide)
    (he : starEach [a, .Name y q] X.env = (false, eval a X.env) :: starEach [.Name y q] X.env := by rfl) (hpl : (backTo pos (starEach [.Name y q] X.env)).any (·.1) = false := by rfl) (he2 : starEach [.Name y q] X.env = (false, eval (.Name y q) X.env) :: starEach [] X.env := by rfl) :
    PD X W (.Call (.Name "isinstance" p) [a, .Name y q] [] pos) (aIsP ea cls d Cs ta) := imE (pe_callB (call_isP hp hz hf) hg hm (by decide +kernel) (pa_cons ha (pa_cons (pe_glob (v := .ref C) gy my rfl hdy) pa_nil he2) he) (by decide) (by decide) he hpl) fun σ H Q q => by
  obtain ⟨XR, δ, r, P, ok, h, k'⟩ := q
  refine td_bind ok h fun e r1 v H1 h1 o1 k1 i1 => ?_
  obtain ⟨rfl, D, b, rfl, hm, hl, p⟩ := h1
  cases i1
  obtain ⟨c1, c2⟩ := hC _ hm
  exact ⟨D, .ref C, _, b, rfl, c1, rfl, fun u e => e, c2, hl.at_ o1.r, k' _ r1 _ H1 p o1 k1 (.bl _)⟩
/-- isinstance(e, X), X a built-in class -/
theorem d_isPb {q : Pos} {y : Str} {T : String} (hp : (ea, oe) ∈ X.pn) (hz : Zc cls d oe) (hf : ∃ vs, oe.data = .fields vs) (hC : ∀ p ∈ Cs, ExcC X.K p.1 ∧ PySem.W.kitOne X.K (.ref p.1) (.type T) = some p.2) (hg : Gl X "isinstance") (hm : X.mg "isinstance" = none) (ha : PD X W a ta) (my : X.mg y = none) (gy : Gl X y := by rfl) (hv : bootBuiltins y = some (.type T) := by decide +kernel) (hn : y ≠ ("__name__" : Str) := by decide) (hdy : (y == ("__debug__" : Str)) = false := by decide)
    (he : starEach [a, .Name y q] X.env = (false, eval a X.env) :: starEach [.Name y q] X.env := by rfl) (hpl : (backTo pos (starEach [.Name y q] X.env)).any (·.1) = false := by rfl) (he2 : starEach [.Name y q] X.env = (false, eval (.Name y q) X.env) :: starEach [] X.env := by rfl) :
    PD X W (.Call (.Name "isinstance" p) [a, .Name y q] [] pos) (aIsP ea cls d Cs ta) := imE (pe_callB (call_isP hp hz hf) hg hm (by decide +kernel) (pa_cons ha (pa_cons (pe_bltn (v := .ty T) gy my hv rfl hn hdy) pa_nil he2) he) (by decide) (by decide) he hpl) fun σ H Q q => by
  obtain ⟨XR, δ, r, P, ok, h, k'⟩ := q
  refine td_bind ok h fun e r1 v H1 h1 o1 k1 i1 => ?_
  obtain ⟨rfl, D, b, rfl, hm, hl, p⟩ := h1
  cases i1
  obtain ⟨c1, c2⟩ := hC _ hm
  exact ⟨D, .ty T, _, b, rfl, c1, rfl, fun u e => e, c2, hl.at_ o1.r, k' _ r1 _ H1 p o1 k1 (.bl _)⟩
end
structure ClK where
  Cs : List (Addr × Bool)
  i : Nat
  u : Addr → Value → Option Addr → AS
  v : Addr → Value → Option Addr → AS
def sHdsK (A : An) : List ClK → XT
  | [] => A.xr
  | c :: cs => fun C fs ds δ r => ∃ b, (C, b) ∈ c.Cs ∧ (b = true → ∀ (a : Addr) (d : Option Addr), (d = none → fs = [] ∧ ds = []) →
      c.u a (.ref C) d { nx := fun δ' r' => c.v a (.ref C) d { nx := dropR A.nx, rt := fun v r' => ∃ r2, le r' r2 ∧ A.rt v r2, bk := dropR A.bk, ct := dropR A.ct } (δ'.set c.i none) r', rt := fun v r' => ∃ r2, le r' r2 ∧ A.rt v r2, bk := dropR fun δ' => A.bk (δ'.set c.i none), ct := dropR fun δ' => A.ct (δ'.set c.i none) } (δ.set c.i (some (.adr a))) (r ++ held d fs ds)) ∧
    (b = false → sHdsK A cs C fs ds δ r)
def sTryK (tb : AS) (cs : List ClK) (u : AS) : AS := fun A δ r => tb { A with nx := fun δ' r' => u A δ' r', xr := sHdsK A cs } δ r
inductive HdsG (X : Cx) (rest : List Stmt) : List ExceptHandler → List ClK → Prop
  | nil : HdsG X rest [] []
  | as {x n : Str} {i : Nat} {c : Value} {Cs : List (Addr × Bool)} {u v : Addr → Value → Option Addr → AS} {b₀ : Stmt} {suite : List Stmt} {np pos' : Pos} {hds : List ExceptHandler} {l : List ClK} (hN : X.N.Nodup) (hi : X.N[i]? = some n) (hln : X.env.kindOf n = some .local) (hc : Names X x c) (hC : ∀ p ∈ Cs, PySem.W.exmOne X.K (.ref p.1) c = some p.2)
      (hsu : ∀ (a : Addr) (oe : Obj) (cls : Value) (d : Option Addr) (pn : List (Addr × Obj)), Zc cls d oe → (∃ vs, oe.data = .fields vs) → PBD (X.suite a ((a, oe) :: pn)) W0 (b₀ :: suite) (u a cls d))
      (hre : ∀ (a : Addr) (oe : Obj) (cls : Value) (d : Option Addr) (pn : List (Addr × Obj)), Zc cls d oe → (∃ vs, oe.data = .fields vs) → PBD (X.tr ((a, oe) :: pn) fun _ _ => False) W0 rest (v a cls d)) (r : HdsG X rest hds l) :
      HdsG X rest (.ExceptHandler (some (.Name x np)) (some n) (b₀ :: suite) pos' :: hds) (⟨Cs, i, u, v⟩ :: l)
theorem hdsK_of {X : Cx} {W : WX} {rest : List Stmt} : ∀ {hds : List ExceptHandler} {cs : List ClK}, HdsG X rest hds cs → ∃ l, HdsK X rest hds l ∧ ∀ (D : Ends) (A : An) (r : Rs) (H : Hp), Xc X.K W A.xr r H → Fin X.K W A r H D → Xc X.K (wKeepA X.K W D l) (sHdsK A cs) r H := by
  intro hds cs h
  induction h with
  | nil => exact ⟨[], .nil, fun D A r H x f => x⟩
  | @as x n i c Cs u v b₀ suite np pos' hds l hN hi hln hc hC hsu hre r ih =>
    obtain ⟨l', hl, hx⟩ := ih
    refine ⟨(c, i, (fun a cls d => TSD X.K W0 (u a cls d)), fun a cls d => TSD X.K W0 (v a cls d)) :: l', .as hN hi hln hc hsu hre hl, fun D A r H x f => ?_⟩
    rintro C fs ds δ' r' σ' a H' ⟨b, hb, ht, hf⟩ o k e
    refine ⟨b, hC _ hb, fun q a0 na => ?_, fun q => hx D A r H x f C fs ds δ' r' σ' a H' (hf q) o k e⟩
    obtain ⟨q1, q2⟩ := held_ok o.r e
    have hh := ht q a0 a (fun z => by subst z; exact e)
    refine ⟨δ'.set i (some (.adr a0)), r' ++ held a fs ds, _, ⟨(o.step q2 q1).set (.adr a0), ?_⟩, hh, ?_⟩
    · exact fun _ _ _ _ _ _ _ _ z => z.elim
    refine ⟨?_, ?_, ?_, ?_⟩
    · intro δ2 r2 σ2 H2 q3 o2 k2
      refine ⟨_, r2, _, ⟨o2.b.drop, ?_⟩, q3, ?_⟩
      · exact fun _ _ _ _ _ _ _ _ z => z.elim
      refine ⟨?_, ?_, ?_, ?_⟩
      · rintro δ3 r3 σ3 H3 ⟨r4, l4, q4⟩ o3 k3
        exact f.nx _ _ _ _ q4 ⟨o3.b.step l4.kp (l4.r _ _ o3.r), x.step ((((k.trans q2).trans k2).trans k3).trans l4.kp)⟩ ((((k.trans q2).trans k2).trans k3).trans l4.kp)
      · rintro d r3 v3 H3 ⟨r4, l4, q4⟩ o3 k3 i3
        exact f.rt _ _ _ _ q4 (l4.r _ _ o3) ((((k.trans q2).trans k2).trans k3).trans l4.kp) (l4.kp _ _ i3)
      · rintro δ3 r3 σ3 H3 ⟨r4, l4, q4⟩ o3 k3
        exact f.bk _ _ _ _ q4 ⟨o3.b.step l4.kp (l4.r _ _ o3.r), x.step ((((k.trans q2).trans k2).trans k3).trans l4.kp)⟩ ((((k.trans q2).trans k2).trans k3).trans l4.kp)
      · rintro δ3 r3 σ3 H3 ⟨r4, l4, q4⟩ o3 k3
        exact f.ct _ _ _ _ q4 ⟨o3.b.step l4.kp (l4.r _ _ o3.r), x.step ((((k.trans q2).trans k2).trans k3).trans l4.kp)⟩ ((((k.trans q2).trans k2).trans k3).trans l4.kp)
    · rintro d r2 v H2 ⟨r3, l3, q3⟩ o2 k2 i
      exact f.rt _ _ _ _ q3 (l3.r _ _ o2) (((k.trans q2).trans k2).trans l3.kp) (l3.kp _ _ i)
    · rintro δ2 r2 σ2 H2 ⟨r3, l3, q3⟩ o2 k2
      exact f.bk _ _ _ _ q3 ⟨(o2.b.step l3.kp (l3.r _ _ o2.r)).drop, x.step (((k.trans q2).trans k2).trans l3.kp)⟩ (((k.trans q2).trans k2).trans l3.kp)
    · rintro δ2 r2 σ2 H2 ⟨r3, l3, q3⟩ o2 k2
      exact f.ct _ _ _ _ q3 ⟨(o2.b.step l3.kp (l3.r _ _ o2.r)).drop, x.step (((k.trans q2).trans k2).trans l3.kp)⟩ (((k.trans q2).trans k2).trans l3.kp)
section
variable {X : Cx} {W : WX} {body rest : List Stmt} {h₀ : ExceptHandler} {hds : List ExceptHandler} {cs : List ClK} {pos : Pos} {tb u : AS}
theorem ss_tryK (tk : Takes X W) (hb : ∀ (W' : WX) (pn : List (Addr × Obj)) (xe : Value → Shared → Prop), Takes (X.tr pn xe) W' → PassesOwn (model X.prog X.w) X.A X.env xe → PBD (X.tr pn xe) W' body tb)
    (hh : HdsG X rest (h₀ :: hds) cs) (hr : PBD X W rest u) (hs : X.stack = X.env :: X.outer := by rfl) (hf : X.env.frame = some X.env.locals := by rfl) : PBD X W (.Try body (h₀ :: hds) [] [] pos :: rest) (sTryK tb cs u) := by
  obtain ⟨l, hl, hx⟩ := hdsK_of (W := W) hh
  refine imSs (pss_try_keep (tb := fun W' => TSD X.K W' tb) hs hf tk (fun W' pn xe tk' po => hb W' pn xe tk' po) hl hr) fun D σ H ⟨δ, r, A, o, h, f⟩ => ?_
  refine ⟨δ, r, { A with nx := fun δ' r' => u A δ' r', xr := sHdsK A cs }, ⟨o.b, hx D A r H o.x f⟩, h, ?_⟩
  have ok : ∀ {r' : Rs} {δ' : Dl} {σ' : L2.St} {H' : Hp} {W' : WX} {XR : XT}, Ok X.K W' XR r' δ' σ' H' → Kp X.K r H r' H' → Ok X.K W A.xr r' δ' σ' H' := fun o' k => ⟨o'.b, o.x.step k⟩
  exact ⟨fun δ' r' σ' H' a o' k => ⟨δ', r', A, ok o' k, a, f.step k⟩, f.rt, fun δ' r' σ' H' a o' k => f.bk _ _ _ _ a (ok o' k) k, fun δ' r' σ' H' a o' k => f.ct _ _ _ _ a (ok o' k) k⟩
/-- an expression that is never met -/
theorem d_never {e : Expr} : PD X W e (fun _ _ _ _ => False) := ⟨fun _ _ _ _ _ _ ⟨_, _, _, _, _, h, _⟩ => h.elim⟩
end
theorem kp0 {K : PySem.W.Frag} {c : Value} : ∀ p ∈ ([] : List (Addr × Bool)), ExcC K p.1 ∧ PySem.W.kitOne K (.ref p.1) c = some p.2 := fm_nil
theorem kpc {K : PySem.W.Frag} {c : Value} {C : Addr} {b : Bool} {l : List (Addr × Bool)} (h : ExcC K C ∧ PySem.W.kitOne K (.ref C) c = some b) (t : ∀ p ∈ l, ExcC K p.1 ∧ PySem.W.kitOne K (.ref p.1) c = some p.2) : ∀ p ∈ (C, b) :: l, ExcC K p.1 ∧ PySem.W.kitOne K (.ref p.1) c = some p.2 := fm_cons h t
end G
namespace G
open PySem PySem.Spec PyProof.Rows L2 LamX NdefX
end G
namespace G
open PySem PySem.Spec PyProof.Rows L2 LamX NdefX
end G
namespace G
open PySem PySem.Spec L2
end G
namespace G
open PySem PySem.Spec L2
open PyProof.Rows (envOfC)
def TabsAt (T : List (Addr × Str)) (H : Hp) : Prop := (T.map (·.1)).Nodup ∧ ∀ e ∈ T, H e.1 = some (.tbl #[])
theorem TabsAt.fresh {T : List (Addr × Str)} {H : Hp} {p : Addr} (h : TabsAt T H) (hp : H p = none) : p ∉ T.map (·.1) := fun z => by
  obtain ⟨e, he, rfl⟩ := List.mem_map.mp z
  rw [h.2 e he] at hp
  cases hp
end G
namespace G
open PySem PySem.Spec L2
end G
namespace G
open PySem PySem.Spec L2
end G
namespace G
open PySem PySem.Spec L2
/-- an exception at a of the class at C with its dict at dx, one field -/
def exA (a C dx : Addr) (fld : Str) (d : D) : At where
  M := fun b => b = a ∨ b = dx
  R := fun K N H => ∃ v, H a = some (exo a C (some dx)) ∧ H dx = some (exd dx [(fld, v)]) ∧ Is K N H v d
  loc := fun f g ⟨v, h1, h2, i⟩ => ⟨v, f _ _ (.inl rfl) h1, f _ _ (.inr rfl) h2, g _ _ i⟩
  anti := fun q ⟨v, h1, h2, i⟩ => ⟨v, h1, h2, is_anti q i⟩
  grow := fun hp ⟨v, h1, h2, i⟩ => ⟨v, h1, h2, is_growD hp i⟩
  al := fun ⟨v, h1, h2, _⟩ b z => z.elim (fun e => ⟨exo a C (some dx), e.symm ▸ h1⟩) fun e => ⟨exd dx [(fld, v)], e.symm ▸ h2⟩
/-- one without a field -/
def ex0A (a C : Addr) : At where
  M := fun b => b = a
  R := fun K N H => H a = some (exo a C none)
  loc := fun f g h => f _ _ rfl h
  anti := fun q h => h
  grow := fun hp h => h
  al := fun h b z => ⟨exo a C none, (show b = a from z).symm ▸ h⟩
end G
namespace L2
open PySem PySem.Spec PyProof.Rows G
/-- an error in the heap, with a dict or without -/
def ExoAt (H : Hp) (a D : Addr) : Prop := H a = some (exo a D none) ∨ ∃ dx fs, H a = some (exo a D (some dx)) ∧ H dx = some (exd dx fs)
end L2
namespace G
open PySem PySem.Spec L2
def ErrIn (r : Rs) (a D : Addr) : Prop := (∃ dx fld d pre post, r = pre ++ exA a D dx fld d :: post) ∨ ∃ pre post, r = pre ++ ex0A a D :: post
theorem ErrIn.at_ {K : PySem.W.Frag} {r : Rs} {H : Hp} {a D : Addr} (h : ErrIn r a D) (o : Rok K r H) : ExoAt H a D := by
  rcases h with ⟨dx, fld, d, pre, post, rfl⟩ | ⟨pre, post, rfl⟩
  · obtain ⟨v, e1, e2, _⟩ := mid_R o
    exact .inr ⟨dx, _, e1, e2⟩
  · exact .inl (mid_R (t := ex0A a D) o)
end G
namespace G
open PySem PySem.Spec L2 PySem.W PyProof.Rows
end G
namespace SXN
open PySem PySem.Spec PyProof.Rows L2 PySem.Froz
section
variable {P : Program} {w : World} {A : Around} {E : Value → Shared → Prop} {s : Shared}
def SetX (P : Program) (w : World) (h : Heap) (a : Addr) (l : List Str) : Prop := ∃ D : SD, h.get? a = some (sObj "set" D) ∧ TxOk P w D l ∧ l.Nodup ∧ Ris D.2.2.place.toList ∧ (w.params.followText "set-order" = true ∨ D.2.2.led = true)
theorem SetX.at_ {h h' : Heap} {a : Addr} {l : List Str} (R : SetX P w h a l) (k : ∀ o, h.get? a = some o → h'.get? a = some o) : SetX P w h' a l := by
  obtain ⟨D, ho, r⟩ := R
  exact ⟨D, k _ ho, r⟩
end
end SXN
namespace G
open PySem PySem.Spec L2
end G
namespace G
open PySem PySem.Spec L2
open PyProof.Rows (envOfC)
/-- what is asked of a call's surroundings, the callers' frames, the state, what is tracked -/
abbrev EntP := Around → List Env → Shared → Hp → Prop
/-- no repr is under way -/
def NoRepr : EntP := fun A _ _ _ => A.guards = some []
def FnE (P : Program) (w : World) (K : PySem.W.Frag) (mg : Str → Option Value) (base : Heap) (CX : CXT) (k : Nat) (f : Addr) (Ent : EntP) (sp : Sp) : Prop :=
  ∀ (A : Around) (outer : List Env) (s : Shared) (H : Hp) (us : List Value) (vs : List V) (Q : VK) (E : XK), Room k A → Env0 P w K mg base A outer s H → Ent A outer s H → Vals vs us → sp vs H Q E →
    codeAny (model P w) A (.call (.ref f) ⟨us, []⟩) (CR CX outer P w H s Q E) s
section
variable {P : Program} {w : World} {K : PySem.W.Frag} {mg : Str → Option Value} {base : Heap}
/-- the law's own def, by its body -/
theorem okQ {Ent : EntP} {x qual : Str} {st : Stmt} {f : Addr} {fd : FuncData} {N ps : List Str} {k : Nat} {sp : Sp} (F : Fun K x qual st f fd) (hb : Binds K fd ps []) (S : FnScope N ps (defScope st)) (len : ∀ vs H Q E, sp vs H Q E → vs.length = ps.length)
    (hbody : ∀ (cdv : Value) (A : Around) (outer : List Env) (s : Shared) (H : Hp) (vs : List V) (Q : VK) (E : XK), Room k (A.deeper (envOfC qual (defScope st) s.heap.objs.size f cdv)) → Ent A outer s H → sp vs H Q E →
      ∃ t, PSs (cxOf CX0 P w K mg base N qual (defScope st) f cdv A outer s H E).nox (defBody st) t ∧ t { nx := fun _ H' => Q .non H', rt := Q } (L2.start N vs) H) : FnE P w K mg base CX0 (k + 1) f Ent sp := by
  obtain ⟨oc, od, kV, doc, pm, an, cdv, ct, osl, rfl, lk, hcd⟩ := F.ex
  intro A outer s H us vs Q E hr e0 en r h
  have hl := len _ _ _ _ h
  have kin : K.In s.heap := e0.mod.kin.keeps fun b o e => (e0.bs b o e).1
  have hbs := hb s us kin (by rw [List.append_nil, ← r.length]; exact hl)
  rw [List.append_nil] at hbs
  refine LamX.run_ofS lk hcd S hr e0 hbs r hl fun hr' => ?_
  obtain ⟨t, h1, h2⟩ := hbody cdv A outer s H vs Q E hr' en h
  exact ⟨t, h1.nox, h2⟩
/-- a def of the text that is called by its name -/
def ClQ (P : Program) (w : World) (K : PySem.W.Frag) (mg : Str → Option Value) (base : Heap) (k : Nat) (x : Str) (Ent : EntP) (sd : SpX) : Prop :=
  ∃ f, FnE P w K mg base (L2.CX P w) k f Ent (lift K sd) ∧ mg x = some (.ref f) ∧ PySem.W.keepIn K (.ref f) = true
theorem clq_of {Ent : EntP} {x : Str} {st : Stmt} {N ps : List Str} {k : Nat} {sd : SpX} (Dx : Dfn K mg x st ps) (S : FnScope N ps (defScope st)) (len : ∀ ds r P' XR, sd ds r P' XR → ds.length = ps.length)
    (hbody : ∀ (f : Addr) (cdv : Value) (A : Around) (outer : List Env) (s : Shared) (H : Hp) (E : XK), Room k (A.deeper (envOfC x (defScope st) s.heap.objs.size f cdv)) → Ent A outer s H → Takes (cxOf (L2.CX P w) P w K mg base N x (defScope st) f cdv A outer s H E) (WK E) →
      PassesOwn (model P w) (cxOf (L2.CX P w) P w K mg base N x (defScope st) f cdv A outer s H E).A (cxOf (L2.CX P w) P w K mg base N x (defScope st) f cdv A outer s H E).env (cxOf (L2.CX P w) P w K mg base N x (defScope st) f cdv A outer s H E).xe →
      ∃ t : AS, PBD (cxOf (L2.CX P w) P w K mg base N x (defScope st) f cdv A outer s H E) (WK E) (defBody st) t ∧
      ∀ ds r P' XR, sd ds r P' XR → t { nx := fun _ r' => fit P' .non r', rt := fit P', xr := fitX XR } (startD N ds) r) : ClQ P w K mg base (k + 1) x Ent sd := by
  obtain ⟨f, fd, F, g, hb⟩ := Dx
  obtain ⟨oc, od, kV, doc, pm, an, cdv, ct, osl, rfl, lk, hcd⟩ := F.ex
  refine ⟨f, ?_, g, F.kp⟩
  rintro A outer s H us vs Q E hr e0 en rv ⟨r, ds, P', XR, ro, hi, hs, hq, hx⟩
  have hl : vs.length = ps.length := by rw [hi.length]; exact len _ _ _ _ hs
  have kin : K.In s.heap := e0.mod.kin.keeps fun b o e => (e0.bs b o e).1
  have hbs := hb s us kin (by rw [List.append_nil, ← rv.length]; exact hl)
  rw [List.append_nil] at hbs
  refine LamX.run_ofS lk hcd S hr e0 hbs rv hl fun hr' => ?_
  obtain ⟨t, ht, hread⟩ := hbody f cdv A outer s H E hr' en (takes_of rfl rfl rfl rfl) (passes_of rfl)
  refine ⟨_, ht, startD N ds, r, { nx := fun _ r' => fit P' .non r', rt := fit P', xr := fitX XR }, start_ok ro hi ?_, hread ds r P' XR hs, ⟨fun δ' r' σ' H' a o k => ?_, fun d r' v H' a o k i => ?_, fun _ _ _ _ z => z.elim, fun _ _ _ _ z => z.elim⟩⟩
  · rintro C fs es δ' r' σ' a H' ⟨r0, l, q⟩ o k e
    exact hx C fs es r0 a H' q (l.r _ _ o.r) (k.trans l.kp) (e.anti l.m)
  · obtain ⟨r0, l, a⟩ := a
    exact hq _ r0 _ H' a (l.r _ _ o.r) (k.trans l.kp) .non
  · obtain ⟨r0, l, a⟩ := a
    exact hq _ r0 _ H' a (l.r _ _ o) (k.trans l.kp) (is_anti l.m i)
end
section
variable {X : Cx} {W : WX} {k j : Nat} {sd : SpX} {x : Str} {p pos : Pos} {e : Expr} {es : List Expr} {l : AL} {Ent : EntP}
theorem run_atE {f : Addr} {sp : Sp} {E : XK} {Q : VK} {pins : List (Addr × Obj)} {σ : L2.St} {H : Hp} {s : Shared} {us : List Value} {vs : List V} (F : FnE X.prog X.w X.K X.mg X.base (L2.CX X.prog X.w) k f Ent sp) (hr : Room k X.A) (en : Ent X.A X.stack s H) (hx : PassesAt (L2.CX X.prog X.w) X σ E) (I : L2.Inv X pins σ H s) (r : Vals vs us) (h : sp vs H Q E) :
    wpAny (model X.prog X.w) X.A (call (.ref f) us) (EP X pins σ Q) X.xe s := by
  refine wpAny_call (codeAny_mono (F X.A X.stack s H us vs Q E hr I.env0 en r h) fun r s' hq => ?_)
  cases r with
  | error e => exact hx pins H s e s' I hq
  | ok fl =>
    cases fl with
    | ret u => exact I.after hq
    | next => exact False.elim hq
    | brk => exact False.elim hq
    | cont => exact False.elim hq
/-- f(e, ..), nothing that is raised but by the promise -/
theorem d_fnQ (C : ClQ X.prog X.w X.K X.mg X.base k x Ent sd) (en : ∀ (pins : List (Addr × Obj)) (σ : L2.St) (H : Hp) (s : Shared), L2.Inv X pins σ H s → Ent X.A X.stack s H) (tk : Takes X W) (hr : Room j X.A) (ha : PDL X W (e :: es) l) (hj : k ≤ j := by first | decide | exact Nat.le_refl _ | omega) (hg : Gl X x := by rfl) (hdb : (x == ("__debug__" : Str)) = false := by decide)
    (he : starEach (e :: es) X.env = (false, eval e X.env) :: starEach es X.env := by rfl) (hpl : (backTo pos (starEach es X.env)).any (·.1) = false := by rfl) : PD X W (.Call (.Name x p) (e :: es) [] pos) (aCall sd l) := by
  obtain ⟨f, F, g, kp⟩ := C
  refine ⟨fun pins s σ H Q I q => ?_⟩
  obtain ⟨XR, δ, r, P, ok, h, kk⟩ := q
  refine wpAny_Call_Name_kw (ld_glob I hg g ?_ hdb)
  refine PySem.W.callWith_K (h₀ := X.base) I.ok.mod.kin kp (thn (ha.run pos pins s σ H _ I (tdl_bind (Q := fun vs H1 => ∃ E : XK, PassesAt (L2.CX X.prog X.w) X σ E ∧ lift X.K sd vs H1 Q E) ok h fun ds r1 vs H1 h1 o1 k1 i1 => ⟨_, passAt tk _, lift_at o1 i1 h1 fun d r' v H' a b c i => kk d r' v H' a b (k1.trans c) i⟩)) fun us s1 ⟨vs, H1, I1, r, E, hx, q⟩ => ⟨I1.kIn, ?_⟩) he hpl
  exact run_atE F (hr.mono hj) (en _ _ _ _ I1) hx I1 r q
def rRepr (K : PySem.W.Frag) : List V → Hp → VK → Prop := fun xs H Q => ∃ (x : V) (d : PyData), xs = [x] ∧ Dp K H x d ∧ d.showable = true ∧ d.hasDict = false ∧ d.depth ≤ 64 ∧ d.shown.length ≤ sizeLine ∧ Q (.str d.shown) H
theorem cr_repr (hg : X.A.guards = some []) (hu : X.A.units + 66 < cLine) : CallR X (.builtin "repr") (rRepr X.K) := by
  rintro pins s σ H vs us Q I rv ⟨x, d, rfl, hd, hs, hn, hdp, hz, q⟩
  obtain ⟨u, rfl, ru⟩ := rv.one
  obtain ⟨as, hr⟩ := Dp.reads I d x u hd ru
  have fin : ∀ (h' : Heap) (t tk : Nat), (∀ b o, s.heap.get? b = some o → h'.get? b = some o) → EP X pins σ Q (.str d.shown t) { s with heap := h', toks := tk } := fun h' t tk hk => ⟨.str d.shown, H, I.kept hk, ⟨t, rfl⟩, q⟩
  cases hr with
  | none => exact P.repr_of_none (fin _ _ _ fun _ _ e => e)
  | bool b => exact P.repr_of_bool (fin _ _ _ fun _ _ e => e)
  | int i t =>
    refine P.repr_of_int ?_ (fin _ _ _ fun _ _ e => e)
    simp only [PyData.showable, decide_eq_true_eq] at hs
    exact hs
  | str x t => exact P.repr_of_str (fin _ _ _ fun _ _ e => e) hz
  | list h1 h2 h3 h4 => exact repr_of_reads' (.list h1 h2 h3 h4) hs (PyData.noDict_hsm hn) hg (by omega) (fun _ _ e => e) (fun h' u tk hk => fin h' u tk hk) hz
  | tuple h1 h2 h3 h4 => exact repr_of_reads' (.tuple h1 h2 h3 h4) hs (PyData.noDict_hsm hn) hg (by omega) (fun _ _ e => e) (fun h' u tk hk => fin h' u tk hk) hz
  | dict => simp [PyData.hasDict] at hn
end
end G
namespace G
open PySem PySem.Spec L2
/-- repr(a) == repr(b) of the same data -/
def aReprEq (ta tb : AT) : AT := fun x δ r P => ta x δ r fun d1 r1 => dep d1 ≤ 64 ∧ (py d1).showable = true ∧ (py d1).shown.length ≤ sizeLine ∧ tb x δ r1 fun d2 r2 => d1 = d2 ∧ P (.bl true) r2
theorem py_dict {K : PySem.W.Frag} {N : Addr → Prop} {H : Hp} {d : D} {v : V} (h : Is K N H v d) (l : dep d ≤ 64) : Dp K H v (py d) ∧ (py d).hasDict = false ∧ (py d).depth ≤ 64 := by
  obtain ⟨a, b, c⟩ := dep_py d v h l
  exact ⟨a, PyData.hasDict_of_canLay _ b, Nat.le_trans c l⟩
section
variable {X : Cx} {W : WX} {a b : Expr} {ta tb : AT} {pos p1 p2 q1 q2 : Pos}
theorem d_reprEq (hg : X.A.guards = some []) (hu : X.A.units + 66 < cLine) (hgl : Gl X "repr") (hm : X.mg "repr" = none) (ha : PD X W a ta) (hb : PD X W b tb)
    (ea : starEach [a] X.env = (false, eval a X.env) :: starEach [] X.env := by rfl) (eb : starEach [b] X.env = (false, eval b X.env) :: starEach [] X.env := by rfl)
    (pa : (backTo q1 (starEach [] X.env)).any (·.1) = false := by rfl) (pb : (backTo q2 (starEach [] X.env)).any (·.1) = false := by rfl)
    (hk : behindInMarks .Eq (.Call (.Name "repr" p2) [b] [] q2) = false := by first | exact nomark _ | with_unfolding_all rfl) :
    PD X W (.Compare (.Call (.Name "repr" p1) [a] [] q1) [.Eq] [.Call (.Name "repr" p2) [b] [] q2] pos) (aReprEq ta tb) := by
  have ca := pe_callB (p := p1) (pos := q1) (cr_repr hg hu) hgl hm (by decide +kernel) (pa_cons ha pa_nil ea) (by decide) (by decide) ea pa
  have cb := pe_callB (p := p2) (pos := q2) (cr_repr hg hu) hgl hm (by decide +kernel) (pa_cons hb pa_nil eb) (by decide) (by decide) eb pb
  refine imE (pe_cmpR op_eq ca cb hk) fun σ H Q q => ?_
  obtain ⟨XR, δ, r, P, ok, h, k⟩ := q
  refine td_bind ok h fun d1 r1 v1 H1 ⟨hd, hs, hz, h1⟩ o1 k1 i1 => ?_
  obtain ⟨p1, p2, p3⟩ := py_dict i1 hd
  refine ⟨v1, py d1, rfl, p1, hs, p2, p3, hz, ?_⟩
  refine td_bind o1 h1 fun d2 r2 v2 H2 ⟨e, hp⟩ o2 k2 i2 => ?_
  subst e
  obtain ⟨p4, p5, p6⟩ := py_dict i2 hd
  refine ⟨v2, py d1, rfl, p4, hs, p5, p6, hz, rfl, ?_⟩
  rw [decide_eq_true rfl]
  exact k _ _ _ _ hp o2 (k1.trans k2) (.bl true)
end
end G
namespace G
open PySem PySem.Spec L2
open PyProof.Rows
section
variable {P : Program} {w : World} {K : PySem.W.Frag} {mg mb : Str → Option Value}
/-- what is tracked at the law's call: the script, unless it is one of the written things -/
def scrH (K : PySem.W.Frag) (a : Addr) (o : Obj) (xs : List V) : Hp := fun b => if b = a ∧ K.lookup a = none then some (.frz o (.lst xs)) else none
theorem scrH_at {a b : Addr} {o : Obj} {xs : List V} {u : HO} (h : scrH K a o xs b = some u) : b = a ∧ K.lookup a = none ∧ u = .frz o (.lst xs) := by
  unfold scrH at h
  split at h
  · rename_i z
    exact ⟨z.1, z.2, (Option.some.inj h).symm⟩
  · cases h
theorem law_callQ {Ent : EntP} {k : Nat} {fa a : Addr} {sp : Sp} {s₁ : Shared} {vs : List Value} {ns : List Int}
    (kx : K.In s₁.heap) (hns : s₁.heap.Ns mainGlobals mg) (hb : s₁.heap.Ns builtinsNs mb) (hbb : ∀ x : Str, x ≠ "__name__" → mb x = bootBuiltins x) (hlim : s₁.heap.NoLimit) (hg : s₁.gens = #[])
    (ha : s₁.heap.get? a = some { cls := .type "list", data := .seq vs.toArray }) (hi : IntsAre vs ns) (hl : ns.length ≤ sizeLine) (hr : Room k callerA) (en : ∀ H, Ent callerA [] s₁ H)
    (F : ∀ base : Heap, K.In base → base.Ns mainGlobals mg → FnE P w K mg base CX0 k fa Ent sp)
    (hsp : ∀ H : Hp, Only H → SqL K H a (ns.map V.int) → sp [.ref a] H (fun v _ => v = .bl true) fun _ _ _ => False) :
    codeAny (model P w) callerA (.call (.ref fa) ⟨[.ref a], []⟩) (fun r s' => r = .ok (.ret (.bool true)) ∧ OldK s₁.heap s'.heap ∧ s'.os = s₁.os ∧ AllBare s'.gens) s₁ := by
  obtain ⟨o, eo⟩ : ∃ o : Obj, o = { cls := .type "list", data := .seq vs.toArray } := ⟨_, rfl⟩
  rw [← eo] at ha
  obtain ⟨T, eT⟩ : ∃ T, T = scrH K a o (ns.map V.int) := ⟨_, rfl⟩
  have hlen := hi.length
  have its := vals_ints hi
  have tr : ∀ {b u}, T b = some u → b = a ∧ K.lookup a = none ∧ u = .frz o (.lst (ns.map V.int)) := fun {b u} e => scrH_at (eT ▸ e)
  have only : Only T := fun b => by
    cases e : T b with
    | none => exact .inl rfl
    | some u => exact .inr ⟨_, _, congrArg some (tr e).2.2⟩
  have seen : SqL K T a (ns.map V.int) := by
    cases e : K.lookup a with
    | none => exact .inl (.inr ⟨o, by rw [eT]; exact if_pos ⟨rfl, e⟩⟩)
    | some o2 =>
      obtain rfl : o = o2 := Option.some.inj (ha.symm.trans (kx a o2 e))
      exact .inr ⟨_, vs.toArray, _, e, by rw [eo], by rw [eo], by rw [eo], by rw [List.size_toArray, hlen]; exact hl, by simpa using its⟩
  have hok : HOk P w T s₁.heap := fun b u e => by
    obtain ⟨rfl, _, rfl⟩ := tr e
    exact ⟨ha, by rw [List.length_map]; exact hl, vs, _, its, by rw [← eo]; exact ha⟩
  have untracked : ∀ {b : Addr} {u : Obj} {es : Array DictEntry} {ep : Nat}, s₁.heap.get? b = some u → u.data = .dict es ep → T b = none := fun {b u es ep} e d => by
    cases q : T b with
    | none => rfl
    | some y =>
      obtain ⟨rfl, _, _⟩ := tr q
      rw [ha] at e
      cases e
      rw [eo] at d
      cases d
  have ns0 : ∀ {b : Addr} {m : Str → Option Value}, s₁.heap.Ns b m → (hidT s₁.heap T).Ns b m := fun {b m} ⟨u, es, ep, e, d, r⟩ => ⟨u, es, ep, hidT_get e (untracked e d), d, r⟩
  have kin : K.In (hidT s₁.heap T) := fun b u e => hidT_get (kx b u e) (by
    cases q : T b with
    | none => rfl
    | some y =>
      obtain ⟨rfl, z, _⟩ := tr q
      rw [z] at e
      cases e)
  have mod : Mod K mg (hidT s₁.heap T) := ⟨kin, ns0 hns, ⟨mb, ns0 hb, hbb⟩, hlim.elim fun mc z => ⟨mc, ns0 z.1, z.2⟩⟩
  have e0 : Env0 P w K mg (hidT s₁.heap T) callerA [] s₁ T := ⟨rfl, mod, fun b u e => of_hidT e, Nat.le_of_eq (hidT_size _ _), trivial, (fun b z => by cases z), hok, .of_eq hg⟩
  refine codeAny_mono (F _ kin (ns0 hns) callerA [] s₁ T [.ref a] [.ref a] _ _ hr e0 (en T) (.cons rfl .nil) (hsp T only seen)) ?_
  rintro (e | (_ | _ | _ | u)) s' h
  · exact h.elim
  · exact h.elim
  · exact h.elim
  · exact h.elim
  · obtain ⟨v, H', os, bare, un, hok', rv, q⟩ := h
    cases (show v = .bl true from q)
    cases (show u = Value.bool true from rv)
    refine ⟨rfl, OldK.of_keep fun b z e => ?_, os, bare⟩
    cases q : T b with
    | none => exact un.keep b z e q (fun y => by cases y) (by simp)
    | some y =>
      obtain ⟨rfl, _, rfl⟩ := tr q
      have w1 := (hok b _ q).1
      have w2 := (hok' b _ (un.frzs b o _ q)).1
      rw [e] at w1
      cases w1
      exact w2
end
end G
namespace G
open PySem PySem.Spec L2
open PyProof.Rows
theorem walk_ofQ {l : PySem.W.OpenLaw} {n k : Nat} {q : Program} {loose : List Str} {XP : (Str → Option Value) → Heap → Prop} {YP : World → Heap → Prop} {d : DefRec} {K : Params → PySem.W.Frag} {sp : World → Sp}
    (hn : l.most = some n) (hn2 : n ≤ sizeLine) (hdf : d.params.defaults = []) (hr : Room k callerA) (hY : ∀ (w : World) (h : Heap), YP w h → (K w.params).In h)
    (F : ∀ (w : World) (mg : Str → Option Value) (fa : Addr) (h : Heap), (K w.params).In h → h.Ns mainGlobals mg → mg d.name = some (.ref fa) →
      ∀ base : Heap, (K w.params).In base → base.Ns mainGlobals mg → FnE l.prog w (K w.params) mg base CX0 k fa NoRepr (sp w))
    (hsp : ∀ (w : World) (H : Hp) (a : Addr) (ns : List Int), ns.length ≤ n → Only H → SqL (K w.params) H a (ns.map V.int) → sp w [.ref a] H (fun v _ => v = .bl true) fun _ _ _ => False) :
    PySem.W.WalkO q loose XP YP l.row.toRowW d [] (fun f vs => PySem.call f vs) :=
  Att.attach_call hn hdf fun w s₀ s₁ mg mb fa o pm cd doc a vs ns G Y ho hd hcd hmg hobj hints hlen hg =>
    have kx := hY w _ Y
    law_callQ kx G.T.g G.T.b G.T.builtins G.T.nolimit hg hobj hints (Nat.le_trans hlen hn2) hr (fun _ => rfl) (F w mg fa _ kx G.T.g hmg) fun H hO hS => hsp w H a ns hlen hO hS
theorem law_endQ {P : Program} {w : World} {K : PySem.W.Frag} {h : Heap} {mg : Str → Option Value} (X : K.In h) (G : h.Ns mainGlobals mg) {fa f : Addr} {st : Stmt} {n : Nat} (hfa : mg "law" = some (.ref fa)) {oc : Value} {od an : Option Addr} {osl : Array (Option Value)} {kV doc pm cdv ct : Value}
    (a : PySem.W.nsIn K mainGlobals "law" = some (some (.ref f))) (l : K.lookup f = some ⟨oc, od, .func (PySem.W.fnOf "law" "law" (defArgs st) (defBody st) (defScope st) .none kV doc pm an cdv ct), osl⟩) (c : PySem.W.codeIn K cdv "law" = true) (k : PySem.W.keepIn K (.ref f) = true)
    (b : ∀ v : Value, bindArgs (PySem.W.fnOf "law" "law" (defArgs st) (defBody st) (defScope st) .none kV doc pm an cdv ct) ⟨[v], []⟩ = pure [(("_law_script" : Str), v)])
    (ok : ∀ (base : Heap) (fd : FuncData), Fun K "law" "law" st f fd → Binds K fd ["_law_script"] [] → FnE P w K mg base CX0 n f NoRepr (spLaw K)) :
    ∀ base : Heap, K.In base → base.Ns mainGlobals mg → FnE P w K mg base CX0 n fa NoRepr (spLaw K) := by
  cases hfa.symm.trans (PySem.W.mg_of X G a)
  refine fun base _ _ => ok base _ (fun_mk (st := st) l c k) (.all fun us hl => ?_)
  match us, hl with
  | [v], _ => exact b v
end G
namespace Q
open PySem PySem.Spec L2 G
open PyProof.Rows (envOfC)
def top (i : Nat) : Stmt := PySem.Challenge.pw_quietprobes_k32_settings_refused.main.body.getD i (.Pass ⟨0, 0, 0, 0⟩)
abbrev s__wall : Stmt := top 0
abbrev s_BadName___init__ : Stmt := inClass (top 3) 0
abbrev s_BadMode___init__ : Stmt := inClass (top 4) 0
abbrev s_Twice___init__ : Stmt := inClass (top 5) 0
abbrev s_is_name : Stmt := top 9
abbrev s_rank : Stmt := top 12
abbrev s_greater_mode : Stmt := top 13
abbrev s_lesser_mode : Stmt := top 14
abbrev s_is_mode : Stmt := top 15
abbrev s_setting_with : Stmt := top 16
abbrev s_Setting___init__ : Stmt := inClass (top 17) 3
abbrev s_Setting___getitem__ : Stmt := inClass (top 17) 4
abbrev s_Setting___iter__ : Stmt := inClass (top 17) 5
abbrev s_Setting___setitem__ : Stmt := inClass (top 17) 6
abbrev s_Setting___len__ : Stmt := inClass (top 17) 7
abbrev s_Setting___contains__ : Stmt := inClass (top 17) 8
abbrev s_Setting___eq__ : Stmt := inClass (top 17) 9
abbrev s_Setting___or__ : Stmt := inClass (top 17) 10
abbrev s_Setting___ior__ : Stmt := inClass (top 17) 11
abbrev s_Setting___and__ : Stmt := inClass (top 17) 12
abbrev s_Setting___sub__ : Stmt := inClass (top 17) 13
abbrev s_Setting___xor__ : Stmt := inClass (top 17) 14
abbrev s_Setting_names : Stmt := inClass (top 17) 15
abbrev s_Setting_is_within : Stmt := inClass (top 17) 16
abbrev s_Setting_duplicate : Stmt := inClass (top 17) 17
abbrev s_Setting_every : Stmt := inClass (top 17) 18
abbrev s__law_is_name : Stmt := top 19
abbrev s__law_made : Stmt := top 20
abbrev s__law_draw : Stmt := top 21
abbrev s__law_odd : Stmt := top 22
abbrev s__law_pool : Stmt := top 23
abbrev s__law_names : Stmt := top 24
abbrev s__law_same : Stmt := top 25
abbrev s__law_holds : Stmt := top 26
abbrev s__law_same_odd : Stmt := top 27
abbrev s__law_random_modes : Stmt := top 28
abbrev s__law_setting : Stmt := top 29
abbrev s__law_odd_mode : Stmt := top 30
abbrev s__law_expected : Stmt := top 31
abbrev s__law_tried : Stmt := top 32
abbrev s__law_mixed : Stmt := top 33
abbrev s__law_put : Stmt := top 34
abbrev s__law_asked : Stmt := top 35
abbrev s_law : Stmt := top 36
section
variable {P : Program} {w : World} {K : PySem.W.Frag} {mg : Str → Option Value} {base : Heap}
abbrev N__law_draw : List Str := ["_law_pool_here", "_law_many", "_law_cell", "_law_code", "_law_digit", "_law_far", "_law_mixed_here"]
theorem sc__law_draw : FnScope N__law_draw ["_law_pool_here", "_law_many"] (defScope s__law_draw) := ⟨rfl, rfl, rfl, by decide +kernel, rfl, by decide +kernel, by decide +kernel⟩
theorem emod_lt' {a m : Int} (h : 0 < m) : 0 ≤ a % m ∧ a % m < m := ⟨Int.emod_nonneg a (by omega), Int.emod_lt_of_pos a h⟩
theorem c__law_draw (B : Bl mg) (Dx : Dfn K mg "_law_draw" s__law_draw ["_law_pool_here", "_law_many"]) : Cl P w K mg base 1 "_law_draw" ["_law_pool_here", "_law_many"] spDraw := by
  obtain ⟨f, fd, F, g, b⟩ := Dx
  refine cl_cx0 (f := f) (fd := fd) ?_ g F.kp b
  have sc := sc__law_draw
  refine F.ok sc (fun vs H Q E h => ?_) (fun cdv A outer s H vs Q E hr h => ?_)
  · obtain ⟨r, ds, P', XR, ro, hi, ⟨p, a, m, N, X, rfl, _⟩, _, _⟩ := h
    exact hi.length
  · obtain ⟨r, ds, P', XR, ro, hi, ⟨p, a, m, N, X, rfl, rfl, ⟨hm, hm2⟩, hN, hP⟩, hQ, _⟩ := h
    obtain ⟨rfl⟩ : vs = [.ref p, .int m] := by
      match vs, hi with
      | [_, _], .cons (.adr _) (.cons (.int _) .nil) => rfl
    have fin : ∀ (k : Int) (H' : Hp), 0 ≤ k → k < m → (∀ b o, b ≠ p → b ≠ a → H b = some o → H' b = some o) → (poolA p a (N + 1)).R K (mem (poolA p a (N + 1) :: X)) H' → Q (.int k) H' := fun k H' h0 h1 hk ht =>
      let ⟨q1, q2⟩ := pool_step ro hk ht
      hQ _ _ _ _ (hP k h0 h1) q1 q2 (.int k)
    obtain ⟨⟨ne, ns, c1, c2, c3, h1, h2, g1, g2, g2', g3, g3', gn⟩, _, _⟩ := ro
    have ix : ∀ {X : Cx} {a b : Expr} {ta tb : TE} {pos : Pos}, PE X a ta → PE X b tb → PlainIx b → PE X (.Subscript a b pos) (tOp (rIxL X.K) ta tb) := fun ha hb hs => pe_ix ix_list ha hb hs
    refine ⟨_, pss_cons (ps_augS (pv 0) pe_int pget_list pe_int ip_add set_list)
      (Evl.pss_cut (ps_if (PW.pt (pw_and (pt_cmpR op_eq (ix (pv 0) pe_int (fun _ _ => rfl)) pe_int (nomark _)) (pw_and1 (pt_truth (ix (pv 0) pe_int (fun _ _ => rfl)) (by intro _; rfl)))))
        (pss_cons (ps_set (i := 2) sc.nd rfl (.inl rfl) (pe_callTy call_int1 (by rfl) B.int (by decide +kernel) (pa_cons (pe_bm PySem.F.plainAttrs_list PySem.F.slot_list_pop PySem.F.type_list_pop mt_popAt (ix (pv 0) pe_int (fun _ _ => rfl)) (pa_cons pe_int pa_nil)) pa_nil)))
        (pss_cons (ps_set (i := 3) sc.nd rfl (.inl rfl) (pe_ifExp (pt_cmpR op_ge (pv 2) pe_int (nomark _)) (pe_op op_mul pe_int (pv 2)) (pe_op op_sub (pe_un un_neg pe_int) (pe_op op_mul pe_int (pv 2)))))
        (pss_one (ps_if (pt_cmpR op_ge (pv 3) (pe_op op_pow pe_int pe_int) (nomark _))
          (pss_one (ps_asg (pv 3) (pg_sub (pv 0) pe_int set_list)))
          (pss_one (ps_asg (pe_op op_mod (pe_callTy call_int1 (by rfl) B.int (by decide +kernel) (pa_cons (pe_op op_add (pe_op op_add (pe_op op_mul (ix (pv 0) pe_int (fun _ _ => rfl)) pe_int) (pe_op op_mul (pv 3) pe_int)) pe_int) pa_nil)) pe_int) (pg_sub (pv 0) pe_int set_list)))))))
        pss_nil)
      (pss_cons (ps_if (pt_cmpR op_gt (ix (pv 0) pe_int (fun _ _ => rfl)) pe_int (nomark _))
        (pss_cons (ps_set (i := 4) sc.nd rfl (.inl rfl) (pe_op op_mod (pe_callTy call_int1 (by rfl) B.int (by decide +kernel) (pa_cons (ix (pv 0) pe_int (fun _ _ => rfl)) pa_nil)) (pv 1)))
        (pss_cons (ps_asg (pe_op op_fdivW (ix (pv 0) pe_int (fun _ _ => rfl)) (pv 1)) (pg_sub (pv 0) pe_int set_list))
        (pss_one (ps_ret (pv 4))))) pss_nil)
      (pss_cons (ps_set (i := 5) sc.nd rfl (.inl rfl) (pe_op op_add (pe_op op_mul (ix (pv 0) pe_int (fun _ _ => rfl)) pe_int) (pe_op op_mul (pe_op op_mul (ix (pv 0) pe_int (fun _ _ => rfl)) (ix (pv 0) pe_int (fun _ _ => rfl))) pe_int)))
      (pss_cons (ps_set (i := 6) sc.nd rfl (.inl rfl) (pe_op op_mod (pe_callTy call_int1 (by rfl) B.int (by decide +kernel) (pa_cons (pe_op op_add (pe_op op_mul (ix (pv 0) pe_int (fun _ _ => rfl)) pe_int) (pv 5)) pa_nil)) pe_int))
      (pss_one (ps_ret (pe_ifExp (pt_truth (ix (pv 0) pe_int (fun _ _ => rfl)) (by intro _; rfl)) (pe_op op_mod (pe_op op_mod (pe_callTy call_int1 (by rfl) B.int (by decide +kernel) (pa_cons (pe_op op_fdivW (pe_op op_mul (pv 6) pe_int) pe_int) pa_nil)) pe_int) (pv 1)) pe_int))))))), ?_⟩
    -- _law_pool_here[2] += 1
    refine ⟨_, rfl, p, _, 2, .int c2, rfl, rfl, by decide, SqL.of h1, rfl, c2, 1, rfl, rfl, p, _, 2, 2, rfl, rfl, h1, rfl, ?_⟩
    let c2' := c2 + 1
    have k1 : (upd H p (.lst ([V.ref a, .int c1, .int c2, .int c3].set 2 (.int (c2 + 1))))) p = some (.lst [.ref a, .int c1, .int (c2 + 1), .int c3]) := upd_same
    have k2 : (upd H p (.lst ([V.ref a, .int c1, .int c2, .int c3].set 2 (.int (c2 + 1))))) a = some (.lst (ns.map V.int)) := by rw [upd_ne (Ne.symm ne)]; exact h2
    have k3 : ∀ b o, b ≠ p → b ≠ a → H b = some o → (upd H p (.lst ([V.ref a, .int c1, .int c2, .int c3].set 2 (.int (c2 + 1))))) b = some o := fun b o n1 _ e => by rw [upd_ne n1]; exact e
    generalize upd H p (.lst ([V.ref a, .int c1, .int c2, .int c3].set 2 (.int (c2 + 1)))) = H1 at k1 k2 k3
    refine ⟨fun σ' H' => ∃ (x y : Option V) (ns' : List Int) (d1 d3 : Int), σ' = [some (.ref p), some (.int m), x, y, none, none, none] ∧ H' p = some (.lst [.ref a, .int d1, .int (c2 + 1), .int d3]) ∧ H' a = some (.lst (ns'.map V.int)) ∧ 0 ≤ d1 ∧ 0 ≤ d3 ∧ d3 < 2147483629 ∧ ns'.length ≤ 63 ∧
      ∀ b o, b ≠ p → b ≠ a → H b = some o → H' b = some o, ?_, ?_⟩
    · -- the pool takes one more of the script
      refine ⟨_, rfl, p, _, 1, .int c1, rfl, rfl, SqL.of k1, rfl, rfl, _, rfl, ?_⟩
      refine ite2 (fun hc => ?_) (fun hc => ?_)
      · refine ⟨_, rfl, p, _, 0, .ref a, rfl, rfl, SqL.of k1, rfl, _, .inl ⟨_, SqL.of k2, rfl⟩, ?_⟩
        refine ite2 (fun he => ?_) (fun he => ?_)
        · cases ns with
          | nil => cases he
          | cons n0 ns =>
            refine ⟨_, rfl, p, _, 0, .ref a, rfl, rfl, SqL.of k1, rfl, .inl ⟨rfl, _, SqL.of k2⟩, a, _, 0, 0, .int n0, rfl, rfl, k2, by decide, by decide, PySem.StrLaws.seqIndex_nonneg (Int.le_refl 0) (by rw [List.length_map, List.length_cons]; omega), rfl, .inl ⟨n0, rfl, ?_⟩⟩
            have k1' : (upd H1 a (.lst ((List.map V.int (n0 :: ns)).eraseIdx 0))) p = some (.lst [.ref a, .int c1, .int (c2 + 1), .int c3]) := by rw [upd_ne ne]; exact k1
            have k2' : (upd H1 a (.lst ((List.map V.int (n0 :: ns)).eraseIdx 0))) a = some (.lst (ns.map V.int)) := upd_same
            have k3' : ∀ b o, b ≠ p → b ≠ a → H b = some o → (upd H1 a (.lst ((List.map V.int (n0 :: ns)).eraseIdx 0))) b = some o := fun b o n1 n2 e => by rw [upd_ne n2]; exact k3 b o n1 n2 e
            generalize upd H1 a (.lst ((List.map V.int (n0 :: ns)).eraseIdx 0)) = H2 at k1' k2' k3'
            have gl : ns.length ≤ 63 := Nat.le_trans (Nat.le_succ _) gn
            -- code
            refine ⟨_, rfl, _, _, rfl, rfl, _, rfl, ?_⟩
            refine ite2 (fun h => ?_) (fun h => ?_)
            refine ⟨_, rfl, 2, n0, rfl, rfl, .inl ⟨by decide, by decide⟩, ?_⟩
            have hcd : 0 ≤ 2 * n0 := by
              have := of_decide_eq_true h
              omega
            show gName 3 (.int (2 * n0)) _ _ _
            generalize 2 * n0 = cd at hcd ⊢
            rotate_left
            refine ⟨1, rfl, _, rfl, 2, n0, rfl, rfl, .inl ⟨by decide, by decide⟩, -1, 2 * n0, rfl, rfl, ?_⟩
            have hcd : 0 ≤ -1 - 2 * n0 := by
              have : ¬ (0 ≤ n0) := fun z => h (decide_eq_true z)
              omega
            show gName 3 (.int (-1 - 2 * n0)) _ _ _
            generalize -1 - 2 * n0 = cd at hcd ⊢
            all_goals
              refine ⟨_, rfl, 10, 18, rfl, rfl, ⟨by decide, by decide, by decide⟩, _, _, rfl, rfl, _, rfl, ?_⟩
              refine ite2 (fun h => ?_) (fun h => ?_)
              · refine ⟨_, rfl, _, rfl, p, _, 1, 1, rfl, rfl, k1', rfl, ?_⟩
                exact ⟨_, _, ns, cd, c3, rfl, upd_same, by rw [upd_ne (Ne.symm ne)]; exact k2', hcd, g3, g3', gl, fun b o n1 n2 e => by rw [upd_ne n1]; exact k3' b o n1 n2 e⟩
              · refine ⟨_, rfl, p, _, 3, .int c3, rfl, rfl, SqL.of k1', rfl, c3, 48271, rfl, rfl, .inr ⟨by decide, by decide⟩, _, rfl, cd, 69621, rfl, rfl, .inr ⟨by decide, by decide⟩, _, _, rfl, rfl, _, _, rfl, rfl, .inl ⟨_, rfl, _, _, rfl, rfl, (by decide : (0 : Int) < 2147483629), ?_⟩⟩
                refine ⟨_, rfl, p, _, 3, 3, rfl, rfl, k1', rfl, ?_⟩
                exact ⟨_, _, ns, c1, _, rfl, upd_same, by rw [upd_ne (Ne.symm ne)]; exact k2', g1, (emod_lt' (by decide)).1, (emod_lt' (by decide)).2, gl, fun b o n1 n2 e => by rw [upd_ne n1]; exact k3' b o n1 n2 e⟩
        · exact ⟨_, _, ns, c1, c3, rfl, k1, k2, g1, g3, g3', gn, k3⟩
      · exact ⟨_, _, ns, c1, c3, rfl, k1, k2, g1, g3, g3', gn, k3⟩
    · -- the digit
      rintro σ' H' ⟨x, y, ns', d1, d3, rfl, k1, k2, e1, e3, e3', en, k3⟩
      have ok : ∀ d, 0 ≤ d → ∀ H'', H'' p = some (.lst [.ref a, .int d, .int (c2 + 1), .int d3]) → H'' a = some (.lst (ns'.map V.int)) → (poolA p a (N + 1)).R K (mem (poolA p a (N + 1) :: X)) H'' := fun d hd H'' q1 q2 => ⟨ne, ns', d, c2 + 1, d3, q1, q2, hd, by omega, by omega, e3, e3', en⟩
      refine ⟨_, rfl, p, _, 1, .int d1, rfl, rfl, SqL.of k1, rfl, _, _, rfl, rfl, _, rfl, ?_⟩
      refine ite2 (fun h => ?_) (fun h => ?_)
      · have hd : 0 < d1 := of_decide_eq_true h
        refine ⟨_, rfl, p, _, 1, .int d1, rfl, rfl, SqL.of k1, rfl, .inl ⟨_, rfl, _, rfl, _, _, rfl, rfl, hm, ?_⟩⟩
        refine ⟨_, rfl, p, _, 1, .int d1, rfl, rfl, SqL.of k1, rfl, _, rfl, d1, m, rfl, rfl, wide_div hm (b := 200) (by omega) (by decide) (by decide), ?_⟩
        refine ⟨_, rfl, p, _, 1, 1, rfl, rfl, k1, rfl, ?_⟩
        refine ⟨_, rfl, fin _ _ (emod_lt' hm).1 (emod_lt' hm).2 (fun b o n1 n2 e => by rw [upd_ne n1]; exact k3 b o n1 n2 e) (ok (d1 / m) (Int.ediv_nonneg (by omega) (by omega)) _ upd_same (by rw [upd_ne (Ne.symm ne)]; exact k2))⟩
      · have b2 : CMul (c2 + 1) (c2 + 1) := .inl ⟨by omega, by omega⟩
        refine ⟨_, rfl, p, _, 2, .int (c2 + 1), rfl, rfl, SqL.of k1, rfl, _, 40692, rfl, rfl, .inr ⟨by decide, by decide⟩, _, rfl, p, _, 2, .int (c2 + 1), rfl, rfl, SqL.of k1, rfl, _, rfl, p, _, 2, .int (c2 + 1), rfl, rfl, SqL.of k1, rfl, _, _, rfl, rfl, b2, _, 3, rfl, rfl, .inr ⟨by decide, by decide⟩, _, _, rfl, rfl, ?_⟩
        refine ⟨_, rfl, p, _, 3, .int d3, rfl, rfl, SqL.of k1, rfl, _, 16807, rfl, rfl, .inr ⟨by decide, by decide⟩, _, rfl, _, _, rfl, rfl, .inl ⟨_, rfl, _, _, rfl, rfl, (by decide : (0 : Int) < 2147483647), ?_⟩⟩
        refine ⟨_, rfl, p, _, 3, .int d3, rfl, rfl, SqL.of k1, rfl, _, rfl, ?_⟩
        refine ite2 (fun h => ?_) (fun h => ?_)
        · refine ⟨_, rfl, _, 48271, rfl, rfl, .inr ⟨by decide, by decide⟩, _, 7, rfl, rfl, wide_div (by decide) (b := 10) (by decide) (by decide) (by decide), .inl ⟨_, rfl, _, _, rfl, rfl, (by decide : (0 : Int) < 2147483629), _, rfl, _, _, rfl, rfl, hm, ?_⟩⟩
          exact fin _ _ (emod_lt' hm).1 (emod_lt' hm).2 k3 (ok d1 e1 _ k1 k2)
        · exact fin 0 _ (Int.le_refl _) hm k3 (ok d1 e1 _ k1 k2)
abbrev N__law_pool : List Str := ["_law_script"]
theorem sc__law_pool : FnScope N__law_pool ["_law_script"] (defScope s__law_pool) := ⟨rfl, rfl, rfl, by decide +kernel, rfl, by decide +kernel, by decide +kernel⟩
theorem cut_map {α : Type} (f : α → V) (xs : List α) (lo hi : Option Int) : ∃ ys : List α, cutV (xs.map f) lo hi = ys.map f ∧ ys.length ≤ xs.length := by
  unfold cutV
  refine ⟨(xs.drop (HT.sIx (xs.map f).length 0 lo)).take (HT.sIx (xs.map f).length (xs.map f).length hi - HT.sIx (xs.map f).length 0 lo), by rw [List.map_take, List.map_drop], ?_⟩
  rw [List.length_take, List.length_drop]
  omega
theorem c__law_pool (B : Bl mg) (Dx : Dfn K mg "_law_pool" s__law_pool ["_law_script"]) : ∃ f fd, FnOk P w K mg base CX0 1 f fd ["_law_script"] (spPool K) ∧ mg "_law_pool" = some (.ref f) ∧ PySem.W.keepIn K (.ref f) = true ∧ Binds K fd ["_law_script"] [] := by
  obtain ⟨f, fd, F, g, b⟩ := Dx
  refine ⟨f, fd, ?_, g, F.kp, b⟩
  have sc := sc__law_pool
  refine F.ok sc (fun vs H Q E h => ?_) (fun cdv A outer s H vs Q E hr h => ?_)
  · obtain ⟨a, ns, rfl, _⟩ := h
    rfl
  · obtain ⟨a, ns, rfl, hS, hl, hQ⟩ := h
    refine ⟨_, pss_one (ps_ret (pe_lst (pa_cons (pe_callTy call_list_of (by rfl) B.list (by decide +kernel) (pa_cons (pe_slice sl_list (pv 0) po_none (po_some pe_int)) pa_nil)) (pa_cons pe_int (pa_cons pe_int (pa_cons pe_int pa_nil)))))), ?_⟩
    obtain ⟨ms, e, hm⟩ := cut_map V.int ns none (some 63)
    refine ⟨_, rfl, _, rfl, a, _, rfl, hS, fun q hq => ?_⟩
    rw [e]
    refine ⟨q, _, rfl, .inl (SqL.of upd_same), fun l hl2 => ⟨(by decide : 4 ≤ sizeLine), fun p hp => ?_⟩⟩
    have hlp : l ≠ p := ne_of_none (H := upd (upd H q (.lst (ms.map V.int))) l (.lst (ms.map V.int))) upd_same hp
    refine hQ p l _ ⟨⟨Ne.symm hlp, ms, 0, 0, 0, upd_same, ?_, by decide, by decide, by decide, by decide, by decide, by omega⟩, fun _ _ z => z, True.intro⟩
    rw [upd_ne hlp, upd_same]
def dif (xs ys : List D) (d : D) : Bool := match d with | .int i => (match xs[i.toNat]?, ys[i.toNat]? with | some x, some y => !same x y | _, _ => false) | _ => false
theorem dif_all {xs ys : List D} (hl : xs.length = ys.length) : (((List.range ys.length).map fun i : Nat => D.int (i : Int)).filter (dif xs ys)).isEmpty = sames xs ys := by
  cases q : sames xs ys with
  | true =>
    rw [List.isEmpty_iff, List.filter_eq_nil_iff]
    intro d hd
    obtain ⟨i, hi, rfl⟩ := List.mem_map.mp hd
    have hi := List.mem_range.mp hi
    have e1 : xs[i]? = some xs[i] := List.getElem?_eq_getElem (by omega)
    have e2 : ys[i]? = some ys[i] := List.getElem?_eq_getElem hi
    show ¬ (match xs[((i : Nat) : Int).toNat]?, ys[((i : Nat) : Int).toNat]? with | some x, some y => !same x y | _, _ => false) = true
    rw [Int.toNat_natCast, e1, e2]
    dsimp only
    rw [sames_at q e1 e2]
    decide
  | false =>
    rw [Bool.eq_false_iff, Ne, List.isEmpty_iff, List.filter_eq_nil_iff]
    intro h
    have : sames xs ys = true := sames_of hl fun j x y ex ey => by
      have hj := (List.getElem?_eq_some_iff.mp ey).1
      have := h (.int (j : Nat)) (List.mem_map.mpr ⟨j, List.mem_range.mpr hj, rfl⟩)
      have : ¬ (match xs[((j : Nat) : Int).toNat]?, ys[((j : Nat) : Int).toNat]? with | some x, some y => !same x y | _, _ => false) = true := this
      rw [Int.toNat_natCast, ex, ey] at this
      dsimp only at this
      simpa using this
    rw [this] at q
    cases q
theorem same_ll {xs ys : List D} : G.same (.lst xs) (.lst ys) = sames xs ys := by simp only [G.same]
theorem same_tt {xs ys : List D} : G.same (.tup xs) (.tup ys) = sames xs ys := by simp only [G.same]
abbrev N__law_same : List Str := ["_law_actual", "_law_due", "_law_k"]
theorem sc__law_same : FnScope N__law_same ["_law_actual", "_law_due"] (defScope s__law_same) := ⟨rfl, rfl, rfl, by decide +kernel, rfl, by decide +kernel, by decide +kernel⟩
theorem c__law_same (B : Bl mg) (Dx : Dfn K mg "_law_same" s__law_same ["_law_actual", "_law_due"]) : ∀ n : Nat, Cl P w K mg base n "_law_same" ["_law_actual", "_law_due"] (spSame n)
  | 0 => cl_never Dx fun ds r P' XR ⟨a, b, _, _, _, _, z, _⟩ => by omega
  | n + 1 => by
    have sc := sc__law_same
    have C__law_same := c__law_same B Dx n
    refine cl_of Dx sc (fun ds r P' XR ⟨a, b, e, _⟩ => by rw [e]; rfl) (fun f cdv A outer s H E hr tk po => ?_)
    have hu := hr.units
    refine ⟨_, (ss_cons (s_if (b_tru (d_isi2 .list .tuple (by rfl) B.isi (dv 1) (by rfl) B.list (by rfl) B.tuple))
  (ss_cons (s_if (b_cmp (p_ne hu) (d_isi .list (by rfl) B.isi (dv 0) (by rfl) B.list) (d_isi .list (by rfl) B.isi (dv 1) (by rfl) B.list))
  (ss_one (s_ret d_bl))
  ss_nil)
  (ss_cons (s_if (b_w (w_or (b_not (b_tru (d_isi2 .list .tuple (by rfl) B.isi (dv 0) (by rfl) B.list (by rfl) B.tuple))) (w_or1 (b_cmp (p_ne hu) (d_blt c_len (by rfl) B.len (dl_cons (dv 0) dl_nil)) (d_blt c_len (by rfl) B.len (dl_cons (dv 1) dl_nil))))))
  (ss_one (s_ret d_bl))
  ss_nil)
  (ss_one (s_ret (d_cmp (p_eq hu) (d_lc (js := [2]) (own := [("_law_k", 2)]) sc.nd (i_r1 (by rfl) B.range (dl_cons (d_blt c_len (by rfl) B.len (dl_cons (dv 1) dl_nil)) dl_nil)) (blkOk_by (own := [("_law_k", 2)]) (N := N__law_same) (sc := defScope s__law_same) (by decide +kernel)) (fun _ _ _ _ _ => (g_name (i := 2) sc.nd)) (fun _ _ _ _ _ => (pts_1 (b_not (b_tru (d_fnN C__law_same hr (dl_cons (d_ix (dv 0) (dv 2)) (dl_cons (d_ix (dv 1) (dv 2)) dl_nil))))))) (fun _ _ _ _ _ => (dv 2))) (d_lst dl_nil))))))
  ss_nil)
  (ss_cons (s_if (b_w (w_or (b_cmp p_is (dv 1) d_non) (w_or1 (b_cmp p_is (dv 0) d_non))))
  (ss_one (s_ret (d_and (d_cmp p_is (dv 1) d_non) (d_one (d_cmp p_is (dv 0) d_non)))))
  ss_nil)
  (ss_cons (s_if (b_cmp (p_ne hu) (d_isi .bool (by rfl) B.isi (dv 0) (by rfl) B.bool) (d_isi .bool (by rfl) B.isi (dv 1) (by rfl) B.bool))
  (ss_one (s_ret d_bl))
  ss_nil)
  (ss_cons (s_if (b_cmp (p_ne hu) (d_isi .int (by rfl) B.isi (dv 0) (by rfl) B.int) (d_isi .int (by rfl) B.isi (dv 1) (by rfl) B.int))
  (ss_one (s_ret d_bl))
  ss_nil)
  (ss_cons (s_if (b_w (w_or (b_tru (d_isi2 .list .tuple (by rfl) B.isi (dv 0) (by rfl) B.list (by rfl) B.tuple)) (w_or1 (b_cmp (p_ne hu) (d_isi .str (by rfl) B.isi (dv 0) (by rfl) B.str) (d_isi .str (by rfl) B.isi (dv 1) (by rfl) B.str)))))
  (ss_one (s_ret d_bl))
  ss_nil)
  (ss_one (s_ret (d_cmp (p_eq hu) (dv 0) (dv 1))))))))), fun ds r P' XR h => ?_⟩
    obtain ⟨a, b, rfl, pa, pb, da, db, h⟩ := h
    replace h := fit.of h
    cases b with
    | adr x => cases pb
    | ins _ _ _ => cases pb
    | dct _ _ => cases pb
    | lst ys =>
      refine brT ?_
      cases a <;> first | (cases pa; done) | skip
      case lst xs =>
        refine ⟨Nat.zero_le _, Nat.zero_le _, brF (brF fun ly lx => ⟨Nat.zero_le _, Nat.zero_le _, ?_⟩)⟩
        by_cases hl : xs.length = ys.length
        rotate_left
        · refine brt (ne_len hl) ?_
          have : sames xs ys = false := by
            cases q : sames xs ys with
            | false => rfl
            | true => exact absurd (sames_len q) hl
          rw [same_ll, this] at h
          exact h
        refine brf (eq_len hl) ?_
        have pbl := (plain_lst pb).1
        replace pa := (plain_lst pa).2
        replace pb := (plain_lst pb).2
        simp only [dep] at da db
        rw [sizeLine_eq] at ly
        refine fun _ => ⟨⟨by omega, by omega⟩, ?_⟩
        refine lc_fm (dif xs ys) (fun d => d) (by unfold small; simp; omega) (fun e he r2 Q1 Q2 q1 q2 => ?_) ?_
        · obtain ⟨i, hi, rfl⟩ := List.mem_map.mp he
          have hi : i < ys.length := by simpa using hi
          have e1 : xs[i]? = some xs[i] := List.getElem?_eq_getElem (by omega)
          have e2 : ys[i]? = some ys[i] := List.getElem?_eq_getElem hi
          have ed : dif xs ys (.int (i : Nat)) = !same xs[i] ys[i] := by
            show (match xs[((i : Nat) : Int).toNat]?, ys[((i : Nat) : Int).toNat]? with | some x, some y => !same x y | _, _ => false) = _
            rw [Int.toNat_natCast, e1, e2]
          refine ix_l (atI_nat e1) (ix_l (atI_nat e2) ⟨_, _, rfl, plains_at pa e1, plains_at pb e2, by have := deps_at e1; omega, by have := deps_at e2; omega, ?_⟩)
          exact ⟨fun z => q1 (ed.trans z), fun z => q2 (ed.trans z)⟩
        · rw [List.map_id']
          have dd : deps (((List.range ((ys.length : Nat) : Int).toNat).map fun i : Nat => D.int (i : Int)).filter (dif xs ys)) ≤ 0 := by
            have := deps_le (k := 0) (ds := ((List.range ((ys.length : Nat) : Int).toNat).map fun i : Nat => D.int (i : Int)).filter (dif xs ys)) fun d hd => by
              obtain ⟨i, _, rfl⟩ := List.mem_map.mp (List.mem_filter.mp hd).1
              exact Nat.le_refl _
            exact this
          refine ⟨Nat.le_of_ble_eq_true rfl, ?_, Nat.le_of_ble_eq_true rfl, ?_⟩
          · show deps _ + 1 ≤ 64
            omega
          · rw [eq_nil, Int.toNat_natCast, dif_all hl]
            rw [same_ll] at h
            exact h
      case tup xs => exact ⟨Nat.zero_le _, Nat.zero_le _, brT h⟩
      all_goals exact ⟨Nat.zero_le _, Nat.zero_le _, brT h⟩
    | tup ys =>
      refine brT ?_
      cases a <;> first | (cases pa; done) | skip
      case tup xs =>
        refine ⟨Nat.zero_le _, Nat.zero_le _, brF (brF fun ly lx => ⟨Nat.zero_le _, Nat.zero_le _, ?_⟩)⟩
        by_cases hl : xs.length = ys.length
        rotate_left
        · refine brt (ne_len hl) ?_
          have : sames xs ys = false := by
            cases q : sames xs ys with
            | false => rfl
            | true => exact absurd (sames_len q) hl
          rw [same_tt, this] at h
          exact h
        refine brf (eq_len hl) ?_
        have pbl := (plain_tup pb).1
        replace pa := (plain_tup pa).2
        replace pb := (plain_tup pb).2
        simp only [dep] at da db
        rw [sizeLine_eq] at ly
        refine fun _ => ⟨⟨by omega, by omega⟩, ?_⟩
        refine lc_fm (dif xs ys) (fun d => d) (by unfold small; simp; omega) (fun e he r2 Q1 Q2 q1 q2 => ?_) ?_
        · obtain ⟨i, hi, rfl⟩ := List.mem_map.mp he
          have hi : i < ys.length := by simpa using hi
          have e1 : xs[i]? = some xs[i] := List.getElem?_eq_getElem (by omega)
          have e2 : ys[i]? = some ys[i] := List.getElem?_eq_getElem hi
          have ed : dif xs ys (.int (i : Nat)) = !same xs[i] ys[i] := by
            show (match xs[((i : Nat) : Int).toNat]?, ys[((i : Nat) : Int).toNat]? with | some x, some y => !same x y | _, _ => false) = _
            rw [Int.toNat_natCast, e1, e2]
          refine ix_t (atI_nat e1) (ix_t (atI_nat e2) ⟨_, _, rfl, plains_at pa e1, plains_at pb e2, by have := deps_at e1; omega, by have := deps_at e2; omega, ?_⟩)
          exact ⟨fun z => q1 (ed.trans z), fun z => q2 (ed.trans z)⟩
        · rw [List.map_id']
          have dd : deps (((List.range ((ys.length : Nat) : Int).toNat).map fun i : Nat => D.int (i : Int)).filter (dif xs ys)) ≤ 0 := by
            have := deps_le (k := 0) (ds := ((List.range ((ys.length : Nat) : Int).toNat).map fun i : Nat => D.int (i : Int)).filter (dif xs ys)) fun d hd => by
              obtain ⟨i, _, rfl⟩ := List.mem_map.mp (List.mem_filter.mp hd).1
              exact Nat.le_refl _
            exact this
          refine ⟨Nat.le_of_ble_eq_true rfl, ?_, Nat.le_of_ble_eq_true rfl, ?_⟩
          · show deps _ + 1 ≤ 64
            omega
          · rw [eq_nil, Int.toNat_natCast, dif_all hl]
            rw [same_tt] at h
            exact h
      case lst xs => exact ⟨Nat.zero_le _, Nat.zero_le _, brT h⟩
      all_goals exact ⟨Nat.zero_le _, Nat.zero_le _, brF (brT (brT h))⟩
    | non =>
      refine brF (brT (brT (brT ?_)))
      cases a <;> first | (cases pa; done) | exact h
    | bl x =>
      refine brF (brF ?_)
      cases a <;> first | (cases pa; done) | skip
      case non => exact brT (brF h)
      case bl y => cases x <;> cases y <;> exact brF ⟨Nat.zero_le _, Nat.zero_le _, brF ⟨Nat.zero_le _, Nat.zero_le _, brF (brF ⟨Nat.zero_le _, Nat.zero_le _, brF ⟨Nat.zero_le _, Nat.zero_le _, h⟩⟩)⟩⟩
      all_goals exact brF ⟨Nat.zero_le _, Nat.zero_le _, brT h⟩
    | str x =>
      refine brF (brF ?_)
      cases a <;> first | (cases pa; done) | skip
      case non => exact brT (brF h)
      case str y => exact brF ⟨Nat.zero_le _, Nat.zero_le _, brF ⟨Nat.zero_le _, Nat.zero_le _, brF (brF ⟨Nat.zero_le _, Nat.zero_le _, brF ⟨Nat.zero_le _, Nat.zero_le _, h⟩⟩)⟩⟩
      case bl y => exact brF ⟨Nat.zero_le _, Nat.zero_le _, brT h⟩
      case int y => exact brF ⟨Nat.zero_le _, Nat.zero_le _, brF ⟨Nat.zero_le _, Nat.zero_le _, brT h⟩⟩
      all_goals exact brF ⟨Nat.zero_le _, Nat.zero_le _, brF ⟨Nat.zero_le _, Nat.zero_le _, brF (brT (brT h))⟩⟩
    | int x =>
      refine brF (brF ?_)
      cases a <;> first | (cases pa; done) | skip
      case non => exact brT (brF h)
      case int y => exact brF ⟨Nat.zero_le _, Nat.zero_le _, brF ⟨Nat.zero_le _, Nat.zero_le _, brF (brF ⟨Nat.zero_le _, Nat.zero_le _, brF ⟨Nat.zero_le _, Nat.zero_le _, h⟩⟩)⟩⟩
      case bl y => exact brF ⟨Nat.zero_le _, Nat.zero_le _, brT h⟩
      all_goals exact brF ⟨Nat.zero_le _, Nat.zero_le _, brF ⟨Nat.zero_le _, Nat.zero_le _, brT h⟩⟩
abbrev N_is_name : List Str := ["value", "letter"]
theorem sc_is_name : FnScope N_is_name ["value"] (defScope s_is_name) := ⟨rfl, rfl, rfl, by decide +kernel, rfl, by decide +kernel, by decide +kernel⟩
theorem c_is_name (B : Bl mg) (gL : GS mg "LETTERS" abc) (gM : GI mg "MOST_LETTERS" 8) (Dx : Dfn K mg "is_name" s_is_name ["value"]) : Cl P w K mg base 1 "is_name" ["value"] spIsName := by
  have sc := sc_is_name
  refine cl_of Dx sc (fun ds r P' XR ⟨d, e, _⟩ => by rw [e]; rfl) (fun f cdv A outer s H E hr tk po => ?_)
  have hi := u65 hr
  refine ⟨_, (ss_cons (s_if (b_w (w_or (b_not (b_tru (d_isi .str (by rfl) B.isi (dv 0) (by rfl) B.str))) (w_or1 (b_not (b_chain p_le p_le d_int (d_blt c_len (by rfl) B.len (dl_cons (dv 0) dl_nil)) (d_gI gM))))))
  (ss_one (s_ret d_bl))
  ss_nil)
  (ss_one (s_ret (d_blt c_all (by rfl) B.all (dl_cons (d_lc (js := [1]) (own := [("letter", 1)]) sc.nd (i_str (dv 0)) (blkOk_by (own := [("letter", 1)]) (N := N_is_name) (sc := defScope s_is_name) (by decide +kernel)) (fun _ _ _ _ _ => (g_name (i := 1) sc.nd)) (fun _ _ _ _ _ => pts_no) (fun _ _ _ _ _ => (d_cmp (p_in hi) (dv 1) (d_gS gL)))) dl_nil))))), fun ds r P' XR h => ?_⟩
  obtain ⟨d, rfl, pd, h⟩ := h
  replace h := fit.of h
  cases d with
  | adr => cases pd
  | ins => cases pd
  | dct => cases pd
  | str z =>
    refine brF ?_
    have hb : ∀ b, isNm z = b → fit P' (.bl b) r := fun b e => e ▸ h
    refine ⟨fun (h1 : decide ((1 : Int) ≤ ((z.length : Nat) : Int)) = true) => ⟨fun (h2 : (!decide (((z.length : Nat) : Int) ≤ 8)) = true) => ?_, fun (h2 : (!decide (((z.length : Nat) : Int) ≤ 8)) = false) => ?_⟩, fun (h1 : decide ((1 : Int) ≤ ((z.length : Nat) : Int)) = false) => brT ?_⟩
    · refine hb _ ?_
      have : ¬ z.length ≤ 8 := fun q => by
        have q2 : ((z.length : Nat) : Int) ≤ 8 := by omega
        rw [decide_eq_true q2] at h2
        cases h2
      unfold isNm
      rw [decide_eq_false this, Bool.and_false, Bool.false_and]
    · have l8 : z.length ≤ 8 := by
        have : ((z.length : Nat) : Int) ≤ 8 := by
          cases q : decide (((z.length : Nat) : Int) ≤ 8) with
          | true => exact of_decide_eq_true q
          | false => rw [q] at h2; cases h2
        omega
      have l1 : 1 ≤ z.length := by
        have : (1 : Int) ≤ ((z.length : Nat) : Int) := of_decide_eq_true h1
        omega
      refine lc_map (fun d => .bl (match d with | .str w => (match sub1 w with | some c => decide (c ∈ tl abc) | none => false) | _ => false)) ?_ ?_ ?_
      · rw [List.length_map]
        show (tl z).length ≤ 1000000
        rw [← len_tl]
        omega
      · intro d hd r' P'' q
        obtain ⟨c, hc, rfl⟩ := List.mem_map.mp hd
        exact ⟨q⟩
      · have e : (List.map (fun c => D.str ⟨#[c]⟩) (tl z)).map (fun d => D.bl (match d with | .str w => (match sub1 w with | some c => decide (c ∈ tl abc) | none => false) | _ => false)) = (tl z).map fun c => D.bl (isLet c) := by
          rw [List.map_map]
          congr 1
          funext c
          show D.bl (decide (c ∈ tl abc)) = _
          rw [isLet_abc]
        rw [e]
        refine oAll_of (f := fun bs => bs.all id) (k := fun d => fit P' d r) (bls_of isLet (tl z)) ?_
        refine hb _ ?_
        unfold isNm
        rw [decide_eq_true l1, decide_eq_true l8, List.all_map]
        rfl
    · refine hb _ ?_
      have : ¬ 1 ≤ z.length := fun q => by
        have q2 : (1 : Int) ≤ ((z.length : Nat) : Int) := by omega
        rw [decide_eq_true q2] at h1
        cases h1
      unfold isNm
      rw [decide_eq_false this, Bool.false_and, Bool.false_and]
  | _ => exact brT (brT h)
def spNames : SpX := fun ds r P _ => ∃ (p a : Addr) (N : Nat) (X : Rs) (m : Nat), ds = [.adr p, .int (m : Nat)] ∧ r = poolA p a N :: X ∧ N < 1000000 ∧ m ≤ 26 ∧ ∀ zs : List Str, zs.length = m → zs.Nodup → (∀ z ∈ zs, isNm z = true) → P (.lst (zs.map .str)) (poolA p a (N + 2 + 8 * m) :: X)
theorem nm_app1 {c : Nat} {cs : List Nat} (hc : isLet c = true) (hl : cs.length ≤ 7) (h : ∀ x ∈ cs, isLet x = true) : isNm (⟨#[c]⟩ ++ tJoin "" (cs.map sg)) = true ∧ isNm (tJoin "" (cs.map sg) ++ ⟨#[c]⟩) = true ∧ tl ((⟨#[c]⟩ : Str) ++ tJoin "" (cs.map sg)) = c :: cs ∧ tl (tJoin "" (cs.map sg) ++ (⟨#[c]⟩ : Str)) = cs ++ [c] := by
  have t1 : tl ((⟨#[c]⟩ : Str) ++ tJoin "" (cs.map sg)) = c :: cs := by
    show ((#[c] : Array Nat) ++ (tJoin "" (cs.map sg)).cps).toList = _
    rw [Array.toList_append]
    show [c] ++ tl (tJoin ⟨#[]⟩ (cs.map sg)) = _
    rw [tl_signs]
    rfl
  have t2 : tl (tJoin "" (cs.map sg) ++ (⟨#[c]⟩ : Str)) = cs ++ [c] := by
    show ((tJoin "" (cs.map sg)).cps ++ (#[c] : Array Nat)).toList = _
    rw [Array.toList_append]
    show tl (tJoin ⟨#[]⟩ (cs.map sg)) ++ [c] = _
    rw [tl_signs]
  refine ⟨?_, ?_, t1, t2⟩
  · unfold isNm
    rw [len_tl, t1, List.length_cons]
    simp only [Bool.and_eq_true, decide_eq_true_eq, List.all_eq_true]
    exact ⟨⟨by omega, by omega⟩, fun x hx => (List.mem_cons.mp hx).elim (fun e => e ▸ hc) (h x)⟩
  · unfold isNm
    rw [len_tl, t2, List.length_append, List.length_singleton]
    simp only [Bool.and_eq_true, decide_eq_true_eq, List.all_eq_true]
    exact ⟨⟨by omega, by omega⟩, fun x hx => (List.mem_append.mp hx).elim (h x) fun q => (List.mem_singleton.mp q) ▸ hc⟩
theorem abc_let {i c : Nat} (h : (tl abc)[i]? = some c) : c = 97 + i ∧ isLet c = true := by
  have q : ((List.range 26).all fun n => decide ((tl abc)[n]? = some (97 + n))) = true := by decide +kernel
  have l : (tl abc).length = 26 := by decide +kernel
  have hi := (List.getElem?_eq_some_iff.mp h).1
  rw [l] at hi
  have e := of_decide_eq_true (List.all_eq_true.mp q i (List.mem_range.mpr hi))
  rw [h] at e
  have e := Option.some.inj e
  subst e
  refine ⟨rfl, ?_⟩
  unfold isLet
  rw [decide_eq_true (by omega), decide_eq_true (by omega)]
  rfl
abbrev N__law_names : List Str := ["_law_pool_here", "_law_many", "_law_letters", "_law_size", "_law_front", "_law_names_here", "_law_k", "_law_word", "_law_j"]
theorem sc__law_names : FnScope N__law_names ["_law_pool_here", "_law_many"] (defScope s__law_names) := ⟨rfl, rfl, rfl, by decide +kernel, rfl, by decide +kernel, by decide +kernel⟩
theorem c__law_names (B : Bl mg) (C__law_draw : Cl P w K mg base 1 "_law_draw" ["_law_pool_here", "_law_many"] spDraw) (Dx : Dfn K mg "_law_names" s__law_names ["_law_pool_here", "_law_many"]) : Cl P w K mg base 2 "_law_names" ["_law_pool_here", "_law_many"] spNames := by
  have sc := sc__law_names
  refine cl_of Dx sc (fun ds r P' XR ⟨_, _, _, _, _, e, _⟩ => by rw [e]; rfl) (fun f cdv A outer s H E hr tk po => ⟨_, (ss_cons (s_set (i := 2) sc.nd d_str)
  (ss_cons (s_set (i := 3) sc.nd (d_fn C__law_draw tk hr (dl_cons (dv 0) (dl_cons d_int dl_nil))))
  (ss_cons (s_set (i := 4) sc.nd (d_fn C__law_draw tk hr (dl_cons (dv 0) (dl_cons d_int dl_nil))))
  (ss_cons (s_set (i := 5) sc.nd (d_lstO dl_nil))
  (ss_cons (s_for (i_r1 (by rfl) B.range (dl_cons (dv 1) dl_nil)) (g_name (i := 6) sc.nd)
  (ss_cons (s_set (i := 7) sc.nd (d_join d_str (d_lc (js := [8]) (own := [("_law_j", 8)]) sc.nd (i_r1 (by rfl) B.range (dl_cons (dv 3) dl_nil)) (blkOk_by (own := [("_law_j", 8)]) (N := N__law_names) (sc := defScope s__law_names) (by decide +kernel)) (fun _ _ _ _ _ => (g_name (i := 8) sc.nd)) (fun _ _ _ _ _ => pts_no) (fun _ _ _ _ _ => (d_ix (dv 2) (d_fnN C__law_draw hr (dl_cons (dv 0) (dl_cons d_int dl_nil))))))))
  (ss_one (s_expr (d_app (dv 5) (dl_cons (d_if (b_tru (dv 4)) (d_bin p_add (d_ix (dv 2) (dv 6)) (dv 7)) (d_bin p_add (dv 7) (d_ix (dv 2) (dv 6)))) dl_nil))))) po)
  (ss_one (s_melt 5 (s_ret (dv 5))))))))), fun ds r P' XR h => ?_⟩)
  obtain ⟨p, a, N, X, m, rfl, rfl, hN, hm, hP⟩ := h
  refine ⟨p, a, 8, N, X, rfl, rfl, ⟨by decide, by decide⟩, by omega, fun sz s0 s8 => ⟨p, a, 2, N + 1, X, rfl, rfl, ⟨by decide, by decide⟩, by omega, fun fr f0 f2 => ⟨Nat.zero_le _, fun q => ⟨⟨by omega, by omega⟩, ?_⟩⟩⟩⟩
  obtain ⟨sz, rfl⟩ : ∃ n : Nat, sz = n := ⟨sz.toNat, by omega⟩
  refine ⟨fun i δ r' => (∃ e6 e7 e8, δ = [some (.adr p), some (.int (m : Nat)), some (.str abc), some (.int sz), some (.int fr), some (.adr q), e6, e7, e8]) ∧ ∃ (zs : List Str) (n : Nat), r' = poolA p a n :: (X ++ [lstA q (zs.map .str)]) ∧ n ≤ N + 2 + 8 * i ∧ zs.length = i ∧ zs.Nodup ∧ (∀ z ∈ zs, isNm z = true) ∧ ∀ j z, zs[j]? = some z → (fr ≠ 0 → (tl z).head? = some (97 + j)) ∧ (fr = 0 → (tl z).getLast? = some (97 + j)), ⟨⟨_, _, _, rfl⟩, [], _, rfl, Nat.le_refl _, rfl, List.nodup_nil, fun _ h => (by cases h), fun j z h => (by cases h)⟩, ?_, ?_⟩
  · rintro i d δ r' hd ⟨⟨e6, e7, e8, rfl⟩, zs, n, rfl, hn, hzl, hnd, hnm, hch⟩
    have hi : i < m := by
      have := (List.getElem?_eq_some_iff.mp hd).1
      rw [List.length_map, List.length_range] at this
      omega
    rw [List.getElem?_map, List.getElem?_range (by omega)] at hd
    cases hd
    refine ⟨⟨by omega, by omega⟩, ⟨fun j acc r' => ∃ cs : List Nat, acc = cs.map (fun c => D.str (sg c)) ∧ cs.length = j ∧ (∀ c ∈ cs, isLet c = true) ∧ r' = poolA p a (n + j) :: (X ++ [lstA q (zs.map .str)]), ⟨[], rfl, rfl, fun _ h => (by cases h), rfl⟩, ?_, ?_⟩⟩
    · rintro pp j d acc r' hd ⟨cs, rfl, hc, hl, rfl⟩
      have hj : j < sz := by
        have := (List.getElem?_eq_some_iff.mp hd).1
        rw [List.length_map, List.length_range] at this
        omega
      refine brT ⟨p, a, 26, _, _, rfl, rfl, ⟨by decide, by decide⟩, by omega, fun k k0 k1 => ?_⟩
      obtain ⟨c, hat, hc2⟩ := abc_at k0 k1
      refine ix_s hat ⟨?_, poolA p a (n + j + 1) :: (X ++ [lstA q (zs.map .str)]), le.refl, cs ++ [c], by rw [List.map_append]; rfl, by rw [List.length_append, hc]; rfl, fun x hx => (List.mem_append.mp hx).elim (hl x) fun h => (List.mem_singleton.mp h) ▸ hc2, rfl⟩
      rw [List.length_map, hc]
      unfold small
      omega
    · rintro acc r' ⟨cs, rfl, hc, hl, rfl⟩
      rw [List.length_map, List.length_range] at hc
      have hc : cs.length = sz := by omega
      have hc7 : cs.length ≤ 7 := by omega
      have lr : (List.map (fun i : Nat => D.int (i : Int)) (List.range ((sz : Int)).toNat)).length = sz := by rw [List.length_map, List.length_range]; omega
      refine join_l (strL_sg cs) (by rw [sum_ones, List.length_map]; show cs.length + cs.length * 0 ≤ 1000000; omega) ?_
      have l26 : (tl abc).length = 26 := by decide +kernel
      have hlt : i < (tl abc).length := by omega
      obtain ⟨c, hcat⟩ : ∃ c, (tl abc)[i]? = some c := ⟨_, List.getElem?_eq_getElem hlt⟩
      obtain ⟨ec, hlc⟩ := abc_let hcat
      obtain ⟨n1, n2, t1, t2⟩ := nm_app1 hlc hc7 hl
      have fin : ∀ z : Str, isNm z = true → (fr ≠ 0 → (tl z).head? = some (97 + i)) → (fr = 0 → (tl z).getLast? = some (97 + i)) → (zs ++ [z]).length = i + 1 ∧ (zs ++ [z]).Nodup ∧ (∀ z' ∈ zs ++ [z], isNm z' = true) ∧ ∀ j z', (zs ++ [z])[j]? = some z' → (fr ≠ 0 → (tl z').head? = some (97 + j)) ∧ (fr = 0 → (tl z').getLast? = some (97 + j)) := fun z hz h1 h2 => by
        have hch2 : ∀ j z', (zs ++ [z])[j]? = some z' → (fr ≠ 0 → (tl z').head? = some (97 + j)) ∧ (fr = 0 → (tl z').getLast? = some (97 + j)) := fun j z' hj => by
          rw [List.getElem?_append] at hj
          split at hj
          · exact hch j z' hj
          · rename_i hn
            have hj0 : j - zs.length = 0 := by
              have := (List.getElem?_eq_some_iff.mp hj).1
              rw [List.length_singleton] at this
              omega
            rw [hj0] at hj
            cases hj
            have : j = i := by omega
            subst this
            exact ⟨h1, h2⟩
        refine ⟨by rw [List.length_append, List.length_singleton, hzl], ?_, fun z' hz' => (List.mem_append.mp hz').elim (hnm z') fun h => (List.mem_singleton.mp h) ▸ hz, hch2⟩
        refine List.nodup_append.mpr ⟨hnd, by simp, fun x hx y hy e => ?_⟩
        rw [List.mem_singleton] at hy
        subst hy
        subst e
        obtain ⟨j, hj⟩ := List.mem_iff_getElem?.mp hx
        have hjl := (List.getElem?_eq_some_iff.mp hj).1
        obtain ⟨q1, q2⟩ := hch j x hj
        by_cases hf : fr = 0
        · have := (q2 hf).symm.trans (h2 hf)
          have := Option.some.inj this
          omega
        · have := (q1 hf).symm.trans (h1 hf)
          have := Option.some.inj this
          omega
      have sz8 : (tJoin "" (cs.map sg)).length ≤ 7 := by show (tJoin ⟨#[]⟩ (cs.map sg)).length ≤ 7; rw [len_tl, tl_signs]; exact hc7
      refine ⟨q, zs.map .str, rfl, ⟨_ :: X, [], rfl⟩, fun z => ?_, fun z => ?_⟩
      · have hf : fr ≠ 0 := by simpa using z
        refine ix_s (L2.atI_nat hcat) ?_
        refine ⟨by show 1 + _ ≤ _; omega, ⟨_ :: X, zs.map .str, [], .str _, rfl, rfl, by unfold small; rw [List.length_map]; omega, ⟨_, _, _, rfl⟩, zs ++ [_], _, by rw [List.map_append]; rfl, by omega, fin _ n1 (fun _ => by rw [t1, ec]; rfl) (fun e => absurd e hf)⟩⟩
      · have hf : fr = 0 := by simpa using z
        refine ix_s (L2.atI_nat hcat) ?_
        refine ⟨by show _ + 1 ≤ _; omega, ⟨_ :: X, zs.map .str, [], .str _, rfl, rfl, by unfold small; rw [List.length_map]; omega, ⟨_, _, _, rfl⟩, zs ++ [_], _, by rw [List.map_append]; rfl, by omega, fin _ n2 (fun e => absurd hf e) (fun _ => by rw [t2, ec]; simp)⟩⟩
  · rintro δ r' ⟨⟨e6, e7, e8, rfl⟩, zs, n, rfl, hn, hzl, hnd, hnm, hch⟩
    rw [List.length_map, List.length_range] at hzl hn
    have hzl : zs.length = m := by omega
    refine ⟨q, zs.map .str, _ :: X, [], rfl, rfl, ?_⟩
    rw [List.append_nil]
    exact ⟨_, pool_mono (by omega), hP zs hzl hnd hnm⟩
theorem any_at {w : Str} {l : List Str} (h : w ∈ l) : (l.any fun y => y == w) = true := List.any_eq_true.mpr ⟨w, h, beq_self_eq_true w⟩
def modesL : List Str := ["out", "deaf", "on"]
def isModeD (d : D) : Bool := match d with | .str z => modesL.any fun y => y == z | _ => false
def spIsMode : SpX := fun ds r P _ => ∃ d, ds = [d] ∧ plain d = true ∧ P (.bl (isModeD d)) r
abbrev N_is_mode : List Str := ["mode"]
theorem sc_is_mode : FnScope N_is_mode ["mode"] (defScope s_is_mode) := ⟨rfl, rfl, rfl, by decide +kernel, rfl, by decide +kernel, by decide +kernel⟩
theorem c_is_mode (B : Bl mg) (gM : GT K mg "MODES" modesL) (Dx : Dfn K mg "is_mode" s_is_mode ["mode"]) : Cl P w K mg base 1 "is_mode" ["mode"] spIsMode := by
  have sc := sc_is_mode
  refine cl_of Dx sc (fun ds r P' XR ⟨d, e, _⟩ => by rw [e]; rfl) (fun f cdv A outer s H E hr tk po => ?_)
  have hi := u65 hr
  refine ⟨_, (ss_one (s_ret (d_and (d_isi .str (by rfl) B.isi (dv 0) (by rfl) B.str) (d_one (d_cmp (p_in hi) (dv 0) (d_gT gM)))))), fun ds r P' XR h => ?_⟩
  obtain ⟨d, rfl, pd, h⟩ := h
  replace h := fit.of h
  cases d with
  | str z => exact brT (oIn_t (xs := modesL) h)
  | adr => cases pd
  | ins => cases pd
  | dct => cases pd
  | _ => exact brF h
abbrev StV := SetV "chosen"
def stF : List Str := ["chosen"]
structure StOk (l : List (Str × Str)) : Prop where
  nd : (l.map (·.1)).Nodup
  nm : ∀ e ∈ l, isNm e.1 = true
  md : ∀ e ∈ l, e.2 = "on" ∨ e.2 = "deaf"
  ln : l.length ≤ 60
theorem StOk.sok {l : List (Str × Str)} (h : StOk l) : ∀ e ∈ l, sok e.1 := fun e he => isNm_sok (h.nm e he)
def mdAt (l : List (Str × Str)) (z : Str) : Str := (sGet l z).getD "out"
def spStGet (CS CB : Addr) : SpX := fun ds r P XR => ∃ (s n : D) (l : List (Str × Str)), ds = [s, n] ∧ StV CS r s l ∧ plain n = true ∧ ((∃ z, n = .str z ∧ isNm z = true ∧ P (.str (mdAt l z)) r) ∨ (isNameD n = false ∧ XR CB ["name"] [n] r))
abbrev N_Setting___getitem__ : List Str := ["self", "name"]
theorem sc_Setting___getitem__ : FnScope N_Setting___getitem__ ["self", "name"] (defScope s_Setting___getitem__) := ⟨rfl, rfl, rfl, by decide +kernel, rfl, by decide +kernel, by decide +kernel⟩
theorem c_Setting_getitem {CS CB : Addr} (B : Bl mg) (X_BadName : ErrX P w K mg base "BadName" CB "name") (C_is_name : Cl P w K mg base 1 "is_name" ["value"] spIsName) (K_Setting : KCls K mg "Setting" CS stF) (Dx : DfG K CS "__getitem__" "Setting.__getitem__" s_Setting___getitem__ ["self", "name"]) : ClG P w K mg base 3 CS "__getitem__" (spStGet CS CB) := by
  have sc := sc_Setting___getitem__
  refine clg_of Dx sc (fun ds r P' XR ⟨_, _, _, e, _⟩ => by rw [e]; rfl) (fun f cdv A outer s H E hr tk po => ?_)
  have hu := hr.units
  have hi := u65 hr
  refine ⟨_, (ss_cons (s_if (b_not (b_tru (d_fn C_is_name tk hr (dl_cons (dv 1) dl_nil))))
  (ss_one (s_raise X_BadName.c tk hr (dl_cons (dv 1) dl_nil)))
  ss_nil)
  (ss_one (s_ret (d_dgt2 hi (d_fld (dv 0)) (dv 1) d_str ⟨rfl, rfl, rfl, rfl⟩)))), fun ds r P' XR h => ?_⟩
  obtain ⟨s, n, l, rfl, hs, pn, h⟩ := h
  refine ⟨n, rfl, pn, ?_⟩
  rcases h with ⟨z, rfl, hz, h⟩ | ⟨hn, h⟩
  · refine brf (by show (!isNm z) = false; rw [hz]; rfl) ?_
    refine hs.fld fun cd hc => ⟨hc.dc, sm_dget hc ?_⟩
    have e : ((sGet l z).map D.str).getD (.str "out") = .str (mdAt l z) := by unfold mdAt; cases sGet l z <;> rfl
    rw [e]
    exact fit.of h
  · exact brt (by rw [hn]; rfl) ⟨n, rfl, fitX.of (δ := []) h⟩
def stPut (l : List (Str × Str)) (z m : Str) : List (Str × Str) := if m = "out" then mDrop l z else mPut l z m
def spStPut (CS CB CM : Addr) : SpX := fun ds r P XR => ∃ (a c : Addr) (n m : D) (l : List (Str × Str)) (pre post : Rs), ds = [.adr a, n, m] ∧ r = pre ++ dctA c (sm l) :: post ∧ insA a CS stF [.adr c] ∈ r ∧ l.length ≤ 1000 ∧ plain n = true ∧ plain m = true ∧
  ((∃ z y, n = .str z ∧ m = .str y ∧ isNm z = true ∧ y ∈ modesL ∧ P .non (pre ++ dctA c (sm (stPut l z y)) :: post)) ∨ (isNameD n = false ∧ XR CB ["name"] [n] r) ∨ (isNameD n = true ∧ isModeD m = false ∧ XR CM ["mode"] [m] r))
abbrev N_Setting___setitem__ : List Str := ["self", "name", "mode"]
theorem sc_Setting___setitem__ : FnScope N_Setting___setitem__ ["self", "name", "mode"] (defScope s_Setting___setitem__) := ⟨rfl, rfl, rfl, by decide +kernel, rfl, by decide +kernel, by decide +kernel⟩
set_option maxHeartbeats 1000000 in
theorem c_Setting_setitem {CS CB CM : Addr} (B : Bl mg) (X_BadName : ErrX P w K mg base "BadName" CB "name") (X_BadMode : ErrX P w K mg base "BadMode" CM "mode") (C_is_name : Cl P w K mg base 1 "is_name" ["value"] spIsName) (C_is_mode : Cl P w K mg base 1 "is_mode" ["mode"] spIsMode) (K_Setting : KCls K mg "Setting" CS stF) (Dx : DfSi K CS "Setting.__setitem__" s_Setting___setitem__ ["self", "name", "mode"]) : ClSi P w K mg base 3 CS (spStPut CS CB CM) := by
  have sc := sc_Setting___setitem__
  refine clsi_of Dx sc (fun ds r P' XR ⟨_, _, _, _, _, _, _, e, _⟩ => by rw [e]; rfl) (fun f cdv A outer s H E hr tk po => ?_)
  have hu := hr.units
  have hi := u65 hr
  refine ⟨_, (ss_cons (s_if (b_not (b_tru (d_fn C_is_name tk hr (dl_cons (dv 1) dl_nil))))
  (ss_one (s_raise X_BadName.c tk hr (dl_cons (dv 1) dl_nil)))
  ss_nil)
  (ss_cons (s_if (b_not (b_tru (d_fn C_is_mode tk hr (dl_cons (dv 2) dl_nil))))
  (ss_one (s_raise X_BadMode.c tk hr (dl_cons (dv 2) dl_nil)))
  ss_nil)
  (ss_one (s_if (b_cmp (p_eq hu) (dv 2) d_str)
  (ss_one (s_expr (d_dpop2 (d_fld (dv 0)) (dv 1) d_non ⟨rfl, rfl, rfl, rfl⟩)))
  (ss_one (s_dput hi (d_fld (dv 0)) (dv 1) (dv 2))))))), fun ds r P' XR h => ?_⟩
  obtain ⟨a, c, n, m, l, pre, post, rfl, rfl, hin, hl, pn, pm, h⟩ := h
  refine ⟨n, rfl, pn, ?_⟩
  have hs : StV CS (pre ++ dctA c (sm l) :: post) (.adr a) l := .own hin (List.mem_append.mpr (.inr List.mem_cons_self))
  rcases h with ⟨z, y, rfl, rfl, hz, hy, h⟩ | ⟨hn, h⟩ | ⟨hn, hm, h⟩
  · refine brf (by show (!isNm z) = false; rw [hz]; rfl) ⟨.str y, rfl, rfl, ?_⟩
    have hym : isModeD (.str y) = true := any_at hy
    refine brf (by show (!isModeD (.str y)) = false; rw [hym]; rfl) ⟨Nat.zero_le _, Nat.zero_le _, ?_⟩
    obtain ⟨p2, q2, e2⟩ := app_mem hin
    have e0 : ixF stF "chosen" = some 0 := rfl
    unfold stPut at h
    by_cases ho : y = "out"
    · rw [if_pos ho] at h
      refine brt (by rw [ho, eqD_str]; exact beq_self_eq_true _) ?_
      refine .own p2 q2 0 _ e2 e0 rfl ⟨.inl ⟨c, _, rfl, .inl ⟨pre, post, rfl⟩⟩, .mk pre post (sm l) (.inr z) rfl rfl ?_⟩
      rw [sm_get, sm_drop]
      cases hg : sGet l z with
      | some m => exact fit.of h
      | none =>
        have : mDrop l z = l := by
          unfold mDrop
          refine List.filter_eq_self.mpr fun e he => decide_eq_true fun k => ?_
          exact sGet_none.mp hg (List.mem_map.mpr ⟨e, he, k⟩)
        rw [this] at h
        exact fit.of h
    · rw [if_neg ho] at h
      refine brf (by rw [eqD_str]; exact beq_eq_false_iff_ne.mpr ho) ?_
      refine .own p2 q2 0 _ e2 e0 rfl (.mk pre post (sm l) (.inr z) rfl rfl (by unfold small; rw [sm_len]; omega) ?_)
      rw [sm_put]
      exact fit.of h
  · exact brt (by rw [hn]; rfl) ⟨n, rfl, fitX.of (δ := []) h⟩
  · refine brf (by rw [hn]; rfl) ⟨m, rfl, pm, brt (by rw [hm]; rfl) ⟨m, rfl, fitX.of (δ := []) h⟩⟩
def spStLen (CS : Addr) : SpX := fun ds r P _ => ∃ (s : D) (l : List (Str × Str)), ds = [s] ∧ StV CS r s l ∧ P (.int (l.length : Nat)) r
abbrev N_Setting___len__ : List Str := ["self"]
theorem sc_Setting___len__ : FnScope N_Setting___len__ ["self"] (defScope s_Setting___len__) := ⟨rfl, rfl, rfl, by decide +kernel, rfl, by decide +kernel, by decide +kernel⟩
theorem c_Setting_len {CS : Addr} (B : Bl mg) (K_Setting : KCls K mg "Setting" CS stF) (Dx : DfG K CS "__len__" "Setting.__len__" s_Setting___len__ ["self"]) : ClG P w K mg base 1 CS "__len__" (spStLen CS) := by
  have sc := sc_Setting___len__
  refine clg_of Dx sc (fun ds r P' XR ⟨_, _, e, _⟩ => by rw [e]; rfl) (fun f cdv A outer s H E hr tk po => ?_)
  have hu := hr.units
  refine ⟨_, (ss_one (s_ret (d_blt2 c_lenDv (by rfl) B.len (dl_cons (d_fld (dv 0)) dl_nil)))), fun ds r P' XR h => ?_⟩
  obtain ⟨s, l, rfl, hs, h⟩ := h
  refine hs.fld fun cd hc => ⟨_, _, rfl, hc, ?_⟩
  rw [sm_len]
  exact fit.of h
def inSt (l : List (Str × Str)) (n : D) : Bool := match n with | .str z => isNm z && (sGet l z).isSome | _ => false
def spStIn (CS : Addr) : SpX := fun ds r P _ => ∃ (s n : D) (l : List (Str × Str)), ds = [s, n] ∧ StV CS r s l ∧ plain n = true ∧ P (.bl (inSt l n)) r
abbrev N_Setting___contains__ : List Str := ["self", "name"]
theorem sc_Setting___contains__ : FnScope N_Setting___contains__ ["self", "name"] (defScope s_Setting___contains__) := ⟨rfl, rfl, rfl, by decide +kernel, rfl, by decide +kernel, by decide +kernel⟩
theorem c_Setting_contains {CS : Addr} (B : Bl mg) (K_Setting : KCls K mg "Setting" CS stF) (C_is_name : Cl P w K mg base 1 "is_name" ["value"] spIsName) (Dx : DfI K CS "Setting.__contains__" s_Setting___contains__ ["self", "name"]) : ClI P w K mg base 2 CS (spStIn CS) := by
  have sc := sc_Setting___contains__
  refine cli_of Dx sc (fun ds r P' XR ⟨_, _, _, e, _⟩ => by rw [e]; rfl) (fun f cdv A outer s H E hr tk po => ?_)
  have hu := hr.units
  have hi := u65 hr
  refine ⟨_, (ss_one (s_ret (d_and (d_fn C_is_name tk hr (dl_cons (dv 1) dl_nil)) (d_one (d_cmpO (p_din hi) (dv 1) (d_fld (dv 0))))))), fun ds r P' XR h => ?_⟩
  obtain ⟨s, n, l, rfl, hs, pn, h⟩ := h
  replace h := fit.of h
  refine ⟨n, rfl, pn, ?_⟩
  cases hn : isNameD n with
  | false =>
    refine brF ?_
    have : inSt l n = false := by cases n <;> first | rfl | (show (isNm _ && _) = false; rw [show isNm _ = false from hn]; rfl)
    rw [this] at h
    exact h
  | true =>
    cases n with
    | str z =>
      refine brT (hs.fld fun cd hc => ⟨sm_dget hc ?_⟩)
      have : inSt l (.str z) = (sGet l z).isSome := by show (isNm z && _) = _; rw [show isNm z = true from hn]; rfl
      rw [this] at h
      rw [Option.isSome_map, cond_false]
      exact h
    | _ => cases hn
def spStNames (CS : Addr) : SpX := fun ds r P _ => ∃ (s : D) (l : List (Str × Str)), ds = [s] ∧ StV CS r s l ∧ StOk l ∧ ∀ p, P (.adr p) (r ++ [lstA p ((srt (l.map (·.1))).map .str)])
abbrev N_Setting_names : List Str := ["self"]
theorem sc_Setting_names : FnScope N_Setting_names ["self"] (defScope s_Setting_names) := ⟨rfl, rfl, rfl, by decide +kernel, rfl, by decide +kernel, by decide +kernel⟩
theorem c_Setting_names {CS : Addr} (B : Bl mg) (K_Setting : KCls K mg "Setting" CS stF) (Dx : DfM K CS "names" "Setting.names" s_Setting_names ["self"]) : ClM P w K mg base 1 CS "names" (spStNames CS) := by
  have sc := sc_Setting_names
  refine clm_of Dx sc (fun ds r P' XR ⟨_, _, e, _⟩ => by rw [e]; rfl) (fun f cdv A outer s H E hr tk po => ?_)
  have hu := hr.units
  refine ⟨_, (ss_one (s_ret (d_sortO (by rfl) B.sorted (dl_cons (d_ty2 c_listDc (by rfl) B.list (dl_cons (d_fld (dv 0)) dl_nil)) dl_nil)))), fun ds r P' XR h => ?_⟩
  obtain ⟨s, l, rfl, hs, ok, h⟩ := h
  exact hs.fld fun cd hc => ⟨_, _, rfl, hc, sm_sok ok.sok, l.map (·.1), by rw [sm_keys], by rw [List.length_map]; have := ok.ln; omega, fun p => fit.of (h p)⟩
def mkSt (onz dfz : List Str) : List (Str × Str) := onz.map (fun z => (z, ("on" : Str))) ++ dfz.map fun z => (z, ("deaf" : Str))
def twA : List Str → List Str → Option Str
  | _, [] => none
  | seen, z :: zs => if z ∈ seen then some z else twA (seen ++ [z]) zs
theorem twA_none : ∀ {zs seen : List Str}, twA seen zs = none ↔ zs.Nodup ∧ ∀ z ∈ zs, z ∉ seen
  | [], seen => ⟨fun _ => ⟨List.nodup_nil, fun _ h => (by cases h)⟩, fun _ => rfl⟩
  | z :: zs, seen => by
    show (if z ∈ seen then some z else twA (seen ++ [z]) zs) = none ↔ _
    by_cases h : z ∈ seen
    · rw [if_pos h]
      exact ⟨(fun e => by cases e), fun q => absurd h (q.2 z List.mem_cons_self)⟩
    · rw [if_neg h, twA_none, List.nodup_cons]
      constructor
      · rintro ⟨h1, h2⟩
        refine ⟨⟨fun m => h2 z m (List.mem_append.mpr (.inr (List.mem_singleton.mpr rfl))), h1⟩, fun y hy => ?_⟩
        rcases List.mem_cons.mp hy with rfl | hy
        · exact h
        · exact fun k => h2 y hy (List.mem_append.mpr (.inl k))
      · rintro ⟨⟨h1, h2⟩, h3⟩
        refine ⟨h2, fun y hy k => ?_⟩
        rcases List.mem_append.mp k with k | k
        · exact h3 y (List.mem_cons_of_mem _ hy) k
        · rw [List.mem_singleton.mp k] at hy
          exact h1 hy
theorem mkSt_keys (onz dfz : List Str) : (mkSt onz dfz).map (·.1) = onz ++ dfz := by
  unfold mkSt
  rw [List.map_append, List.map_map, List.map_map]
  show onz.map id ++ dfz.map id = _
  rw [List.map_id, List.map_id]
theorem mkSt_get {onz dfz : List Str} (z : Str) : sGet (mkSt onz dfz) z = if z ∈ onz then some ("on" : Str) else if z ∈ dfz then some ("deaf" : Str) else none := by
  unfold mkSt
  rw [sGet_app]
  have key : ∀ (m : Str) (zs : List Str), sGet (zs.map fun z => (z, m)) z = if z ∈ zs then some m else none := fun m zs => by
    induction zs with
    | nil => rfl
    | cons y zs ih =>
      rw [List.map_cons, sGet_cons, ih]
      by_cases h : y = z
      · rw [if_pos h, if_pos (by rw [h]; exact List.mem_cons_self)]
      · rw [if_neg h]
        by_cases q : z ∈ zs
        · rw [if_pos q, if_pos (List.mem_cons_of_mem _ q)]
        · rw [if_neg q, if_neg fun k => (List.mem_cons.mp k).elim (fun e => h e.symm) q]
  rw [key, key]
  by_cases h : z ∈ onz
  · rw [if_pos h, if_pos h]; rfl
  · rw [if_neg h, if_neg h]; rfl
theorem mPut_new {l : List (Str × Str)} {z m : Str} (h : z ∉ l.map (·.1)) : mPut l z m = l ++ [(z, m)] := by
  unfold mPut
  rw [if_neg fun k => h (by
    obtain ⟨e, h1, h2⟩ := List.any_eq_true.mp k
    exact List.mem_map.mpr ⟨e, h1, of_decide_eq_true h2⟩)]
theorem find_at {α : Type} {p : α → Bool} {l : List α} {i : Nat} {d : α} (hb : ∀ (j : Nat) (x : α), j < i → l[j]? = some x → p x = false) (hd : l[i]? = some d) (h : p d = true) : l.find? p = some d := by
  induction l generalizing i with
  | nil => cases hd
  | cons a l ih =>
    rw [List.find?_cons]
    cases i with
    | zero => cases hd; rw [h]
    | succ i =>
      rw [hb 0 a (Nat.succ_pos _) rfl]
      exact ih (fun j x hj hx => hb (j + 1) x (Nat.succ_lt_succ hj) hx) hd
theorem depsS (zs : List Str) : deps (zs.map D.str) ≤ 0 := G.deps_le (k := 0) fun d hd => by
  obtain ⟨z, _, rfl⟩ := List.mem_map.mp hd
  exact Nat.le_refl _
theorem cutU2 (n : Nat) (xs : List D) : cutD xs none (some (n : Int)) = xs.take n := by
  unfold cutD
  have e : HT.sIx xs.length xs.length (some (n : Int)) = min n xs.length := HT.sIx_nat xs.length xs.length n
  rw [e, HT.sIx_none, List.drop_zero, Nat.sub_zero]
  exact List.take_eq_take_iff.mpr (by omega)
def spStInit (CS CB CT : Addr) : SpX := fun ds r P XR => ∃ (a : Addr) (dq : D) (on df : List D) (r0 : Rs), ds = [.adr a, dq, .tup on] ∧ r = r0 ++ [insA a CS [] []] ∧ SeqV r dq df ∧ (∀ d ∈ on ++ df, plain d = true) ∧ (on ++ df).length ≤ 60 ∧
  ((∃ x, (on ++ df).find? (fun d => !isNameD d) = some x ∧ XR CB ["name"] [x] r) ∨ (∃ onz dfz : List Str, on = onz.map .str ∧ df = dfz.map .str ∧ (∀ z ∈ onz ++ dfz, isNm z = true) ∧
    ((twA [] (onz ++ dfz) = none ∧ ∀ c, P .non (r0 ++ [insA a CS stF [.adr c], dctA c (sm (mkSt onz dfz))])) ∨ (∃ x, twA [] (onz ++ dfz) = some x ∧ XR CT ["name"] [.str x] r))))
abbrev N_Setting___init__ : List Str := ["self", "deaf", "on", "names", "name", "at"]
theorem sc_Setting___init__ : FnScope N_Setting___init__ ["self", "deaf", "on"] (defScope s_Setting___init__) := ⟨rfl, rfl, rfl, by decide +kernel, rfl, by decide +kernel, by decide +kernel⟩
set_option maxHeartbeats 2000000 in
theorem c_Setting_init {CS CB CT : Addr} (B : Bl mg) (X_BadName : ErrX P w K mg base "BadName" CB "name") (X_Twice : ErrX P w K mg base "Twice" CT "name") (C_is_name : Cl P w K mg base 1 "is_name" ["value"] spIsName) (K_Setting : KCls K mg "Setting" CS stF) (Dx : DfNK K CS "Setting.__init__" s_Setting___init__ ["self"] "deaf" "on" (.tup [])) : ClNK P w K mg base 3 CS "deaf" (.tup []) (spStInit CS CB CT) := by
  have sc := sc_Setting___init__
  refine clnk_of Dx sc (fun f cdv A outer s H E hr tk po => ?_)
  have hu := hr.units
  have hi := u65 hr
  refine ⟨_, (ss_cons (s_set (i := 3) sc.nd (d_lst (dl_star (dv 2) (dl_starE (dv 1) dl_nil))))
  (ss_cons (s_for (i_list (dv 3)) (g_name (i := 4) sc.nd)
  (ss_one (s_if (b_not (b_tru (d_fn C_is_name tk hr (dl_cons (dv 4) dl_nil))))
  (ss_one (s_raise X_BadName.c tk hr (dl_cons (dv 4) dl_nil)))
  ss_nil)) po)
  (ss_cons (s_for (i_enum (by rfl) B.enum (dl_cons (dv 3) dl_nil)) (g_tup (is := [5, 4]) (pgs_n (i := 5) sc.nd (pgs_n (i := 4) sc.nd pgs_nil)))
  (ss_one (s_if (b_cmp (p_in hi) (dv 4) (d_sl (dv 3) o_no (o_some (dv 5))))
  (ss_one (s_raise X_Twice.c tk hr (dl_cons (dv 4) dl_nil)))
  ss_nil)) po)
  (ss_one (s_put (K_Setting.no "chosen" (by decide)) (dv 0) (d_dc (js := [4]) (own := [("name", 4)]) sc.nd (i_list (dv 3)) (blkOk_by (own := [("name", 4)]) (N := N_Setting___init__) (sc := defScope s_Setting___init__) (by decide +kernel)) (fun _ _ _ _ _ => (g_name (i := 4) sc.nd)) (fun _ _ _ _ _ => pts_no) (fun _ _ _ _ _ => (dv 4)) (fun _ _ _ _ _ => (d_if (b_cmp (p_in hi) (dv 4) (dv 2)) d_str d_str)))))))), fun ds r P' XR h => ?_⟩
  obtain ⟨a, dq, on, df, r0, rfl, rfl, hseq, hpl, hl, h⟩ := h
  refine ⟨df, hseq, by unfold small; rw [List.append_nil]; omega, ?_⟩
  rw [List.append_nil]
  obtain ⟨N, hN⟩ : ∃ N, N = on ++ df := ⟨_, rfl⟩
  rw [← hN] at hpl hl ⊢
  refine ⟨fun i δ r' => (∃ x4, δ = [some (.adr a), some dq, some (.tup on), some (.lst N), x4, none]) ∧ r' = r0 ++ [insA a CS [] []] ∧ ∀ (j : Nat) (x : D), j < i → N[j]? = some x → isNameD x = true, ⟨⟨_, rfl⟩, rfl, fun j x hj => absurd hj (Nat.not_lt_zero _)⟩, ?_, ?_⟩
  · rintro i d δ r' hd ⟨⟨x4, rfl⟩, rfl, hb⟩
    refine ⟨d, rfl, hpl d (List.mem_of_getElem? hd), ?_⟩
    cases hn : isNameD d with
    | true =>
      refine brF ⟨⟨_, rfl⟩, rfl, fun j x hj hx => ?_⟩
      by_cases hji : j = i
      · subst hji
        rw [hd] at hx
        cases hx
        exact hn
      · exact hb j x (by omega) hx
    | false =>
      refine brT ?_
      rcases h with ⟨x, hx, h⟩ | ⟨onz, dfz, rfl, rfl, hz, _⟩
      · have := find_at (p := fun d => !isNameD d) (fun j x hj hx => by show (!isNameD x) = false; rw [hb j x hj hx]; rfl) hd (by show (!isNameD d) = true; rw [hn]; rfl)
        rw [← hN, this] at hx
        cases hx
        exact ⟨d, rfl, fitX.of (δ := []) h⟩
      · rw [hN, ← List.map_append] at hd
        obtain ⟨z, hzz, rfl⟩ := List.mem_map.mp (List.mem_of_getElem? hd)
        rw [show isNameD (.str z) = true from hz z hzz] at hn
        cases hn
  rintro δ r' ⟨⟨x4, rfl⟩, rfl, hall⟩
  rcases h with ⟨x, hx, _⟩ | ⟨onz, dfz, rfl, rfl, hz, h⟩
  · exfalso
    rw [← hN] at hx
    have h1 := List.mem_of_find?_eq_some hx
    have h2 := List.find?_some hx
    obtain ⟨j, hj⟩ := List.mem_iff_getElem?.mp h1
    rw [hall j x (List.getElem?_eq_some_iff.mp hj).1 hj] at h2
    cases h2
  rw [← List.map_append] at hN
  obtain ⟨zs, hzs⟩ : ∃ zs, zs = onz ++ dfz := ⟨_, rfl⟩
  rw [← hzs] at hz h hN
  subst hN
  rw [List.length_map] at hl
  refine ⟨fun i δ r' => (∃ x4 x5, δ = [some (.adr a), some dq, some (.tup (onz.map .str)), some (.lst (zs.map .str)), x4, x5]) ∧ r' = r0 ++ [insA a CS [] []] ∧ twA [] zs = twA (zs.take i) (zs.drop i), ⟨⟨_, _, rfl⟩, rfl, rfl⟩, ?_, ?_⟩
  · rintro i d δ r' hd ⟨⟨x4, x5, rfl⟩, rfl, ht⟩
    have hi2 : i < zs.length := by
      have := (List.getElem?_eq_some_iff.mp hd).1
      rw [List.length_map, List.length_range, List.length_map] at this
      exact this
    rw [List.getElem?_map, List.getElem?_range (by rw [List.length_map]; exact hi2)] at hd
    cases hd
    obtain ⟨z, hzi⟩ : ∃ z, zs[i]? = some z := ⟨_, List.getElem?_eq_getElem hi2⟩
    have eg : (zs.map D.str).getD i .non = .str z := by rw [List.getD_eq_getElem?_getD, List.getElem?_map, hzi]; rfl
    dsimp only
    rw [eg]
    refine ⟨rfl, sl_l ?_⟩
    rw [cutU2, ← List.map_take]
    refine ⟨⟨Nat.zero_le _, Nat.le_trans (depsS _) (by decide), ?_⟩⟩
    rw [cond_false, memD_str]
    have ed : zs.drop i = z :: zs.drop (i + 1) := by
      rw [List.drop_eq_getElem_cons hi2]
      congr 1
      exact (List.getElem?_eq_some_iff.mp hzi).2
    have et : twA (zs.take i) (zs.drop i) = if z ∈ zs.take i then some z else twA (zs.take i ++ [z]) (zs.drop (i + 1)) := by rw [ed]; rfl
    rw [et] at ht
    by_cases hm : z ∈ zs.take i
    · rw [if_pos hm] at ht
      refine brt (any_at hm) ?_
      rcases h with ⟨h1, _⟩ | ⟨x, h1, h⟩
      · rw [ht] at h1; cases h1
      · rw [ht] at h1
        cases h1
        exact ⟨.str z, rfl, fitX.of (δ := []) h⟩
    · rw [if_neg hm] at ht
      refine brf ?_ ⟨⟨_, _, rfl⟩, rfl, ?_⟩
      · rw [Bool.eq_false_iff]
        intro q
        obtain ⟨y, hy, e⟩ := List.any_eq_true.mp q
        exact hm (eq_of_beq e ▸ hy)
      · rw [ht, List.take_add_one, hzi]
        rfl
  rintro δ r' ⟨⟨x4, x5, rfl⟩, rfl, ht⟩
  rw [List.length_map, List.length_range, List.length_map, List.drop_of_length_le (Nat.le_refl _)] at ht
  have hnone : twA [] zs = none := ht
  have h : ∀ c, P' .non (r0 ++ [insA a CS stF [.adr c], dctA c (sm (mkSt onz dfz))]) := by
    rcases h with ⟨_, h⟩ | ⟨x, h1, _⟩
    · exact h
    · rw [hnone] at h1; cases h1
  have hnd : zs.Nodup := (twA_none.mp hnone).1
  have hnd2 : ∀ z ∈ dfz, z ∉ onz := fun z h1 h2 => by
    rw [hzs] at hnd
    exact (List.nodup_append.mp hnd).2.2 z h2 z h1 rfl
  refine ⟨fun i acc r' => acc = sm ((mkSt onz dfz).take i) ∧ r' = r0 ++ [insA a CS [] []], ⟨rfl, rfl⟩, ?_, ?_⟩
  · rintro p i d acc r' hd ⟨rfl, rfl⟩
    rw [List.getElem?_map] at hd
    obtain ⟨z, hzi, rfl⟩ := Option.map_eq_some_iff.mp hd
    have hi2 := (List.getElem?_eq_some_iff.mp hzi).1
    have hk : ((mkSt onz dfz).map (·.1))[i]? = some z := by rw [mkSt_keys, ← hzs]; exact hzi
    rw [List.getElem?_map] at hk
    obtain ⟨e, he, hez⟩ := Option.map_eq_some_iff.mp hk
    have hm : ∀ b : Bool, (onz.any fun y => y == z) = b → e.2 = if b then "on" else "deaf" := fun b hb => by
      have hg : sGet (mkSt onz dfz) z = some e.2 := sGet_of (by rw [mkSt_keys, ← hzs]; exact hnd) (by rw [← hez]; exact List.mem_of_getElem? he)
      rw [mkSt_get] at hg
      cases b with
      | true =>
        obtain ⟨y, hy, q⟩ := List.any_eq_true.mp hb
        rw [if_pos (eq_of_beq q ▸ hy)] at hg
        exact (Option.some.inj hg).symm
      | false =>
        have hno : z ∉ onz := fun k => by rw [any_at k] at hb; cases hb
        rw [if_neg hno] at hg
        split at hg
        · exact (Option.some.inj hg).symm
        · cases hg
    have hnew : z ∉ ((mkSt onz dfz).take i).map (·.1) := by
      rw [List.map_take, mkSt_keys, ← hzs]
      intro k
      obtain ⟨j, hj⟩ := List.mem_iff_getElem?.mp k
      have hji : j < i := by
        have := (List.getElem?_eq_some_iff.mp hj).1
        rw [List.length_take] at this
        omega
      rw [List.getElem?_take_of_lt hji] at hj
      have := (List.getElem?_inj (by omega) hnd).mp (hj.trans hzi.symm)
      omega
    have step : ∀ m : Str, e.2 = m → dPut (sm ((mkSt onz dfz).take i)) (.inr z) (.str m) = sm ((mkSt onz dfz).take (i + 1)) := fun m em => by
      rw [sm_put, mPut_new hnew, List.take_add_one, he]
      show sm (_ ++ [(z, m)]) = sm (_ ++ [e])
      rw [← em, ← hez]
    have sml : small ((sm ((mkSt onz dfz).take i)).length + 1) := by
      unfold small
      rw [sm_len, List.length_take]
      omega
    refine brT ⟨⟨rfl, flat_strs _, ?_⟩⟩
    rw [cond_false, memD_str]
    cases hb : onz.any fun y => y == z with
    | true => exact brT ⟨.inr z, rfl, sml, _, rfl, by rw [step "on" (hm true hb)], rfl⟩
    | false => exact brF ⟨.inr z, rfl, sml, _, rfl, by rw [step "deaf" (hm false hb)], rfl⟩
  · rintro c acc r' ⟨rfl, rfl⟩
    rw [List.length_map, show zs.length = (mkSt onz dfz).length by rw [hzs, ← mkSt_keys, List.length_map], List.take_length]
    have e3 : (r0 ++ [insA a CS [] []]) ++ [dctA c (sm (mkSt onz dfz))] = r0 ++ insA a CS [] [] :: [dctA c (sm (mkSt onz dfz))] := by rw [List.append_assoc]; rfl
    refine .new r0 [dctA c (sm (mkSt onz dfz))] e3 rfl (by decide) ?_
    exact fit.of (h c)
structure WOk (l : List (Str × Str)) : Prop where
  nd : (l.map (·.1)).Nodup
  nm : ∀ e ∈ l, isNm e.1 = true
  md : ∀ e ∈ l, e.2 ∈ modesL
  ln : l.length ≤ 60
theorem WOk.sok {l : List (Str × Str)} (h : WOk l) : ∀ e ∈ l, sok e.1 := fun e he => isNm_sok (h.nm e he)
theorem StOk.wok {l : List (Str × Str)} (h : StOk l) : WOk l := ⟨h.nd, h.nm, fun e he => by
  rcases h.md e he with q | q <;> rw [q] <;> decide, h.ln⟩
/-- _law_same of an own list -/
def spSameLO (n : Nat) : SpX := fun ds r P _ => ∃ (q : Addr) (xs ys : List D), ds = [.adr q, .lst ys] ∧ Own r q xs ∧ plains xs = true ∧ plain (.lst ys) = true ∧ deps xs ≤ 63 ∧ deps ys < n ∧ P (.bl (sames xs ys)) r
theorem c__law_sameLO (B : Bl mg) (n : Nat) (C__law_same : Cl P w K mg base n "_law_same" ["_law_actual", "_law_due"] (spSame n)) (Dx : Dfn K mg "_law_same" s__law_same ["_law_actual", "_law_due"]) : Cl P w K mg base (n + 1) "_law_same" ["_law_actual", "_law_due"] (spSameLO n) := by
  have sc := sc__law_same
  refine cl_of Dx sc (fun ds r P' XR ⟨_, _, _, e, _⟩ => by rw [e]; rfl) (fun f cdv A outer s H E hr tk po => ?_)
  have hu := hr.units
  refine ⟨_, (ss_cons (s_if (b_tru (d_isi2 .list .tuple (by rfl) B.isi (dv 1) (by rfl) B.list (by rfl) B.tuple))
  (ss_cons (s_if (b_cmp (p_ne hu) (d_isiO .list (by rfl) B.isi (dv 0) (by rfl) B.list) (d_isi .list (by rfl) B.isi (dv 1) (by rfl) B.list))
  (ss_one (s_ret d_bl))
  ss_nil)
  (ss_cons (s_if (b_w (w_or (b_not (b_tru (d_isiO2 .list .tuple (by rfl) B.isi (dv 0) (by rfl) B.list (by rfl) B.tuple))) (w_or1 (b_cmp (p_ne hu) (d_blt2 c_lenO (by rfl) B.len (dl_cons (dv 0) dl_nil)) (d_blt c_len (by rfl) B.len (dl_cons (dv 1) dl_nil))))))
  (ss_one (s_ret d_bl))
  ss_nil)
  (ss_one (s_ret (d_cmp (p_eq hu) (d_lc (js := [2]) (own := [("_law_k", 2)]) sc.nd (i_r1 (by rfl) B.range (dl_cons (d_blt c_len (by rfl) B.len (dl_cons (dv 1) dl_nil)) dl_nil)) (blkOk_by (own := [("_law_k", 2)]) (N := N__law_same) (sc := defScope s__law_same) (by decide +kernel)) (fun _ _ _ _ _ => (g_name (i := 2) sc.nd)) (fun _ _ _ _ _ => (pts_1 (b_not (b_tru (d_fnN C__law_same hr (dl_cons (d_ixO (dv 0) (dv 2)) (dl_cons (d_ix (dv 1) (dv 2)) dl_nil))))))) (fun _ _ _ _ _ => (dv 2))) (d_lst dl_nil))))))
  ss_nil)
  (ss_cons (s_if (b_w (w_or (b_cmp p_is (dv 1) d_non) (w_or1 (b_cmp p_is (dv 0) d_non))))
  (ss_one (s_ret (d_and (d_cmp p_is (dv 1) d_non) (d_one (d_cmp p_is (dv 0) d_non)))))
  ss_nil)
  (ss_cons (s_if (b_cmp (p_ne hu) (d_isiO .bool (by rfl) B.isi (dv 0) (by rfl) B.bool) (d_isi .bool (by rfl) B.isi (dv 1) (by rfl) B.bool))
  (ss_one (s_ret d_bl))
  ss_nil)
  (ss_cons (s_if (b_cmp (p_ne hu) (d_isiO .int (by rfl) B.isi (dv 0) (by rfl) B.int) (d_isi .int (by rfl) B.isi (dv 1) (by rfl) B.int))
  (ss_one (s_ret d_bl))
  ss_nil)
  (ss_cons (s_if (b_w (w_or (b_tru (d_isiO2 .list .tuple (by rfl) B.isi (dv 0) (by rfl) B.list (by rfl) B.tuple)) (w_or1 (b_cmp (p_ne hu) (d_isiO .str (by rfl) B.isi (dv 0) (by rfl) B.str) (d_isi .str (by rfl) B.isi (dv 1) (by rfl) B.str)))))
  (ss_one (s_ret d_bl))
  ss_nil)
  (ss_one (s_ret (d_cmpO (p_eqO hu) (dv 0) (dv 1))))))))), fun ds r P' XR h => ?_⟩
  obtain ⟨q, xs, ys, rfl, ow, pa, pb, da, db, h⟩ := h
  replace h := fit.of h
  refine brT ⟨q, xs, rfl, ow, Nat.zero_le _, Nat.zero_le _, brF ⟨q, xs, rfl, ow, brF ⟨q, xs, rfl, ow, fun lx ly => ⟨Nat.zero_le _, Nat.zero_le _, ?_⟩⟩⟩⟩
  by_cases hl : xs.length = ys.length
  rotate_left
  · refine brt (ne_len hl) ?_
    have : sames xs ys = false := by
      cases q : sames xs ys with
      | false => rfl
      | true => exact absurd (sames_len q) hl
    rw [this] at h
    exact h
  refine brf (eq_len hl) ?_
  have pbl := (plain_lst pb).1
  replace pb := (plain_lst pb).2
  rw [sizeLine_eq] at ly
  refine fun _ => ⟨⟨by omega, by omega⟩, ?_⟩
  refine lc_fmR (dif xs ys) (fun d => d) (by unfold small; simp; omega) (fun e he T Q1 Q2 q1 q2 => ?_) ?_
  · obtain ⟨i, hi, rfl⟩ := List.mem_map.mp he
    have hi : i < ys.length := by simpa using hi
    have e1 : xs[i]? = some xs[i] := List.getElem?_eq_getElem (by omega)
    have e2 : ys[i]? = some ys[i] := List.getElem?_eq_getElem hi
    have ed : dif xs ys (.int (i : Nat)) = !same xs[i] ys[i] := by
      show (match xs[((i : Nat) : Int).toNat]?, ys[((i : Nat) : Int).toNat]? with | some x, some y => !same x y | _, _ => false) = _
      rw [Int.toNat_natCast, e1, e2]
    refine ⟨q, xs, _, _, rfl, rfl, own_more ow, atI_nat e1, ix_l (atI_nat e2) ⟨_, _, rfl, plains_at pa e1, plains_at pb e2, by have := deps_at e1; omega, by have := deps_at e2; omega, ?_⟩⟩
    exact ⟨fun z => q1 (ed.trans z), fun z => q2 (ed.trans z)⟩
  · rw [List.map_id']
    have dd : deps (((List.range ((ys.length : Nat) : Int).toNat).map fun i : Nat => D.int (i : Int)).filter (dif xs ys)) ≤ 0 := by
      have := G.deps_le (k := 0) (ds := ((List.range ((ys.length : Nat) : Int).toNat).map fun i : Nat => D.int (i : Int)).filter (dif xs ys)) fun d hd => by
        obtain ⟨i, _, rfl⟩ := List.mem_map.mp (List.mem_filter.mp hd).1
        exact Nat.le_refl _
      exact this
    refine ⟨Nat.le_of_ble_eq_true rfl, ?_, Nat.le_of_ble_eq_true rfl, ?_⟩
    · show deps _ + 1 ≤ 64
      omega
    · rw [eq_nil, Int.toNat_natCast, dif_all hl]
      exact h
theorem pickM {c : Int} (h0 : 0 ≤ c) (h1 : c < 3) : ∃ m, m ∈ modesL ∧ atI [D.str "out", .str "deaf", .str "on"] c = some (.str m) := by
  obtain ⟨n, rfl⟩ : ∃ n : Nat, c = n := ⟨c.toNat, by omega⟩
  have hn : n < 3 := by omega
  match n, hn with
  | 0, _ => exact ⟨"out", by decide, L2.atI_nat rfl⟩
  | 1, _ => exact ⟨"deaf", by decide, L2.atI_nat rfl⟩
  | 2, _ => exact ⟨"on", by decide, L2.atI_nat rfl⟩
def spRandM : SpX := fun ds r P _ => ∃ (p a : Addr) (N : Nat) (X : Rs) (zs : List Str), ds = [.adr p, .lst (zs.map .str)] ∧ r = poolA p a N :: X ∧ N < 10000000 ∧ zs.Nodup ∧ zs.length ≤ 60 ∧ ∀ (q : Addr) (ms : List (Str × Str)), ms.map (·.1) = zs → (∀ e ∈ ms, e.2 ∈ modesL) → P (.adr q) (poolA p a (N + zs.length) :: (X ++ [dctA q (sm ms)]))
abbrev N__law_random_modes : List Str := ["_law_pool_here", "_law_names_here", "_law_modes", "_law_name"]
theorem sc__law_random_modes : FnScope N__law_random_modes ["_law_pool_here", "_law_names_here"] (defScope s__law_random_modes) := ⟨rfl, rfl, rfl, by decide +kernel, rfl, by decide +kernel, by decide +kernel⟩
theorem c__law_random_modes (B : Bl mg) (C__law_draw : Cl P w K mg base 1 "_law_draw" ["_law_pool_here", "_law_many"] spDraw) (Dx : Dfn K mg "_law_random_modes" s__law_random_modes ["_law_pool_here", "_law_names_here"]) : Cl P w K mg base 2 "_law_random_modes" ["_law_pool_here", "_law_names_here"] spRandM := by
  have sc := sc__law_random_modes
  refine cl_of Dx sc (fun ds r P' XR ⟨_, _, _, _, _, e, _⟩ => by rw [e]; rfl) (fun f cdv A outer s H E hr tk po => ?_)
  have hu := hr.units
  have hi := u65 hr
  refine ⟨_, (ss_cons (s_set (i := 2) sc.nd d_dnew)
  (ss_cons (s_for (i_list (dv 1)) (g_name (i := 3) sc.nd)
  (ss_one (s_dput hi (dv 2) (dv 3) (d_ix (d_lst (dl_cons d_str (dl_cons d_str (dl_cons d_str dl_nil)))) (d_fn C__law_draw tk hr (dl_cons (dv 0) (dl_cons d_int dl_nil)))))) po)
  (ss_one (s_ret (dv 2))))), fun ds r P' XR h => ?_⟩
  obtain ⟨p, a, N, X, zs, rfl, rfl, hN, hnd, hl, h⟩ := h
  intro q
  refine ⟨fun i δ r' => (∃ x3, δ = [some (.adr p), some (.lst (zs.map .str)), some (.adr q), x3]) ∧ ∃ ms : List (Str × Str), r' = poolA p a (N + i) :: (X ++ [dctA q (sm ms)]) ∧ ms.map (·.1) = zs.take i ∧ ∀ e ∈ ms, e.2 ∈ modesL, ⟨⟨_, rfl⟩, [], rfl, rfl, fun _ h => (by cases h)⟩, ?_, ?_⟩
  · rintro i d δ r' hd ⟨⟨x3, rfl⟩, ms, rfl, hk, hm⟩
    rw [List.getElem?_map] at hd
    obtain ⟨z, hz, rfl⟩ := Option.map_eq_some_iff.mp hd
    have hi2 := (List.getElem?_eq_some_iff.mp hz).1
    refine ⟨Nat.le_of_ble_eq_true rfl, p, a, 3, N + i, _, rfl, rfl, ⟨by decide, by decide⟩, by omega, fun c c0 c1 => ?_⟩
    obtain ⟨m, hm2, hat⟩ := pickM c0 c1
    have hnew : z ∉ ms.map (·.1) := by
      rw [hk]
      intro k
      obtain ⟨j, hj⟩ := List.mem_iff_getElem?.mp k
      have hji : j < i := by
        have := (List.getElem?_eq_some_iff.mp hj).1
        rw [List.length_take] at this
        omega
      rw [List.getElem?_take_of_lt hji] at hj
      have := (List.getElem?_inj (by omega) hnd).mp (hj.trans hz.symm)
      omega
    have hlen : ms.length ≤ 60 := by
      have := congrArg List.length hk
      rw [List.length_map, List.length_take] at this
      omega
    refine ix_l hat (.mk (poolA p a (N + (i + 1)) :: X) [] (sm ms) (.inr z) rfl rfl (by unfold small; rw [sm_len]; omega) ⟨⟨_, rfl⟩, ms ++ [(z, m)], by rw [sm_put, mPut_new hnew]; rfl, ?_, fun e he => ?_⟩)
    · rw [List.map_append, hk, List.take_add_one, hz]
      rfl
    · rcases List.mem_append.mp he with he | he
      · exact hm e he
      · rw [List.mem_singleton.mp he]; exact hm2
  · rintro δ r' ⟨⟨x3, rfl⟩, ms, rfl, hk, hm⟩
    rw [List.length_map] at hk ⊢
    rw [List.take_length] at hk
    exact fit.of (h q ms hk hm)
def stOf (ms : List (Str × Str)) : List (Str × Str) := ms.filter fun e => decide (e.2 ≠ "out")
/-- what a setting's modes are, told by a dict of all modes -/
structure Agr (l ms : List (Str × Str)) : Prop where
  lo : StOk l
  mo : WOk ms
  at_ : ∀ z, mdAt l z = mdAt ms z
theorem StOk.get {l : List (Str × Str)} (h : StOk l) (z : Str) : sGet l z = if mdAt l z = "out" then none else some (mdAt l z) := by
  have e : mdAt l z = (sGet l z).getD "out" := rfl
  cases hg : sGet l z with
  | none => rw [if_pos (by rw [e, hg]; rfl)]
  | some m =>
    have e2 : mdAt l z = m := by rw [e, hg]; rfl
    have := h.md _ (sGet_mem hg)
    rw [e2, if_neg fun k => by subst k; rcases this with q | q <;> exact absurd (show ("out" : Str) = _ from q) (by decide)]
def dueS (ms : List (Str × Str)) : List Str := srt ((ms.map (·.1)).filter fun z => decide (mdAt ms z ≠ "out"))
theorem Agr.keys {l ms : List (Str × Str)} (h : Agr l ms) : (l.map (·.1)).Perm ((ms.map (·.1)).filter fun z => decide (mdAt ms z ≠ "out")) := by
  refine (List.perm_ext_iff_of_nodup h.lo.nd (h.mo.nd.filter _)).mpr fun z => ?_
  rw [List.mem_filter, decide_eq_true_eq, ← h.at_]
  have h1 : z ∈ l.map (·.1) ↔ mdAt l z ≠ "out" := by
    have g := h.lo.get z
    by_cases q : mdAt l z = "out"
    · rw [if_pos q] at g
      exact ⟨fun k => absurd k (sGet_none.mp g), fun k => absurd q k⟩
    · rw [if_neg q] at g
      exact ⟨fun _ => q, fun _ => List.mem_map.mpr ⟨_, sGet_mem g, rfl⟩⟩
  rw [h1]
  refine ⟨fun k => ⟨?_, k⟩, fun k => k.2⟩
  rw [h.at_] at k
  have e : mdAt ms z = (sGet ms z).getD "out" := rfl
  cases hg : sGet ms z with
  | none => rw [e, hg] at k; exact absurd rfl k
  | some m => exact List.mem_map.mpr ⟨_, sGet_mem hg, rfl⟩
theorem Agr.due {l ms : List (Str × Str)} (h : Agr l ms) : srt (l.map (·.1)) = dueS ms := srt_congr h.keys
theorem Agr.len {l ms : List (Str × Str)} (h : Agr l ms) : l.length = (dueS ms).length := by
  unfold dueS
  rw [srt_len, ← h.keys.length_eq, List.length_map]
theorem plainS (zs : List Str) : plains (zs.map D.str) = true := plains_of fun d hd => by
  obtain ⟨z, _, rfl⟩ := List.mem_map.mp hd
  rfl
theorem same_str {a b : Str} (e : a = b) : G.same (.str a) (.str b) = true := by rw [e]; exact same_refl _ rfl
def spHolds (CS : Addr) : SpX := fun ds r P _ => ∃ (s : D) (q : Addr) (l ms : List (Str × Str)) (zs : List Str) (pre post : Rs), ds = [s, .adr q, .lst (zs.map .str)] ∧ r = pre ++ dctA q (sm ms) :: post ∧ StV CS r s l ∧ Agr l ms ∧ (∀ z ∈ zs, isNm z = true) ∧ zs.length ≤ 100 ∧ P (.bl true) r
abbrev N__law_holds : List Str := ["_law_setting_here", "_law_modes", "_law_names_here", "_law_due", "_law_name", "_law_grade", "_law_told"]
theorem sc__law_holds : FnScope N__law_holds ["_law_setting_here", "_law_modes", "_law_names_here"] (defScope s__law_holds) := ⟨rfl, rfl, rfl, by decide +kernel, rfl, by decide +kernel, by decide +kernel⟩
set_option maxHeartbeats 2000000 in
theorem c__law_holds {CS CB : Addr} (B : Bl mg) (K_Setting : KCls K mg "Setting" CS stF) (I_Setting : ClG P w K mg base 3 CS "__getitem__" (spStGet CS CB)) (N_in_Setting : ClI P w K mg base 2 CS (spStIn CS)) (M_Setting_names : ClM P w K mg base 1 CS "names" (spStNames CS)) (L_Setting : ClG P w K mg base 1 CS "__len__" (spStLen CS)) (T_Setting : ClL P w K mg base 1 CS (spStLen CS))
    (C__law_same : Cl P w K mg base 4 "_law_same" ["_law_actual", "_law_due"] (spSame 4)) (C__law_sameO : Cl P w K mg base 5 "_law_same" ["_law_actual", "_law_due"] (spSameLO 4)) (Dx : Dfn K mg "_law_holds" s__law_holds ["_law_setting_here", "_law_modes", "_law_names_here"]) : Cl P w K mg base 6 "_law_holds" ["_law_setting_here", "_law_modes", "_law_names_here"] (spHolds CS) := by
  have sc := sc__law_holds
  refine cl_of Dx sc (fun ds r P' XR ⟨_, _, _, _, _, _, _, e, _⟩ => by rw [e]; rfl) (fun f cdv A outer s H E hr tk po => ?_)
  have hu := hr.units
  have hi := u65 hr
  refine ⟨_, (ss_cons (s_set (i := 3) sc.nd (d_blt c_sortedS (by rfl) B.sorted (dl_cons (d_lcD 1 (js := [4]) (own := [("_law_name", 4)]) sc.nd (blkOk_by (own := [("_law_name", 4)]) (N := N__law_holds) (sc := defScope s__law_holds) (by decide +kernel)) (fun _ _ _ _ _ => (g_name (i := 4) sc.nd)) (fun _ _ _ _ _ => (pts_1 (b_cmp (p_ne hu) (d_dix hi (dv 1) (dv 4)) d_str))) (fun _ _ _ _ _ => (dv 4))) dl_nil)))
  (ss_cons (s_for (i_list (dv 2)) (g_name (i := 4) sc.nd)
  (ss_cons (s_set (i := 5) sc.nd (d_dgt2 hi (dv 1) (dv 4) d_str ⟨rfl, rfl, rfl, rfl⟩))
  (ss_one (s_if (b_w (w_or (b_not (b_tru (d_fn C__law_same tk hr (dl_cons (d_gix I_Setting tk hr (dv 0) (dv 4)) (dl_cons (dv 5) dl_nil))))) (w_or1 (b_cmp (p_ne hu) (d_ini N_in_Setting hr (dv 4) (dv 0)) (d_cmp (p_ne hu) (dv 5) d_str)))))
  (ss_one (s_ret d_bl))
  ss_nil))) po)
  (ss_cons (s_set (i := 6) sc.nd (d_mt0 M_Setting_names tk hr (dv 0)))
  (ss_cons (s_if (b_w (w_or (b_not (b_tru (d_fn C__law_sameO tk hr (dl_cons (dv 6) (dl_cons (dv 3) dl_nil))))) (w_or1 (b_not (b_tru (d_fn C__law_same tk hr (dl_cons (d_lenI L_Setting hr (by rfl) B.len (dl_cons (dv 0) dl_nil)) (dl_cons (d_blt c_len (by rfl) B.len (dl_cons (dv 3) dl_nil)) dl_nil))))))))
  (ss_one (s_ret d_bl))
  ss_nil)
  (ss_cons (s_expr (d_app (dv 6) (dl_cons d_str dl_nil)))
  (ss_one (s_ret (d_and (d_fn C__law_same tk hr (dl_cons (d_move (d_mt0 M_Setting_names tk hr (dv 0))) (dl_cons (dv 3) dl_nil))) (d_one (d_cmp (p_eq hu) (d_boolI T_Setting hr (by rfl) B.bool (dl_cons (dv 0) dl_nil)) (d_cmp (p_ne hu) (dv 3) (d_lst dl_nil)))))))))))), fun ds r P' XR h => ?_⟩
  obtain ⟨s, q, l, ms, zs, pre, post, rfl, rfl, hs, ag, hz, hzl, h⟩ := h
  have hln := ag.mo.ln
  have hget : ∀ {e : Str × Str}, e ∈ ms → mdAt ms e.1 = e.2 := fun {e} he => by
    have : mdAt ms e.1 = (sGet ms e.1).getD "out" := rfl
    rw [this, sGet_of ag.mo.nd he]
    rfl
  refine ⟨q, sm ms, pre, post, rfl, rfl, sm_sok ag.mo.sok, fun od xs => ⟨fun j acc r' => acc = (((ms.map (·.1)).take j).filter fun z => decide (mdAt ms z ≠ "out")).map D.str ∧ r' = pre ++ lckA q od xs (sm ms) :: post, ⟨rfl, rfl⟩, ?_, ?_, ?_⟩⟩
  · rintro j acc r' ⟨_, rfl⟩
    exact ⟨pre, post, rfl⟩
  · rintro p j k d acc r' hk ⟨rfl, rfl⟩
    unfold sm at hk
    rw [List.getElem?_map] at hk
    obtain ⟨e, he, hke⟩ := Option.map_eq_some_iff.mp hk
    cases hke
    have hem := List.mem_of_getElem? he
    have hget := hget hem
    have hgs : sGet ms e.1 = some e.2 := sGet_of ag.mo.nd hem
    have hj := (List.getElem?_eq_some_iff.mp he).1
    have hk1 : (ms.map (·.1))[j]? = some e.1 := by rw [List.getElem?_map, he]; rfl
    have hdv : DctV ((pre ++ lckA q od xs (sm ms) :: post) ++ [lstA p ((((ms.map (·.1)).take j).filter fun z => decide (mdAt ms z ≠ "out")).map D.str)]) (.adr q) (sm ms) := .inl ⟨q, rfl, .inr ⟨pre, post ++ [_], od, xs, by rw [List.append_assoc]; rfl⟩⟩
    have etake : ((ms.map (·.1)).take (j + 1)).filter (fun z => decide (mdAt ms z ≠ "out")) = ((ms.map (·.1)).take j).filter (fun z => decide (mdAt ms z ≠ "out")) ++ if decide (e.2 ≠ "out") = true then [e.1] else [] := by
      rw [List.take_add_one, hk1, List.filter_append]
      congr 1
      show List.filter _ [e.1] = _
      rw [List.filter_cons, hget]
      rfl
    refine sm_dget hdv ?_
    rw [hgs]
    refine ⟨.str e.2, rfl, Nat.zero_le _, Nat.zero_le _, ?_⟩
    rw [eqD_str]
    by_cases ho : e.2 = "out"
    · refine brf (by rw [ho]; rfl) ⟨_, le.refl, ?_, rfl⟩
      rw [etake, if_neg (by rw [decide_eq_true_eq]; exact fun k => k ho), List.append_nil]
    · refine brt (by rw [beq_eq_false_iff_ne.mpr ho]; rfl) ⟨?_, _, le.refl, ?_, rfl⟩
      · unfold small
        rw [List.length_map]
        have := List.length_filter_le (fun z => decide (mdAt ms z ≠ "out")) ((ms.map (·.1)).take j)
        rw [List.length_take, List.length_map] at this
        omega
      · rw [etake, if_pos (decide_eq_true ho), List.map_append]
        rfl
  · rintro acc r' ⟨rfl, rfl⟩
    refine ⟨pre, post, rfl, ?_⟩
    rw [sm_len, List.take_of_length_le (by rw [List.length_map]; exact Nat.le_refl _)]
    have hdl : (dueS ms).length ≤ 60 := by rw [← ag.len]; exact ag.lo.ln
    refine ⟨_, rfl, ?_, ?_⟩
    · have := List.length_filter_le (fun z => decide (mdAt ms z ≠ "out")) (ms.map (·.1))
      rw [List.length_map] at this
      omega
    rw [show srt ((ms.map (·.1)).filter fun z => decide (mdAt ms z ≠ "out")) = dueS ms from rfl]
    obtain ⟨r, hr0⟩ : ∃ r, r = pre ++ dctA q (sm ms) :: post := ⟨_, rfl⟩
    rw [← hr0] at hs h ⊢
    have hdv : DctV r (.adr q) (sm ms) := .inl ⟨q, rfl, .inl ⟨pre, post, hr0⟩⟩
    refine ⟨fun i δ r' => (∃ x4 x5, δ = [some s, some (.adr q), some (.lst (zs.map .str)), some (.lst ((dueS ms).map .str)), x4, x5, none]) ∧ r' = r, ⟨⟨_, _, rfl⟩, rfl⟩, ?_, ?_⟩
    · rintro i d δ r' hd ⟨⟨x4, x5, rfl⟩, rfl⟩
      obtain ⟨z, hzm, rfl⟩ := List.mem_map.mp (List.mem_of_getElem? hd)
      have e1 : ((sGet ms z).map D.str).getD (.str "out") = .str (mdAt ms z) := by unfold mdAt; cases sGet ms z <;> rfl
      refine ⟨hdv.dc, sm_dget hdv ?_⟩
      rw [e1]
      refine ⟨hs.isC, s, .str z, l, rfl, hs, rfl, .inl ⟨z, rfl, hz z hzm, ?_⟩⟩
      refine ⟨_, _, rfl, rfl, rfl, Nat.zero_le _, Nat.zero_lt_succ _, brf (by rw [same_str (ag.at_ z)]; rfl) ?_⟩
      refine ⟨hs.isC, s, .str z, l, rfl, hs, rfl, _, rfl, Nat.zero_le _, Nat.zero_le _, Nat.zero_le _, Nat.zero_le _, ?_⟩
      have e2 : inSt l (.str z) = decide (mdAt ms z ≠ "out") := by
        show (isNm z && (sGet l z).isSome) = _
        rw [hz z hzm, ag.lo.get z, ag.at_ z]
        by_cases k : mdAt ms z = "out"
        · rw [if_pos k, k]; rfl
        · rw [if_neg k, decide_eq_true k]; rfl
      have e3 : (!eqD (.str (mdAt ms z)) (.str "out")) = decide (mdAt ms z ≠ "out") := by
        rw [eqD_str]
        by_cases k : mdAt ms z = "out"
        · rw [k]; rfl
        · rw [decide_eq_true k, beq_eq_false_iff_ne.mpr k]; rfl
      rw [cond_false, e2, e3]
      have e4 : ∀ b : Bool, eqD (.bl b) (.bl b) = true := fun b => by cases b <;> rfl
      exact brf (by rw [e4]; rfl) ⟨⟨_, _, rfl⟩, rfl⟩
    · rintro δ r' ⟨⟨x4, x5, rfl⟩, rfl⟩
      refine ⟨hs.isC, s, l, rfl, hs, ag.lo, fun p => ?_⟩
      rw [ag.due]
      have hs2 : ∀ {t : Rs}, StV CS (r' ++ t) s l := fun {t} => hs.mono fun u hu => List.mem_append.mpr (.inl hu)
      have pD : plain (.lst ((dueS ms).map .str)) = true := plain_of_lst (by rw [List.length_map]; omega) (plainS _)
      refine ⟨p, (dueS ms).map .str, (dueS ms).map .str, rfl, Own.last, plainS _, pD, Nat.le_trans (depsS _) (by decide), Nat.lt_of_le_of_lt (depsS _) (by decide), ?_⟩
      rw [show sames ((dueS ms).map D.str) ((dueS ms).map D.str) = true from same_refl (.lst ((dueS ms).map D.str)) pD]
      refine brF ⟨_, rfl, hs2.isC, s, l, rfl, hs2, l.length, rfl, by have := ag.lo.ln; omega, fun _ => ?_⟩
      rw [List.length_map, ag.len]
      refine ⟨_, _, rfl, rfl, rfl, Nat.zero_le _, Nat.zero_lt_succ _, brf (by rw [show G.same (.int ((dueS ms).length : Nat)) (.int ((dueS ms).length : Nat)) = true from same_refl _ rfl]; rfl) ?_⟩
      refine ⟨p, _, rfl, Own.last, r', _, [], .str "x", rfl, rfl, by unfold small; rw [List.length_map]; omega, ?_⟩
      refine ⟨hs2.isC, s, l, rfl, hs2, ag.lo, fun p2 => ?_⟩
      rw [ag.due]
      refine ⟨p2, (dueS ms).map .str, (r' ++ [lstA p ((dueS ms).map D.str ++ [.str "x"])]), [], rfl, rfl, ?_⟩
      refine ⟨_, _, rfl, pD, pD, by show deps _ + 1 ≤ 64; have := depsS (dueS ms); omega, by show deps _ + 1 < 4; have := depsS (dueS ms); omega, ?_⟩
      rw [show G.same (.lst ((dueS ms).map D.str)) (.lst ((dueS ms).map D.str)) = true from same_refl _ pD, List.append_nil]
      refine brT ⟨_, rfl, hs2.isC, s, l, rfl, hs2, l.length, rfl, by have := ag.lo.ln; omega, ?_⟩
      refine ⟨Nat.zero_le _, by show deps _ + 1 ≤ 64; have := depsS (dueS ms); omega, Nat.le_of_ble_eq_true rfl, ?_⟩
      have e5 : (!eqD (.lst ((dueS ms).map D.str)) (.lst [])) = decide ((dueS ms).length ≠ 0) := by
        cases dueS ms with
        | nil => rfl
        | cons _ _ => rfl
      rw [ag.len, e5]
      refine ⟨Nat.zero_le _, Nat.zero_le _, ?_⟩
      rw [show eqD (.bl (decide ((dueS ms).length ≠ 0))) (.bl (decide ((dueS ms).length ≠ 0))) = true by generalize decide ((dueS ms).length ≠ 0) = b; cases b <;> rfl]
      exact ⟨r', le.drop, h⟩
def spMkSt (CS : Addr) : SpX := fun ds r P _ => ∃ (q : Addr) (ms : List (Str × Str)) (pre post : Rs), ds = [.adr q] ∧ r = pre ++ dctA q (sm ms) :: post ∧ WOk ms ∧ (∀ e ∈ ms, isNm e.1 = true) ∧ ∀ a c, P (.adr a) (r ++ [insA a CS stF [.adr c], dctA c (sm (stOf ms))])
abbrev N__law_setting : List Str := ["_law_modes", "_law_setting_here", "_law_name"]
theorem sc__law_setting : FnScope N__law_setting ["_law_modes"] (defScope s__law_setting) := ⟨rfl, rfl, rfl, by decide +kernel, rfl, by decide +kernel, by decide +kernel⟩
theorem c__law_setting {CS CB CM CT : Addr} (B : Bl mg) (K_Setting : KCls K mg "Setting" CS stF) (NK_Setting : ClNK P w K mg base 3 CS "deaf" (.tup []) (spStInit CS CB CT)) (Si_Setting : ClSi P w K mg base 3 CS (spStPut CS CB CM)) (Dx : Dfn K mg "_law_setting" s__law_setting ["_law_modes"]) : Cl P w K mg base 5 "_law_setting" ["_law_modes"] (spMkSt CS) := by
  have sc := sc__law_setting
  refine cl_of Dx sc (fun ds r P' XR ⟨_, _, _, _, e, _⟩ => by rw [e]; rfl) (fun f cdv A outer s H E hr tk po => ?_)
  have hu := hr.units
  have hi := u65 hr
  have N_Setting := NK_Setting.n
  refine ⟨_, (ss_cons (s_set (i := 1) sc.nd (d_mk0 N_Setting K_Setting tk hr))
  (ss_cons (s_forD 0 (g_name (i := 2) sc.nd)
  (ss_one (s_if (b_cmp (p_ne hu) (d_dix hi (dv 0) (dv 2)) d_str)
  (ss_one (s_setit Si_Setting tk hr (dv 1) (dv 2) (d_dix hi (dv 0) (dv 2))))
  ss_nil)) po)
  (ss_one (s_ret (dv 1))))), fun ds r P' XR h => ?_⟩
  obtain ⟨q, ms, pre, post, rfl, rfl, hm, hz, h⟩ := h
  intro a
  refine ⟨[.adr a], [], rfl, rfl, Nat.zero_le _, [.adr a], .tup [], rfl, rfl, a, .tup [], [], [], pre ++ dctA q (sm ms) :: post, rfl, rfl, .tup _, fun d hd => (by cases hd), Nat.zero_le _, .inr ⟨[], [], rfl, rfl, fun z hz => (by cases hz), .inl ⟨rfl, fun c => ⟨rfl, ?_⟩⟩⟩⟩
  have hln := hm.ln
  refine ⟨q, sm ms, pre, post ++ [insA a CS stF [.adr c], dctA c (sm [])], rfl, by rw [List.append_assoc]; rfl, sm_sok hm.sok, fun od xs => ⟨fun j δ r' => (∃ x2, δ = [some (.adr q), some (.adr a), x2]) ∧ r' = (pre ++ lckA q od xs (sm ms) :: (post ++ [insA a CS stF [.adr c]])) ++ [dctA c (sm (stOf (ms.take j)))], ⟨⟨_, rfl⟩, ?_⟩, ?_, ?_, ?_⟩⟩
  · rw [List.append_assoc, List.cons_append, List.append_assoc]
    rfl
  · rintro j δ r' ⟨_, rfl⟩
    exact ⟨pre, _, by rw [List.append_assoc]; rfl⟩
  · rintro j k d δ r' hk ⟨⟨x2, rfl⟩, rfl⟩
    unfold sm at hk
    rw [List.getElem?_map] at hk
    obtain ⟨e, he, hke⟩ := Option.map_eq_some_iff.mp hk
    cases hke
    have hem := List.mem_of_getElem? he
    have hgs : sGet ms e.1 = some e.2 := sGet_of hm.nd hem
    have hdv : DctV ((pre ++ lckA q od xs (sm ms) :: (post ++ [insA a CS stF [.adr c]])) ++ [dctA c (sm (stOf (ms.take j)))]) (.adr q) (sm ms) := .inl ⟨q, rfl, .inr ⟨pre, (post ++ [insA a CS stF [.adr c]]) ++ [dctA c (sm (stOf (ms.take j)))], od, xs, by rw [List.append_assoc]; rfl⟩⟩
    have etake : stOf (ms.take (j + 1)) = stOf (ms.take j) ++ if decide (e.2 ≠ "out") = true then [e] else [] := by
      unfold stOf
      rw [List.take_add_one, he, List.filter_append]
      congr 1
      show List.filter _ [e] = _
      rw [List.filter_cons]
      rfl
    have hnin : e.1 ∉ (stOf (ms.take j)).map (·.1) := fun k => by
      obtain ⟨e2, h1, h2⟩ := List.mem_map.mp k
      obtain ⟨i, hi⟩ := List.mem_iff_getElem?.mp (List.mem_filter.mp h1).1
      have hij : i < j := by
        have := (List.getElem?_eq_some_iff.mp hi).1
        rw [List.length_take] at this
        omega
      rw [List.getElem?_take_of_lt hij] at hi
      have hil := (List.getElem?_eq_some_iff.mp hi).1
      have : i = j := (List.getElem?_inj (by rw [List.length_map]; exact hil) hm.nd).mp (by rw [List.getElem?_map, List.getElem?_map, hi, he]; exact congrArg some h2)
      omega
    have hlt : (stOf (ms.take j)).length ≤ 60 := by
      refine Nat.le_trans (List.length_filter_le _ _) ?_
      rw [List.length_take]
      omega
    refine sm_dget hdv ?_
    rw [hgs]
    refine ⟨.str e.2, rfl, Nat.zero_le _, Nat.zero_le _, ?_⟩
    rw [eqD_str]
    by_cases ho : e.2 = "out"
    · refine brf (by rw [ho]; rfl) ⟨⟨_, rfl⟩, ?_⟩
      rw [etake, if_neg (by rw [decide_eq_true_eq]; exact fun k => k ho), List.append_nil]
    · refine brt (by rw [beq_eq_false_iff_ne.mpr ho]; rfl) ?_
      refine sm_dget hdv ?_
      rw [hgs]
      refine ⟨.str e.2, rfl, ?_⟩
      have hin : insA a CS stF [.adr c] ∈ (pre ++ lckA q od xs (sm ms) :: (post ++ [insA a CS stF [.adr c]])) ++ [dctA c (sm (stOf (ms.take j)))] := List.mem_append.mpr (.inl (List.mem_append.mpr (.inr (List.mem_cons_of_mem _ (List.mem_append.mpr (.inr List.mem_cons_self))))))
      have hdc : StV CS ((pre ++ lckA q od xs (sm ms) :: (post ++ [insA a CS stF [.adr c]])) ++ [dctA c (sm (stOf (ms.take j)))]) (.adr a) (stOf (ms.take j)) := .own hin (List.mem_append.mpr (.inr List.mem_cons_self))
      refine ⟨hdc.isC, a, c, .str e.1, .str e.2, stOf (ms.take j), pre ++ lckA q od xs (sm ms) :: (post ++ [insA a CS stF [.adr c]]), [], rfl, rfl, hin, Nat.le_trans hlt (by decide), rfl, rfl, .inl ⟨e.1, e.2, rfl, rfl, hz e hem, hm.md e hem, ⟨_, rfl⟩, ?_⟩⟩
      rw [etake, if_pos (decide_eq_true ho)]
      unfold stPut
      rw [if_neg ho, mPut_new hnin]
  · rintro δ r' ⟨⟨x2, rfl⟩, rfl⟩
    refine ⟨pre, (post ++ [insA a CS stF [.adr c]]) ++ [dctA c (sm (stOf (ms.take (sm ms).length)))], by rw [List.append_assoc]; rfl, ?_⟩
    rw [sm_len, List.take_length]
    have h := h a c
    rw [show pre ++ dctA q (sm ms) :: ((post ++ [insA a CS stF [.adr c]]) ++ [dctA c (sm (stOf ms))]) = (pre ++ dctA q (sm ms) :: post) ++ [insA a CS stF [.adr c], dctA c (sm (stOf ms))] by simp]
    exact fit.of h
structure StO (l : List (Str × Str)) : Prop where
  nd : (l.map (·.1)).Nodup
  nm : ∀ e ∈ l, isNm e.1 = true
  md : ∀ e ∈ l, e.2 = "on" ∨ e.2 = "deaf"
theorem StOk.o {l : List (Str × Str)} (h : StOk l) : StO l := ⟨h.nd, h.nm, h.md⟩
theorem mPut_mem {l : List (Str × Str)} {z m : Str} {e : Str × Str} (h : e ∈ mPut l z m) : e ∈ l ∨ e = (z, m) := by
  unfold mPut at h
  split at h
  · obtain ⟨x, hx, rfl⟩ := List.mem_map.mp h
    by_cases k : x.1 = z
    · rw [if_pos k]; exact .inr (by rw [k])
    · rw [if_neg k]; exact .inl hx
  · rcases List.mem_append.mp h with h | h
    · exact .inl h
    · exact .inr (List.mem_singleton.mp h)
theorem mPut_nd {l : List (Str × Str)} (h : (l.map (·.1)).Nodup) (z m : Str) : ((mPut l z m).map (·.1)).Nodup := by
  rw [mPut_keys]
  split
  · exact h
  · rename_i k
    exact List.nodup_append.mpr ⟨h, by simp, fun a ha b hb e => k (by rw [List.mem_singleton.mp hb] at e; rw [← e]; exact ha)⟩
theorem mdAt_put (l : List (Str × Str)) (z m y : Str) : mdAt (mPut l z m) y = if z = y then m else mdAt l y := by
  have : mdAt (mPut l z m) y = (sGet (mPut l z m) y).getD "out" := rfl
  rw [this, mPut_get]
  split <;> rfl
theorem mdAt_drop (l : List (Str × Str)) (z y : Str) : mdAt (mDrop l z) y = if z = y then ("out" : Str) else mdAt l y := by
  have : mdAt (mDrop l z) y = (sGet (mDrop l z) y).getD "out" := rfl
  rw [this, mDrop_get]
  split <;> rfl
theorem StO.put {l : List (Str × Str)} (h : StO l) {z m : Str} (hz : isNm z = true) (hm : m = "on" ∨ m = "deaf") : StO (mPut l z m) :=
  ⟨mPut_nd h.nd _ _, fun e he => (mPut_mem he).elim (h.nm e) fun k => by rw [k]; exact hz, fun e he => (mPut_mem he).elim (h.md e) fun k => by rw [k]; exact hm⟩
theorem StO.drop {l : List (Str × Str)} (h : StO l) (z : Str) : StO (mDrop l z) :=
  ⟨by rw [mDrop_keys]; exact h.nd.filter _, fun e he => h.nm e (List.mem_filter.mp he).1, fun e he => h.md e (List.mem_filter.mp he).1⟩
theorem StO.stPut {l : List (Str × Str)} (h : StO l) {z m : Str} (hz : isNm z = true) (hm : m ∈ modesL) : StO (stPut l z m) := by
  unfold Q.stPut
  split
  · exact h.drop z
  · rename_i k
    refine h.put hz ?_
    rcases List.mem_cons.mp hm with e | hm
    · exact absurd e k
    rcases List.mem_cons.mp hm with e | hm
    · exact .inr e
    · exact .inl (List.mem_singleton.mp hm)
theorem mdAt_stPut (l : List (Str × Str)) (z m y : Str) : mdAt (stPut l z m) y = if z = y then m else mdAt l y := by
  unfold stPut
  split
  · rename_i k
    rw [mdAt_drop, k]
  · exact mdAt_put _ _ _ _
theorem mdAt_out {l : List (Str × Str)} {z : Str} (h : z ∉ l.map (·.1)) : mdAt l z = "out" := by
  have : mdAt l z = (sGet l z).getD "out" := rfl
  rw [this, sGet_none.mpr h]
  rfl
theorem StO.get {l : List (Str × Str)} (h : StO l) (z : Str) : sGet l z = if mdAt l z = "out" then none else some (mdAt l z) := by
  have e : mdAt l z = (sGet l z).getD "out" := rfl
  cases hg : sGet l z with
  | none => rw [if_pos (by rw [e, hg]; rfl)]
  | some m =>
    have e2 : mdAt l z = m := by rw [e, hg]; rfl
    have := h.md _ (sGet_mem hg)
    rw [e2, if_neg fun k => by subst k; rcases this with q | q <;> exact absurd (show ("out" : Str) = _ from q) (by decide)]
theorem StO.agr {l ms : List (Str × Str)} (h : StO l) (hm : WOk ms) (at_ : ∀ z, mdAt l z = mdAt ms z) : Agr l ms := by
  have hp : (l.map (·.1)).Perm ((ms.map (·.1)).filter fun z => decide (mdAt ms z ≠ "out")) := by
    refine (List.perm_ext_iff_of_nodup h.nd (hm.nd.filter _)).mpr fun z => ?_
    rw [List.mem_filter, decide_eq_true_eq, ← at_]
    have h1 : z ∈ l.map (·.1) ↔ mdAt l z ≠ "out" := by
      have g := h.get z
      by_cases q : mdAt l z = "out"
      · rw [if_pos q] at g
        exact ⟨fun k => absurd k (sGet_none.mp g), fun k => absurd q k⟩
      · rw [if_neg q] at g
        exact ⟨fun _ => q, fun _ => List.mem_map.mpr ⟨_, sGet_mem g, rfl⟩⟩
    rw [h1]
    refine ⟨fun k => ⟨?_, k⟩, fun k => k.2⟩
    rw [at_] at k
    exact Classical.byContradiction fun q => k (mdAt_out q)
  refine ⟨⟨h.nd, h.nm, h.md, ?_⟩, hm, at_⟩
  have e := hp.length_eq
  have e2 := List.length_filter_le (fun z => decide (mdAt ms z ≠ "out")) (ms.map (·.1))
  rw [List.length_map] at e e2
  have := hm.ln
  omega
theorem Agr.stPut {l ms : List (Str × Str)} (h : Agr l ms) {z m : Str} (hz : isNm z = true) (hm : m ∈ modesL) (hw : WOk (mPut ms z m)) : Agr (stPut l z m) (mPut ms z m) :=
  (h.lo.o.stPut hz hm).agr hw fun y => by rw [mdAt_stPut, mdAt_put, h.at_]
theorem Agr.of {ms : List (Str × Str)} (h : WOk ms) : Agr (stOf ms) ms := by
  refine StO.agr ⟨?_, fun e he => h.nm e (List.mem_filter.mp he).1, fun e he => ?_⟩ h fun z => ?_
  · exact List.Nodup.sublist (List.Sublist.map _ List.filter_sublist) h.nd
  · have h1 := h.md e (List.mem_filter.mp he).1
    have h2 := of_decide_eq_true (List.mem_filter.mp he).2
    rcases List.mem_cons.mp h1 with k | k
    · exact absurd k h2
    rcases List.mem_cons.mp k with k | k
    · exact .inr k
    · exact .inl (List.mem_singleton.mp k)
  · have e1 : mdAt ms z = (sGet ms z).getD "out" := rfl
    cases hg : sGet ms z with
    | none =>
      rw [e1, hg]
      refine mdAt_out fun k => ?_
      obtain ⟨e, he, rfl⟩ := List.mem_map.mp k
      exact sGet_none.mp hg (List.mem_map.mpr ⟨e, (List.mem_filter.mp he).1, rfl⟩)
    | some m =>
      rw [e1, hg]
      have hmem := sGet_mem hg
      by_cases ho : m = "out"
      · rw [ho]
        refine mdAt_out fun k => ?_
        obtain ⟨e, he, hez⟩ := List.mem_map.mp k
        have h2 := sGet_of h.nd (show (e.1, e.2) ∈ ms from (List.mem_filter.mp he).1)
        rw [hez, hg] at h2
        have h3 := of_decide_eq_true (List.mem_filter.mp he).2
        rw [← Option.some.inj h2] at h3
        exact h3 ho
      · have e2 : mdAt (stOf ms) z = (sGet (stOf ms) z).getD "out" := rfl
        have e3 : sGet (stOf ms) z = some m := sGet_of (l := stOf ms) (List.Nodup.sublist (List.Sublist.map _ List.filter_sublist) h.nd) (List.mem_filter.mpr ⟨hmem, decide_eq_true ho⟩)
        rw [e2, e3]
def IsTab (K : PySem.W.Frag) (Cs : List Addr) (C : Addr) : Prop := ∀ D ∈ Cs, ExcC K D ∧ PySem.W.kitOne K (.ref D) (.ref C) = some (decide (D = C))
def IsAny (K : PySem.W.Frag) (Cs : List Addr) (c : Value) (b : Bool) : Prop := ∀ D ∈ Cs, ExcC K D ∧ PySem.W.kitOne K (.ref D) c = some b
structure ErrD (K : PySem.W.Frag) (CQ C : Addr) : Prop where
  ec : ExcC K C
  ty : PySem.W.typeIn K (.ref C) = some (.type "type")
  mr : ∃ cd, PySem.W.clsIn K C = some cd ∧ cd.mro = [.ref C, .ref CQ, .type "ValueError", .type "Exception", .type "BaseException", .type "object"]
theorem ErrD.sub {K : PySem.W.Frag} {CQ C : Addr} (h : ErrD K CQ C) (c : Value) : PySem.W.subIn K (.ref C) c = some (([.ref C, .ref CQ, .type "ValueError", .type "Exception", .type "BaseException", .type "object"] : List Value).contains c) := by
  obtain ⟨cd, h1, h2⟩ := h.mr
  show PySem.W.mroIn K C c = _
  unfold PySem.W.mroIn
  rw [h1]
  show (if cd.mro.isEmpty then none else some (cd.mro.contains c)) = _
  rw [h2]
  rfl
theorem isTab_of {K : PySem.W.Frag} {CQ : Addr} {Cs : List Addr} (h : ∀ D ∈ Cs, ErrD K CQ D) (hq : CQ ∉ Cs) {C : Addr} (hC : C ∈ Cs) : IsTab K Cs C := fun D hD => by
  refine ⟨(h D hD).ec, kit_exc (h C hC).ec.hd (h C hC).ty ?_ fun e => decide_eq_true e⟩
  rw [(h D hD).sub]
  have hne : C ≠ CQ := fun e => hq (e ▸ hC)
  congr 1
  by_cases e : D = C
  · subst e
    rw [decide_eq_true rfl]
    simp
  · rw [decide_eq_false e]
    have e1 : C ≠ D := fun k => e k.symm
    simp [hne, e1]
theorem isQ_of {K : PySem.W.Frag} {CQ : Addr} {Cs : List Addr} (h : ∀ D ∈ Cs, ErrD K CQ D) (hd : PySem.W.hasDictIn K CQ = true) (ty : PySem.W.typeIn K (.ref CQ) = some (.type "type")) : IsAny K Cs (.ref CQ) true := fun D hD => by
  refine ⟨(h D hD).ec, kit_exc hd ty ?_ fun _ => rfl⟩
  rw [(h D hD).sub]
  simp
theorem isB_of {K : PySem.W.Frag} {CQ : Addr} {Cs : List Addr} (h : ∀ D ∈ Cs, ErrD K CQ D) {T : String} {b : Bool} (hT : PySem.W.kitMeta T = true) (hb : ([.type "ValueError", .type "Exception", .type "BaseException", .type "object"] : List Value).contains (.type T) = b) : IsAny K Cs (.type T) b := fun D hD => by
  refine ⟨(h D hD).ec, ?_⟩
  have e := (h D hD).sub (.type T)
  unfold PySem.W.kitOne
  rw [if_neg (fun k => (by have k := beq_iff_eq.mp k; cases k))]
  show (if PySem.W.kitMeta T = true then PySem.W.subIn K (.ref D) (.type T) else none) = some b
  rw [if_pos hT, e, ← hb]
  congr 1
theorem errD_mk {K : PySem.W.Frag} {CQ C N : Addr} {nm q : Str} {bs bm : List Value} {sn : List Str} {sub : List Value} {ab : Bool} {col : Option Bool} {dd : Option Addr} {k0 k1 k2 k3 k5 : Option Value} (xL : K.lookup C = some (excClassObj nm q C N bs bm true sn sub ab col dd k0 k1 k2 k3 k5 "ValueError.__new__")) (mb : bm = [.ref CQ, .type "ValueError", .type "Exception", .type "BaseException", .type "object"]) (ec : ExcC K C) (ty : PySem.W.typeIn K (.ref C) = some (.type "type")) : ErrD K CQ C := by
  subst mb
  refine ⟨ec, ty, ?_⟩
  unfold PySem.W.clsIn
  rw [xL]
  exact ⟨_, rfl, rfl⟩
def spSameOdd : SpX := fun ds r P _ => ∃ d : D, ds = [d, d] ∧ dep d ≤ 64 ∧ (py d).showable = true ∧ (py d).shown.length ≤ sizeLine ∧ P (.bl true) r
abbrev N__law_same_odd : List Str := ["_law_actual", "_law_due"]
theorem sc__law_same_odd : FnScope N__law_same_odd ["_law_actual", "_law_due"] (defScope s__law_same_odd) := ⟨rfl, rfl, rfl, by decide +kernel, rfl, by decide +kernel, by decide +kernel⟩
theorem c__law_same_odd (m_repr : mg "repr" = none) (Dx : Dfn K mg "_law_same_odd" s__law_same_odd ["_law_actual", "_law_due"]) : ClQ P w K mg base 1 "_law_same_odd" NoRepr spSameOdd := by
  have sc := sc__law_same_odd
  refine clq_of Dx sc (fun ds r P' XR ⟨_, e, _⟩ => by rw [e]; rfl) (fun f cdv A outer s H E hr hgd tk po => ?_)
  have hu66 : (A.deeper (envOfC "_law_same_odd" (defScope s__law_same_odd) s.heap.objs.size f cdv)).units + 66 < cLine := by have := hr.un; omega
  have hgd : (A.deeper (envOfC "_law_same_odd" (defScope s__law_same_odd) s.heap.objs.size f cdv)).guards = some [] := hgd
  refine ⟨_, (ss_one (s_ret (d_reprEq hgd hu66 (by rfl) m_repr (dv 0) (dv 1)))), fun ds r P' XR h => ?_⟩
  obtain ⟨d, rfl, h1, h2, h3, h⟩ := h
  exact ⟨h1, h2, h3, rfl, fit.of h⟩
def oddL : List D := [.bl true, .bl false, .int 0, .int 1, .int (-1), .int (10 ^ 39), .non, .str "", .str "A", .str "ab1", .str "abcdefghi", .str " a", .str "a\n", .str "a b", .lst [], .tup [], .lst [.str "a"], .tup [.str "a"], .lst [.lst [.str "a"], .tup [.str "b"]], .str (repS "a" 400), .str "-", .str "a,"]
def oddM : List D := [.str "ON", .str "", .str "of", .bl true, .bl false, .int 0, .int 1, .int 2, .non, .lst [], .tup [.str "on"], .str "out ", .str "on\n", .lst [.str "deaf"], .str (repS "o" 400), .str "always"]
/-- what is told of it can be shown -/
def shB (d : D) : Bool := decide (dep d ≤ 60) && (py d).showable && decide ((py d).shown.length ≤ 3000)
theorem oddL_ok : ∀ d ∈ oddL, plain d = true ∧ isNameD d = false ∧ shB (.lst [.str "BadName", d]) = true ∧ shB (.lst [.str "BadName", d, .bl true, .bl false]) = true := by
  have key : (oddL.all fun d => plain d && (!isNameD d && (shB (.lst [.str "BadName", d]) && shB (.lst [.str "BadName", d, .bl true, .bl false])))) = true := by decide +kernel
  intro d hd
  have := List.all_eq_true.mp key d hd
  simp only [Bool.and_eq_true, Bool.not_eq_true'] at this
  exact this
theorem oddM_ok : ∀ d ∈ oddM, plain d = true ∧ isModeD d = false ∧ shB (.lst [.str "BadMode", d, .bl true, .bl false]) = true := by
  have key : (oddM.all fun d => plain d && (!isModeD d && shB (.lst [.str "BadMode", d, .bl true, .bl false]))) = true := by decide +kernel
  intro d hd
  have := List.all_eq_true.mp key d hd
  simp only [Bool.and_eq_true, Bool.not_eq_true'] at this
  exact this
def spOddOf (l : List D) : SpX := fun ds r P _ => ∃ (p a : Addr) (N : Nat) (X : Rs), ds = [.adr p] ∧ r = poolA p a N :: X ∧ N < 10000000 ∧ ∀ d, d ∈ l → P d (poolA p a (N + 1) :: X)
abbrev N__law_odd : List Str := ["_law_pool_here", "_law_odd_here"]
theorem sc__law_odd : FnScope N__law_odd ["_law_pool_here"] (defScope s__law_odd) := ⟨rfl, rfl, rfl, by decide +kernel, rfl, by decide +kernel, by decide +kernel⟩
theorem c__law_odd (B : Bl mg) (C__law_draw : Cl P w K mg base 1 "_law_draw" ["_law_pool_here", "_law_many"] spDraw) (Dx : Dfn K mg "_law_odd" s__law_odd ["_law_pool_here"]) : Cl P w K mg base 2 "_law_odd" ["_law_pool_here"] (spOddOf oddL) := by
  have sc := sc__law_odd
  refine cl_of Dx sc (fun ds r P' XR ⟨_, _, _, _, e, _⟩ => by rw [e]; rfl) (fun f cdv A outer s H E hr tk po => ?_)
  have hu := hr.units
  have hi := u65 hr
  refine ⟨_, (ss_cons (s_set (i := 1) sc.nd (d_lst (dl_cons d_bl (dl_cons d_bl (dl_cons d_int (dl_cons d_int (dl_cons (d_neg d_int) (dl_cons (d_bin p_pow d_int d_int) (dl_cons d_non (dl_cons d_str (dl_cons d_str (dl_cons d_str (dl_cons d_str (dl_cons d_str (dl_cons d_str (dl_cons d_str (dl_cons (d_lst dl_nil) (dl_cons (d_tup dl_nil) (dl_cons (d_lst (dl_cons d_str dl_nil)) (dl_cons (d_tup (dl_cons d_str dl_nil)) (dl_cons (d_lst (dl_cons (d_lst (dl_cons d_str dl_nil)) (dl_cons (d_tup (dl_cons d_str dl_nil)) dl_nil))) (dl_cons (d_bin p_mulS d_str d_int) (dl_cons d_str (dl_cons d_str dl_nil))))))))))))))))))))))))
  (ss_one (s_ret (d_ix (dv 1) (d_fn C__law_draw tk hr (dl_cons (dv 0) (dl_cons d_int dl_nil))))))), fun ds r P' XR h => ?_⟩
  obtain ⟨p, a, N, X, rfl, rfl, hN, h⟩ := h
  refine ⟨⟨by decide, by decide, by decide⟩, ?_⟩
  refine ⟨Nat.le_of_ble_eq_true rfl, Nat.le_of_ble_eq_true rfl, Nat.le_of_ble_eq_true rfl, Nat.le_of_ble_eq_true rfl, Nat.le_of_ble_eq_true rfl, Nat.le_of_ble_eq_true rfl, Nat.le_of_ble_eq_true rfl, "a", 400, rfl, rfl, by decide, by decide, by decide, by decide, Nat.le_of_ble_eq_true rfl, p, a, 22, N, X, rfl, rfl, ⟨by decide, by decide⟩, by omega, fun x x0 x1 => ?_⟩
  obtain ⟨d, md, ed⟩ := pick_in (l := oddL) x0 x1
  exact ix_l ed (fit.of (h d md))
abbrev N__law_odd_mode : List Str := ["_law_pool_here", "_law_odd_here"]
theorem sc__law_odd_mode : FnScope N__law_odd_mode ["_law_pool_here"] (defScope s__law_odd_mode) := ⟨rfl, rfl, rfl, by decide +kernel, rfl, by decide +kernel, by decide +kernel⟩
theorem c__law_odd_mode (B : Bl mg) (C__law_draw : Cl P w K mg base 1 "_law_draw" ["_law_pool_here", "_law_many"] spDraw) (Dx : Dfn K mg "_law_odd_mode" s__law_odd_mode ["_law_pool_here"]) : Cl P w K mg base 2 "_law_odd_mode" ["_law_pool_here"] (spOddOf oddM) := by
  have sc := sc__law_odd_mode
  refine cl_of Dx sc (fun ds r P' XR ⟨_, _, _, _, e, _⟩ => by rw [e]; rfl) (fun f cdv A outer s H E hr tk po => ?_)
  have hu := hr.units
  have hi := u65 hr
  refine ⟨_, (ss_cons (s_set (i := 1) sc.nd (d_lst (dl_cons d_str (dl_cons d_str (dl_cons d_str (dl_cons d_bl (dl_cons d_bl (dl_cons d_int (dl_cons d_int (dl_cons d_int (dl_cons d_non (dl_cons (d_lst dl_nil) (dl_cons (d_tup (dl_cons d_str dl_nil)) (dl_cons d_str (dl_cons d_str (dl_cons (d_lst (dl_cons d_str dl_nil)) (dl_cons (d_bin p_mulS d_str d_int) (dl_cons d_str dl_nil))))))))))))))))))
  (ss_one (s_ret (d_ix (dv 1) (d_fn C__law_draw tk hr (dl_cons (dv 0) (dl_cons d_int dl_nil))))))), fun ds r P' XR h => ?_⟩
  obtain ⟨p, a, N, X, rfl, rfl, hN, h⟩ := h
  refine ⟨Nat.le_of_ble_eq_true rfl, Nat.le_of_ble_eq_true rfl, Nat.le_of_ble_eq_true rfl, "o", 400, rfl, rfl, by decide, by decide, by decide, by decide, Nat.le_of_ble_eq_true rfl, p, a, 16, N, X, rfl, rfl, ⟨by decide, by decide⟩, by omega, fun x x0 x1 => ?_⟩
  obtain ⟨d, md, ed⟩ := pick_in (l := oddM) x0 x1
  exact ix_l ed (fit.of (h d md))
def Mix (zs : List Str) (d : D) : Prop := d ∈ oddL ∨ ∃ z ∈ zs, d = .str z
abbrev N__law_mixed : List Str := ["_law_pool_here", "_law_names_here", "_law_many", "_law_found", "_law_k", "_law_pick"]
theorem sc__law_mixed : FnScope N__law_mixed ["_law_pool_here", "_law_names_here", "_law_many"] (defScope s__law_mixed) := ⟨rfl, rfl, rfl, by decide +kernel, rfl, by decide +kernel, by decide +kernel⟩
def spMixed : SpX := fun ds r P _ => ∃ (p a : Addr) (N : Nat) (X : Rs) (zs : List Str) (m : Nat), ds = [.adr p, .lst (zs.map .str), .int (m : Nat)] ∧ r = poolA p a N :: X ∧ N < 1000000 ∧ m ≤ 10 ∧ 0 < zs.length ∧ zs.length ≤ 60 ∧ ∀ ys, ys.length = m → (∀ d ∈ ys, Mix zs d) → P (.lst ys) (poolA p a (N + 2 * m) :: X)
theorem c__law_mixed (B : Bl mg) (C__law_draw : Cl P w K mg base 1 "_law_draw" ["_law_pool_here", "_law_many"] spDraw) (C__law_odd : Cl P w K mg base 2 "_law_odd" ["_law_pool_here"] (spOddOf oddL)) (Dx : Dfn K mg "_law_mixed" s__law_mixed ["_law_pool_here", "_law_names_here", "_law_many"]) : Cl P w K mg base 3 "_law_mixed" ["_law_pool_here", "_law_names_here", "_law_many"] spMixed := by
  have sc := sc__law_mixed
  refine cl_of Dx sc (fun ds r P' XR ⟨_, _, _, _, _, _, e, _⟩ => by rw [e]; rfl) (fun f cdv A outer s H E hr tk po => ?_)
  have hu := hr.units
  have hi := u65 hr
  refine ⟨_, (ss_cons (s_set (i := 3) sc.nd (d_lstO dl_nil))
  (ss_cons (s_for (i_r1 (by rfl) B.range (dl_cons (dv 2) dl_nil)) (g_name (i := 4) sc.nd)
  (ss_cons (s_set (i := 5) sc.nd (d_fn C__law_draw tk hr (dl_cons (dv 0) (dl_cons d_int dl_nil))))
  (ss_one (s_expr (d_app (dv 3) (dl_cons (d_cut (d_if (b_cmp (p_eq hu) (dv 5) d_int) (d_fn C__law_odd tk hr (dl_cons (dv 0) dl_nil)) (d_ix (dv 1) (d_fn C__law_draw tk hr (dl_cons (dv 0) (dl_cons (d_blt c_len (by rfl) B.len (dl_cons (dv 1) dl_nil)) dl_nil)))))) dl_nil))))) po)
  (ss_one (s_melt 3 (s_ret (dv 3)))))), fun ds r P' XR h => ?_⟩
  obtain ⟨p, a, N, X, zs, m, rfl, rfl, hN, hm, hz0, hz6, h⟩ := h
  refine ⟨Nat.zero_le _, fun f => ?_⟩
  refine ⟨⟨by omega, by omega⟩, fun i δ r' => (∃ x4 x5, δ = [some (.adr p), some (.lst (zs.map .str)), some (.int (m : Nat)), some (.adr f), x4, x5]) ∧ ∃ ys, ys.length = i ∧ (∀ d ∈ ys, Mix zs d) ∧ r' = poolA p a (N + 2 * i) :: X ++ [lstA f ys], ⟨⟨_, _, rfl⟩, [], rfl, fun d hd => (by cases hd), rfl⟩, ?_, ?_⟩
  · rintro i d δ r' hd ⟨⟨x4, x5, rfl⟩, ys, hyl, hy, rfl⟩
    have hi2 := (List.getElem?_eq_some_iff.mp hd).1
    rw [List.length_map, List.length_range] at hi2
    have hi2 : i < m := by omega
    refine ⟨p, a, 8, N + 2 * i, X ++ [lstA f ys], rfl, rfl, ⟨by decide, by decide⟩, by omega, fun c c0 c1 => ?_⟩
    refine ⟨f, ys, rfl, ⟨poolA p a (N + 2 * i + 1) :: X, [], rfl⟩, fun d r1 => r1 = poolA p a (N + 2 * (i + 1)) :: (X ++ [lstA f ys]) ∧ Mix zs d, ?_, ?_⟩
    · refine ⟨Nat.zero_le _, Nat.zero_le _, ?_⟩
      rw [eqD_int]
      by_cases h7 : c = 7
      · exact brt (decide_eq_true h7) ⟨p, a, N + 2 * i + 1, X ++ [lstA f ys], rfl, rfl, by omega, fun d hd => ⟨rfl, .inl hd⟩⟩
      · refine brf (decide_eq_false h7) fun _ => ⟨p, a, _, N + 2 * i + 1, X ++ [lstA f ys], rfl, rfl, ⟨by rw [List.length_map]; omega, by rw [List.length_map]; omega⟩, by omega, fun c2 d0 d1 => ?_⟩
        rw [List.length_map] at d1
        obtain ⟨o, rfl⟩ : ∃ o : Nat, c2 = o := ⟨c2.toNat, by omega⟩
        obtain ⟨z, hzo⟩ : ∃ z, zs[o]? = some z := ⟨zs[o], List.getElem?_eq_getElem (by omega)⟩
        exact ix_l (L2.atI_nat (by rw [List.getElem?_map, hzo]; rfl)) ⟨rfl, .inr ⟨z, List.mem_of_getElem? hzo, rfl⟩⟩
    · rintro d r1 ⟨rfl, hd⟩
      refine ⟨poolA p a (N + 2 * (i + 1)) :: X, ys, [], d, rfl, rfl, by unfold small; omega, ⟨_, _, rfl⟩, ys ++ [d], by rw [List.length_append, hyl]; rfl, fun y hy2 => ?_, rfl⟩
      rcases List.mem_append.mp hy2 with q | q
      · exact hy y q
      · rw [List.mem_singleton.mp q]; exact hd
  · rintro δ r' ⟨⟨x4, x5, rfl⟩, ys, hyl, hy, rfl⟩
    rw [List.length_map, List.length_range] at hyl ⊢
    refine ⟨f, _, _, [], rfl, rfl, ?_⟩
    rw [List.append_nil]
    exact fit.of (h ys (by omega) hy)
abbrev N__law_is_name : List Str := ["_law_x", "_law_sign"]
theorem sc__law_is_name : FnScope N__law_is_name ["_law_x"] (defScope s__law_is_name) := ⟨rfl, rfl, rfl, by decide +kernel, rfl, by decide +kernel, by decide +kernel⟩
theorem c__law_is_name (B : Bl mg) (Dx : Dfn K mg "_law_is_name" s__law_is_name ["_law_x"]) : Cl P w K mg base 1 "_law_is_name" ["_law_x"] spIsName := by
  have sc := sc__law_is_name
  refine cl_of Dx sc (fun ds r P' XR ⟨d, e, _⟩ => by rw [e]; rfl) (fun f cdv A outer s H E hr tk po => ?_)
  have hu := hr.units
  have hi := u65 hr
  refine ⟨_, (ss_cons (s_if (b_w (w_or (b_not (b_tru (d_isi .str (by rfl) B.isi (dv 0) (by rfl) B.str))) (w_or1 (b_not (b_chain p_le p_le d_int (d_blt c_len (by rfl) B.len (dl_cons (dv 0) dl_nil)) d_int)))))
  (ss_one (s_ret d_bl))
  ss_nil)
  (ss_one (s_ret (d_cmp (p_eq hu) (d_blt c_len (by rfl) B.len (dl_cons (d_lc (js := [1]) (own := [("_law_sign", 1)]) sc.nd (i_str (dv 0)) (blkOk_by (own := [("_law_sign", 1)]) (N := N__law_is_name) (sc := defScope s__law_is_name) (by decide +kernel)) (fun _ _ _ _ _ => (g_name (i := 1) sc.nd)) (fun _ _ _ _ _ => (pts_1 (b_cmp (p_notIn hi) (dv 1) d_str))) (fun _ _ _ _ _ => (dv 1))) dl_nil)) d_int)))), fun ds r P' XR h => ?_⟩
  obtain ⟨d, rfl, pd, h⟩ := h
  replace h := fit.of h
  cases d with
  | str z =>
    have hb : ∀ b, isNm z = b → fit P' (.bl b) r := fun b e => e ▸ h
    unfold isNm at hb
    refine brF ?_
    by_cases l1 : 1 ≤ z.length
    · refine brt (decide_eq_true (by omega)) ?_
      by_cases l8 : z.length ≤ 8
      · refine brf (congrArg (fun b => !b) (decide_eq_true (show ((z.length : Nat) : Int) ≤ 8 by omega))) ?_
        refine lc_fm (fun d => !(match d with | .str w => (match sub1 w with | some c => decide (c ∈ tl abc) | none => false) | _ => false)) (fun d => d) ?_ ?_ ?_
        · rw [List.length_map]
          show (tl z).length ≤ 1000000
          rw [← len_tl]
          omega
        · intro d hd r' Q1 Q2 q1 q2
          obtain ⟨c, hc, rfl⟩ := List.mem_map.mp hd
          exact ⟨⟨q1, q2⟩⟩
        · rw [List.map_id']
          refine fun _ => ⟨Nat.zero_le _, Nat.zero_le _, hb _ ?_⟩
          rw [show ∀ xs : List D, eqD (.int (xs.length : Nat)) (.int 0) = xs.isEmpty from fun xs => by cases xs <;> rfl, filter_none, decide_eq_true l1, decide_eq_true l8, List.all_map]
          show (true && true && (tl z).all isLet) = (tl z).all fun c => decide (c ∈ tl abc)
          rw [Bool.true_and, Bool.true_and]
          congr 1
          funext c
          exact (isLet_abc c).symm
      · refine brt (congrArg (fun b => !b) (decide_eq_false (show ¬ ((z.length : Nat) : Int) ≤ 8 by omega))) (hb _ ?_)
        rw [decide_eq_false l8, Bool.and_false, Bool.false_and]
    · refine brf (decide_eq_false (by omega)) (brT (hb _ ?_))
      rw [decide_eq_false l1, Bool.false_and, Bool.false_and]
  | adr => cases pd
  | ins => cases pd
  | dct => cases pd
  | _ => exact brT (brT h)
def firstOdd (ds : List D) : Option D := ds.find? fun d => !isNameD d
/-- what the law awaits -/
def expD (ds : List D) : D := match firstOdd ds with
  | some x => .lst [.str "BadName", x]
  | none => match twA [] (ds.filterMap fun d => match d with | .str z => some z | _ => none) with | some z => .lst [.str "Twice", .str z] | none => .lst []
abbrev N__law_expected : List Str := ["_law_on", "_law_faint", "_law_name", "_law_seen"]
theorem sc__law_expected : FnScope N__law_expected ["_law_on", "_law_faint"] (defScope s__law_expected) := ⟨rfl, rfl, rfl, by decide +kernel, rfl, by decide +kernel, by decide +kernel⟩
def spExpd : SpX := fun ds r P _ => ∃ on df : List D, ds = [.lst on, .lst df] ∧ (∀ d ∈ on ++ df, plain d = true) ∧ (on ++ df).length ≤ 60 ∧ P (expD (on ++ df)) r
theorem c__law_expected (B : Bl mg) (C__law_is_name : Cl P w K mg base 1 "_law_is_name" ["_law_x"] spIsName) (Dx : Dfn K mg "_law_expected" s__law_expected ["_law_on", "_law_faint"]) : Cl P w K mg base 2 "_law_expected" ["_law_on", "_law_faint"] spExpd := by
  have sc := sc__law_expected
  refine cl_of Dx sc (fun ds r P' XR ⟨_, _, e, _⟩ => by rw [e]; rfl) (fun f cdv A outer s H E hr tk po => ?_)
  have hu := hr.units
  have hi := u65 hr
  refine ⟨_, (ss_cons (s_for (i_list (d_bin p_add (dv 0) (dv 1))) (g_name (i := 2) sc.nd)
  (ss_one (s_if (b_not (b_tru (d_fn C__law_is_name tk hr (dl_cons (dv 2) dl_nil))))
  (ss_one (s_ret (d_lst (dl_cons d_str (dl_cons (dv 2) dl_nil)))))
  ss_nil)) po)
  (ss_cons (s_set (i := 3) sc.nd (d_lstO dl_nil))
  (ss_cons (s_for (i_list (d_bin p_add (dv 0) (dv 1))) (g_name (i := 2) sc.nd)
  (ss_cons (s_if (b_cmpO (p_inO hi) (dv 2) (dv 3))
  (ss_one (s_ret (d_lst (dl_cons d_str (dl_cons (dv 2) dl_nil)))))
  ss_nil)
  (ss_one (s_expr (d_app (dv 3) (dl_cons (dv 2) dl_nil))))) po)
  (ss_one (s_ret (d_lst dl_nil)))))), fun ds r P' XR h => ?_⟩
  obtain ⟨on, df, rfl, hpl, hl, h⟩ := h
  obtain ⟨N, hN⟩ : ∃ N, N = on ++ df := ⟨_, rfl⟩
  have hln : on.length + df.length ≤ 60 := by rw [List.length_append] at hl; exact hl
  rw [← hN] at hpl hl h
  refine ⟨by unfold small; omega, ?_⟩
  rw [← hN]
  refine ⟨fun i δ r' => (∃ x2, δ = [some (.lst on), some (.lst df), x2, none]) ∧ r' = r ∧ ∀ (j : Nat) (x : D), j < i → N[j]? = some x → isNameD x = true, ⟨⟨_, rfl⟩, rfl, fun j x hj => absurd hj (Nat.not_lt_zero _)⟩, ?_, ?_⟩
  · rintro i d δ r' hd ⟨⟨x2, rfl⟩, rfl, hb⟩
    refine ⟨d, rfl, hpl d (List.mem_of_getElem? hd), ?_⟩
    cases hn : isNameD d with
    | true =>
      refine brF ⟨⟨_, rfl⟩, rfl, fun j x hj hx => ?_⟩
      by_cases hji : j = i
      · subst hji
        rw [hd] at hx
        cases hx
        exact hn
      · exact hb j x (by omega) hx
    | false =>
      refine brT ⟨Nat.le_of_ble_eq_true rfl, ?_⟩
      have := find_at (p := fun d => !isNameD d) (fun j x hj hx => by show (!isNameD x) = false; rw [hb j x hj hx]; rfl) hd (by show (!isNameD d) = true; rw [hn]; rfl)
      have e : expD N = .lst [.str "BadName", d] := by unfold expD firstOdd; rw [this]
      rw [e] at h
      exact fit.of h
  rintro δ r' ⟨⟨x2, rfl⟩, rfl, hall⟩
  obtain ⟨zs, rfl⟩ : ∃ zs : List Str, N = zs.map .str := by
    refine ⟨N.filterMap fun d => match d with | .str z => some z | _ => none, ?_⟩
    have : ∀ d ∈ N, ∃ z, d = .str z := fun d hd => by
      obtain ⟨j, hj⟩ := List.mem_iff_getElem?.mp hd
      have := hall j d (List.getElem?_eq_some_iff.mp hj).1 hj
      cases d <;> first | exact ⟨_, rfl⟩ | cases this
    clear hall h hpl hN hl
    induction N with
    | nil => rfl
    | cons d N ih =>
      obtain ⟨z, rfl⟩ := this d List.mem_cons_self
      exact congrArg (D.str z :: ·) (ih fun y hy => this y (List.mem_cons_of_mem _ hy))
  have hz : ∀ z ∈ zs, isNm z = true := fun z hz => by
    obtain ⟨j, hj⟩ := List.mem_iff_getElem?.mp hz
    exact hall j (.str z) (by rw [List.length_map]; exact (List.getElem?_eq_some_iff.mp hj).1) (by rw [List.getElem?_map, hj]; rfl)
  have eE : expD (zs.map .str) = match twA [] zs with | some z => .lst [.str "Twice", .str z] | none => .lst [] := by
    unfold expD firstOdd
    rw [List.find?_eq_none.mpr fun d hd => by
      obtain ⟨z, hzm, rfl⟩ := List.mem_map.mp hd
      rw [show isNameD (.str z) = true from hz z hzm]
      decide]
    rw [List.filterMap_map]
    show (match twA [] (zs.filterMap fun z => some z) with | some z => _ | none => _) = _
    rw [List.filterMap_some]
  rw [List.length_map] at hl
  refine ⟨Nat.zero_le _, fun q => ⟨by unfold small; omega, ?_⟩⟩
  rw [← hN]
  refine ⟨fun i δ r2 => (∃ x2, δ = [some (.lst on), some (.lst df), x2, some (.adr q)]) ∧ r2 = r' ++ [lstA q ((zs.take i).map .str)] ∧ twA [] zs = twA (zs.take i) (zs.drop i), ⟨⟨_, rfl⟩, rfl, rfl⟩, ?_, ?_⟩
  · rintro i d δ r2 hd ⟨⟨x2, rfl⟩, rfl, ht⟩
    rw [List.getElem?_map] at hd
    obtain ⟨z, hzi, rfl⟩ := Option.map_eq_some_iff.mp hd
    have hi2 := (List.getElem?_eq_some_iff.mp hzi).1
    have ed : zs.drop i = z :: zs.drop (i + 1) := by
      rw [List.drop_eq_getElem_cons hi2]
      congr 1
      exact (List.getElem?_eq_some_iff.mp hzi).2
    have et : twA (zs.take i) (zs.drop i) = if z ∈ zs.take i then some z else twA (zs.take i ++ [z]) (zs.drop (i + 1)) := by rw [ed]; rfl
    rw [et] at ht
    refine ⟨⟨q, _, rfl, Own.last, ⟨⟨Nat.zero_le _, Nat.le_trans (depsS _) (by decide), _, rfl, ?_⟩⟩⟩⟩
    rw [cond_false, memD_str]
    by_cases hm : z ∈ zs.take i
    · rw [if_pos hm] at ht
      refine brt (any_at hm) ⟨Nat.le_of_ble_eq_true rfl, ?_⟩
      rw [eE, ht] at h
      exact ⟨_, le.drop, h⟩
    · rw [if_neg hm] at ht
      refine brf ?_ ⟨q, _, rfl, Own.last, r', _, [], .str z, rfl, rfl, by unfold small; rw [List.length_map, List.length_take]; omega, ⟨_, rfl⟩, ?_, ?_⟩
      · rw [Bool.eq_false_iff]
        intro k
        obtain ⟨y, hy, e⟩ := List.any_eq_true.mp k
        exact hm (eq_of_beq e ▸ hy)
      · rw [List.take_add_one, hzi, List.map_append]
        rfl
      · rw [ht, List.take_add_one, hzi]
        rfl
  · rintro δ r2 ⟨⟨x2, rfl⟩, rfl, ht⟩
    rw [List.length_map, List.drop_of_length_le (Nat.le_refl _)] at ht
    have hnone : twA [] zs = none := ht
    rw [eE, hnone] at h
    exact ⟨Nat.zero_le _, ⟨_, le.drop, h⟩⟩
theorem seqV_more {r t : Rs} {d : D} {xs : List D} (h : SeqV r d xs) : SeqV (r ++ t) d xs := by
  cases h with
  | lst => exact .lst _
  | tup => exact .tup _
  | own h =>
    obtain ⟨pre, post, e⟩ := h
    exact .own ⟨pre, post ++ t, by rw [e, List.append_assoc]; rfl⟩
/-- how a setting's making ends: the first odd name, the first name that is there twice, the setting -/
def MadeEnds (CS CB CT : Addr) (on df : List D) (r : Rs) (P : PK1) (XR : XD) : Prop :=
  (∀ x, firstOdd (on ++ df) = some x → ∀ u : Rs, XR CB ["name"] [x] (r ++ u)) ∧ (∀ onz dfz : List Str, on = onz.map .str → df = dfz.map .str → (∀ z ∈ onz ++ dfz, isNm z = true) →
    (∀ x, twA [] (onz ++ dfz) = some x → ∀ u : Rs, XR CT ["name"] [.str x] (r ++ u)) ∧ (twA [] (onz ++ dfz) = none → ∀ a c, P (.adr a) (r ++ [insA a CS stF [.adr c], dctA c (sm (mkSt onz dfz))])))
theorem init_any {CS CB CT : Addr} {r : Rs} {P : PK1} {XR : XD} {dq : D} {on df : List D} (hq : SeqV r dq df) (hp : ∀ d ∈ on ++ df, plain d = true) (hl : (on ++ df).length ≤ 60) (h : MadeEnds CS CB CT on df r P XR) (a : Addr) :
    spStInit CS CB CT [.adr a, dq, .tup on] (r ++ [insA a CS [] []]) (fun d r3 => d = .non ∧ P (.adr a) r3) XR := by
  refine ⟨a, dq, on, df, r, rfl, rfl, seqV_more hq, hp, hl, ?_⟩
  cases ho : firstOdd (on ++ df) with
  | some x => exact .inl ⟨x, ho, h.1 x ho _⟩
  | none =>
    have hz : ∀ d ∈ on ++ df, ∃ z, d = .str z ∧ isNm z = true := fun d hd => by
      have := List.find?_eq_none.mp ho d hd
      cases d with
      | str z => exact ⟨z, rfl, by simpa [isNameD] using this⟩
      | _ => simp [isNameD] at this
    have pick : ∀ l : List D, (∀ d ∈ l, ∃ z, d = D.str z ∧ isNm z = true) → ∃ zs : List Str, l = zs.map .str ∧ ∀ z ∈ zs, isNm z = true := fun l => by
      induction l with
      | nil => exact fun _ => ⟨[], rfl, fun z hz => by cases hz⟩
      | cons d l ih =>
        intro k
        obtain ⟨z, rfl, hz⟩ := k d List.mem_cons_self
        obtain ⟨zs, rfl, hzs⟩ := ih fun y hy => k y (List.mem_cons_of_mem _ hy)
        exact ⟨z :: zs, rfl, fun y hy => (List.mem_cons.mp hy).elim (fun e => e ▸ hz) (hzs y)⟩
    obtain ⟨onz, rfl, h1⟩ := pick on fun d hd => hz d (List.mem_append.mpr (.inl hd))
    obtain ⟨dfz, rfl, h2⟩ := pick df fun d hd => hz d (List.mem_append.mpr (.inr hd))
    have hnm : ∀ z ∈ onz ++ dfz, isNm z = true := fun z hz => (List.mem_append.mp hz).elim (h1 z) (h2 z)
    obtain ⟨q1, q2⟩ := h.2 onz dfz rfl rfl hnm
    refine .inr ⟨onz, dfz, rfl, rfl, hnm, ?_⟩
    cases ht : twA [] (onz ++ dfz) with
    | none => exact .inl ⟨rfl, fun c => ⟨rfl, q2 ht a c⟩⟩
    | some x => exact .inr ⟨x, rfl, q1 x ht _⟩
theorem mkK_any {CS CB CT : Addr} {r : Rs} {P : PK1} {XR : XD} {dq : D} {on df : List D} (hq : SeqV r dq df) (hp : ∀ d ∈ on ++ df, plain d = true) (hl : (on ++ df).length ≤ 60) (h : MadeEnds CS CB CT on df r P XR) (a : Addr) :
    kwP 1 (spStInit CS CB CT) (.adr a :: (on ++ [dq])) (r ++ [insA a CS [] []]) (fun d r3 => d = .non ∧ P (.adr a) r3) XR :=
  ⟨[.adr a], on, dq, rfl, rfl, by rw [List.length_append] at hl; omega, init_any hq hp hl h a⟩
abbrev N__law_made : List Str := ["_law_on", "_law_faint"]
theorem sc__law_made : FnScope N__law_made ["_law_on", "_law_faint"] (defScope s__law_made) := ⟨rfl, rfl, rfl, by decide +kernel, rfl, by decide +kernel, by decide +kernel⟩
def spMadeX (CS CB CT : Addr) : SpX := fun ds r P XR => ∃ (on df : List D), ds = [.lst on, .lst df] ∧ (∀ d ∈ on ++ df, plain d = true) ∧ (on ++ df).length ≤ 60 ∧ on.length ≤ 3 ∧ MadeEnds CS CB CT on df r P XR
theorem c__law_made {CS CB CT : Addr} (B : Bl mg) (K_Setting : KCls K mg "Setting" CS stF) (NK_Setting : ClNK P w K mg base 3 CS "deaf" (.tup []) (spStInit CS CB CT)) (Dx : Dfn K mg "_law_made" s__law_made ["_law_on", "_law_faint"]) : Cl P w K mg base 5 "_law_made" ["_law_on", "_law_faint"] (spMadeX CS CB CT) := by
  have sc := sc__law_made
  refine cl_of Dx sc (fun ds r P' XR ⟨_, _, e, _⟩ => by rw [e]; rfl) (fun f cdv A outer s H E hr tk po => ?_)
  have hu := hr.units
  have hi := u65 hr
  have N_Setting := NK_Setting.n
  refine ⟨_, (ss_cons (s_if (b_cmp p_is (dv 1) d_non)
  (ss_cons (s_if (b_cmp (p_eq hu) (d_blt c_len (by rfl) B.len (dl_cons (dv 0) dl_nil)) d_int)
  (ss_one (s_ret (d_mk0 N_Setting K_Setting tk hr)))
  ss_nil)
  (ss_cons (s_if (b_cmp (p_eq hu) (d_blt c_len (by rfl) B.len (dl_cons (dv 0) dl_nil)) d_int)
  (ss_one (s_ret (d_mk 0 N_Setting K_Setting tk hr (dl_cons (d_ix (dv 0) d_int) dl_nil))))
  ss_nil)
  (ss_one (s_ret (d_if (b_cmp (p_eq hu) (d_blt c_len (by rfl) B.len (dl_cons (dv 0) dl_nil)) d_int) (d_mk 0 N_Setting K_Setting tk hr (dl_cons (d_ix (dv 0) d_int) (dl_cons (d_ix (dv 0) d_int) dl_nil))) (d_mk 0 N_Setting K_Setting tk hr (dl_cons (d_ix (dv 0) d_int) (dl_cons (d_ix (dv 0) d_int) (dl_cons (d_ix (dv 0) d_int) dl_nil)))))))))
  ss_nil)
  (ss_cons (s_if (b_cmp (p_eq hu) (d_blt c_len (by rfl) B.len (dl_cons (dv 0) dl_nil)) d_int)
  (ss_one (s_ret (d_mkK0 NK_Setting K_Setting tk hr (dv 1))))
  ss_nil)
  (ss_cons (s_if (b_cmp (p_eq hu) (d_blt c_len (by rfl) B.len (dl_cons (dv 0) dl_nil)) d_int)
  (ss_one (s_ret (d_mkK NK_Setting K_Setting tk hr (dl_cons (d_ix (dv 0) d_int) dl_nil) (dv 1))))
  ss_nil)
  (ss_one (s_ret (d_if (b_cmp (p_eq hu) (d_blt c_len (by rfl) B.len (dl_cons (dv 0) dl_nil)) d_int) (d_mkK NK_Setting K_Setting tk hr (dl_cons (d_ix (dv 0) d_int) (dl_cons (d_ix (dv 0) d_int) dl_nil)) (dv 1)) (d_mkK NK_Setting K_Setting tk hr (dl_cons (d_ix (dv 0) d_int) (dl_cons (d_ix (dv 0) d_int) (dl_cons (d_ix (dv 0) d_int) dl_nil))) (dv 1)))))))), fun ds r P' XR h => ?_⟩
  obtain ⟨on, df, rfl, hp, hl, h3, h⟩ := h
  have hsz : on.length ≤ sizeLine := by rw [sizeLine_eq]; omega
  have hE : MadeEnds CS CB CT on df r (fit P') (fun C fs es r' => fitX XR C fs es (startD N__law_made [.lst on, .lst df]) r') := by
    refine ⟨fun x hx u => ⟨r ++ u, le.refl, h.1 x hx u⟩, fun onz dfz e1 e2 hz => ?_⟩
    obtain ⟨q1, q2⟩ := h.2 onz dfz e1 e2 hz
    exact ⟨fun x hx u => ⟨r ++ u, le.refl, q1 x hx u⟩, fun e a c => fit.of (q2 e a c)⟩
  have M := mkK_any (.lst df) hp hl hE
  refine brF ?_
  match on, h3, M with
  | [], _, M => exact fun _ => ⟨Nat.zero_le _, Nat.zero_le _, brT M⟩
  | [x], _, M => exact fun _ => ⟨Nat.zero_le _, Nat.zero_le _, brF fun _ => ⟨Nat.zero_le _, Nat.zero_le _, brT (ix_l at0 M)⟩⟩
  | [x, y], _, M => exact fun _ => ⟨Nat.zero_le _, Nat.zero_le _, brF fun _ => ⟨Nat.zero_le _, Nat.zero_le _, brF fun _ => ⟨Nat.zero_le _, Nat.zero_le _, brT (ix_l at0 (ix_l at1 M))⟩⟩⟩
  | [x, y, z], _, M => exact fun _ => ⟨Nat.zero_le _, Nat.zero_le _, brF fun _ => ⟨Nat.zero_le _, Nat.zero_le _, brF fun _ => ⟨Nat.zero_le _, Nat.zero_le _, brF (ix_l at0 (ix_l at1 (ix_l at2 M)))⟩⟩⟩
abbrev N__law_tried : List Str := ["_law_on", "_law_faint", "_law_caught", "e", "_law_made_here", "_law_told"]
theorem sc__law_tried : FnScope N__law_tried ["_law_on", "_law_faint"] (defScope s__law_tried) := ⟨rfl, rfl, rfl, by decide +kernel, rfl, by decide +kernel, by decide +kernel⟩
def spTried (CS : Addr) : SpX := fun ds r P _ => ∃ on df : List D, ds = [.lst on, .lst df] ∧ (∀ d ∈ on ++ df, plain d = true) ∧ (on ++ df).length ≤ 60 ∧ on.length ≤ 3 ∧ (∀ x, firstOdd (on ++ df) = some x → P (.lst [.str "BadName", x]) r) ∧
  (∀ onz dfz : List Str, on = onz.map .str → df = dfz.map .str → (∀ z ∈ onz ++ dfz, isNm z = true) → (∀ x, twA [] (onz ++ dfz) = some x → P (.lst [.str "Twice", .str x]) r) ∧ (twA [] (onz ++ dfz) = none → ∀ a c, P (.lst [.str "made", .adr a]) (r ++ [insA a CS stF [.adr c], dctA c (sm (mkSt onz dfz))])))
theorem c__law_tried {CS CB CT CQ : Addr} (B : Bl mg) (X_BadName : ErrX P w K mg base "BadName" CB "name") (X_Twice : ErrX P w K mg base "Twice" CT "name") (R_QuietError : mg "QuietError" = some (.ref CQ)) (s21 : PySem.W.subIn K (.ref CT) (.ref CB) = some false)
    (hq1 : ExcC K CB ∧ PySem.W.kitOne K (.ref CB) (.ref CQ) = some true) (hq2 : ExcC K CT ∧ PySem.W.kitOne K (.ref CT) (.ref CQ) = some true) (C__law_made : Cl P w K mg base 5 "_law_made" ["_law_on", "_law_faint"] (spMadeX CS CB CT)) (Dx : Dfn K mg "_law_tried" s__law_tried ["_law_on", "_law_faint"]) : Cl P w K mg base 6 "_law_tried" ["_law_on", "_law_faint"] (spTried CS) := by
  have sc := sc__law_tried
  refine cl_of Dx sc (fun ds r P' XR ⟨_, _, e, _⟩ => by rw [e]; rfl) (fun f cdv A outer s H E hr tk po => ?_)
  have hu := hr.units
  have hi := u65 hr
  refine ⟨_, (ss_cons (s_set (i := 2) sc.nd d_non)
  (ss_tryK tk (fun W2 pn xe tk po => (ss_cons (s_set (i := 4) sc.nd (d_fn C__law_made tk hr (dl_cons (dv 0) (dl_cons (dv 1) dl_nil))))
  (ss_one (s_set (i := 5) sc.nd (d_lst (dl_cons d_str (dl_cons (dv 4) dl_nil))))))) (.as (i := 3) sc.nd rfl rfl ⟨rfl, by decide, .inl X_BadName.c.g⟩ (hcc (X_BadName.exm X_BadName.se) (hcc (X_BadName.exm s21) hc0)) (fun a oe cls d pn hz hf => (ss_cons (s_set (i := 2) sc.nd (dv 3))
  (ss_one (s_set (i := 5) sc.nd (d_lst (dl_cons d_str (dl_cons (d_xf (fm_cons ⟨X_BadName.xf, X_BadName.no⟩ fm_nil) hz hf (dv 3)) dl_nil))))))) (fun a oe cls d pn hz hf => (ss_cons (s_if (b_w (w_and (b_cmp p_ns (dv 2) d_non) (w_and1 (b_not (b_tru (d_isP List.mem_cons_self hz hf (kpc hq1 kp0) (by rfl) B.isi (dv 2) R_QuietError))))))
  (ss_one (s_ret (d_lst (dl_cons d_str dl_nil))))
  ss_nil)
  (ss_one (s_ret (dv 5))))) (.as (i := 3) sc.nd rfl rfl ⟨rfl, by decide, .inl X_Twice.c.g⟩ (hcc (X_Twice.exm X_Twice.se) hc0) (fun a oe cls d pn hz hf => (ss_cons (s_set (i := 2) sc.nd (dv 3))
  (ss_one (s_set (i := 5) sc.nd (d_lst (dl_cons d_str (dl_cons (d_xf (fm_cons ⟨X_Twice.xf, X_Twice.no⟩ fm_nil) hz hf (dv 3)) dl_nil))))))) (fun a oe cls d pn hz hf => (ss_cons (s_if (b_w (w_and (b_cmp p_ns (dv 2) d_non) (w_and1 (b_not (b_tru (d_isP List.mem_cons_self hz hf (kpc hq2 kp0) (by rfl) B.isi (dv 2) R_QuietError))))))
  (ss_one (s_ret (d_lst (dl_cons d_str dl_nil))))
  ss_nil)
  (ss_one (s_ret (dv 5))))) .nil)) (ss_cons (s_if (b_w (w_and (b_cmp p_ns (dv 2) d_non) (w_and1 (b_not (b_tru d_never)))))
  (ss_one (s_ret (d_lst (dl_cons d_str dl_nil))))
  ss_nil)
  (ss_one (s_ret (dv 5)))))), fun ds r P' XR h => ?_⟩
  obtain ⟨on, df, rfl, hp, hl, h3, h1, h2⟩ := h
  refine ⟨on, df, rfl, hp, hl, h3, fun x hx u => ?_, fun onz dfz e1 e2 hz => ⟨fun x hx u => ?_, fun ht a c => ?_⟩⟩
  · refine ⟨true, .head _, fun _ ea dx hd => ?_, fun z => (by cases z)⟩
    cases dx with
    | none => cases (hd rfl).1
    | some dx =>
      refine ⟨rfl, CB, dx, ["name"], [x], 0, _, _, [], List.mem_singleton.mpr rfl, rfl, rfl, rfl, rfl, rfl, Nat.le_of_ble_eq_true rfl, ?_⟩
      have hh : Hld (some dx) (r ++ u ++ held (some dx) ["name"] [x]) := hld_app0
      refine brT ⟨rfl, CB, true, rfl, List.mem_singleton.mpr rfl, hh, brF ⟨r, ?_, fit.of (h1 x hx)⟩⟩
      rw [List.append_assoc]
      exact le.drop
  · refine ⟨false, .tail _ (.head _), fun z => (by cases z), fun _ => ⟨true, .head _, fun _ ea dx hd => ?_, fun z => (by cases z)⟩⟩
    cases dx with
    | none => cases (hd rfl).1
    | some dx =>
      refine ⟨rfl, CT, dx, ["name"], [.str x], 0, _, _, [], List.mem_singleton.mpr rfl, rfl, rfl, rfl, rfl, rfl, Nat.le_of_ble_eq_true rfl, ?_⟩
      have hh : Hld (some dx) (r ++ u ++ held (some dx) ["name"] [.str x]) := hld_app0
      refine brT ⟨rfl, CT, true, rfl, List.mem_singleton.mpr rfl, hh, brF ⟨r, ?_, fit.of ((h2 onz dfz e1 e2 hz).1 x hx)⟩⟩
      rw [List.append_assoc]
      exact le.drop
  · exact ⟨Nat.le_of_ble_eq_true rfl, brF (brF (fit.of ((h2 onz dfz e1 e2 hz).2 ht a c)))⟩
abbrev N__law_put : List Str := ["_law_setting_here", "_law_name", "_law_mode", "e", "_law_told"]
theorem sc__law_put : FnScope N__law_put ["_law_setting_here", "_law_name", "_law_mode"] (defScope s__law_put) := ⟨rfl, rfl, rfl, by decide +kernel, rfl, by decide +kernel, by decide +kernel⟩
def spLPut (CS : Addr) : SpX := fun ds r P _ => ∃ (a c : Addr) (n m : D) (l : List (Str × Str)) (pre post : Rs), ds = [.adr a, n, m] ∧ r = pre ++ dctA c (sm l) :: post ∧ insA a CS stF [.adr c] ∈ r ∧ l.length ≤ 1000 ∧ plain n = true ∧ plain m = true ∧
  ((∃ z y, n = .str z ∧ m = .str y ∧ isNm z = true ∧ y ∈ modesL ∧ P (.lst [.str "done"]) (pre ++ dctA c (sm (stPut l z y)) :: post)) ∨ (isNameD n = false ∧ P (.lst [.str "BadName", n, .bl true, .bl false]) r) ∨ (isNameD n = true ∧ isModeD m = false ∧ P (.lst [.str "BadMode", m, .bl true, .bl false]) r))
theorem c__law_put {CS CB CM : Addr} (B : Bl mg) (zv : mg "ValueError" = none) (X_BadName : ErrX P w K mg base "BadName" CB "name") (X_BadMode : ErrX P w K mg base "BadMode" CM "mode") (smn : PySem.W.subIn K (.ref CM) (.ref CB) = some false)
    (v1 : ExcC K CB ∧ PySem.W.kitOne K (.ref CB) (.type "ValueError") = some true) (v2 : ExcC K CM ∧ PySem.W.kitOne K (.ref CM) (.type "ValueError") = some true) (n1 : ExcC K CB ∧ PySem.W.kitOne K (.ref CB) (.ref CM) = some false) (n2 : ExcC K CM ∧ PySem.W.kitOne K (.ref CM) (.ref CB) = some false)
    (Si_Setting : ClSi P w K mg base 3 CS (spStPut CS CB CM)) (Dx : Dfn K mg "_law_put" s__law_put ["_law_setting_here", "_law_name", "_law_mode"]) : Cl P w K mg base 4 "_law_put" ["_law_setting_here", "_law_name", "_law_mode"] (spLPut CS) := by
  have sc := sc__law_put
  refine cl_of Dx sc (fun ds r P' XR ⟨_, _, _, _, _, _, _, e, _⟩ => by rw [e]; rfl) (fun f cdv A outer s H E hr tk po => ?_)
  have hu := hr.units
  have hi := u65 hr
  refine ⟨_, (ss_cons (s_try tk (fun W2 pn xe tk po => (ss_cons (s_setit Si_Setting tk hr (dv 0) (dv 1) (dv 2))
  (ss_one (s_set (i := 4) sc.nd (d_lst (dl_cons d_str dl_nil)))))) (.as (i := 3) sc.nd rfl rfl ⟨rfl, by decide, .inl X_BadName.c.g⟩ (hcc (X_BadName.exm X_BadName.se) (hcc (X_BadName.exm smn) hc0)) (fun a oe cls d pn hz hf => (ss_one (s_set (i := 4) sc.nd (d_lst (dl_cons d_str (dl_cons (d_xf (fm_cons ⟨X_BadName.xf, X_BadName.no⟩ fm_nil) hz hf (dv 3)) (dl_cons (d_isPb List.mem_cons_self hz hf (kpc v1 kp0) (by rfl) B.isi (dv 3) zv) (dl_cons (d_isP List.mem_cons_self hz hf (kpc n1 kp0) (by rfl) B.isi (dv 3) X_BadMode.c.g) dl_nil)))))))) (.as (i := 3) sc.nd rfl rfl ⟨rfl, by decide, .inl X_BadMode.c.g⟩ (hcc (X_BadMode.exm X_BadMode.se) hc0) (fun a oe cls d pn hz hf => (ss_one (s_set (i := 4) sc.nd (d_lst (dl_cons d_str (dl_cons (d_xf (fm_cons ⟨X_BadMode.xf, X_BadMode.no⟩ fm_nil) hz hf (dv 3)) (dl_cons (d_isPb List.mem_cons_self hz hf (kpc v2 kp0) (by rfl) B.isi (dv 3) zv) (dl_cons (d_isP List.mem_cons_self hz hf (kpc n2 kp0) (by rfl) B.isi (dv 3) X_BadName.c.g) dl_nil)))))))) .nil)))
  (ss_one (s_ret (dv 4)))), fun ds r P' XR h => ?_⟩
  obtain ⟨a, c, n, m, l, pre, post, rfl, rfl, hin, hl, pn, pm, h⟩ := h
  have hs : StV CS (pre ++ dctA c (sm l) :: post) (.adr a) l := .own hin (List.mem_append.mpr (.inr List.mem_cons_self))
  refine ⟨hs.isC, a, c, n, m, l, pre, post, rfl, rfl, hin, hl, pn, pm, ?_⟩
  rcases h with ⟨z, y, rfl, rfl, hz, hy, h⟩ | ⟨hn, h⟩ | ⟨hn, hm, h⟩
  · exact .inl ⟨z, y, rfl, rfl, hz, hy, Nat.le_of_ble_eq_true rfl, fit.of h⟩
  · refine .inr (.inl ⟨hn, true, .head _, fun _ ea dx hd => ?_, fun z => (by cases z)⟩)
    cases dx with
    | none => cases (hd rfl).1
    | some dx =>
      have hh : Hld (some dx) (pre ++ dctA c (sm l) :: post ++ held (some dx) ["name"] [n]) := hld_app0
      refine ⟨rfl, CB, dx, ["name"], [n], 0, _, _, [], List.mem_singleton.mpr rfl, rfl, rfl, rfl, rfl, rfl, rfl, CB, true, rfl, List.mem_singleton.mpr rfl, hh, rfl, CB, false, rfl, List.mem_singleton.mpr rfl, hh, Nat.le_of_ble_eq_true rfl, ?_⟩
      exact ⟨_, le.drop, fit.of h⟩
  · refine .inr (.inr ⟨hn, hm, false, .tail _ (.head _), fun z => (by cases z), fun _ => ⟨true, .head _, fun _ ea dx hd => ?_, fun z => (by cases z)⟩⟩)
    cases dx with
    | none => cases (hd rfl).1
    | some dx =>
      have hh : Hld (some dx) (pre ++ dctA c (sm l) :: post ++ held (some dx) ["mode"] [m]) := hld_app0
      refine ⟨rfl, CM, dx, ["mode"], [m], 0, _, _, [], List.mem_singleton.mpr rfl, rfl, rfl, rfl, rfl, rfl, rfl, CM, true, rfl, List.mem_singleton.mpr rfl, hh, rfl, CM, false, rfl, List.mem_singleton.mpr rfl, hh, Nat.le_of_ble_eq_true rfl, ?_⟩
      exact ⟨_, le.drop, fit.of h⟩
abbrev N__law_asked : List Str := ["_law_setting_here", "_law_name", "e", "_law_told"]
theorem sc__law_asked : FnScope N__law_asked ["_law_setting_here", "_law_name"] (defScope s__law_asked) := ⟨rfl, rfl, rfl, by decide +kernel, rfl, by decide +kernel, by decide +kernel⟩
def spAsked (CS : Addr) : SpX := fun ds r P _ => ∃ (s n : D) (l : List (Str × Str)), ds = [s, n] ∧ StV CS r s l ∧ plain n = true ∧ isNameD n = false ∧ P (.lst [.str "BadName", n]) r
theorem c__law_asked {CS CB : Addr} (B : Bl mg) (X_BadName : ErrX P w K mg base "BadName" CB "name") (I_Setting : ClG P w K mg base 3 CS "__getitem__" (spStGet CS CB)) (Dx : Dfn K mg "_law_asked" s__law_asked ["_law_setting_here", "_law_name"]) : Cl P w K mg base 5 "_law_asked" ["_law_setting_here", "_law_name"] (spAsked CS) := by
  have sc := sc__law_asked
  refine cl_of Dx sc (fun ds r P' XR ⟨_, _, _, e, _⟩ => by rw [e]; rfl) (fun f cdv A outer s H E hr tk po => ?_)
  have hu := hr.units
  have hi := u65 hr
  refine ⟨_, (ss_cons (s_try tk (fun W2 pn xe tk po => (ss_one (s_set (i := 3) sc.nd (d_lst (dl_cons d_str (dl_cons (d_gix I_Setting tk hr (dv 0) (dv 1)) dl_nil)))))) (.as (i := 2) sc.nd rfl rfl ⟨rfl, by decide, .inl X_BadName.c.g⟩ (hcc (X_BadName.exm X_BadName.se) hc0) (fun a oe cls d pn hz hf => (ss_one (s_set (i := 3) sc.nd (d_lst (dl_cons d_str (dl_cons (d_xf (fm_cons ⟨X_BadName.xf, X_BadName.no⟩ fm_nil) hz hf (dv 2)) dl_nil)))))) .nil))
  (ss_one (s_ret (dv 3)))), fun ds r P' XR h => ?_⟩
  obtain ⟨s, n, l, rfl, hs, pn, hn, h⟩ := h
  refine ⟨hs.isC, s, n, l, rfl, hs, pn, .inr ⟨hn, true, .head _, fun _ ea dx hd => ?_, fun z => (by cases z)⟩⟩
  cases dx with
  | none => cases (hd rfl).1
  | some dx =>
    refine ⟨rfl, CB, dx, ["name"], [n], 0, _, _, [], List.mem_singleton.mpr rfl, rfl, rfl, rfl, rfl, rfl, Nat.le_of_ble_eq_true rfl, ?_⟩
    exact ⟨_, le.drop, fit.of h⟩
theorem mix_plain {zs : List Str} {d : D} (h : Mix zs d) : plain d = true := by
  rcases h with h | ⟨z, _, rfl⟩
  · exact (oddL_ok d h).1
  · rfl
theorem mix_odd {zs : List Str} {d : D} (hz : ∀ z ∈ zs, isNm z = true) (h : Mix zs d) (hn : isNameD d = false) : d ∈ oddL := by
  rcases h with h | ⟨z, hm, rfl⟩
  · exact h
  · rw [show isNameD (.str z) = true from hz z hm] at hn
    cases hn
theorem len_app (a b : Str) : (a ++ b).length = a.length + b.length := by
  show (a.cps ++ b.cps).size = a.cps.size + b.cps.size
  exact Array.size_append
theorem list2_len (a b : Str) : (listText [a, b]).length = a.length + b.length + 4 := by
  have e : listText [a, b] = (("[" : Str) ++ a) ++ ", " ++ b ++ "]" := rfl
  rw [e, len_app, len_app, len_app, len_app]
  show 1 + a.length + 2 + b.length + 1 = _
  omega
theorem sh_name {z : Str} (h : isNm z = true) : shB (.lst [.str "Twice", .str z]) = true := by
  have h8 : z.length ≤ 8 := by
    unfold isNm at h
    simp only [Bool.and_eq_true, decide_eq_true_eq] at h
    exact h.1.2
  have hs := isNm_sok h
  have h1 : (reprText z).length ≤ 100 := by
    have := StrLaws.reprText_len z (fun c hc => Nat.lt_of_lt_of_le ((sok_iff.mp hs).1 c hc) (by decide))
    omega
  have h2 : (reprText ("Twice" : Str)).length ≤ 100 := by decide +kernel
  unfold shB
  simp only [Bool.and_eq_true, decide_eq_true_eq]
  refine ⟨⟨Nat.le_of_ble_eq_true rfl, rfl⟩, ?_⟩
  show (listText [reprText ("Twice" : Str), reprText z]).length ≤ 3000
  rw [list2_len]
  omega
theorem take_new {zs : List Str} {i : Nat} {z : Str} (hn : zs.Nodup) (h : zs[i]? = some z) : z ∉ zs.take i := fun q => by
  obtain ⟨j, hj⟩ := List.mem_iff_getElem?.mp q
  have hlt : j < i := by
    have := (List.getElem?_eq_some_iff.mp hj).1
    rw [List.length_take] at this
    omega
  rw [List.getElem?_take_of_lt hlt] at hj
  have := (List.getElem?_inj (List.getElem?_eq_some_iff.mp hj).1 hn).mp (hj.trans h.symm)
  omega
/-- a dict of all names, filled name by name -/
def dic (g : Str → Str) (zs : List Str) : List (Str × Str) := zs.map fun z => (z, g z)
theorem dic_keys (g : Str → Str) (zs : List Str) : (dic g zs).map (·.1) = zs := by
  unfold dic
  rw [List.map_map]
  exact List.map_id zs
theorem dic_put {g : Str → Str} {zs : List Str} {i : Nat} {z : Str} (hn : zs.Nodup) (h : zs[i]? = some z) : mPut (dic g (zs.take i)) z (g z) = dic g (zs.take (i + 1)) := by
  rw [mPut_new (by rw [dic_keys]; exact take_new hn h), List.take_add_one, h]
  unfold dic
  rw [List.map_append]
  rfl
theorem dic_len (g : Str → Str) (zs : List Str) : (dic g zs).length = zs.length := List.length_map _
theorem mkSt_dic {onz dfz : List Str} (h : (onz ++ dfz).Nodup) : mkSt onz dfz = dic (fun z => if z ∈ onz then ("on" : Str) else "deaf") (onz ++ dfz) := by
  unfold mkSt dic
  rw [List.map_append]
  congr 1
  · refine List.map_congr_left fun z hz => ?_
    show _ = (z, if z ∈ onz then ("on" : Str) else "deaf")
    rw [if_pos hz]
  · refine List.map_congr_left fun z hz => ?_
    show _ = (z, if z ∈ onz then ("on" : Str) else "deaf")
    rw [if_neg fun k => (List.nodup_append.mp h).2.2 z k z hz rfl]
theorem mkSt_ok {onz dfz : List Str} (h : (onz ++ dfz).Nodup) (hz : ∀ z ∈ onz ++ dfz, isNm z = true) (hl : (onz ++ dfz).length ≤ 60) : StOk (mkSt onz dfz) := by
  refine ⟨by rw [mkSt_keys]; exact h, fun e he => hz _ (by rw [← mkSt_keys]; exact List.mem_map.mpr ⟨e, he, rfl⟩), fun e he => ?_, ?_⟩
  · unfold mkSt at he
    rcases List.mem_append.mp he with he | he
    · obtain ⟨z, _, rfl⟩ := List.mem_map.mp he
      exact .inl rfl
    · obtain ⟨z, _, rfl⟩ := List.mem_map.mp he
      exact .inr rfl
  · have := congrArg List.length (mkSt_keys onz dfz)
    rw [List.length_map] at this
    rw [this]
    exact hl
theorem sh3 {d : D} (h : shB d = true) : dep d ≤ 64 ∧ (py d).showable = true ∧ (py d).shown.length ≤ sizeLine := by
  unfold shB at h
  simp only [Bool.and_eq_true, decide_eq_true_eq] at h
  exact ⟨by omega, h.1.2, by rw [sizeLine_eq]; omega⟩
theorem twA_mem : ∀ {zs seen : List Str} {x : Str}, twA seen zs = some x → x ∈ zs
  | [], _, _, h => by cases h
  | z :: zs, seen, x, h => by
    have h : (if z ∈ seen then some z else twA (seen ++ [z]) zs) = some x := h
    by_cases k : z ∈ seen
    · rw [if_pos k] at h
      cases h
      exact List.mem_cons_self
    · rw [if_neg k] at h
      exact List.mem_cons_of_mem _ (twA_mem h)
theorem WOk.put {l : List (Str × Str)} (h : WOk l) {z m : Str} (hz : z ∈ l.map (·.1)) (hm : m ∈ modesL) : WOk (mPut l z m) ∧ (mPut l z m).map (·.1) = l.map (·.1) := by
  have ek : (mPut l z m).map (·.1) = l.map (·.1) := by rw [mPut_keys, if_pos hz]
  refine ⟨⟨mPut_nd h.nd _ _, fun e he => (mPut_mem he).elim (h.nm e) fun k => ?_, fun e he => (mPut_mem he).elim (h.md e) fun k => by rw [k]; exact hm, ?_⟩, ek⟩
  · obtain ⟨x, hx, e1⟩ := List.mem_map.mp hz
    rw [k]
    exact e1 ▸ h.nm x hx
  · have := congrArg List.length ek
    rw [List.length_map, List.length_map] at this
    have := h.ln
    omega
abbrev N_law : List Str := ["_law_script", "_law_pool_here", "_law_names_here", "_law_turn", "_law_on", "_law_faint", "_law_due", "_law_told", "_law_modes", "_law_name", "_law_setting_here", "_law_odd_here", "_law_mode", "_law_good"]
theorem sc_law : FnScope N_law ["_law_script"] (defScope s_law) := ⟨rfl, rfl, rfl, by decide +kernel, rfl, by decide +kernel, by decide +kernel⟩
set_option maxHeartbeats 4000000 in
theorem ok_law {CS CB CT CM fl fp : Addr} {fd fdp : FuncData} (F : Fun K "law" "law" s_law fl fd) (BF : Binds K fd ["_law_script"] []) (GP : FnOk P w K mg base CX0 1 fp fdp ["_law_script"] (spPool K)) (gP : mg "_law_pool" = some (.ref fp)) (kP : PySem.W.keepIn K (.ref fp) = true) (bP : Binds K fdp ["_law_script"] [])
    (B : Bl mg) (C__law_draw : Cl P w K mg base 1 "_law_draw" ["_law_pool_here", "_law_many"] spDraw) (C__law_names : Cl P w K mg base 2 "_law_names" ["_law_pool_here", "_law_many"] spNames) (C__law_mixed : Cl P w K mg base 3 "_law_mixed" ["_law_pool_here", "_law_names_here", "_law_many"] spMixed) (C__law_expected : Cl P w K mg base 2 "_law_expected" ["_law_on", "_law_faint"] spExpd) (C__law_tried : Cl P w K mg base 6 "_law_tried" ["_law_on", "_law_faint"] (spTried CS))
    (C__law_holds : Cl P w K mg base 6 "_law_holds" ["_law_setting_here", "_law_modes", "_law_names_here"] (spHolds CS)) (C__law_same_odd : ClQ P w K mg base 1 "_law_same_odd" NoRepr spSameOdd) (C__law_random_modes : Cl P w K mg base 2 "_law_random_modes" ["_law_pool_here", "_law_names_here"] spRandM) (C__law_setting : Cl P w K mg base 5 "_law_setting" ["_law_modes"] (spMkSt CS))
    (C__law_odd : Cl P w K mg base 2 "_law_odd" ["_law_pool_here"] (spOddOf oddL)) (C__law_odd_mode : Cl P w K mg base 2 "_law_odd_mode" ["_law_pool_here"] (spOddOf oddM)) (C__law_asked : Cl P w K mg base 5 "_law_asked" ["_law_setting_here", "_law_name"] (spAsked CS)) (C__law_put : Cl P w K mg base 4 "_law_put" ["_law_setting_here", "_law_name", "_law_mode"] (spLPut CS)) :
    FnE P w K mg base CX0 8 fl NoRepr (spLaw K) := by
  have sc := sc_law
  refine okQ F BF sc (fun vs H Q E h => ?_) (fun cdv A outer s H vs Q E hr hgd h => ?_)
  · obtain ⟨a, ns, rfl, _⟩ := h
    rfl
  obtain ⟨a, ns, rfl, hS, hl, hQ⟩ := h
  have hu := hr.units
  have hi := u65 hr
  have hgd : A.guards = some [] := hgd
  refine ⟨_, pss_cons (ps_set (i := 1) sc.nd rfl (.inl rfl) (pe_call GP (hr.mono (by decide)) (by rfl) gP kP bP .nil pass0 (pa_cons (pv 0) pa_nil))) ((ss_cons (s_set (i := 2) sc.nd (d_fn C__law_names takes0 hr (dl_cons (dv 1) (dl_cons d_int dl_nil))))
  (ss_cons (s_for (i_r1 (by rfl) B.range (dl_cons d_int dl_nil)) (g_name (i := 3) sc.nd)
  (ss_cons (s_set (i := 4) sc.nd (d_fn C__law_mixed takes0 hr (dl_cons (dv 1) (dl_cons (dv 2) (dl_cons (d_fn C__law_draw takes0 hr (dl_cons (dv 1) (dl_cons d_int dl_nil))) dl_nil)))))
  (ss_cons (s_set (i := 5) sc.nd (d_fn C__law_mixed takes0 hr (dl_cons (dv 1) (dl_cons (dv 2) (dl_cons (d_fn C__law_draw takes0 hr (dl_cons (dv 1) (dl_cons d_int dl_nil))) dl_nil)))))
  (ss_cons (s_set (i := 6) sc.nd (d_fn C__law_expected takes0 hr (dl_cons (dv 4) (dl_cons (dv 5) dl_nil))))
  (ss_cons (s_set (i := 7) sc.nd (d_fn C__law_tried takes0 hr (dl_cons (dv 4) (dl_cons (d_ty c_list (by rfl) B.list (dl_cons (dv 5) dl_nil)) dl_nil))))
  (ss_one (s_if (b_cmp (p_eq hu) (dv 6) (d_lst dl_nil))
  (ss_cons (s_set (i := 8) sc.nd d_dnew)
  (ss_cons (s_for (i_list (d_bin p_add (dv 4) (dv 5))) (g_name (i := 9) sc.nd)
  (ss_one (s_dput hi (dv 8) (dv 9) (d_if (b_cmp (p_in hi) (dv 9) (dv 4)) d_str d_str))) PassesOwn.never)
  (ss_one (s_if (b_w (w_or (b_cmp (p_ne hu) (d_ix (dv 7) d_int) d_str) (w_or1 (b_not (b_tru (d_fn C__law_holds takes0 hr (dl_cons (d_ix (dv 7) d_int) (dl_cons (dv 8) (dl_cons (dv 2) dl_nil)))))))))
  (ss_one (s_ret d_bl))
  ss_nil))))
  (ss_one (s_if (b_not (b_tru (d_fnQ C__law_same_odd (fun _ _ _ _ _ => hgd) takes0 hr (dl_cons (dv 7) (dl_cons (dv 6) dl_nil)))))
  (ss_one (s_ret d_bl))
  ss_nil)))))))) PassesOwn.never)
  (ss_cons (s_set (i := 8) sc.nd (d_fn C__law_random_modes takes0 hr (dl_cons (dv 1) (dl_cons (dv 2) dl_nil))))
  (ss_cons (s_set (i := 10) sc.nd (d_fn C__law_setting takes0 hr (dl_cons (dv 8) dl_nil)))
  (ss_cons (s_for (i_r1 (by rfl) B.range (dl_cons d_int dl_nil)) (g_name (i := 3) sc.nd)
  (ss_cons (s_set (i := 9) sc.nd (d_ix (dv 2) (d_fn C__law_draw takes0 hr (dl_cons (dv 1) (dl_cons d_int dl_nil)))))
  (ss_cons (s_set (i := 11) sc.nd (d_fn C__law_odd takes0 hr (dl_cons (dv 1) dl_nil)))
  (ss_cons (s_set (i := 12) sc.nd (d_fn C__law_odd_mode takes0 hr (dl_cons (dv 1) dl_nil)))
  (ss_cons (s_set (i := 13) sc.nd (d_ix (d_lst (dl_cons d_str (dl_cons d_str (dl_cons d_str dl_nil)))) (d_fn C__law_draw takes0 hr (dl_cons (dv 1) (dl_cons d_int dl_nil)))))
  (ss_cons (s_if (b_not (b_tru (d_fnQ C__law_same_odd (fun _ _ _ _ _ => hgd) takes0 hr (dl_cons (d_fn C__law_asked takes0 hr (dl_cons (dv 10) (dl_cons (dv 11) dl_nil))) (dl_cons (d_lst (dl_cons d_str (dl_cons (dv 11) dl_nil))) dl_nil)))))
  (ss_one (s_ret d_bl))
  ss_nil)
  (ss_cons (s_if (b_not (b_tru (d_fnQ C__law_same_odd (fun _ _ _ _ _ => hgd) takes0 hr (dl_cons (d_fn C__law_put takes0 hr (dl_cons (dv 10) (dl_cons (dv 11) (dl_cons (dv 12) dl_nil)))) (dl_cons (d_lst (dl_cons d_str (dl_cons (dv 11) (dl_cons d_bl (dl_cons d_bl dl_nil))))) dl_nil)))))
  (ss_one (s_ret d_bl))
  ss_nil)
  (ss_cons (s_if (b_not (b_tru (d_fnQ C__law_same_odd (fun _ _ _ _ _ => hgd) takes0 hr (dl_cons (d_fn C__law_put takes0 hr (dl_cons (dv 10) (dl_cons (dv 11) (dl_cons (dv 13) dl_nil)))) (dl_cons (d_lst (dl_cons d_str (dl_cons (dv 11) (dl_cons d_bl (dl_cons d_bl dl_nil))))) dl_nil)))))
  (ss_one (s_ret d_bl))
  ss_nil)
  (ss_cons (s_if (b_not (b_tru (d_fnQ C__law_same_odd (fun _ _ _ _ _ => hgd) takes0 hr (dl_cons (d_fn C__law_put takes0 hr (dl_cons (dv 10) (dl_cons (dv 9) (dl_cons (dv 12) dl_nil)))) (dl_cons (d_lst (dl_cons d_str (dl_cons (dv 12) (dl_cons d_bl (dl_cons d_bl dl_nil))))) dl_nil)))))
  (ss_one (s_ret d_bl))
  ss_nil)
  (ss_cons (s_if (b_w (w_or (b_not (b_tru (d_fn C__law_holds takes0 hr (dl_cons (dv 10) (dl_cons (dv 8) (dl_cons (dv 2) dl_nil)))))) (w_or1 (b_cmp (p_ne hu) (d_fn C__law_put takes0 hr (dl_cons (dv 10) (dl_cons (dv 9) (dl_cons (dv 13) dl_nil)))) (d_lst (dl_cons d_str dl_nil))))))
  (ss_one (s_ret d_bl))
  ss_nil)
  (ss_cons (s_dput hi (dv 8) (dv 9) (dv 13))
  (ss_one (s_if (b_not (b_tru (d_fn C__law_holds takes0 hr (dl_cons (dv 10) (dl_cons (dv 8) (dl_cons (dv 2) dl_nil))))))
  (ss_one (s_ret d_bl))
  ss_nil)))))))))))) PassesOwn.never)
  (ss_one (s_ret d_bl))))))) : PBD _ W0 _ _), ?_⟩
  refine ⟨_, rfl, a, ns, rfl, hS, hl, fun p a' H' ro => law_go ro hQ ?_⟩
  refine ⟨p, a', 0, [], 6, rfl, rfl, by decide, by decide, fun zs hzl hnd hz => ?_⟩
  have h60 : zs.length ≤ 60 := by omega
  have h100 : zs.length ≤ 100 := by omega
  obtain ⟨n5, hn5⟩ : ∃ n5, n5 = 0 + 2 + 8 * 6 := ⟨_, rfl⟩
  rw [← hn5]
  refine ⟨⟨by decide, by decide⟩, fun i δ r' => (∃ x3 x4 x5 x6 x7 x8 x9 x10 x11 x12 x13, δ = [none, some (.adr p), some (.lst (zs.map .str)), x3, x4, x5, x6, x7, x8, x9, x10, x11, x12, x13]) ∧ ∃ n X, n ≤ 100 + 100 * i ∧ r' = poolA p a' n :: X, ⟨⟨_, _, _, _, _, _, _, _, _, _, _, rfl⟩, n5, [], by omega, rfl⟩, ?_, ?_⟩
  · rintro i d δ r' hd ⟨⟨x3, x4, x5, x6, x7, x8, x9, x10, x11, x12, x13, rfl⟩, N, X, hN, rfl⟩
    have hi3 : i < 3 := by have := (List.getElem?_eq_some_iff.mp hd).1; rw [List.length_map, List.length_range] at this; exact this
    refine ⟨p, a', 4, N, X, rfl, rfl, ⟨by decide, by decide⟩, by omega, fun c c0 c1 => ?_⟩
    obtain ⟨m1, rfl⟩ : ∃ m : Nat, c = m := ⟨c.toNat, by omega⟩
    refine ⟨p, a', N + 1, X, zs, m1, rfl, rfl, by omega, by omega, by omega, h60, fun on hon hmx => ?_⟩
    refine ⟨p, a', 5, N + 1 + 2 * m1, X, rfl, rfl, ⟨by decide, by decide⟩, by omega, fun c c0 c1 => ?_⟩
    obtain ⟨m2, rfl⟩ : ∃ m : Nat, c = m := ⟨c.toNat, by omega⟩
    refine ⟨p, a', N + 1 + 2 * m1 + 1, X, zs, m2, rfl, rfl, by omega, by omega, by omega, h60, fun df hdf hmy => ?_⟩
    obtain ⟨N2, hN2, hN2'⟩ : ∃ N2, N2 = N + 1 + 2 * m1 + 1 + 2 * m2 ∧ N2 ≤ 100 + 100 * (i + 1) := ⟨_, rfl, by omega⟩
    rw [← hN2]
    have hmix : ∀ d ∈ on ++ df, Mix zs d := fun d hd => (List.mem_append.mp hd).elim (hmx d) (hmy d)
    have hpl : ∀ d ∈ on ++ df, plain d = true := fun d hd => mix_plain (hmix d hd)
    have hlen : (on ++ df).length ≤ 60 := by rw [List.length_append]; omega
    refine ⟨on, df, rfl, hpl, hlen, ?_⟩
    refine ⟨on, df, rfl, hpl, hlen, by omega, fun x hx => ?_, fun onz dfz e1 e2 hnm => ⟨fun x hx => ?_, fun ht a c => ?_⟩⟩
    · have eE : expD (on ++ df) = .lst [.str "BadName", x] := by unfold expD; rw [hx]
      have hxo : x ∈ oddL := mix_odd hz (hmix x (List.mem_of_find?_eq_some hx)) (by have := List.find?_some hx; simpa using this)
      have so := (oddL_ok x hxo).2.2.1
      rw [eE]
      obtain ⟨s1, s2, s3⟩ := sh3 so
      exact ⟨Nat.zero_le _, s1, Nat.le_of_ble_eq_true rfl, brf rfl ⟨_, rfl, s1, s2, s3, brF ⟨⟨_, _, _, _, _, _, _, _, _, _, _, rfl⟩, N2, X, hN2', rfl⟩⟩⟩
    · have eN : firstOdd (on ++ df) = none := by
        rw [e1, e2, ← List.map_append]
        refine List.find?_eq_none.mpr fun d hd => ?_
        obtain ⟨z, hzm, rfl⟩ := List.mem_map.mp hd
        rw [show isNameD (.str z) = true from hnm z hzm]
        decide
      have eE : expD (on ++ df) = .lst [.str "Twice", .str x] := by
        unfold expD
        rw [eN, e1, e2, ← List.map_append, List.filterMap_map]
        show (match twA [] ((onz ++ dfz).filterMap fun z => some z) with | some z => _ | none => _) = _
        rw [List.filterMap_some, hx]
      have so := sh_name (hnm x (twA_mem hx))
      rw [eE]
      obtain ⟨s1, s2, s3⟩ := sh3 so
      exact ⟨Nat.zero_le _, s1, Nat.le_of_ble_eq_true rfl, brf rfl ⟨_, rfl, s1, s2, s3, brF ⟨⟨_, _, _, _, _, _, _, _, _, _, _, rfl⟩, N2, X, hN2', rfl⟩⟩⟩
    · have eN : firstOdd (on ++ df) = none := by
        rw [e1, e2, ← List.map_append]
        refine List.find?_eq_none.mpr fun d hd => ?_
        obtain ⟨z, hzm, rfl⟩ := List.mem_map.mp hd
        rw [show isNameD (.str z) = true from hnm z hzm]
        decide
      have eE : expD (on ++ df) = .lst [] := by
        unfold expD
        rw [eN, e1, e2, ← List.map_append, List.filterMap_map]
        show (match twA [] ((onz ++ dfz).filterMap fun z => some z) with | some z => _ | none => _) = _
        rw [List.filterMap_some, ht]
      rw [eE]
      have nd := (twA_none.mp ht).1
      have hl2 : (onz ++ dfz).length ≤ 60 := by
        have := hlen
        rw [e1, e2, List.length_append, List.length_map, List.length_map] at this
        rw [List.length_append]
        exact this
      have hSt := mkSt_ok nd hnm hl2
      have eD := mkSt_dic nd
      refine ⟨Nat.zero_le _, Nat.le_of_ble_eq_true rfl, Nat.le_of_ble_eq_true rfl, brt rfl fun q => ?_⟩
      refine ⟨by unfold small; rw [List.length_append] at hlen; omega, ?_⟩
      rw [e1, e2, ← List.map_append]
      obtain ⟨ws, hws⟩ : ∃ ws, ws = onz ++ dfz := ⟨_, rfl⟩
      rw [← hws] at nd hl2 eD hnm ⊢
      obtain ⟨R0, hR0⟩ : ∃ R0, R0 = poolA p a' N2 :: X ++ [insA a CS stF [D.adr c], dctA c (sm (mkSt onz dfz))] := ⟨_, rfl⟩
      rw [← hR0]
      refine ⟨fun i2 δ r2 => (∃ x9 x10 x11 x12 x13, δ = [none, some (.adr p), some (.lst (zs.map .str)), some d, some (.lst (onz.map .str)), some (.lst (dfz.map .str)), some (.lst []), some (.lst [.str "made", .adr a]), some (.adr q), x9, x10, x11, x12, x13]) ∧ r2 = R0 ++ [dctA q (sm (dic (fun z => if z ∈ onz then ("on" : Str) else "deaf") (ws.take i2)))], ⟨⟨_, _, _, _, _, rfl⟩, rfl⟩, ?_, ?_⟩
      · rintro i2 d2 δ r2 hd2 ⟨⟨x9, x10, x11, x12, x13, rfl⟩, rfl⟩
        rw [List.getElem?_map] at hd2
        obtain ⟨z, hzi, rfl⟩ := Option.map_eq_some_iff.mp hd2
        have e2 := dic_put (g := fun z => if z ∈ onz then ("on" : Str) else "deaf") nd hzi
        refine ⟨⟨Nat.zero_le _, Nat.le_trans (depsS _) (by decide), ?_⟩⟩
        rw [cond_false, memD_str]
        have hsm : small ((sm (dic (fun z => if z ∈ onz then ("on" : Str) else "deaf") (ws.take i2))).length + 1) := by unfold small; rw [sm_len, dic_len, List.length_take]; omega
        by_cases hm : z ∈ onz
        · refine brt (any_at hm) (.mk R0 [] (sm (dic (fun z => if z ∈ onz then ("on" : Str) else "deaf") (ws.take i2))) (.inr z) rfl rfl hsm ?_)
          rw [sm_put, (congrArg (mPut _ z) (if_pos hm).symm).trans e2]
          exact ⟨⟨_, _, _, _, _, rfl⟩, rfl⟩
        · refine brf ?_ (.mk R0 [] (sm (dic (fun z => if z ∈ onz then ("on" : Str) else "deaf") (ws.take i2))) (.inr z) rfl rfl hsm ?_)
          · rw [Bool.eq_false_iff]
            intro k
            obtain ⟨y, hy, e⟩ := List.any_eq_true.mp k
            exact hm (eq_of_beq e ▸ hy)
          · rw [sm_put, (congrArg (mPut _ z) (if_neg hm).symm).trans e2]
            exact ⟨⟨_, _, _, _, _, rfl⟩, rfl⟩
      · rintro δ r2 ⟨⟨x9, x10, x11, x12, x13, rfl⟩, rfl⟩
        rw [List.length_map, List.take_length, ← eD]
        have hs : StV CS (R0 ++ [dctA q (sm (mkSt onz dfz))]) (.adr a) (mkSt onz dfz) := .own (List.mem_append.mpr (.inl (by rw [hR0]; exact List.mem_append.mpr (.inr (.head _))))) (List.mem_append.mpr (.inl (by rw [hR0]; exact List.mem_append.mpr (.inr (.tail _ (.head _))))))
        refine ix_l at0 ⟨Nat.zero_le _, Nat.zero_le _, brf (by decide) (ix_l at1 ⟨_, q, mkSt onz dfz, mkSt onz dfz, zs, R0, [], rfl, rfl, hs, ⟨hSt, hSt.wok, fun _ => rfl⟩, hz, h100, brF ?_⟩)⟩
        exact ⟨⟨_, _, _, _, _, _, _, _, _, _, _, rfl⟩, N2, _, hN2', by rw [hR0]; rfl⟩
  · rintro δ r' ⟨⟨x3, x4, x5, x6, x7, x8, x9, x10, x11, x12, x13, rfl⟩, N, X, hN, rfl⟩
    have hN : N ≤ 1000 := by rw [List.length_map, List.length_range] at hN; exact Nat.le_trans hN (by decide)
    refine ⟨p, a', N, X, zs, rfl, rfl, by omega, hnd, h60, fun q ms hk hm => ?_⟩
    have hw : WOk ms := ⟨by rw [hk]; exact hnd, fun e he => hz _ (by rw [← hk]; exact List.mem_map.mpr ⟨e, he, rfl⟩), hm, by have := congrArg List.length hk; rw [List.length_map] at this; omega⟩
    refine ⟨q, ms, poolA p a' (N + zs.length) :: X, [], rfl, rfl, hw, hw.nm, fun a c => ?_⟩
    obtain ⟨n7, hn7, h7⟩ : ∃ n7, n7 = N + zs.length ∧ n7 ≤ 1100 := ⟨_, rfl, by omega⟩
    rw [← hn7]
    refine ⟨⟨by decide, by decide⟩, fun i δ r' => (∃ x3 x4 x5 x6 x7 x9 x11 x12 x13, δ = [none, some (.adr p), some (.lst (zs.map .str)), x3, x4, x5, x6, x7, some (.adr q), x9, some (.adr a), x11, x12, x13]) ∧ ∃ n l ms, n ≤ 1100 + 100 * i ∧ Agr l ms ∧ ms.map (·.1) = zs ∧ r' = (poolA p a' n :: X) ++ [dctA q (sm ms), insA a CS stF [.adr c], dctA c (sm l)], ⟨⟨_, _, _, _, _, _, _, _, _, rfl⟩, n7, stOf ms, ms, by omega, Agr.of hw, hk, by show poolA _ _ _ :: ((X ++ [_]) ++ _) = poolA _ _ _ :: (X ++ _); rw [List.append_assoc]; rfl⟩, ?_, ?_⟩
    · rintro i d δ r' hd ⟨⟨x3, x4, x5, x6, x7, x9, x11, x12, x13, rfl⟩, N3, l, ms, hN3, ag, hkm, rfl⟩
      have hi4 : i < 4 := by have := (List.getElem?_eq_some_iff.mp hd).1; rw [List.length_map, List.length_range] at this; exact this
      have hll := ag.lo.ln
      have hlm := ag.mo.ln
      refine ⟨p, a', 6, N3, X ++ [dctA q (sm ms), insA a CS stF [.adr c], dctA c (sm l)], rfl, rfl, ⟨by decide, by decide⟩, by omega, fun c0 d0 d1 => ?_⟩
      obtain ⟨o, rfl⟩ : ∃ o : Nat, c0 = o := ⟨c0.toNat, by omega⟩
      obtain ⟨z, hzo⟩ : ∃ z, zs[o]? = some z := ⟨zs[o], List.getElem?_eq_getElem (by omega)⟩
      have hzm := List.mem_of_getElem? hzo
      have hzn := hz z hzm
      refine ix_l (L2.atI_nat (by rw [List.getElem?_map, hzo]; rfl)) ?_
      refine ⟨p, a', N3 + 1, _, rfl, rfl, by omega, fun od hod => ?_⟩
      obtain ⟨o1, o2, o3, o4⟩ := oddL_ok od hod
      refine ⟨p, a', N3 + 1 + 1, _, rfl, rfl, by omega, fun om hom => ?_⟩
      obtain ⟨q1, q2, q3⟩ := oddM_ok om hom
      refine ⟨Nat.le_of_ble_eq_true rfl, p, a', 3, N3 + 1 + 1 + 1, _, rfl, rfl, ⟨by decide, by decide⟩, by omega, fun c1 d2 d3 => ?_⟩
      obtain ⟨y, hym, hat⟩ := pickM d2 d3
      refine ix_l hat ?_
      obtain ⟨N4, hN4, hN4'⟩ : ∃ N4, N4 = N3 + 1 + 1 + 1 + 1 ∧ N4 ≤ 1100 + 100 * (i + 1) := ⟨_, rfl, by omega⟩
      rw [← hN4]
      obtain ⟨R0, hR0⟩ : ∃ R0, R0 = poolA p a' N4 :: (X ++ [dctA q (sm ms), insA a CS stF [.adr c]]) := ⟨_, rfl⟩
      have eR : poolA p a' N4 :: (X ++ [dctA q (sm ms), insA a CS stF [.adr c], dctA c (sm l)]) = R0 ++ dctA c (sm l) :: [] := by
        rw [hR0]
        show _ = poolA _ _ _ :: ((X ++ _) ++ _)
        rw [List.append_assoc]
        rfl
      rw [eR]
      have hi0 : insA a CS stF [.adr c] ∈ R0 := by rw [hR0]; exact .tail _ (List.mem_append.mpr (.inr (.tail _ (.head _))))
      have hq0 : dctA q (sm ms) ∈ R0 := by rw [hR0]; exact .tail _ (List.mem_append.mpr (.inr (.head _)))
      have hin : ∀ l, insA a CS stF [.adr c] ∈ R0 ++ dctA c (sm l) :: [] := fun l => List.mem_append.mpr (.inl hi0)
      have hs : ∀ l, StV CS (R0 ++ dctA c (sm l) :: []) (.adr a) l := fun l => .own (hin l) (List.mem_append.mpr (.inr (.head _)))
      refine ⟨_, od, l, rfl, hs l, o1, o2, Nat.le_of_ble_eq_true rfl, _, rfl, (sh3 o3).1, (sh3 o3).2.1, (sh3 o3).2.2, brF ?_⟩
      refine ⟨a, c, od, om, l, R0, [], rfl, rfl, hin l, by omega, o1, q1, .inr (.inl ⟨o2, Nat.le_of_ble_eq_true rfl, _, rfl, (sh3 o4).1, (sh3 o4).2.1, (sh3 o4).2.2, brF ?_⟩)⟩
      refine ⟨a, c, od, .str y, l, R0, [], rfl, rfl, hin l, by omega, o1, rfl, .inr (.inl ⟨o2, Nat.le_of_ble_eq_true rfl, _, rfl, (sh3 o4).1, (sh3 o4).2.1, (sh3 o4).2.2, brF ?_⟩)⟩
      refine ⟨a, c, .str z, om, l, R0, [], rfl, rfl, hin l, by omega, rfl, q1, .inr (.inr ⟨hzn, q2, Nat.le_of_ble_eq_true rfl, _, rfl, (sh3 q3).1, (sh3 q3).2.1, (sh3 q3).2.2, brF ?_⟩)⟩
      obtain ⟨v1, w1, ev⟩ := app_mem (show dctA q (sm ms) ∈ R0 ++ dctA c (sm l) :: [] from List.mem_append.mpr (.inl hq0))
      refine ⟨_, q, l, ms, zs, v1, w1, rfl, ev, hs l, ag, hz, h100, brF ?_⟩
      refine ⟨a, c, .str z, .str y, l, R0, [], rfl, rfl, hin l, by omega, rfl, rfl, .inl ⟨z, y, rfl, rfl, hzn, hym, ?_⟩⟩
      refine ⟨Nat.le_of_ble_eq_true rfl, Nat.le_of_ble_eq_true rfl, Nat.le_of_ble_eq_true rfl, brf (by decide) ?_⟩
      obtain ⟨hwk, hkk⟩ := ag.mo.put (z := z) (m := y) (by rw [hkm]; exact hzm) hym
      have ag2 : Agr (stPut l z y) (mPut ms z y) := ag.stPut hzn hym hwk
      have eR2 : ∀ m2 : List (Str × Str), (poolA p a' N4 :: X) ++ dctA q (sm m2) :: [insA a CS stF [.adr c], dctA c (sm (stPut l z y))] = (poolA p a' N4 :: X) ++ [dctA q (sm m2), insA a CS stF [.adr c], dctA c (sm (stPut l z y))] := fun _ => rfl
      refine .mk (poolA p a' N4 :: X) [insA a CS stF [.adr c], dctA c (sm (stPut l z y))] (sm ms) (.inr z) ?_ rfl (by unfold small; rw [sm_len]; omega) ?_
      · rw [hR0]
        show poolA _ _ _ :: ((X ++ _) ++ _) = poolA _ _ _ :: (X ++ _)
        rw [List.append_assoc]
        rfl
      rw [sm_put]
      refine ⟨_, q, stPut l z y, mPut ms z y, zs, poolA p a' N4 :: X, [insA a CS stF [.adr c], dctA c (sm (stPut l z y))], rfl, rfl, .own (List.mem_append.mpr (.inr (.tail _ (.head _)))) (List.mem_append.mpr (.inr (.tail _ (.tail _ (.head _))))), ag2, hz, h100, brF ?_⟩
      exact ⟨⟨_, _, _, _, _, _, _, _, _, rfl⟩, N4, _, _, hN4', ag2, hkk.trans hkm, rfl⟩
    · rintro δ r' ⟨⟨x3, x4, x5, x6, x7, x9, x11, x12, x13, rfl⟩, _⟩
      rfl
end
set_option maxHeartbeats 0 in
def KF (P : PySem.Params) : PySem.W.Frag :=
(nat_lit 2, (@PySem.Obj.mk PySem.Value.none Option.none (@PySem.Data.dict (List.toArray []) (0 : Nat)) (List.toArray []))) ::
(nat_lit 3, (@PySem.Obj.mk (@PySem.Value.type "dict") Option.none (@PySem.Data.dict (List.toArray ((@PySem.DictEntry.mk (@PySem.PyData.keyHash P (@PySem.Str.ofString "__name__")) (@PySem.Value.str (@PySem.Str.ofString "__name__") (165 : Nat)) (@PySem.Value.str (@PySem.Str.ofString "law_quietprobes_k32_settings_refused") (508 : Nat))) :: (@PySem.DictEntry.mk (@PySem.PyData.keyHash P (@PySem.Str.ofString "__doc__")) (@PySem.Value.str (@PySem.Str.ofString "__doc__") (166 : Nat)) PySem.Value.none) :: (@PySem.DictEntry.mk (@PySem.PyData.keyHash P (@PySem.Str.ofString "__package__")) (@PySem.Value.str (@PySem.Str.ofString "__package__") (167 : Nat)) PySem.Value.none) :: (@PySem.DictEntry.mk (@PySem.PyData.keyHash P (@PySem.Str.ofString "__loader__")) (@PySem.Value.str (@PySem.Str.ofString "__loader__") (168 : Nat)) (@PySem.Value.builtin "__main__.__loader__#opaque")) :: (@PySem.DictEntry.mk (@PySem.PyData.keyHash P (@PySem.Str.ofString "__spec__")) (@PySem.Value.str (@PySem.Str.ofString "__spec__") (169 : Nat)) PySem.Value.none) :: (@PySem.DictEntry.mk (@PySem.PyData.keyHash P (@PySem.Str.ofString "__annotations__")) (@PySem.Value.str (@PySem.Str.ofString "__annotations__") (170 : Nat)) (@PySem.Value.ref (6 : Nat))) :: (@PySem.DictEntry.mk (@PySem.PyData.keyHash P (@PySem.Str.ofString "__builtins__")) (@PySem.Value.str (@PySem.Str.ofString "__builtins__") (171 : Nat)) (@PySem.Value.ref (4 : Nat))) :: (@PySem.DictEntry.mk (@PySem.PyData.keyHash P (@PySem.Str.ofString "__file__")) (@PySem.Value.str (@PySem.Str.ofString "__file__") (173 : Nat)) (@PySem.Value.str (@PySem.Str.ofString "/claim/cut.py") (172 : Nat))) :: (@PySem.DictEntry.mk (@PySem.PyData.keyHash P (@PySem.Str.ofString "__cached__")) (@PySem.Value.str (@PySem.Str.ofString "__cached__") (174 : Nat)) PySem.Value.none) :: (@PySem.DictEntry.mk (@PySem.PyData.keyHash P (@PySem.Str.ofString "_wall")) (@PySem.Value.str (@PySem.Str.ofString "_wall") (193 : Nat)) (@PySem.Value.ref (21 : Nat))) :: (@PySem.DictEntry.mk (@PySem.PyData.keyHash P (@PySem.Str.ofString "QuietError")) (@PySem.Value.str (@PySem.Str.ofString "QuietError") (213 : Nat)) (@PySem.Value.ref (31 : Nat))) :: (@PySem.DictEntry.mk (@PySem.PyData.keyHash P (@PySem.Str.ofString "BadName")) (@PySem.Value.str (@PySem.Str.ofString "BadName") (240 : Nat)) (@PySem.Value.ref (53 : Nat))) :: (@PySem.DictEntry.mk (@PySem.PyData.keyHash P (@PySem.Str.ofString "BadMode")) (@PySem.Value.str (@PySem.Str.ofString "BadMode") (267 : Nat)) (@PySem.Value.ref (74 : Nat))) :: (@PySem.DictEntry.mk (@PySem.PyData.keyHash P (@PySem.Str.ofString "Twice")) (@PySem.Value.str (@PySem.Str.ofString "Twice") (294 : Nat)) (@PySem.Value.ref (95 : Nat))) :: (@PySem.DictEntry.mk (@PySem.PyData.keyHash P (@PySem.Str.ofString "LETTERS")) (@PySem.Value.str (@PySem.Str.ofString "LETTERS") (298 : Nat)) (@PySem.Value.str (@PySem.Str.ofString "abcdefghijklmnopqrstuvwxyz") (297 : Nat))) :: (@PySem.DictEntry.mk (@PySem.PyData.keyHash P (@PySem.Str.ofString "MOST_LETTERS")) (@PySem.Value.str (@PySem.Str.ofString "MOST_LETTERS") (300 : Nat)) (@PySem.Value.int (8 : Int) (299 : Nat))) :: (@PySem.DictEntry.mk (@PySem.PyData.keyHash P (@PySem.Str.ofString "is_name")) (@PySem.Value.str (@PySem.Str.ofString "is_name") (306 : Nat)) (@PySem.Value.ref (102 : Nat))) :: (@PySem.DictEntry.mk (@PySem.PyData.keyHash P (@PySem.Str.ofString "MODES")) (@PySem.Value.str (@PySem.Str.ofString "MODES") (312 : Nat)) (@PySem.Value.ref (103 : Nat))) :: (@PySem.DictEntry.mk (@PySem.PyData.keyHash P (@PySem.Str.ofString "rank")) (@PySem.Value.str (@PySem.Str.ofString "rank") (319 : Nat)) (@PySem.Value.ref (110 : Nat))) :: (@PySem.DictEntry.mk (@PySem.PyData.keyHash P (@PySem.Str.ofString "greater_mode")) (@PySem.Value.str (@PySem.Str.ofString "greater_mode") (327 : Nat)) (@PySem.Value.ref (117 : Nat))) :: (@PySem.DictEntry.mk (@PySem.PyData.keyHash P (@PySem.Str.ofString "lesser_mode")) (@PySem.Value.str (@PySem.Str.ofString "lesser_mode") (335 : Nat)) (@PySem.Value.ref (124 : Nat))) :: (@PySem.DictEntry.mk (@PySem.PyData.keyHash P (@PySem.Str.ofString "is_mode")) (@PySem.Value.str (@PySem.Str.ofString "is_mode") (342 : Nat)) (@PySem.Value.ref (131 : Nat))) :: (@PySem.DictEntry.mk (@PySem.PyData.keyHash P (@PySem.Str.ofString "setting_with")) (@PySem.Value.str (@PySem.Str.ofString "setting_with") (348 : Nat)) (@PySem.Value.ref (136 : Nat))) :: (@PySem.DictEntry.mk (@PySem.PyData.keyHash P (@PySem.Str.ofString "Setting")) (@PySem.Value.str (@PySem.Str.ofString "Setting") (507 : Nat)) (@PySem.Value.ref (254 : Nat))) :: (@PySem.DictEntry.mk (@PySem.PyData.keyHash P (@PySem.Str.ofString "_law_is_name")) (@PySem.Value.str (@PySem.Str.ofString "_law_is_name") (515 : Nat)) (@PySem.Value.ref (263 : Nat))) :: (@PySem.DictEntry.mk (@PySem.PyData.keyHash P (@PySem.Str.ofString "_law_made")) (@PySem.Value.str (@PySem.Str.ofString "_law_made") (523 : Nat)) (@PySem.Value.ref (270 : Nat))) :: (@PySem.DictEntry.mk (@PySem.PyData.keyHash P (@PySem.Str.ofString "_law_draw")) (@PySem.Value.str (@PySem.Str.ofString "_law_draw") (536 : Nat)) (@PySem.Value.ref (277 : Nat))) :: (@PySem.DictEntry.mk (@PySem.PyData.keyHash P (@PySem.Str.ofString "_law_odd")) (@PySem.Value.str (@PySem.Str.ofString "_law_odd") (544 : Nat)) (@PySem.Value.ref (284 : Nat))) :: (@PySem.DictEntry.mk (@PySem.PyData.keyHash P (@PySem.Str.ofString "_law_pool")) (@PySem.Value.str (@PySem.Str.ofString "_law_pool") (551 : Nat)) (@PySem.Value.ref (291 : Nat))) :: (@PySem.DictEntry.mk (@PySem.PyData.keyHash P (@PySem.Str.ofString "_law_names")) (@PySem.Value.str (@PySem.Str.ofString "_law_names") (557 : Nat)) (@PySem.Value.ref (296 : Nat))) :: (@PySem.DictEntry.mk (@PySem.PyData.keyHash P (@PySem.Str.ofString "_law_same")) (@PySem.Value.str (@PySem.Str.ofString "_law_same") (563 : Nat)) (@PySem.Value.ref (301 : Nat))) :: (@PySem.DictEntry.mk (@PySem.PyData.keyHash P (@PySem.Str.ofString "_law_holds")) (@PySem.Value.str (@PySem.Str.ofString "_law_holds") (569 : Nat)) (@PySem.Value.ref (306 : Nat))) :: (@PySem.DictEntry.mk (@PySem.PyData.keyHash P (@PySem.Str.ofString "_law_same_odd")) (@PySem.Value.str (@PySem.Str.ofString "_law_same_odd") (577 : Nat)) (@PySem.Value.ref (313 : Nat))) :: (@PySem.DictEntry.mk (@PySem.PyData.keyHash P (@PySem.Str.ofString "_law_random_modes")) (@PySem.Value.str (@PySem.Str.ofString "_law_random_modes") (587 : Nat)) (@PySem.Value.ref (320 : Nat))) :: (@PySem.DictEntry.mk (@PySem.PyData.keyHash P (@PySem.Str.ofString "_law_setting")) (@PySem.Value.str (@PySem.Str.ofString "_law_setting") (596 : Nat)) (@PySem.Value.ref (327 : Nat))) :: (@PySem.DictEntry.mk (@PySem.PyData.keyHash P (@PySem.Str.ofString "_law_odd_mode")) (@PySem.Value.str (@PySem.Str.ofString "_law_odd_mode") (604 : Nat)) (@PySem.Value.ref (334 : Nat))) :: (@PySem.DictEntry.mk (@PySem.PyData.keyHash P (@PySem.Str.ofString "_law_expected")) (@PySem.Value.str (@PySem.Str.ofString "_law_expected") (614 : Nat)) (@PySem.Value.ref (341 : Nat))) :: (@PySem.DictEntry.mk (@PySem.PyData.keyHash P (@PySem.Str.ofString "_law_tried")) (@PySem.Value.str (@PySem.Str.ofString "_law_tried") (626 : Nat)) (@PySem.Value.ref (348 : Nat))) :: (@PySem.DictEntry.mk (@PySem.PyData.keyHash P (@PySem.Str.ofString "_law_mixed")) (@PySem.Value.str (@PySem.Str.ofString "_law_mixed") (638 : Nat)) (@PySem.Value.ref (355 : Nat))) :: (@PySem.DictEntry.mk (@PySem.PyData.keyHash P (@PySem.Str.ofString "_law_put")) (@PySem.Value.str (@PySem.Str.ofString "_law_put") (649 : Nat)) (@PySem.Value.ref (362 : Nat))) :: (@PySem.DictEntry.mk (@PySem.PyData.keyHash P (@PySem.Str.ofString "_law_asked")) (@PySem.Value.str (@PySem.Str.ofString "_law_asked") (659 : Nat)) (@PySem.Value.ref (369 : Nat))) :: (@PySem.DictEntry.mk (@PySem.PyData.keyHash P (@PySem.Str.ofString "law")) (@PySem.Value.str (@PySem.Str.ofString "law") (679 : Nat)) (@PySem.Value.ref (376 : Nat))) :: [])) (42 : Nat)) (List.toArray []))) ::
(nat_lit 15, (@PySem.Obj.mk (@PySem.Value.type "tuple") Option.none (@PySem.Data.seq (List.toArray []) (0 : Nat)) (List.toArray []))) ::
(nat_lit 17, (@PySem.Obj.mk (@PySem.Value.type "tuple") Option.none (@PySem.Data.seq (List.toArray [(@PySem.Value.str (@PySem.Str.ofString "k") (190 : Nat))]) (0 : Nat)) (List.toArray []))) ::
(nat_lit 18, (@PySem.Obj.mk (@PySem.Value.type "tuple") Option.none (@PySem.Data.seq (List.toArray []) (0 : Nat)) (List.toArray []))) ::
(nat_lit 20, (@PySem.Obj.mk (@PySem.Value.type "code") Option.none (@PySem.Data.fields (List.toArray [(@PySem.Value.str (@PySem.Str.ofString "_wall") (187 : Nat)), (@PySem.Value.str (@PySem.Str.ofString "_wall") (188 : Nat)), (@PySem.Value.str (@PySem.Str.ofString "/claim/cut.py") (189 : Nat)), (@PySem.Value.int (1 : Int) (0 : Nat)), (@PySem.Value.int (1 : Int) (0 : Nat)), (@PySem.Value.int (0 : Int) (0 : Nat)), (@PySem.Value.int (0 : Int) (0 : Nat)), (@PySem.Value.int (3 : Int) (0 : Nat)), (@PySem.Value.ref (15 : Nat)), (@PySem.Value.bool Bool.true), (@PySem.Value.int (181 : Int) (0 : Nat)), (@PySem.Value.ref (16 : Nat)), PySem.Value.none, (@PySem.Value.ref (17 : Nat)), (@PySem.Value.ref (18 : Nat)), (@PySem.Value.ref (19 : Nat)), (@PySem.Value.int (191 : Int) (0 : Nat)), (@PySem.Value.int (1 : Int) (0 : Nat)), (@PySem.Value.str (@PySem.Str.ofString "/claim/cut.py") (192 : Nat))])) (List.toArray []))) ::
(nat_lit 21, (@PySem.Obj.mk (@PySem.Value.type "function") Option.none (@PySem.Data.func (PySem.FuncData.mk (@PySem.Str.ofString "_wall") (@PySem.Str.ofString "_wall") (defArgs s__wall) (PySem.FuncBody.stmts (defBody s__wall)) (defScope s__wall) (3 : Nat) [] PySem.Value.none PySem.Value.none PySem.Value.none (@PySem.Value.str (@PySem.Str.ofString "__main__") (164 : Nat)) Option.none (@PySem.Value.ref (20 : Nat)) PySem.Value.none (0 : Nat))) (List.toArray []))) ::
(nat_lit 22, (@PySem.Obj.mk (@PySem.Value.type "tuple") Option.none (@PySem.Data.seq (List.toArray [(@PySem.Value.type "ValueError")]) (0 : Nat)) (List.toArray []))) ::
(nat_lit 29, (@PySem.Obj.mk (@PySem.Value.type "tuple") Option.none (@PySem.Data.seq (List.toArray []) (0 : Nat)) (List.toArray []))) ::
(nat_lit 30, (@PySem.Obj.mk (@PySem.Value.type "dict") Option.none (@PySem.Data.dict (List.toArray [(@PySem.DictEntry.mk (@PySem.PyData.keyHash P (@PySem.Str.ofString "__module__")) (@PySem.Value.str (@PySem.Str.ofString "__module__") (203 : Nat)) (@PySem.Value.str (@PySem.Str.ofString "quietprobes.errors") (194 : Nat))), (@PySem.DictEntry.mk (@PySem.PyData.keyHash P (@PySem.Str.ofString "__firstlineno__")) (@PySem.Value.str (@PySem.Str.ofString "__firstlineno__") (207 : Nat)) (@PySem.Value.int (5 : Int) (206 : Nat))), (@PySem.DictEntry.mk (@PySem.PyData.keyHash P (@PySem.Str.ofString "__static_attributes__")) (@PySem.Value.str (@PySem.Str.ofString "__static_attributes__") (208 : Nat)) (@PySem.Value.ref (29 : Nat))), (@PySem.DictEntry.mk (@PySem.PyData.keyHash P (@PySem.Str.ofString "__weakref__")) (@PySem.Value.str (@PySem.Str.ofString "__weakref__") (210 : Nat)) (@PySem.Value.ref (32 : Nat))), (@PySem.DictEntry.mk (@PySem.PyData.keyHash P (@PySem.Str.ofString "__doc__")) (@PySem.Value.str (@PySem.Str.ofString "__doc__") (211 : Nat)) PySem.Value.none)]) (3 : Nat)) (List.toArray []))) ::
(nat_lit 31, (@PySem.Obj.mk (@PySem.Value.type "type") Option.none (@PySem.Data.cls (@PySem.ClassData.mk (@PySem.Str.ofString "QuietError") [(@PySem.Value.type "ValueError")] [(@PySem.Value.ref (31 : Nat)), (@PySem.Value.type "ValueError"), (@PySem.Value.type "Exception"), (@PySem.Value.type "BaseException"), (@PySem.Value.type "object")] (30 : Nat) (@PySem.Str.ofString "QuietError") Bool.true [] [(@PySem.Value.ref (53 : Nat)), (@PySem.Value.ref (74 : Nat)), (@PySem.Value.ref (95 : Nat))] Bool.false Option.none Bool.false)) (List.toArray [(Option.some (@PySem.Value.ref (22 : Nat))), Option.none, (Option.some (@PySem.Value.str (@PySem.Str.ofString "QuietError") (196 : Nat))), (Option.some (@PySem.Value.str (@PySem.Str.ofString "QuietError") (204 : Nat))), (Option.some (@PySem.Value.builtin "ValueError.__new__")), (Option.some (@PySem.Value.bool Bool.true))]))) ::
(nat_lit 32, (@PySem.Obj.mk (@PySem.Value.type "getset_descriptor") Option.none (@PySem.Data.fields (List.toArray [(@PySem.Value.str (@PySem.Str.ofString "__weakref__") (209 : Nat)), (@PySem.Value.ref (31 : Nat)), (@PySem.Value.builtin "ExceptionGroup.__weakref__"), PySem.Value.none])) (List.toArray []))) ::
(nat_lit 35, (@PySem.Obj.mk (@PySem.Value.type "tuple") Option.none (@PySem.Data.seq (List.toArray [(@PySem.Value.ref (31 : Nat))]) (0 : Nat)) (List.toArray []))) ::
(nat_lit 38, (@PySem.Obj.mk (@PySem.Value.type "cell") Option.none (@PySem.Data.cell (Option.some (@PySem.Value.ref (53 : Nat)))) (List.toArray []))) ::
(nat_lit 43, (@PySem.Obj.mk (@PySem.Value.type "tuple") Option.none (@PySem.Data.seq (List.toArray [(@PySem.Value.ref (38 : Nat))]) (0 : Nat)) (List.toArray []))) ::
(nat_lit 44, (@PySem.Obj.mk (@PySem.Value.type "tuple") Option.none (@PySem.Data.seq (List.toArray [(@PySem.Value.str (@PySem.Str.ofString "__class__") (229 : Nat))]) (0 : Nat)) (List.toArray []))) ::
(nat_lit 46, (@PySem.Obj.mk (@PySem.Value.type "tuple") Option.none (@PySem.Data.seq (List.toArray [(@PySem.Value.str (@PySem.Str.ofString "self") (230 : Nat)), (@PySem.Value.str (@PySem.Str.ofString "name") (231 : Nat))]) (0 : Nat)) (List.toArray []))) ::
(nat_lit 47, (@PySem.Obj.mk (@PySem.Value.type "tuple") Option.none (@PySem.Data.seq (List.toArray []) (0 : Nat)) (List.toArray []))) ::
(nat_lit 49, (@PySem.Obj.mk (@PySem.Value.type "code") Option.none (@PySem.Data.fields (List.toArray [(@PySem.Value.str (@PySem.Str.ofString "__init__") (226 : Nat)), (@PySem.Value.str (@PySem.Str.ofString "BadName.__init__") (227 : Nat)), (@PySem.Value.str (@PySem.Str.ofString "/claim/cut.py") (228 : Nat)), (@PySem.Value.int (9 : Int) (0 : Nat)), (@PySem.Value.int (2 : Int) (0 : Nat)), (@PySem.Value.int (0 : Int) (0 : Nat)), (@PySem.Value.int (0 : Int) (0 : Nat)), (@PySem.Value.int (3 : Int) (0 : Nat)), (@PySem.Value.ref (44 : Nat)), (@PySem.Value.bool Bool.true), (@PySem.Value.int (181 : Int) (0 : Nat)), (@PySem.Value.ref (45 : Nat)), PySem.Value.none, (@PySem.Value.ref (46 : Nat)), (@PySem.Value.ref (47 : Nat)), (@PySem.Value.ref (48 : Nat)), (@PySem.Value.int (232 : Int) (0 : Nat)), (@PySem.Value.int (9 : Int) (0 : Nat)), (@PySem.Value.str (@PySem.Str.ofString "/claim/cut.py") (233 : Nat))])) (List.toArray []))) ::
(nat_lit 50, (@PySem.Obj.mk (@PySem.Value.type "function") Option.none (@PySem.Data.func (PySem.FuncData.mk (@PySem.Str.ofString "__init__") (@PySem.Str.ofString "BadName.__init__") (defArgs s_BadName___init__) (PySem.FuncBody.stmts (defBody s_BadName___init__)) (defScope s_BadName___init__) (3 : Nat) [((@PySem.Str.ofString "__class__"), (38 : Nat))] PySem.Value.none PySem.Value.none PySem.Value.none (@PySem.Value.str (@PySem.Str.ofString "quietprobes.errors") (194 : Nat)) Option.none (@PySem.Value.ref (49 : Nat)) (@PySem.Value.ref (43 : Nat)) (0 : Nat))) (List.toArray []))) ::
(nat_lit 51, (@PySem.Obj.mk (@PySem.Value.type "tuple") Option.none (@PySem.Data.seq (List.toArray [(@PySem.Value.str (@PySem.Str.ofString "name") (235 : Nat))]) (0 : Nat)) (List.toArray []))) ::
(nat_lit 52, (@PySem.Obj.mk (@PySem.Value.type "dict") Option.none (@PySem.Data.dict (List.toArray [(@PySem.DictEntry.mk (@PySem.PyData.keyHash P (@PySem.Str.ofString "__module__")) (@PySem.Value.str (@PySem.Str.ofString "__module__") (221 : Nat)) (@PySem.Value.str (@PySem.Str.ofString "quietprobes.errors") (194 : Nat))), (@PySem.DictEntry.mk (@PySem.PyData.keyHash P (@PySem.Str.ofString "__firstlineno__")) (@PySem.Value.str (@PySem.Str.ofString "__firstlineno__") (225 : Nat)) (@PySem.Value.int (7 : Int) (224 : Nat))), (@PySem.DictEntry.mk (@PySem.PyData.keyHash P (@PySem.Str.ofString "__init__")) (@PySem.Value.str (@PySem.Str.ofString "__init__") (234 : Nat)) (@PySem.Value.ref (50 : Nat))), (@PySem.DictEntry.mk (@PySem.PyData.keyHash P (@PySem.Str.ofString "__static_attributes__")) (@PySem.Value.str (@PySem.Str.ofString "__static_attributes__") (236 : Nat)) (@PySem.Value.ref (51 : Nat))), (@PySem.DictEntry.mk (@PySem.PyData.keyHash P (@PySem.Str.ofString "__doc__")) (@PySem.Value.str (@PySem.Str.ofString "__doc__") (238 : Nat)) PySem.Value.none)]) (3 : Nat)) (List.toArray []))) ::
(nat_lit 53, (@PySem.Obj.mk (@PySem.Value.type "type") Option.none (@PySem.Data.cls (@PySem.ClassData.mk (@PySem.Str.ofString "BadName") [(@PySem.Value.ref (31 : Nat))] [(@PySem.Value.ref (53 : Nat)), (@PySem.Value.ref (31 : Nat)), (@PySem.Value.type "ValueError"), (@PySem.Value.type "Exception"), (@PySem.Value.type "BaseException"), (@PySem.Value.type "object")] (52 : Nat) (@PySem.Str.ofString "BadName") Bool.true [] [] Bool.false Option.none Bool.false)) (List.toArray [(Option.some (@PySem.Value.ref (35 : Nat))), Option.none, (Option.some (@PySem.Value.str (@PySem.Str.ofString "BadName") (214 : Nat))), (Option.some (@PySem.Value.str (@PySem.Str.ofString "BadName") (222 : Nat))), (Option.some (@PySem.Value.builtin "ValueError.__new__")), (Option.some (@PySem.Value.bool Bool.true))]))) ::
(nat_lit 56, (@PySem.Obj.mk (@PySem.Value.type "tuple") Option.none (@PySem.Data.seq (List.toArray [(@PySem.Value.ref (31 : Nat))]) (0 : Nat)) (List.toArray []))) ::
(nat_lit 59, (@PySem.Obj.mk (@PySem.Value.type "cell") Option.none (@PySem.Data.cell (Option.some (@PySem.Value.ref (74 : Nat)))) (List.toArray []))) ::
(nat_lit 64, (@PySem.Obj.mk (@PySem.Value.type "tuple") Option.none (@PySem.Data.seq (List.toArray [(@PySem.Value.ref (59 : Nat))]) (0 : Nat)) (List.toArray []))) ::
(nat_lit 65, (@PySem.Obj.mk (@PySem.Value.type "tuple") Option.none (@PySem.Data.seq (List.toArray [(@PySem.Value.str (@PySem.Str.ofString "__class__") (256 : Nat))]) (0 : Nat)) (List.toArray []))) ::
(nat_lit 67, (@PySem.Obj.mk (@PySem.Value.type "tuple") Option.none (@PySem.Data.seq (List.toArray [(@PySem.Value.str (@PySem.Str.ofString "self") (257 : Nat)), (@PySem.Value.str (@PySem.Str.ofString "mode") (258 : Nat))]) (0 : Nat)) (List.toArray []))) ::
(nat_lit 68, (@PySem.Obj.mk (@PySem.Value.type "tuple") Option.none (@PySem.Data.seq (List.toArray []) (0 : Nat)) (List.toArray []))) ::
(nat_lit 70, (@PySem.Obj.mk (@PySem.Value.type "code") Option.none (@PySem.Data.fields (List.toArray [(@PySem.Value.str (@PySem.Str.ofString "__init__") (253 : Nat)), (@PySem.Value.str (@PySem.Str.ofString "BadMode.__init__") (254 : Nat)), (@PySem.Value.str (@PySem.Str.ofString "/claim/cut.py") (255 : Nat)), (@PySem.Value.int (14 : Int) (0 : Nat)), (@PySem.Value.int (2 : Int) (0 : Nat)), (@PySem.Value.int (0 : Int) (0 : Nat)), (@PySem.Value.int (0 : Int) (0 : Nat)), (@PySem.Value.int (3 : Int) (0 : Nat)), (@PySem.Value.ref (65 : Nat)), (@PySem.Value.bool Bool.true), (@PySem.Value.int (181 : Int) (0 : Nat)), (@PySem.Value.ref (66 : Nat)), PySem.Value.none, (@PySem.Value.ref (67 : Nat)), (@PySem.Value.ref (68 : Nat)), (@PySem.Value.ref (69 : Nat)), (@PySem.Value.int (259 : Int) (0 : Nat)), (@PySem.Value.int (14 : Int) (0 : Nat)), (@PySem.Value.str (@PySem.Str.ofString "/claim/cut.py") (260 : Nat))])) (List.toArray []))) ::
(nat_lit 71, (@PySem.Obj.mk (@PySem.Value.type "function") Option.none (@PySem.Data.func (PySem.FuncData.mk (@PySem.Str.ofString "__init__") (@PySem.Str.ofString "BadMode.__init__") (defArgs s_BadMode___init__) (PySem.FuncBody.stmts (defBody s_BadMode___init__)) (defScope s_BadMode___init__) (3 : Nat) [((@PySem.Str.ofString "__class__"), (59 : Nat))] PySem.Value.none PySem.Value.none PySem.Value.none (@PySem.Value.str (@PySem.Str.ofString "quietprobes.errors") (194 : Nat)) Option.none (@PySem.Value.ref (70 : Nat)) (@PySem.Value.ref (64 : Nat)) (0 : Nat))) (List.toArray []))) ::
(nat_lit 72, (@PySem.Obj.mk (@PySem.Value.type "tuple") Option.none (@PySem.Data.seq (List.toArray [(@PySem.Value.str (@PySem.Str.ofString "mode") (262 : Nat))]) (0 : Nat)) (List.toArray []))) ::
(nat_lit 73, (@PySem.Obj.mk (@PySem.Value.type "dict") Option.none (@PySem.Data.dict (List.toArray [(@PySem.DictEntry.mk (@PySem.PyData.keyHash P (@PySem.Str.ofString "__module__")) (@PySem.Value.str (@PySem.Str.ofString "__module__") (248 : Nat)) (@PySem.Value.str (@PySem.Str.ofString "quietprobes.errors") (194 : Nat))), (@PySem.DictEntry.mk (@PySem.PyData.keyHash P (@PySem.Str.ofString "__firstlineno__")) (@PySem.Value.str (@PySem.Str.ofString "__firstlineno__") (252 : Nat)) (@PySem.Value.int (12 : Int) (251 : Nat))), (@PySem.DictEntry.mk (@PySem.PyData.keyHash P (@PySem.Str.ofString "__init__")) (@PySem.Value.str (@PySem.Str.ofString "__init__") (261 : Nat)) (@PySem.Value.ref (71 : Nat))), (@PySem.DictEntry.mk (@PySem.PyData.keyHash P (@PySem.Str.ofString "__static_attributes__")) (@PySem.Value.str (@PySem.Str.ofString "__static_attributes__") (263 : Nat)) (@PySem.Value.ref (72 : Nat))), (@PySem.DictEntry.mk (@PySem.PyData.keyHash P (@PySem.Str.ofString "__doc__")) (@PySem.Value.str (@PySem.Str.ofString "__doc__") (265 : Nat)) PySem.Value.none)]) (3 : Nat)) (List.toArray []))) ::
(nat_lit 74, (@PySem.Obj.mk (@PySem.Value.type "type") Option.none (@PySem.Data.cls (@PySem.ClassData.mk (@PySem.Str.ofString "BadMode") [(@PySem.Value.ref (31 : Nat))] [(@PySem.Value.ref (74 : Nat)), (@PySem.Value.ref (31 : Nat)), (@PySem.Value.type "ValueError"), (@PySem.Value.type "Exception"), (@PySem.Value.type "BaseException"), (@PySem.Value.type "object")] (73 : Nat) (@PySem.Str.ofString "BadMode") Bool.true [] [] Bool.false Option.none Bool.false)) (List.toArray [(Option.some (@PySem.Value.ref (56 : Nat))), Option.none, (Option.some (@PySem.Value.str (@PySem.Str.ofString "BadMode") (241 : Nat))), (Option.some (@PySem.Value.str (@PySem.Str.ofString "BadMode") (249 : Nat))), (Option.some (@PySem.Value.builtin "ValueError.__new__")), (Option.some (@PySem.Value.bool Bool.true))]))) ::
(nat_lit 77, (@PySem.Obj.mk (@PySem.Value.type "tuple") Option.none (@PySem.Data.seq (List.toArray [(@PySem.Value.ref (31 : Nat))]) (0 : Nat)) (List.toArray []))) ::
(nat_lit 80, (@PySem.Obj.mk (@PySem.Value.type "cell") Option.none (@PySem.Data.cell (Option.some (@PySem.Value.ref (95 : Nat)))) (List.toArray []))) ::
(nat_lit 85, (@PySem.Obj.mk (@PySem.Value.type "tuple") Option.none (@PySem.Data.seq (List.toArray [(@PySem.Value.ref (80 : Nat))]) (0 : Nat)) (List.toArray []))) ::
(nat_lit 86, (@PySem.Obj.mk (@PySem.Value.type "tuple") Option.none (@PySem.Data.seq (List.toArray [(@PySem.Value.str (@PySem.Str.ofString "__class__") (283 : Nat))]) (0 : Nat)) (List.toArray []))) ::
(nat_lit 88, (@PySem.Obj.mk (@PySem.Value.type "tuple") Option.none (@PySem.Data.seq (List.toArray [(@PySem.Value.str (@PySem.Str.ofString "self") (284 : Nat)), (@PySem.Value.str (@PySem.Str.ofString "name") (285 : Nat))]) (0 : Nat)) (List.toArray []))) ::
(nat_lit 89, (@PySem.Obj.mk (@PySem.Value.type "tuple") Option.none (@PySem.Data.seq (List.toArray []) (0 : Nat)) (List.toArray []))) ::
(nat_lit 91, (@PySem.Obj.mk (@PySem.Value.type "code") Option.none (@PySem.Data.fields (List.toArray [(@PySem.Value.str (@PySem.Str.ofString "__init__") (280 : Nat)), (@PySem.Value.str (@PySem.Str.ofString "Twice.__init__") (281 : Nat)), (@PySem.Value.str (@PySem.Str.ofString "/claim/cut.py") (282 : Nat)), (@PySem.Value.int (19 : Int) (0 : Nat)), (@PySem.Value.int (2 : Int) (0 : Nat)), (@PySem.Value.int (0 : Int) (0 : Nat)), (@PySem.Value.int (0 : Int) (0 : Nat)), (@PySem.Value.int (3 : Int) (0 : Nat)), (@PySem.Value.ref (86 : Nat)), (@PySem.Value.bool Bool.true), (@PySem.Value.int (181 : Int) (0 : Nat)), (@PySem.Value.ref (87 : Nat)), PySem.Value.none, (@PySem.Value.ref (88 : Nat)), (@PySem.Value.ref (89 : Nat)), (@PySem.Value.ref (90 : Nat)), (@PySem.Value.int (286 : Int) (0 : Nat)), (@PySem.Value.int (19 : Int) (0 : Nat)), (@PySem.Value.str (@PySem.Str.ofString "/claim/cut.py") (287 : Nat))])) (List.toArray []))) ::
(nat_lit 92, (@PySem.Obj.mk (@PySem.Value.type "function") Option.none (@PySem.Data.func (PySem.FuncData.mk (@PySem.Str.ofString "__init__") (@PySem.Str.ofString "Twice.__init__") (defArgs s_Twice___init__) (PySem.FuncBody.stmts (defBody s_Twice___init__)) (defScope s_Twice___init__) (3 : Nat) [((@PySem.Str.ofString "__class__"), (80 : Nat))] PySem.Value.none PySem.Value.none PySem.Value.none (@PySem.Value.str (@PySem.Str.ofString "quietprobes.errors") (194 : Nat)) Option.none (@PySem.Value.ref (91 : Nat)) (@PySem.Value.ref (85 : Nat)) (0 : Nat))) (List.toArray []))) ::
(nat_lit 93, (@PySem.Obj.mk (@PySem.Value.type "tuple") Option.none (@PySem.Data.seq (List.toArray [(@PySem.Value.str (@PySem.Str.ofString "name") (289 : Nat))]) (0 : Nat)) (List.toArray []))) ::
(nat_lit 94, (@PySem.Obj.mk (@PySem.Value.type "dict") Option.none (@PySem.Data.dict (List.toArray [(@PySem.DictEntry.mk (@PySem.PyData.keyHash P (@PySem.Str.ofString "__module__")) (@PySem.Value.str (@PySem.Str.ofString "__module__") (275 : Nat)) (@PySem.Value.str (@PySem.Str.ofString "quietprobes.errors") (194 : Nat))), (@PySem.DictEntry.mk (@PySem.PyData.keyHash P (@PySem.Str.ofString "__firstlineno__")) (@PySem.Value.str (@PySem.Str.ofString "__firstlineno__") (279 : Nat)) (@PySem.Value.int (17 : Int) (278 : Nat))), (@PySem.DictEntry.mk (@PySem.PyData.keyHash P (@PySem.Str.ofString "__init__")) (@PySem.Value.str (@PySem.Str.ofString "__init__") (288 : Nat)) (@PySem.Value.ref (92 : Nat))), (@PySem.DictEntry.mk (@PySem.PyData.keyHash P (@PySem.Str.ofString "__static_attributes__")) (@PySem.Value.str (@PySem.Str.ofString "__static_attributes__") (290 : Nat)) (@PySem.Value.ref (93 : Nat))), (@PySem.DictEntry.mk (@PySem.PyData.keyHash P (@PySem.Str.ofString "__doc__")) (@PySem.Value.str (@PySem.Str.ofString "__doc__") (292 : Nat)) PySem.Value.none)]) (3 : Nat)) (List.toArray []))) ::
(nat_lit 95, (@PySem.Obj.mk (@PySem.Value.type "type") Option.none (@PySem.Data.cls (@PySem.ClassData.mk (@PySem.Str.ofString "Twice") [(@PySem.Value.ref (31 : Nat))] [(@PySem.Value.ref (95 : Nat)), (@PySem.Value.ref (31 : Nat)), (@PySem.Value.type "ValueError"), (@PySem.Value.type "Exception"), (@PySem.Value.type "BaseException"), (@PySem.Value.type "object")] (94 : Nat) (@PySem.Str.ofString "Twice") Bool.true [] [] Bool.false Option.none Bool.false)) (List.toArray [(Option.some (@PySem.Value.ref (77 : Nat))), Option.none, (Option.some (@PySem.Value.str (@PySem.Str.ofString "Twice") (268 : Nat))), (Option.some (@PySem.Value.str (@PySem.Str.ofString "Twice") (276 : Nat))), (Option.some (@PySem.Value.builtin "ValueError.__new__")), (Option.some (@PySem.Value.bool Bool.true))]))) ::
(nat_lit 98, (@PySem.Obj.mk (@PySem.Value.type "tuple") Option.none (@PySem.Data.seq (List.toArray []) (0 : Nat)) (List.toArray []))) ::
(nat_lit 101, (@PySem.Obj.mk (@PySem.Value.type "code") Option.none (@PySem.Data.fields (List.toArray [(@PySem.Value.str (@PySem.Str.ofString "is_name") (301 : Nat)), (@PySem.Value.str (@PySem.Str.ofString "is_name") (302 : Nat)), (@PySem.Value.str (@PySem.Str.ofString "/claim/cut.py") (303 : Nat)), (@PySem.Value.int (25 : Int) (0 : Nat)), (@PySem.Value.int (1 : Int) (0 : Nat)), (@PySem.Value.int (0 : Int) (0 : Nat)), (@PySem.Value.int (0 : Int) (0 : Nat)), (@PySem.Value.int (3 : Int) (0 : Nat)), (@PySem.Value.ref (98 : Nat)), (@PySem.Value.bool Bool.true), (@PySem.Value.int (181 : Int) (0 : Nat)), (@PySem.Value.ref (99 : Nat)), PySem.Value.none, PySem.Value.none, PySem.Value.none, (@PySem.Value.ref (100 : Nat)), (@PySem.Value.int (304 : Int) (0 : Nat)), (@PySem.Value.int (25 : Int) (0 : Nat)), (@PySem.Value.str (@PySem.Str.ofString "/claim/cut.py") (305 : Nat))])) (List.toArray []))) ::
(nat_lit 102, (@PySem.Obj.mk (@PySem.Value.type "function") Option.none (@PySem.Data.func (PySem.FuncData.mk (@PySem.Str.ofString "is_name") (@PySem.Str.ofString "is_name") (defArgs s_is_name) (PySem.FuncBody.stmts (defBody s_is_name)) (defScope s_is_name) (3 : Nat) [] PySem.Value.none PySem.Value.none PySem.Value.none (@PySem.Value.str (@PySem.Str.ofString "quietprobes.things") (295 : Nat)) Option.none (@PySem.Value.ref (101 : Nat)) PySem.Value.none (0 : Nat))) (List.toArray []))) ::
(nat_lit 103, (@PySem.Obj.mk (@PySem.Value.type "tuple") Option.none (@PySem.Data.seq (List.toArray [(@PySem.Value.str (@PySem.Str.ofString "out") (309 : Nat)), (@PySem.Value.str (@PySem.Str.ofString "deaf") (310 : Nat)), (@PySem.Value.str (@PySem.Str.ofString "on") (311 : Nat))]) (0 : Nat)) (List.toArray []))) ::
(nat_lit 104, (@PySem.Obj.mk (@PySem.Value.type "tuple") Option.none (@PySem.Data.seq (List.toArray []) (0 : Nat)) (List.toArray []))) ::
(nat_lit 106, (@PySem.Obj.mk (@PySem.Value.type "tuple") Option.none (@PySem.Data.seq (List.toArray [(@PySem.Value.str (@PySem.Str.ofString "mode") (316 : Nat))]) (0 : Nat)) (List.toArray []))) ::
(nat_lit 107, (@PySem.Obj.mk (@PySem.Value.type "tuple") Option.none (@PySem.Data.seq (List.toArray []) (0 : Nat)) (List.toArray []))) ::
(nat_lit 109, (@PySem.Obj.mk (@PySem.Value.type "code") Option.none (@PySem.Data.fields (List.toArray [(@PySem.Value.str (@PySem.Str.ofString "rank") (313 : Nat)), (@PySem.Value.str (@PySem.Str.ofString "rank") (314 : Nat)), (@PySem.Value.str (@PySem.Str.ofString "/claim/cut.py") (315 : Nat)), (@PySem.Value.int (31 : Int) (0 : Nat)), (@PySem.Value.int (1 : Int) (0 : Nat)), (@PySem.Value.int (0 : Int) (0 : Nat)), (@PySem.Value.int (0 : Int) (0 : Nat)), (@PySem.Value.int (3 : Int) (0 : Nat)), (@PySem.Value.ref (104 : Nat)), (@PySem.Value.bool Bool.true), (@PySem.Value.int (181 : Int) (0 : Nat)), (@PySem.Value.ref (105 : Nat)), PySem.Value.none, (@PySem.Value.ref (106 : Nat)), (@PySem.Value.ref (107 : Nat)), (@PySem.Value.ref (108 : Nat)), (@PySem.Value.int (317 : Int) (0 : Nat)), (@PySem.Value.int (31 : Int) (0 : Nat)), (@PySem.Value.str (@PySem.Str.ofString "/claim/cut.py") (318 : Nat))])) (List.toArray []))) ::
(nat_lit 110, (@PySem.Obj.mk (@PySem.Value.type "function") Option.none (@PySem.Data.func (PySem.FuncData.mk (@PySem.Str.ofString "rank") (@PySem.Str.ofString "rank") (defArgs s_rank) (PySem.FuncBody.stmts (defBody s_rank)) (defScope s_rank) (3 : Nat) [] PySem.Value.none PySem.Value.none PySem.Value.none (@PySem.Value.str (@PySem.Str.ofString "quietprobes.settings") (307 : Nat)) Option.none (@PySem.Value.ref (109 : Nat)) PySem.Value.none (0 : Nat))) (List.toArray []))) ::
(nat_lit 111, (@PySem.Obj.mk (@PySem.Value.type "tuple") Option.none (@PySem.Data.seq (List.toArray []) (0 : Nat)) (List.toArray []))) ::
(nat_lit 113, (@PySem.Obj.mk (@PySem.Value.type "tuple") Option.none (@PySem.Data.seq (List.toArray [(@PySem.Value.str (@PySem.Str.ofString "one") (323 : Nat)), (@PySem.Value.str (@PySem.Str.ofString "other") (324 : Nat))]) (0 : Nat)) (List.toArray []))) ::
(nat_lit 114, (@PySem.Obj.mk (@PySem.Value.type "tuple") Option.none (@PySem.Data.seq (List.toArray []) (0 : Nat)) (List.toArray []))) ::
(nat_lit 116, (@PySem.Obj.mk (@PySem.Value.type "code") Option.none (@PySem.Data.fields (List.toArray [(@PySem.Value.str (@PySem.Str.ofString "greater_mode") (320 : Nat)), (@PySem.Value.str (@PySem.Str.ofString "greater_mode") (321 : Nat)), (@PySem.Value.str (@PySem.Str.ofString "/claim/cut.py") (322 : Nat)), (@PySem.Value.int (33 : Int) (0 : Nat)), (@PySem.Value.int (2 : Int) (0 : Nat)), (@PySem.Value.int (0 : Int) (0 : Nat)), (@PySem.Value.int (0 : Int) (0 : Nat)), (@PySem.Value.int (3 : Int) (0 : Nat)), (@PySem.Value.ref (111 : Nat)), (@PySem.Value.bool Bool.true), (@PySem.Value.int (181 : Int) (0 : Nat)), (@PySem.Value.ref (112 : Nat)), PySem.Value.none, (@PySem.Value.ref (113 : Nat)), (@PySem.Value.ref (114 : Nat)), (@PySem.Value.ref (115 : Nat)), (@PySem.Value.int (325 : Int) (0 : Nat)), (@PySem.Value.int (33 : Int) (0 : Nat)), (@PySem.Value.str (@PySem.Str.ofString "/claim/cut.py") (326 : Nat))])) (List.toArray []))) ::
(nat_lit 117, (@PySem.Obj.mk (@PySem.Value.type "function") Option.none (@PySem.Data.func (PySem.FuncData.mk (@PySem.Str.ofString "greater_mode") (@PySem.Str.ofString "greater_mode") (defArgs s_greater_mode) (PySem.FuncBody.stmts (defBody s_greater_mode)) (defScope s_greater_mode) (3 : Nat) [] PySem.Value.none PySem.Value.none PySem.Value.none (@PySem.Value.str (@PySem.Str.ofString "quietprobes.settings") (307 : Nat)) Option.none (@PySem.Value.ref (116 : Nat)) PySem.Value.none (0 : Nat))) (List.toArray []))) ::
(nat_lit 118, (@PySem.Obj.mk (@PySem.Value.type "tuple") Option.none (@PySem.Data.seq (List.toArray []) (0 : Nat)) (List.toArray []))) ::
(nat_lit 120, (@PySem.Obj.mk (@PySem.Value.type "tuple") Option.none (@PySem.Data.seq (List.toArray [(@PySem.Value.str (@PySem.Str.ofString "one") (331 : Nat)), (@PySem.Value.str (@PySem.Str.ofString "other") (332 : Nat))]) (0 : Nat)) (List.toArray []))) ::
(nat_lit 121, (@PySem.Obj.mk (@PySem.Value.type "tuple") Option.none (@PySem.Data.seq (List.toArray []) (0 : Nat)) (List.toArray []))) ::
(nat_lit 123, (@PySem.Obj.mk (@PySem.Value.type "code") Option.none (@PySem.Data.fields (List.toArray [(@PySem.Value.str (@PySem.Str.ofString "lesser_mode") (328 : Nat)), (@PySem.Value.str (@PySem.Str.ofString "lesser_mode") (329 : Nat)), (@PySem.Value.str (@PySem.Str.ofString "/claim/cut.py") (330 : Nat)), (@PySem.Value.int (35 : Int) (0 : Nat)), (@PySem.Value.int (2 : Int) (0 : Nat)), (@PySem.Value.int (0 : Int) (0 : Nat)), (@PySem.Value.int (0 : Int) (0 : Nat)), (@PySem.Value.int (3 : Int) (0 : Nat)), (@PySem.Value.ref (118 : Nat)), (@PySem.Value.bool Bool.true), (@PySem.Value.int (181 : Int) (0 : Nat)), (@PySem.Value.ref (119 : Nat)), PySem.Value.none, (@PySem.Value.ref (120 : Nat)), (@PySem.Value.ref (121 : Nat)), (@PySem.Value.ref (122 : Nat)), (@PySem.Value.int (333 : Int) (0 : Nat)), (@PySem.Value.int (35 : Int) (0 : Nat)), (@PySem.Value.str (@PySem.Str.ofString "/claim/cut.py") (334 : Nat))])) (List.toArray []))) ::
(nat_lit 124, (@PySem.Obj.mk (@PySem.Value.type "function") Option.none (@PySem.Data.func (PySem.FuncData.mk (@PySem.Str.ofString "lesser_mode") (@PySem.Str.ofString "lesser_mode") (defArgs s_lesser_mode) (PySem.FuncBody.stmts (defBody s_lesser_mode)) (defScope s_lesser_mode) (3 : Nat) [] PySem.Value.none PySem.Value.none PySem.Value.none (@PySem.Value.str (@PySem.Str.ofString "quietprobes.settings") (307 : Nat)) Option.none (@PySem.Value.ref (123 : Nat)) PySem.Value.none (0 : Nat))) (List.toArray []))) ::
(nat_lit 125, (@PySem.Obj.mk (@PySem.Value.type "tuple") Option.none (@PySem.Data.seq (List.toArray []) (0 : Nat)) (List.toArray []))) ::
(nat_lit 127, (@PySem.Obj.mk (@PySem.Value.type "tuple") Option.none (@PySem.Data.seq (List.toArray [(@PySem.Value.str (@PySem.Str.ofString "mode") (339 : Nat))]) (0 : Nat)) (List.toArray []))) ::
(nat_lit 128, (@PySem.Obj.mk (@PySem.Value.type "tuple") Option.none (@PySem.Data.seq (List.toArray []) (0 : Nat)) (List.toArray []))) ::
(nat_lit 130, (@PySem.Obj.mk (@PySem.Value.type "code") Option.none (@PySem.Data.fields (List.toArray [(@PySem.Value.str (@PySem.Str.ofString "is_mode") (336 : Nat)), (@PySem.Value.str (@PySem.Str.ofString "is_mode") (337 : Nat)), (@PySem.Value.str (@PySem.Str.ofString "/claim/cut.py") (338 : Nat)), (@PySem.Value.int (37 : Int) (0 : Nat)), (@PySem.Value.int (1 : Int) (0 : Nat)), (@PySem.Value.int (0 : Int) (0 : Nat)), (@PySem.Value.int (0 : Int) (0 : Nat)), (@PySem.Value.int (3 : Int) (0 : Nat)), (@PySem.Value.ref (125 : Nat)), (@PySem.Value.bool Bool.true), (@PySem.Value.int (181 : Int) (0 : Nat)), (@PySem.Value.ref (126 : Nat)), PySem.Value.none, (@PySem.Value.ref (127 : Nat)), (@PySem.Value.ref (128 : Nat)), (@PySem.Value.ref (129 : Nat)), (@PySem.Value.int (340 : Int) (0 : Nat)), (@PySem.Value.int (37 : Int) (0 : Nat)), (@PySem.Value.str (@PySem.Str.ofString "/claim/cut.py") (341 : Nat))])) (List.toArray []))) ::
(nat_lit 131, (@PySem.Obj.mk (@PySem.Value.type "function") Option.none (@PySem.Data.func (PySem.FuncData.mk (@PySem.Str.ofString "is_mode") (@PySem.Str.ofString "is_mode") (defArgs s_is_mode) (PySem.FuncBody.stmts (defBody s_is_mode)) (defScope s_is_mode) (3 : Nat) [] PySem.Value.none PySem.Value.none PySem.Value.none (@PySem.Value.str (@PySem.Str.ofString "quietprobes.settings") (307 : Nat)) Option.none (@PySem.Value.ref (130 : Nat)) PySem.Value.none (0 : Nat))) (List.toArray []))) ::
(nat_lit 132, (@PySem.Obj.mk (@PySem.Value.type "tuple") Option.none (@PySem.Data.seq (List.toArray []) (0 : Nat)) (List.toArray []))) ::
(nat_lit 135, (@PySem.Obj.mk (@PySem.Value.type "code") Option.none (@PySem.Data.fields (List.toArray [(@PySem.Value.str (@PySem.Str.ofString "setting_with") (343 : Nat)), (@PySem.Value.str (@PySem.Str.ofString "setting_with") (344 : Nat)), (@PySem.Value.str (@PySem.Str.ofString "/claim/cut.py") (345 : Nat)), (@PySem.Value.int (39 : Int) (0 : Nat)), (@PySem.Value.int (1 : Int) (0 : Nat)), (@PySem.Value.int (0 : Int) (0 : Nat)), (@PySem.Value.int (0 : Int) (0 : Nat)), (@PySem.Value.int (3 : Int) (0 : Nat)), (@PySem.Value.ref (132 : Nat)), (@PySem.Value.bool Bool.true), (@PySem.Value.int (181 : Int) (0 : Nat)), (@PySem.Value.ref (133 : Nat)), PySem.Value.none, PySem.Value.none, PySem.Value.none, (@PySem.Value.ref (134 : Nat)), (@PySem.Value.int (346 : Int) (0 : Nat)), (@PySem.Value.int (39 : Int) (0 : Nat)), (@PySem.Value.str (@PySem.Str.ofString "/claim/cut.py") (347 : Nat))])) (List.toArray []))) ::
(nat_lit 136, (@PySem.Obj.mk (@PySem.Value.type "function") Option.none (@PySem.Data.func (PySem.FuncData.mk (@PySem.Str.ofString "setting_with") (@PySem.Str.ofString "setting_with") (defArgs s_setting_with) (PySem.FuncBody.stmts (defBody s_setting_with)) (defScope s_setting_with) (3 : Nat) [] PySem.Value.none PySem.Value.none PySem.Value.none (@PySem.Value.str (@PySem.Str.ofString "quietprobes.settings") (307 : Nat)) Option.none (@PySem.Value.ref (135 : Nat)) PySem.Value.none (0 : Nat))) (List.toArray []))) ::
(nat_lit 144, (@PySem.Obj.mk (@PySem.Value.type "tuple") Option.none (@PySem.Data.seq (List.toArray []) (0 : Nat)) (List.toArray []))) ::
(nat_lit 145, (@PySem.Obj.mk (@PySem.Value.type "dict") Option.none (@PySem.Data.dict (List.toArray [(@PySem.DictEntry.mk (@PySem.PyData.keyHash P (@PySem.Str.ofString "deaf")) (@PySem.Value.str (@PySem.Str.ofString "deaf") (367 : Nat)) (@PySem.Value.ref (144 : Nat)))]) (1 : Nat)) (List.toArray []))) ::
(nat_lit 146, (@PySem.Obj.mk (@PySem.Value.type "tuple") Option.none (@PySem.Data.seq (List.toArray []) (0 : Nat)) (List.toArray []))) ::
(nat_lit 149, (@PySem.Obj.mk (@PySem.Value.type "code") Option.none (@PySem.Data.fields (List.toArray [(@PySem.Value.str (@PySem.Str.ofString "__init__") (368 : Nat)), (@PySem.Value.str (@PySem.Str.ofString "Setting.__init__") (369 : Nat)), (@PySem.Value.str (@PySem.Str.ofString "/claim/cut.py") (370 : Nat)), (@PySem.Value.int (48 : Int) (0 : Nat)), (@PySem.Value.int (1 : Int) (0 : Nat)), (@PySem.Value.int (0 : Int) (0 : Nat)), (@PySem.Value.int (1 : Int) (0 : Nat)), (@PySem.Value.int (7 : Int) (0 : Nat)), (@PySem.Value.ref (146 : Nat)), (@PySem.Value.bool Bool.true), (@PySem.Value.int (181 : Int) (0 : Nat)), (@PySem.Value.ref (147 : Nat)), PySem.Value.none, PySem.Value.none, PySem.Value.none, (@PySem.Value.ref (148 : Nat)), (@PySem.Value.int (371 : Int) (0 : Nat)), (@PySem.Value.int (48 : Int) (0 : Nat)), (@PySem.Value.str (@PySem.Str.ofString "/claim/cut.py") (372 : Nat))])) (List.toArray []))) ::
(nat_lit 150, (@PySem.Obj.mk (@PySem.Value.type "function") Option.none (@PySem.Data.func (PySem.FuncData.mk (@PySem.Str.ofString "__init__") (@PySem.Str.ofString "Setting.__init__") (defArgs s_Setting___init__) (PySem.FuncBody.stmts (defBody s_Setting___init__)) (defScope s_Setting___init__) (3 : Nat) [] PySem.Value.none (@PySem.Value.ref (145 : Nat)) PySem.Value.none (@PySem.Value.str (@PySem.Str.ofString "quietprobes.settings") (307 : Nat)) Option.none (@PySem.Value.ref (149 : Nat)) PySem.Value.none (0 : Nat))) (List.toArray []))) ::
(nat_lit 151, (@PySem.Obj.mk (@PySem.Value.type "tuple") Option.none (@PySem.Data.seq (List.toArray []) (0 : Nat)) (List.toArray []))) ::
(nat_lit 153, (@PySem.Obj.mk (@PySem.Value.type "tuple") Option.none (@PySem.Data.seq (List.toArray [(@PySem.Value.str (@PySem.Str.ofString "self") (377 : Nat)), (@PySem.Value.str (@PySem.Str.ofString "name") (378 : Nat))]) (0 : Nat)) (List.toArray []))) ::
(nat_lit 154, (@PySem.Obj.mk (@PySem.Value.type "tuple") Option.none (@PySem.Data.seq (List.toArray []) (0 : Nat)) (List.toArray []))) ::
(nat_lit 156, (@PySem.Obj.mk (@PySem.Value.type "code") Option.none (@PySem.Data.fields (List.toArray [(@PySem.Value.str (@PySem.Str.ofString "__getitem__") (374 : Nat)), (@PySem.Value.str (@PySem.Str.ofString "Setting.__getitem__") (375 : Nat)), (@PySem.Value.str (@PySem.Str.ofString "/claim/cut.py") (376 : Nat)), (@PySem.Value.int (58 : Int) (0 : Nat)), (@PySem.Value.int (2 : Int) (0 : Nat)), (@PySem.Value.int (0 : Int) (0 : Nat)), (@PySem.Value.int (0 : Int) (0 : Nat)), (@PySem.Value.int (3 : Int) (0 : Nat)), (@PySem.Value.ref (151 : Nat)), (@PySem.Value.bool Bool.true), (@PySem.Value.int (181 : Int) (0 : Nat)), (@PySem.Value.ref (152 : Nat)), PySem.Value.none, (@PySem.Value.ref (153 : Nat)), (@PySem.Value.ref (154 : Nat)), (@PySem.Value.ref (155 : Nat)), (@PySem.Value.int (379 : Int) (0 : Nat)), (@PySem.Value.int (58 : Int) (0 : Nat)), (@PySem.Value.str (@PySem.Str.ofString "/claim/cut.py") (380 : Nat))])) (List.toArray []))) ::
(nat_lit 157, (@PySem.Obj.mk (@PySem.Value.type "function") Option.none (@PySem.Data.func (PySem.FuncData.mk (@PySem.Str.ofString "__getitem__") (@PySem.Str.ofString "Setting.__getitem__") (defArgs s_Setting___getitem__) (PySem.FuncBody.stmts (defBody s_Setting___getitem__)) (defScope s_Setting___getitem__) (3 : Nat) [] PySem.Value.none PySem.Value.none PySem.Value.none (@PySem.Value.str (@PySem.Str.ofString "quietprobes.settings") (307 : Nat)) Option.none (@PySem.Value.ref (156 : Nat)) PySem.Value.none (0 : Nat))) (List.toArray []))) ::
(nat_lit 158, (@PySem.Obj.mk (@PySem.Value.type "tuple") Option.none (@PySem.Data.seq (List.toArray []) (0 : Nat)) (List.toArray []))) ::
(nat_lit 160, (@PySem.Obj.mk (@PySem.Value.type "tuple") Option.none (@PySem.Data.seq (List.toArray [(@PySem.Value.str (@PySem.Str.ofString "self") (385 : Nat))]) (0 : Nat)) (List.toArray []))) ::
(nat_lit 161, (@PySem.Obj.mk (@PySem.Value.type "tuple") Option.none (@PySem.Data.seq (List.toArray []) (0 : Nat)) (List.toArray []))) ::
(nat_lit 163, (@PySem.Obj.mk (@PySem.Value.type "code") Option.none (@PySem.Data.fields (List.toArray [(@PySem.Value.str (@PySem.Str.ofString "__iter__") (382 : Nat)), (@PySem.Value.str (@PySem.Str.ofString "Setting.__iter__") (383 : Nat)), (@PySem.Value.str (@PySem.Str.ofString "/claim/cut.py") (384 : Nat)), (@PySem.Value.int (63 : Int) (0 : Nat)), (@PySem.Value.int (1 : Int) (0 : Nat)), (@PySem.Value.int (0 : Int) (0 : Nat)), (@PySem.Value.int (0 : Int) (0 : Nat)), (@PySem.Value.int (3 : Int) (0 : Nat)), (@PySem.Value.ref (158 : Nat)), (@PySem.Value.bool Bool.true), (@PySem.Value.int (181 : Int) (0 : Nat)), (@PySem.Value.ref (159 : Nat)), PySem.Value.none, (@PySem.Value.ref (160 : Nat)), (@PySem.Value.ref (161 : Nat)), (@PySem.Value.ref (162 : Nat)), (@PySem.Value.int (386 : Int) (0 : Nat)), (@PySem.Value.int (63 : Int) (0 : Nat)), (@PySem.Value.str (@PySem.Str.ofString "/claim/cut.py") (387 : Nat))])) (List.toArray []))) ::
(nat_lit 164, (@PySem.Obj.mk (@PySem.Value.type "function") Option.none (@PySem.Data.func (PySem.FuncData.mk (@PySem.Str.ofString "__iter__") (@PySem.Str.ofString "Setting.__iter__") (defArgs s_Setting___iter__) (PySem.FuncBody.stmts (defBody s_Setting___iter__)) (defScope s_Setting___iter__) (3 : Nat) [] PySem.Value.none PySem.Value.none PySem.Value.none (@PySem.Value.str (@PySem.Str.ofString "quietprobes.settings") (307 : Nat)) Option.none (@PySem.Value.ref (163 : Nat)) PySem.Value.none (0 : Nat))) (List.toArray []))) ::
(nat_lit 165, (@PySem.Obj.mk (@PySem.Value.type "tuple") Option.none (@PySem.Data.seq (List.toArray []) (0 : Nat)) (List.toArray []))) ::
(nat_lit 167, (@PySem.Obj.mk (@PySem.Value.type "tuple") Option.none (@PySem.Data.seq (List.toArray [(@PySem.Value.str (@PySem.Str.ofString "self") (392 : Nat)), (@PySem.Value.str (@PySem.Str.ofString "name") (393 : Nat)), (@PySem.Value.str (@PySem.Str.ofString "mode") (394 : Nat))]) (0 : Nat)) (List.toArray []))) ::
(nat_lit 168, (@PySem.Obj.mk (@PySem.Value.type "tuple") Option.none (@PySem.Data.seq (List.toArray []) (0 : Nat)) (List.toArray []))) ::
(nat_lit 170, (@PySem.Obj.mk (@PySem.Value.type "code") Option.none (@PySem.Data.fields (List.toArray [(@PySem.Value.str (@PySem.Str.ofString "__setitem__") (389 : Nat)), (@PySem.Value.str (@PySem.Str.ofString "Setting.__setitem__") (390 : Nat)), (@PySem.Value.str (@PySem.Str.ofString "/claim/cut.py") (391 : Nat)), (@PySem.Value.int (66 : Int) (0 : Nat)), (@PySem.Value.int (3 : Int) (0 : Nat)), (@PySem.Value.int (0 : Int) (0 : Nat)), (@PySem.Value.int (0 : Int) (0 : Nat)), (@PySem.Value.int (3 : Int) (0 : Nat)), (@PySem.Value.ref (165 : Nat)), (@PySem.Value.bool Bool.true), (@PySem.Value.int (181 : Int) (0 : Nat)), (@PySem.Value.ref (166 : Nat)), PySem.Value.none, (@PySem.Value.ref (167 : Nat)), (@PySem.Value.ref (168 : Nat)), (@PySem.Value.ref (169 : Nat)), (@PySem.Value.int (395 : Int) (0 : Nat)), (@PySem.Value.int (66 : Int) (0 : Nat)), (@PySem.Value.str (@PySem.Str.ofString "/claim/cut.py") (396 : Nat))])) (List.toArray []))) ::
(nat_lit 171, (@PySem.Obj.mk (@PySem.Value.type "function") Option.none (@PySem.Data.func (PySem.FuncData.mk (@PySem.Str.ofString "__setitem__") (@PySem.Str.ofString "Setting.__setitem__") (defArgs s_Setting___setitem__) (PySem.FuncBody.stmts (defBody s_Setting___setitem__)) (defScope s_Setting___setitem__) (3 : Nat) [] PySem.Value.none PySem.Value.none PySem.Value.none (@PySem.Value.str (@PySem.Str.ofString "quietprobes.settings") (307 : Nat)) Option.none (@PySem.Value.ref (170 : Nat)) PySem.Value.none (0 : Nat))) (List.toArray []))) ::
(nat_lit 172, (@PySem.Obj.mk (@PySem.Value.type "tuple") Option.none (@PySem.Data.seq (List.toArray []) (0 : Nat)) (List.toArray []))) ::
(nat_lit 174, (@PySem.Obj.mk (@PySem.Value.type "tuple") Option.none (@PySem.Data.seq (List.toArray [(@PySem.Value.str (@PySem.Str.ofString "self") (401 : Nat))]) (0 : Nat)) (List.toArray []))) ::
(nat_lit 175, (@PySem.Obj.mk (@PySem.Value.type "tuple") Option.none (@PySem.Data.seq (List.toArray []) (0 : Nat)) (List.toArray []))) ::
(nat_lit 177, (@PySem.Obj.mk (@PySem.Value.type "code") Option.none (@PySem.Data.fields (List.toArray [(@PySem.Value.str (@PySem.Str.ofString "__len__") (398 : Nat)), (@PySem.Value.str (@PySem.Str.ofString "Setting.__len__") (399 : Nat)), (@PySem.Value.str (@PySem.Str.ofString "/claim/cut.py") (400 : Nat)), (@PySem.Value.int (76 : Int) (0 : Nat)), (@PySem.Value.int (1 : Int) (0 : Nat)), (@PySem.Value.int (0 : Int) (0 : Nat)), (@PySem.Value.int (0 : Int) (0 : Nat)), (@PySem.Value.int (3 : Int) (0 : Nat)), (@PySem.Value.ref (172 : Nat)), (@PySem.Value.bool Bool.true), (@PySem.Value.int (181 : Int) (0 : Nat)), (@PySem.Value.ref (173 : Nat)), PySem.Value.none, (@PySem.Value.ref (174 : Nat)), (@PySem.Value.ref (175 : Nat)), (@PySem.Value.ref (176 : Nat)), (@PySem.Value.int (402 : Int) (0 : Nat)), (@PySem.Value.int (76 : Int) (0 : Nat)), (@PySem.Value.str (@PySem.Str.ofString "/claim/cut.py") (403 : Nat))])) (List.toArray []))) ::
(nat_lit 178, (@PySem.Obj.mk (@PySem.Value.type "function") Option.none (@PySem.Data.func (PySem.FuncData.mk (@PySem.Str.ofString "__len__") (@PySem.Str.ofString "Setting.__len__") (defArgs s_Setting___len__) (PySem.FuncBody.stmts (defBody s_Setting___len__)) (defScope s_Setting___len__) (3 : Nat) [] PySem.Value.none PySem.Value.none PySem.Value.none (@PySem.Value.str (@PySem.Str.ofString "quietprobes.settings") (307 : Nat)) Option.none (@PySem.Value.ref (177 : Nat)) PySem.Value.none (0 : Nat))) (List.toArray []))) ::
(nat_lit 179, (@PySem.Obj.mk (@PySem.Value.type "tuple") Option.none (@PySem.Data.seq (List.toArray []) (0 : Nat)) (List.toArray []))) ::
(nat_lit 181, (@PySem.Obj.mk (@PySem.Value.type "tuple") Option.none (@PySem.Data.seq (List.toArray [(@PySem.Value.str (@PySem.Str.ofString "self") (408 : Nat)), (@PySem.Value.str (@PySem.Str.ofString "name") (409 : Nat))]) (0 : Nat)) (List.toArray []))) ::
(nat_lit 182, (@PySem.Obj.mk (@PySem.Value.type "tuple") Option.none (@PySem.Data.seq (List.toArray []) (0 : Nat)) (List.toArray []))) ::
(nat_lit 184, (@PySem.Obj.mk (@PySem.Value.type "code") Option.none (@PySem.Data.fields (List.toArray [(@PySem.Value.str (@PySem.Str.ofString "__contains__") (405 : Nat)), (@PySem.Value.str (@PySem.Str.ofString "Setting.__contains__") (406 : Nat)), (@PySem.Value.str (@PySem.Str.ofString "/claim/cut.py") (407 : Nat)), (@PySem.Value.int (79 : Int) (0 : Nat)), (@PySem.Value.int (2 : Int) (0 : Nat)), (@PySem.Value.int (0 : Int) (0 : Nat)), (@PySem.Value.int (0 : Int) (0 : Nat)), (@PySem.Value.int (3 : Int) (0 : Nat)), (@PySem.Value.ref (179 : Nat)), (@PySem.Value.bool Bool.true), (@PySem.Value.int (181 : Int) (0 : Nat)), (@PySem.Value.ref (180 : Nat)), PySem.Value.none, (@PySem.Value.ref (181 : Nat)), (@PySem.Value.ref (182 : Nat)), (@PySem.Value.ref (183 : Nat)), (@PySem.Value.int (410 : Int) (0 : Nat)), (@PySem.Value.int (79 : Int) (0 : Nat)), (@PySem.Value.str (@PySem.Str.ofString "/claim/cut.py") (411 : Nat))])) (List.toArray []))) ::
(nat_lit 185, (@PySem.Obj.mk (@PySem.Value.type "function") Option.none (@PySem.Data.func (PySem.FuncData.mk (@PySem.Str.ofString "__contains__") (@PySem.Str.ofString "Setting.__contains__") (defArgs s_Setting___contains__) (PySem.FuncBody.stmts (defBody s_Setting___contains__)) (defScope s_Setting___contains__) (3 : Nat) [] PySem.Value.none PySem.Value.none PySem.Value.none (@PySem.Value.str (@PySem.Str.ofString "quietprobes.settings") (307 : Nat)) Option.none (@PySem.Value.ref (184 : Nat)) PySem.Value.none (0 : Nat))) (List.toArray []))) ::
(nat_lit 186, (@PySem.Obj.mk (@PySem.Value.type "tuple") Option.none (@PySem.Data.seq (List.toArray []) (0 : Nat)) (List.toArray []))) ::
(nat_lit 188, (@PySem.Obj.mk (@PySem.Value.type "tuple") Option.none (@PySem.Data.seq (List.toArray [(@PySem.Value.str (@PySem.Str.ofString "self") (416 : Nat)), (@PySem.Value.str (@PySem.Str.ofString "other") (417 : Nat))]) (0 : Nat)) (List.toArray []))) ::
(nat_lit 189, (@PySem.Obj.mk (@PySem.Value.type "tuple") Option.none (@PySem.Data.seq (List.toArray []) (0 : Nat)) (List.toArray []))) ::
(nat_lit 191, (@PySem.Obj.mk (@PySem.Value.type "code") Option.none (@PySem.Data.fields (List.toArray [(@PySem.Value.str (@PySem.Str.ofString "__eq__") (413 : Nat)), (@PySem.Value.str (@PySem.Str.ofString "Setting.__eq__") (414 : Nat)), (@PySem.Value.str (@PySem.Str.ofString "/claim/cut.py") (415 : Nat)), (@PySem.Value.int (82 : Int) (0 : Nat)), (@PySem.Value.int (2 : Int) (0 : Nat)), (@PySem.Value.int (0 : Int) (0 : Nat)), (@PySem.Value.int (0 : Int) (0 : Nat)), (@PySem.Value.int (3 : Int) (0 : Nat)), (@PySem.Value.ref (186 : Nat)), (@PySem.Value.bool Bool.true), (@PySem.Value.int (181 : Int) (0 : Nat)), (@PySem.Value.ref (187 : Nat)), PySem.Value.none, (@PySem.Value.ref (188 : Nat)), (@PySem.Value.ref (189 : Nat)), (@PySem.Value.ref (190 : Nat)), (@PySem.Value.int (418 : Int) (0 : Nat)), (@PySem.Value.int (82 : Int) (0 : Nat)), (@PySem.Value.str (@PySem.Str.ofString "/claim/cut.py") (419 : Nat))])) (List.toArray []))) ::
(nat_lit 192, (@PySem.Obj.mk (@PySem.Value.type "function") Option.none (@PySem.Data.func (PySem.FuncData.mk (@PySem.Str.ofString "__eq__") (@PySem.Str.ofString "Setting.__eq__") (defArgs s_Setting___eq__) (PySem.FuncBody.stmts (defBody s_Setting___eq__)) (defScope s_Setting___eq__) (3 : Nat) [] PySem.Value.none PySem.Value.none PySem.Value.none (@PySem.Value.str (@PySem.Str.ofString "quietprobes.settings") (307 : Nat)) Option.none (@PySem.Value.ref (191 : Nat)) PySem.Value.none (0 : Nat))) (List.toArray []))) ::
(nat_lit 193, (@PySem.Obj.mk (@PySem.Value.type "tuple") Option.none (@PySem.Data.seq (List.toArray []) (0 : Nat)) (List.toArray []))) ::
(nat_lit 196, (@PySem.Obj.mk (@PySem.Value.type "code") Option.none (@PySem.Data.fields (List.toArray [(@PySem.Value.str (@PySem.Str.ofString "__or__") (421 : Nat)), (@PySem.Value.str (@PySem.Str.ofString "Setting.__or__") (422 : Nat)), (@PySem.Value.str (@PySem.Str.ofString "/claim/cut.py") (423 : Nat)), (@PySem.Value.int (85 : Int) (0 : Nat)), (@PySem.Value.int (2 : Int) (0 : Nat)), (@PySem.Value.int (0 : Int) (0 : Nat)), (@PySem.Value.int (0 : Int) (0 : Nat)), (@PySem.Value.int (3 : Int) (0 : Nat)), (@PySem.Value.ref (193 : Nat)), (@PySem.Value.bool Bool.true), (@PySem.Value.int (181 : Int) (0 : Nat)), (@PySem.Value.ref (194 : Nat)), PySem.Value.none, PySem.Value.none, PySem.Value.none, (@PySem.Value.ref (195 : Nat)), (@PySem.Value.int (424 : Int) (0 : Nat)), (@PySem.Value.int (85 : Int) (0 : Nat)), (@PySem.Value.str (@PySem.Str.ofString "/claim/cut.py") (425 : Nat))])) (List.toArray []))) ::
(nat_lit 197, (@PySem.Obj.mk (@PySem.Value.type "function") Option.none (@PySem.Data.func (PySem.FuncData.mk (@PySem.Str.ofString "__or__") (@PySem.Str.ofString "Setting.__or__") (defArgs s_Setting___or__) (PySem.FuncBody.stmts (defBody s_Setting___or__)) (defScope s_Setting___or__) (3 : Nat) [] PySem.Value.none PySem.Value.none PySem.Value.none (@PySem.Value.str (@PySem.Str.ofString "quietprobes.settings") (307 : Nat)) Option.none (@PySem.Value.ref (196 : Nat)) PySem.Value.none (0 : Nat))) (List.toArray []))) ::
(nat_lit 198, (@PySem.Obj.mk (@PySem.Value.type "tuple") Option.none (@PySem.Data.seq (List.toArray []) (0 : Nat)) (List.toArray []))) ::
(nat_lit 200, (@PySem.Obj.mk (@PySem.Value.type "tuple") Option.none (@PySem.Data.seq (List.toArray [(@PySem.Value.str (@PySem.Str.ofString "self") (430 : Nat)), (@PySem.Value.str (@PySem.Str.ofString "other") (431 : Nat)), (@PySem.Value.str (@PySem.Str.ofString "name") (432 : Nat))]) (0 : Nat)) (List.toArray []))) ::
(nat_lit 201, (@PySem.Obj.mk (@PySem.Value.type "tuple") Option.none (@PySem.Data.seq (List.toArray []) (0 : Nat)) (List.toArray []))) ::
(nat_lit 203, (@PySem.Obj.mk (@PySem.Value.type "code") Option.none (@PySem.Data.fields (List.toArray [(@PySem.Value.str (@PySem.Str.ofString "__ior__") (427 : Nat)), (@PySem.Value.str (@PySem.Str.ofString "Setting.__ior__") (428 : Nat)), (@PySem.Value.str (@PySem.Str.ofString "/claim/cut.py") (429 : Nat)), (@PySem.Value.int (89 : Int) (0 : Nat)), (@PySem.Value.int (2 : Int) (0 : Nat)), (@PySem.Value.int (0 : Int) (0 : Nat)), (@PySem.Value.int (0 : Int) (0 : Nat)), (@PySem.Value.int (3 : Int) (0 : Nat)), (@PySem.Value.ref (198 : Nat)), (@PySem.Value.bool Bool.true), (@PySem.Value.int (181 : Int) (0 : Nat)), (@PySem.Value.ref (199 : Nat)), PySem.Value.none, (@PySem.Value.ref (200 : Nat)), (@PySem.Value.ref (201 : Nat)), (@PySem.Value.ref (202 : Nat)), (@PySem.Value.int (433 : Int) (0 : Nat)), (@PySem.Value.int (89 : Int) (0 : Nat)), (@PySem.Value.str (@PySem.Str.ofString "/claim/cut.py") (434 : Nat))])) (List.toArray []))) ::
(nat_lit 204, (@PySem.Obj.mk (@PySem.Value.type "function") Option.none (@PySem.Data.func (PySem.FuncData.mk (@PySem.Str.ofString "__ior__") (@PySem.Str.ofString "Setting.__ior__") (defArgs s_Setting___ior__) (PySem.FuncBody.stmts (defBody s_Setting___ior__)) (defScope s_Setting___ior__) (3 : Nat) [] PySem.Value.none PySem.Value.none PySem.Value.none (@PySem.Value.str (@PySem.Str.ofString "quietprobes.settings") (307 : Nat)) Option.none (@PySem.Value.ref (203 : Nat)) PySem.Value.none (0 : Nat))) (List.toArray []))) ::
(nat_lit 205, (@PySem.Obj.mk (@PySem.Value.type "tuple") Option.none (@PySem.Data.seq (List.toArray []) (0 : Nat)) (List.toArray []))) ::
(nat_lit 208, (@PySem.Obj.mk (@PySem.Value.type "code") Option.none (@PySem.Data.fields (List.toArray [(@PySem.Value.str (@PySem.Str.ofString "__and__") (436 : Nat)), (@PySem.Value.str (@PySem.Str.ofString "Setting.__and__") (437 : Nat)), (@PySem.Value.str (@PySem.Str.ofString "/claim/cut.py") (438 : Nat)), (@PySem.Value.int (95 : Int) (0 : Nat)), (@PySem.Value.int (2 : Int) (0 : Nat)), (@PySem.Value.int (0 : Int) (0 : Nat)), (@PySem.Value.int (0 : Int) (0 : Nat)), (@PySem.Value.int (3 : Int) (0 : Nat)), (@PySem.Value.ref (205 : Nat)), (@PySem.Value.bool Bool.true), (@PySem.Value.int (181 : Int) (0 : Nat)), (@PySem.Value.ref (206 : Nat)), PySem.Value.none, PySem.Value.none, PySem.Value.none, (@PySem.Value.ref (207 : Nat)), (@PySem.Value.int (439 : Int) (0 : Nat)), (@PySem.Value.int (95 : Int) (0 : Nat)), (@PySem.Value.str (@PySem.Str.ofString "/claim/cut.py") (440 : Nat))])) (List.toArray []))) ::
(nat_lit 209, (@PySem.Obj.mk (@PySem.Value.type "function") Option.none (@PySem.Data.func (PySem.FuncData.mk (@PySem.Str.ofString "__and__") (@PySem.Str.ofString "Setting.__and__") (defArgs s_Setting___and__) (PySem.FuncBody.stmts (defBody s_Setting___and__)) (defScope s_Setting___and__) (3 : Nat) [] PySem.Value.none PySem.Value.none PySem.Value.none (@PySem.Value.str (@PySem.Str.ofString "quietprobes.settings") (307 : Nat)) Option.none (@PySem.Value.ref (208 : Nat)) PySem.Value.none (0 : Nat))) (List.toArray []))) ::
(nat_lit 210, (@PySem.Obj.mk (@PySem.Value.type "tuple") Option.none (@PySem.Data.seq (List.toArray []) (0 : Nat)) (List.toArray []))) ::
(nat_lit 213, (@PySem.Obj.mk (@PySem.Value.type "code") Option.none (@PySem.Data.fields (List.toArray [(@PySem.Value.str (@PySem.Str.ofString "__sub__") (442 : Nat)), (@PySem.Value.str (@PySem.Str.ofString "Setting.__sub__") (443 : Nat)), (@PySem.Value.str (@PySem.Str.ofString "/claim/cut.py") (444 : Nat)), (@PySem.Value.int (99 : Int) (0 : Nat)), (@PySem.Value.int (2 : Int) (0 : Nat)), (@PySem.Value.int (0 : Int) (0 : Nat)), (@PySem.Value.int (0 : Int) (0 : Nat)), (@PySem.Value.int (3 : Int) (0 : Nat)), (@PySem.Value.ref (210 : Nat)), (@PySem.Value.bool Bool.true), (@PySem.Value.int (181 : Int) (0 : Nat)), (@PySem.Value.ref (211 : Nat)), PySem.Value.none, PySem.Value.none, PySem.Value.none, (@PySem.Value.ref (212 : Nat)), (@PySem.Value.int (445 : Int) (0 : Nat)), (@PySem.Value.int (99 : Int) (0 : Nat)), (@PySem.Value.str (@PySem.Str.ofString "/claim/cut.py") (446 : Nat))])) (List.toArray []))) ::
(nat_lit 214, (@PySem.Obj.mk (@PySem.Value.type "function") Option.none (@PySem.Data.func (PySem.FuncData.mk (@PySem.Str.ofString "__sub__") (@PySem.Str.ofString "Setting.__sub__") (defArgs s_Setting___sub__) (PySem.FuncBody.stmts (defBody s_Setting___sub__)) (defScope s_Setting___sub__) (3 : Nat) [] PySem.Value.none PySem.Value.none PySem.Value.none (@PySem.Value.str (@PySem.Str.ofString "quietprobes.settings") (307 : Nat)) Option.none (@PySem.Value.ref (213 : Nat)) PySem.Value.none (0 : Nat))) (List.toArray []))) ::
(nat_lit 215, (@PySem.Obj.mk (@PySem.Value.type "tuple") Option.none (@PySem.Data.seq (List.toArray []) (0 : Nat)) (List.toArray []))) ::
(nat_lit 218, (@PySem.Obj.mk (@PySem.Value.type "code") Option.none (@PySem.Data.fields (List.toArray [(@PySem.Value.str (@PySem.Str.ofString "__xor__") (448 : Nat)), (@PySem.Value.str (@PySem.Str.ofString "Setting.__xor__") (449 : Nat)), (@PySem.Value.str (@PySem.Str.ofString "/claim/cut.py") (450 : Nat)), (@PySem.Value.int (102 : Int) (0 : Nat)), (@PySem.Value.int (2 : Int) (0 : Nat)), (@PySem.Value.int (0 : Int) (0 : Nat)), (@PySem.Value.int (0 : Int) (0 : Nat)), (@PySem.Value.int (3 : Int) (0 : Nat)), (@PySem.Value.ref (215 : Nat)), (@PySem.Value.bool Bool.true), (@PySem.Value.int (181 : Int) (0 : Nat)), (@PySem.Value.ref (216 : Nat)), PySem.Value.none, PySem.Value.none, PySem.Value.none, (@PySem.Value.ref (217 : Nat)), (@PySem.Value.int (451 : Int) (0 : Nat)), (@PySem.Value.int (102 : Int) (0 : Nat)), (@PySem.Value.str (@PySem.Str.ofString "/claim/cut.py") (452 : Nat))])) (List.toArray []))) ::
(nat_lit 219, (@PySem.Obj.mk (@PySem.Value.type "function") Option.none (@PySem.Data.func (PySem.FuncData.mk (@PySem.Str.ofString "__xor__") (@PySem.Str.ofString "Setting.__xor__") (defArgs s_Setting___xor__) (PySem.FuncBody.stmts (defBody s_Setting___xor__)) (defScope s_Setting___xor__) (3 : Nat) [] PySem.Value.none PySem.Value.none PySem.Value.none (@PySem.Value.str (@PySem.Str.ofString "quietprobes.settings") (307 : Nat)) Option.none (@PySem.Value.ref (218 : Nat)) PySem.Value.none (0 : Nat))) (List.toArray []))) ::
(nat_lit 220, (@PySem.Obj.mk (@PySem.Value.type "tuple") Option.none (@PySem.Data.seq (List.toArray []) (0 : Nat)) (List.toArray []))) ::
(nat_lit 222, (@PySem.Obj.mk (@PySem.Value.type "tuple") Option.none (@PySem.Data.seq (List.toArray [(@PySem.Value.str (@PySem.Str.ofString "self") (457 : Nat))]) (0 : Nat)) (List.toArray []))) ::
(nat_lit 223, (@PySem.Obj.mk (@PySem.Value.type "tuple") Option.none (@PySem.Data.seq (List.toArray []) (0 : Nat)) (List.toArray []))) ::
(nat_lit 225, (@PySem.Obj.mk (@PySem.Value.type "code") Option.none (@PySem.Data.fields (List.toArray [(@PySem.Value.str (@PySem.Str.ofString "names") (454 : Nat)), (@PySem.Value.str (@PySem.Str.ofString "Setting.names") (455 : Nat)), (@PySem.Value.str (@PySem.Str.ofString "/claim/cut.py") (456 : Nat)), (@PySem.Value.int (106 : Int) (0 : Nat)), (@PySem.Value.int (1 : Int) (0 : Nat)), (@PySem.Value.int (0 : Int) (0 : Nat)), (@PySem.Value.int (0 : Int) (0 : Nat)), (@PySem.Value.int (3 : Int) (0 : Nat)), (@PySem.Value.ref (220 : Nat)), (@PySem.Value.bool Bool.true), (@PySem.Value.int (181 : Int) (0 : Nat)), (@PySem.Value.ref (221 : Nat)), PySem.Value.none, (@PySem.Value.ref (222 : Nat)), (@PySem.Value.ref (223 : Nat)), (@PySem.Value.ref (224 : Nat)), (@PySem.Value.int (458 : Int) (0 : Nat)), (@PySem.Value.int (106 : Int) (0 : Nat)), (@PySem.Value.str (@PySem.Str.ofString "/claim/cut.py") (459 : Nat))])) (List.toArray []))) ::
(nat_lit 226, (@PySem.Obj.mk (@PySem.Value.type "function") Option.none (@PySem.Data.func (PySem.FuncData.mk (@PySem.Str.ofString "names") (@PySem.Str.ofString "Setting.names") (defArgs s_Setting_names) (PySem.FuncBody.stmts (defBody s_Setting_names)) (defScope s_Setting_names) (3 : Nat) [] PySem.Value.none PySem.Value.none PySem.Value.none (@PySem.Value.str (@PySem.Str.ofString "quietprobes.settings") (307 : Nat)) Option.none (@PySem.Value.ref (225 : Nat)) PySem.Value.none (0 : Nat))) (List.toArray []))) ::
(nat_lit 227, (@PySem.Obj.mk (@PySem.Value.type "tuple") Option.none (@PySem.Data.seq (List.toArray []) (0 : Nat)) (List.toArray []))) ::
(nat_lit 229, (@PySem.Obj.mk (@PySem.Value.type "tuple") Option.none (@PySem.Data.seq (List.toArray [(@PySem.Value.str (@PySem.Str.ofString "self") (464 : Nat)), (@PySem.Value.str (@PySem.Str.ofString "other") (465 : Nat))]) (0 : Nat)) (List.toArray []))) ::
(nat_lit 230, (@PySem.Obj.mk (@PySem.Value.type "tuple") Option.none (@PySem.Data.seq (List.toArray []) (0 : Nat)) (List.toArray []))) ::
(nat_lit 232, (@PySem.Obj.mk (@PySem.Value.type "code") Option.none (@PySem.Data.fields (List.toArray [(@PySem.Value.str (@PySem.Str.ofString "is_within") (461 : Nat)), (@PySem.Value.str (@PySem.Str.ofString "Setting.is_within") (462 : Nat)), (@PySem.Value.str (@PySem.Str.ofString "/claim/cut.py") (463 : Nat)), (@PySem.Value.int (109 : Int) (0 : Nat)), (@PySem.Value.int (2 : Int) (0 : Nat)), (@PySem.Value.int (0 : Int) (0 : Nat)), (@PySem.Value.int (0 : Int) (0 : Nat)), (@PySem.Value.int (3 : Int) (0 : Nat)), (@PySem.Value.ref (227 : Nat)), (@PySem.Value.bool Bool.true), (@PySem.Value.int (181 : Int) (0 : Nat)), (@PySem.Value.ref (228 : Nat)), PySem.Value.none, (@PySem.Value.ref (229 : Nat)), (@PySem.Value.ref (230 : Nat)), (@PySem.Value.ref (231 : Nat)), (@PySem.Value.int (466 : Int) (0 : Nat)), (@PySem.Value.int (109 : Int) (0 : Nat)), (@PySem.Value.str (@PySem.Str.ofString "/claim/cut.py") (467 : Nat))])) (List.toArray []))) ::
(nat_lit 233, (@PySem.Obj.mk (@PySem.Value.type "function") Option.none (@PySem.Data.func (PySem.FuncData.mk (@PySem.Str.ofString "is_within") (@PySem.Str.ofString "Setting.is_within") (defArgs s_Setting_is_within) (PySem.FuncBody.stmts (defBody s_Setting_is_within)) (defScope s_Setting_is_within) (3 : Nat) [] PySem.Value.none PySem.Value.none PySem.Value.none (@PySem.Value.str (@PySem.Str.ofString "quietprobes.settings") (307 : Nat)) Option.none (@PySem.Value.ref (232 : Nat)) PySem.Value.none (0 : Nat))) (List.toArray []))) ::
(nat_lit 234, (@PySem.Obj.mk (@PySem.Value.type "tuple") Option.none (@PySem.Data.seq (List.toArray []) (0 : Nat)) (List.toArray []))) ::
(nat_lit 236, (@PySem.Obj.mk (@PySem.Value.type "tuple") Option.none (@PySem.Data.seq (List.toArray [(@PySem.Value.str (@PySem.Str.ofString "self") (472 : Nat))]) (0 : Nat)) (List.toArray []))) ::
(nat_lit 237, (@PySem.Obj.mk (@PySem.Value.type "tuple") Option.none (@PySem.Data.seq (List.toArray []) (0 : Nat)) (List.toArray []))) ::
(nat_lit 239, (@PySem.Obj.mk (@PySem.Value.type "code") Option.none (@PySem.Data.fields (List.toArray [(@PySem.Value.str (@PySem.Str.ofString "duplicate") (469 : Nat)), (@PySem.Value.str (@PySem.Str.ofString "Setting.duplicate") (470 : Nat)), (@PySem.Value.str (@PySem.Str.ofString "/claim/cut.py") (471 : Nat)), (@PySem.Value.int (112 : Int) (0 : Nat)), (@PySem.Value.int (1 : Int) (0 : Nat)), (@PySem.Value.int (0 : Int) (0 : Nat)), (@PySem.Value.int (0 : Int) (0 : Nat)), (@PySem.Value.int (3 : Int) (0 : Nat)), (@PySem.Value.ref (234 : Nat)), (@PySem.Value.bool Bool.true), (@PySem.Value.int (181 : Int) (0 : Nat)), (@PySem.Value.ref (235 : Nat)), PySem.Value.none, (@PySem.Value.ref (236 : Nat)), (@PySem.Value.ref (237 : Nat)), (@PySem.Value.ref (238 : Nat)), (@PySem.Value.int (473 : Int) (0 : Nat)), (@PySem.Value.int (112 : Int) (0 : Nat)), (@PySem.Value.str (@PySem.Str.ofString "/claim/cut.py") (474 : Nat))])) (List.toArray []))) ::
(nat_lit 240, (@PySem.Obj.mk (@PySem.Value.type "function") Option.none (@PySem.Data.func (PySem.FuncData.mk (@PySem.Str.ofString "duplicate") (@PySem.Str.ofString "Setting.duplicate") (defArgs s_Setting_duplicate) (PySem.FuncBody.stmts (defBody s_Setting_duplicate)) (defScope s_Setting_duplicate) (3 : Nat) [] PySem.Value.none PySem.Value.none PySem.Value.none (@PySem.Value.str (@PySem.Str.ofString "quietprobes.settings") (307 : Nat)) Option.none (@PySem.Value.ref (239 : Nat)) PySem.Value.none (0 : Nat))) (List.toArray []))) ::
(nat_lit 241, (@PySem.Obj.mk (@PySem.Value.type "dict") Option.none (@PySem.Data.dict (List.toArray [(@PySem.DictEntry.mk (@PySem.PyData.keyHash P (@PySem.Str.ofString "mode")) (@PySem.Value.str (@PySem.Str.ofString "mode") (477 : Nat)) (@PySem.Value.str (@PySem.Str.ofString "on") (476 : Nat)))]) (1 : Nat)) (List.toArray []))) ::
(nat_lit 242, (@PySem.Obj.mk (@PySem.Value.type "tuple") Option.none (@PySem.Data.seq (List.toArray []) (0 : Nat)) (List.toArray []))) ::
(nat_lit 244, (@PySem.Obj.mk (@PySem.Value.type "tuple") Option.none (@PySem.Data.seq (List.toArray [(@PySem.Value.str (@PySem.Str.ofString "program") (481 : Nat)), (@PySem.Value.str (@PySem.Str.ofString "mode") (482 : Nat))]) (0 : Nat)) (List.toArray []))) ::
(nat_lit 245, (@PySem.Obj.mk (@PySem.Value.type "tuple") Option.none (@PySem.Data.seq (List.toArray []) (0 : Nat)) (List.toArray []))) ::
(nat_lit 247, (@PySem.Obj.mk (@PySem.Value.type "code") Option.none (@PySem.Data.fields (List.toArray [(@PySem.Value.str (@PySem.Str.ofString "every") (478 : Nat)), (@PySem.Value.str (@PySem.Str.ofString "Setting.every") (479 : Nat)), (@PySem.Value.str (@PySem.Str.ofString "/claim/cut.py") (480 : Nat)), (@PySem.Value.int (115 : Int) (0 : Nat)), (@PySem.Value.int (1 : Int) (0 : Nat)), (@PySem.Value.int (0 : Int) (0 : Nat)), (@PySem.Value.int (1 : Int) (0 : Nat)), (@PySem.Value.int (3 : Int) (0 : Nat)), (@PySem.Value.ref (242 : Nat)), (@PySem.Value.bool Bool.true), (@PySem.Value.int (181 : Int) (0 : Nat)), (@PySem.Value.ref (243 : Nat)), PySem.Value.none, (@PySem.Value.ref (244 : Nat)), (@PySem.Value.ref (245 : Nat)), (@PySem.Value.ref (246 : Nat)), (@PySem.Value.int (483 : Int) (0 : Nat)), (@PySem.Value.int (115 : Int) (0 : Nat)), (@PySem.Value.str (@PySem.Str.ofString "/claim/cut.py") (484 : Nat))])) (List.toArray []))) ::
(nat_lit 248, (@PySem.Obj.mk (@PySem.Value.type "function") Option.none (@PySem.Data.func (PySem.FuncData.mk (@PySem.Str.ofString "every") (@PySem.Str.ofString "Setting.every") (defArgs s_Setting_every) (PySem.FuncBody.stmts (defBody s_Setting_every)) (defScope s_Setting_every) (3 : Nat) [] PySem.Value.none (@PySem.Value.ref (241 : Nat)) PySem.Value.none (@PySem.Value.str (@PySem.Str.ofString "quietprobes.settings") (307 : Nat)) (Option.some (251 : Nat)) (@PySem.Value.ref (247 : Nat)) PySem.Value.none (0 : Nat))) (List.toArray []))) ::
(nat_lit 249, (@PySem.Obj.mk (@PySem.Value.type "dict") Option.none (@PySem.Data.dict (List.toArray [(@PySem.DictEntry.mk (@PySem.PyData.keyHash P (@PySem.Str.ofString "__module__")) (@PySem.Value.str (@PySem.Str.ofString "__module__") (486 : Nat)) (@PySem.Value.str (@PySem.Str.ofString "quietprobes.settings") (307 : Nat))), (@PySem.DictEntry.mk (@PySem.PyData.keyHash P (@PySem.Str.ofString "__name__")) (@PySem.Value.str (@PySem.Str.ofString "__name__") (489 : Nat)) (@PySem.Value.str (@PySem.Str.ofString "every") (488 : Nat))), (@PySem.DictEntry.mk (@PySem.PyData.keyHash P (@PySem.Str.ofString "__qualname__")) (@PySem.Value.str (@PySem.Str.ofString "__qualname__") (492 : Nat)) (@PySem.Value.str (@PySem.Str.ofString "Setting.every") (491 : Nat))), (@PySem.DictEntry.mk (@PySem.PyData.keyHash P (@PySem.Str.ofString "__doc__")) (@PySem.Value.str (@PySem.Str.ofString "__doc__") (494 : Nat)) PySem.Value.none), (@PySem.DictEntry.mk (@PySem.PyData.keyHash P (@PySem.Str.ofString "__annotations__")) (@PySem.Value.str (@PySem.Str.ofString "__annotations__") (496 : Nat)) (@PySem.Value.ref (251 : Nat)))]) (5 : Nat)) (List.toArray []))) ::
(nat_lit 250, (@PySem.Obj.mk (@PySem.Value.type "staticmethod") (Option.some (249 : Nat)) (@PySem.Data.fields (List.toArray [(@PySem.Value.ref (248 : Nat)), (@PySem.Value.bool Bool.false)])) (List.toArray []))) ::
(nat_lit 251, (@PySem.Obj.mk (@PySem.Value.type "dict") Option.none (@PySem.Data.dict (List.toArray []) (0 : Nat)) (List.toArray []))) ::
(nat_lit 252, (@PySem.Obj.mk (@PySem.Value.type "tuple") Option.none (@PySem.Data.seq (List.toArray [(@PySem.Value.str (@PySem.Str.ofString "chosen") (498 : Nat))]) (0 : Nat)) (List.toArray []))) ::
(nat_lit 253, (@PySem.Obj.mk (@PySem.Value.type "dict") Option.none (@PySem.Data.dict (List.toArray [(@PySem.DictEntry.mk (@PySem.PyData.keyHash P (@PySem.Str.ofString "__module__")) (@PySem.Value.str (@PySem.Str.ofString "__module__") (356 : Nat)) (@PySem.Value.str (@PySem.Str.ofString "quietprobes.settings") (307 : Nat))), (@PySem.DictEntry.mk (@PySem.PyData.keyHash P (@PySem.Str.ofString "__firstlineno__")) (@PySem.Value.str (@PySem.Str.ofString "__firstlineno__") (360 : Nat)) (@PySem.Value.int (43 : Int) (359 : Nat))), (@PySem.DictEntry.mk (@PySem.PyData.keyHash P (@PySem.Str.ofString "OUT")) (@PySem.Value.str (@PySem.Str.ofString "OUT") (362 : Nat)) (@PySem.Value.str (@PySem.Str.ofString "out") (361 : Nat))), (@PySem.DictEntry.mk (@PySem.PyData.keyHash P (@PySem.Str.ofString "DEAF")) (@PySem.Value.str (@PySem.Str.ofString "DEAF") (364 : Nat)) (@PySem.Value.str (@PySem.Str.ofString "deaf") (363 : Nat))), (@PySem.DictEntry.mk (@PySem.PyData.keyHash P (@PySem.Str.ofString "ON")) (@PySem.Value.str (@PySem.Str.ofString "ON") (366 : Nat)) (@PySem.Value.str (@PySem.Str.ofString "on") (365 : Nat))), (@PySem.DictEntry.mk (@PySem.PyData.keyHash P (@PySem.Str.ofString "__init__")) (@PySem.Value.str (@PySem.Str.ofString "__init__") (373 : Nat)) (@PySem.Value.ref (150 : Nat))), (@PySem.DictEntry.mk (@PySem.PyData.keyHash P (@PySem.Str.ofString "__getitem__")) (@PySem.Value.str (@PySem.Str.ofString "__getitem__") (381 : Nat)) (@PySem.Value.ref (157 : Nat))), (@PySem.DictEntry.mk (@PySem.PyData.keyHash P (@PySem.Str.ofString "__iter__")) (@PySem.Value.str (@PySem.Str.ofString "__iter__") (388 : Nat)) (@PySem.Value.ref (164 : Nat))), (@PySem.DictEntry.mk (@PySem.PyData.keyHash P (@PySem.Str.ofString "__setitem__")) (@PySem.Value.str (@PySem.Str.ofString "__setitem__") (397 : Nat)) (@PySem.Value.ref (171 : Nat))), (@PySem.DictEntry.mk (@PySem.PyData.keyHash P (@PySem.Str.ofString "__len__")) (@PySem.Value.str (@PySem.Str.ofString "__len__") (404 : Nat)) (@PySem.Value.ref (178 : Nat))), (@PySem.DictEntry.mk (@PySem.PyData.keyHash P (@PySem.Str.ofString "__contains__")) (@PySem.Value.str (@PySem.Str.ofString "__contains__") (412 : Nat)) (@PySem.Value.ref (185 : Nat))), (@PySem.DictEntry.mk (@PySem.PyData.keyHash P (@PySem.Str.ofString "__eq__")) (@PySem.Value.str (@PySem.Str.ofString "__eq__") (420 : Nat)) (@PySem.Value.ref (192 : Nat))), (@PySem.DictEntry.mk (@PySem.PyData.keyHash P (@PySem.Str.ofString "__or__")) (@PySem.Value.str (@PySem.Str.ofString "__or__") (426 : Nat)) (@PySem.Value.ref (197 : Nat))), (@PySem.DictEntry.mk (@PySem.PyData.keyHash P (@PySem.Str.ofString "__ior__")) (@PySem.Value.str (@PySem.Str.ofString "__ior__") (435 : Nat)) (@PySem.Value.ref (204 : Nat))), (@PySem.DictEntry.mk (@PySem.PyData.keyHash P (@PySem.Str.ofString "__and__")) (@PySem.Value.str (@PySem.Str.ofString "__and__") (441 : Nat)) (@PySem.Value.ref (209 : Nat))), (@PySem.DictEntry.mk (@PySem.PyData.keyHash P (@PySem.Str.ofString "__sub__")) (@PySem.Value.str (@PySem.Str.ofString "__sub__") (447 : Nat)) (@PySem.Value.ref (214 : Nat))), (@PySem.DictEntry.mk (@PySem.PyData.keyHash P (@PySem.Str.ofString "__xor__")) (@PySem.Value.str (@PySem.Str.ofString "__xor__") (453 : Nat)) (@PySem.Value.ref (219 : Nat))), (@PySem.DictEntry.mk (@PySem.PyData.keyHash P (@PySem.Str.ofString "names")) (@PySem.Value.str (@PySem.Str.ofString "names") (460 : Nat)) (@PySem.Value.ref (226 : Nat))), (@PySem.DictEntry.mk (@PySem.PyData.keyHash P (@PySem.Str.ofString "is_within")) (@PySem.Value.str (@PySem.Str.ofString "is_within") (468 : Nat)) (@PySem.Value.ref (233 : Nat))), (@PySem.DictEntry.mk (@PySem.PyData.keyHash P (@PySem.Str.ofString "duplicate")) (@PySem.Value.str (@PySem.Str.ofString "duplicate") (475 : Nat)) (@PySem.Value.ref (240 : Nat))), (@PySem.DictEntry.mk (@PySem.PyData.keyHash P (@PySem.Str.ofString "every")) (@PySem.Value.str (@PySem.Str.ofString "every") (497 : Nat)) (@PySem.Value.ref (250 : Nat))), (@PySem.DictEntry.mk (@PySem.PyData.keyHash P (@PySem.Str.ofString "__static_attributes__")) (@PySem.Value.str (@PySem.Str.ofString "__static_attributes__") (499 : Nat)) (@PySem.Value.ref (252 : Nat))), (@PySem.DictEntry.mk (@PySem.PyData.keyHash P (@PySem.Str.ofString "__dict__")) (@PySem.Value.str (@PySem.Str.ofString "__dict__") (501 : Nat)) (@PySem.Value.ref (255 : Nat))), (@PySem.DictEntry.mk (@PySem.PyData.keyHash P (@PySem.Str.ofString "__weakref__")) (@PySem.Value.str (@PySem.Str.ofString "__weakref__") (503 : Nat)) (@PySem.Value.ref (256 : Nat))), (@PySem.DictEntry.mk (@PySem.PyData.keyHash P (@PySem.Str.ofString "__doc__")) (@PySem.Value.str (@PySem.Str.ofString "__doc__") (504 : Nat)) PySem.Value.none), (@PySem.DictEntry.mk (@PySem.PyData.keyHash P (@PySem.Str.ofString "__hash__")) (@PySem.Value.str (@PySem.Str.ofString "__hash__") (505 : Nat)) PySem.Value.none)]) (5 : Nat)) (List.toArray []))) ::
(nat_lit 254, (@PySem.Obj.mk (@PySem.Value.type "type") Option.none (@PySem.Data.cls (@PySem.ClassData.mk (@PySem.Str.ofString "Setting") [(@PySem.Value.type "object")] [(@PySem.Value.ref (254 : Nat)), (@PySem.Value.type "object")] (253 : Nat) (@PySem.Str.ofString "Setting") Bool.true [] [] Bool.false Option.none Bool.false)) (List.toArray [Option.none, Option.none, (Option.some (@PySem.Value.str (@PySem.Str.ofString "Setting") (349 : Nat))), (Option.some (@PySem.Value.str (@PySem.Str.ofString "Setting") (357 : Nat))), (Option.some (@PySem.Value.builtin "object.__new__")), (Option.some (@PySem.Value.bool Bool.true))]))) ::
(nat_lit 255, (@PySem.Obj.mk (@PySem.Value.type "getset_descriptor") Option.none (@PySem.Data.fields (List.toArray [(@PySem.Value.str (@PySem.Str.ofString "__dict__") (500 : Nat)), (@PySem.Value.ref (254 : Nat)), (@PySem.Value.builtin "function.__dict__"), (@PySem.Value.builtin "function.__dict__#set")])) (List.toArray []))) ::
(nat_lit 256, (@PySem.Obj.mk (@PySem.Value.type "getset_descriptor") Option.none (@PySem.Data.fields (List.toArray [(@PySem.Value.str (@PySem.Str.ofString "__weakref__") (502 : Nat)), (@PySem.Value.ref (254 : Nat)), (@PySem.Value.builtin "ExceptionGroup.__weakref__"), PySem.Value.none])) (List.toArray []))) ::
(nat_lit 259, (@PySem.Obj.mk (@PySem.Value.type "tuple") Option.none (@PySem.Data.seq (List.toArray []) (0 : Nat)) (List.toArray []))) ::
(nat_lit 262, (@PySem.Obj.mk (@PySem.Value.type "code") Option.none (@PySem.Data.fields (List.toArray [(@PySem.Value.str (@PySem.Str.ofString "_law_is_name") (510 : Nat)), (@PySem.Value.str (@PySem.Str.ofString "_law_is_name") (511 : Nat)), (@PySem.Value.str (@PySem.Str.ofString "/claim/cut.py") (512 : Nat)), (@PySem.Value.int (119 : Int) (0 : Nat)), (@PySem.Value.int (1 : Int) (0 : Nat)), (@PySem.Value.int (0 : Int) (0 : Nat)), (@PySem.Value.int (0 : Int) (0 : Nat)), (@PySem.Value.int (3 : Int) (0 : Nat)), (@PySem.Value.ref (259 : Nat)), (@PySem.Value.bool Bool.true), (@PySem.Value.int (181 : Int) (0 : Nat)), (@PySem.Value.ref (260 : Nat)), PySem.Value.none, PySem.Value.none, PySem.Value.none, (@PySem.Value.ref (261 : Nat)), (@PySem.Value.int (513 : Int) (0 : Nat)), (@PySem.Value.int (119 : Int) (0 : Nat)), (@PySem.Value.str (@PySem.Str.ofString "/claim/cut.py") (514 : Nat))])) (List.toArray []))) ::
(nat_lit 263, (@PySem.Obj.mk (@PySem.Value.type "function") Option.none (@PySem.Data.func (PySem.FuncData.mk (@PySem.Str.ofString "_law_is_name") (@PySem.Str.ofString "_law_is_name") (defArgs s__law_is_name) (PySem.FuncBody.stmts (defBody s__law_is_name)) (defScope s__law_is_name) (3 : Nat) [] PySem.Value.none PySem.Value.none PySem.Value.none (@PySem.Value.str (@PySem.Str.ofString "law_quietprobes_k32_settings_refused") (508 : Nat)) Option.none (@PySem.Value.ref (262 : Nat)) PySem.Value.none (0 : Nat))) (List.toArray []))) ::
(nat_lit 264, (@PySem.Obj.mk (@PySem.Value.type "tuple") Option.none (@PySem.Data.seq (List.toArray []) (0 : Nat)) (List.toArray []))) ::
(nat_lit 266, (@PySem.Obj.mk (@PySem.Value.type "tuple") Option.none (@PySem.Data.seq (List.toArray [(@PySem.Value.str (@PySem.Str.ofString "_law_on") (519 : Nat)), (@PySem.Value.str (@PySem.Str.ofString "_law_faint") (520 : Nat))]) (0 : Nat)) (List.toArray []))) ::
(nat_lit 267, (@PySem.Obj.mk (@PySem.Value.type "tuple") Option.none (@PySem.Data.seq (List.toArray []) (0 : Nat)) (List.toArray []))) ::
(nat_lit 269, (@PySem.Obj.mk (@PySem.Value.type "code") Option.none (@PySem.Data.fields (List.toArray [(@PySem.Value.str (@PySem.Str.ofString "_law_made") (516 : Nat)), (@PySem.Value.str (@PySem.Str.ofString "_law_made") (517 : Nat)), (@PySem.Value.str (@PySem.Str.ofString "/claim/cut.py") (518 : Nat)), (@PySem.Value.int (123 : Int) (0 : Nat)), (@PySem.Value.int (2 : Int) (0 : Nat)), (@PySem.Value.int (0 : Int) (0 : Nat)), (@PySem.Value.int (0 : Int) (0 : Nat)), (@PySem.Value.int (3 : Int) (0 : Nat)), (@PySem.Value.ref (264 : Nat)), (@PySem.Value.bool Bool.true), (@PySem.Value.int (181 : Int) (0 : Nat)), (@PySem.Value.ref (265 : Nat)), PySem.Value.none, (@PySem.Value.ref (266 : Nat)), (@PySem.Value.ref (267 : Nat)), (@PySem.Value.ref (268 : Nat)), (@PySem.Value.int (521 : Int) (0 : Nat)), (@PySem.Value.int (123 : Int) (0 : Nat)), (@PySem.Value.str (@PySem.Str.ofString "/claim/cut.py") (522 : Nat))])) (List.toArray []))) ::
(nat_lit 270, (@PySem.Obj.mk (@PySem.Value.type "function") Option.none (@PySem.Data.func (PySem.FuncData.mk (@PySem.Str.ofString "_law_made") (@PySem.Str.ofString "_law_made") (defArgs s__law_made) (PySem.FuncBody.stmts (defBody s__law_made)) (defScope s__law_made) (3 : Nat) [] PySem.Value.none PySem.Value.none PySem.Value.none (@PySem.Value.str (@PySem.Str.ofString "law_quietprobes_k32_settings_refused") (508 : Nat)) Option.none (@PySem.Value.ref (269 : Nat)) PySem.Value.none (0 : Nat))) (List.toArray []))) ::
(nat_lit 271, (@PySem.Obj.mk (@PySem.Value.type "tuple") Option.none (@PySem.Data.seq (List.toArray []) (0 : Nat)) (List.toArray []))) ::
(nat_lit 273, (@PySem.Obj.mk (@PySem.Value.type "tuple") Option.none (@PySem.Data.seq (List.toArray [(@PySem.Value.str (@PySem.Str.ofString "_law_pool_here") (527 : Nat)), (@PySem.Value.str (@PySem.Str.ofString "_law_many") (528 : Nat)), (@PySem.Value.str (@PySem.Str.ofString "_law_cell") (529 : Nat)), (@PySem.Value.str (@PySem.Str.ofString "_law_code") (530 : Nat)), (@PySem.Value.str (@PySem.Str.ofString "_law_digit") (531 : Nat)), (@PySem.Value.str (@PySem.Str.ofString "_law_far") (532 : Nat)), (@PySem.Value.str (@PySem.Str.ofString "_law_mixed_here") (533 : Nat))]) (0 : Nat)) (List.toArray []))) ::
(nat_lit 274, (@PySem.Obj.mk (@PySem.Value.type "tuple") Option.none (@PySem.Data.seq (List.toArray []) (0 : Nat)) (List.toArray []))) ::
(nat_lit 276, (@PySem.Obj.mk (@PySem.Value.type "code") Option.none (@PySem.Data.fields (List.toArray [(@PySem.Value.str (@PySem.Str.ofString "_law_draw") (524 : Nat)), (@PySem.Value.str (@PySem.Str.ofString "_law_draw") (525 : Nat)), (@PySem.Value.str (@PySem.Str.ofString "/claim/cut.py") (526 : Nat)), (@PySem.Value.int (135 : Int) (0 : Nat)), (@PySem.Value.int (2 : Int) (0 : Nat)), (@PySem.Value.int (0 : Int) (0 : Nat)), (@PySem.Value.int (0 : Int) (0 : Nat)), (@PySem.Value.int (3 : Int) (0 : Nat)), (@PySem.Value.ref (271 : Nat)), (@PySem.Value.bool Bool.true), (@PySem.Value.int (181 : Int) (0 : Nat)), (@PySem.Value.ref (272 : Nat)), PySem.Value.none, (@PySem.Value.ref (273 : Nat)), (@PySem.Value.ref (274 : Nat)), (@PySem.Value.ref (275 : Nat)), (@PySem.Value.int (534 : Int) (0 : Nat)), (@PySem.Value.int (135 : Int) (0 : Nat)), (@PySem.Value.str (@PySem.Str.ofString "/claim/cut.py") (535 : Nat))])) (List.toArray []))) ::
(nat_lit 277, (@PySem.Obj.mk (@PySem.Value.type "function") Option.none (@PySem.Data.func (PySem.FuncData.mk (@PySem.Str.ofString "_law_draw") (@PySem.Str.ofString "_law_draw") (defArgs s__law_draw) (PySem.FuncBody.stmts (defBody s__law_draw)) (defScope s__law_draw) (3 : Nat) [] PySem.Value.none PySem.Value.none PySem.Value.none (@PySem.Value.str (@PySem.Str.ofString "law_quietprobes_k32_settings_refused") (508 : Nat)) Option.none (@PySem.Value.ref (276 : Nat)) PySem.Value.none (0 : Nat))) (List.toArray []))) ::
(nat_lit 278, (@PySem.Obj.mk (@PySem.Value.type "tuple") Option.none (@PySem.Data.seq (List.toArray []) (0 : Nat)) (List.toArray []))) ::
(nat_lit 280, (@PySem.Obj.mk (@PySem.Value.type "tuple") Option.none (@PySem.Data.seq (List.toArray [(@PySem.Value.str (@PySem.Str.ofString "_law_pool_here") (540 : Nat)), (@PySem.Value.str (@PySem.Str.ofString "_law_odd_here") (541 : Nat))]) (0 : Nat)) (List.toArray []))) ::
(nat_lit 281, (@PySem.Obj.mk (@PySem.Value.type "tuple") Option.none (@PySem.Data.seq (List.toArray []) (0 : Nat)) (List.toArray []))) ::
(nat_lit 283, (@PySem.Obj.mk (@PySem.Value.type "code") Option.none (@PySem.Data.fields (List.toArray [(@PySem.Value.str (@PySem.Str.ofString "_law_odd") (537 : Nat)), (@PySem.Value.str (@PySem.Str.ofString "_law_odd") (538 : Nat)), (@PySem.Value.str (@PySem.Str.ofString "/claim/cut.py") (539 : Nat)), (@PySem.Value.int (151 : Int) (0 : Nat)), (@PySem.Value.int (1 : Int) (0 : Nat)), (@PySem.Value.int (0 : Int) (0 : Nat)), (@PySem.Value.int (0 : Int) (0 : Nat)), (@PySem.Value.int (3 : Int) (0 : Nat)), (@PySem.Value.ref (278 : Nat)), (@PySem.Value.bool Bool.true), (@PySem.Value.int (181 : Int) (0 : Nat)), (@PySem.Value.ref (279 : Nat)), PySem.Value.none, (@PySem.Value.ref (280 : Nat)), (@PySem.Value.ref (281 : Nat)), (@PySem.Value.ref (282 : Nat)), (@PySem.Value.int (542 : Int) (0 : Nat)), (@PySem.Value.int (151 : Int) (0 : Nat)), (@PySem.Value.str (@PySem.Str.ofString "/claim/cut.py") (543 : Nat))])) (List.toArray []))) ::
(nat_lit 284, (@PySem.Obj.mk (@PySem.Value.type "function") Option.none (@PySem.Data.func (PySem.FuncData.mk (@PySem.Str.ofString "_law_odd") (@PySem.Str.ofString "_law_odd") (defArgs s__law_odd) (PySem.FuncBody.stmts (defBody s__law_odd)) (defScope s__law_odd) (3 : Nat) [] PySem.Value.none PySem.Value.none PySem.Value.none (@PySem.Value.str (@PySem.Str.ofString "law_quietprobes_k32_settings_refused") (508 : Nat)) Option.none (@PySem.Value.ref (283 : Nat)) PySem.Value.none (0 : Nat))) (List.toArray []))) ::
(nat_lit 285, (@PySem.Obj.mk (@PySem.Value.type "tuple") Option.none (@PySem.Data.seq (List.toArray []) (0 : Nat)) (List.toArray []))) ::
(nat_lit 287, (@PySem.Obj.mk (@PySem.Value.type "tuple") Option.none (@PySem.Data.seq (List.toArray [(@PySem.Value.str (@PySem.Str.ofString "_law_script") (548 : Nat))]) (0 : Nat)) (List.toArray []))) ::
(nat_lit 288, (@PySem.Obj.mk (@PySem.Value.type "tuple") Option.none (@PySem.Data.seq (List.toArray []) (0 : Nat)) (List.toArray []))) ::
(nat_lit 290, (@PySem.Obj.mk (@PySem.Value.type "code") Option.none (@PySem.Data.fields (List.toArray [(@PySem.Value.str (@PySem.Str.ofString "_law_pool") (545 : Nat)), (@PySem.Value.str (@PySem.Str.ofString "_law_pool") (546 : Nat)), (@PySem.Value.str (@PySem.Str.ofString "/claim/cut.py") (547 : Nat)), (@PySem.Value.int (154 : Int) (0 : Nat)), (@PySem.Value.int (1 : Int) (0 : Nat)), (@PySem.Value.int (0 : Int) (0 : Nat)), (@PySem.Value.int (0 : Int) (0 : Nat)), (@PySem.Value.int (3 : Int) (0 : Nat)), (@PySem.Value.ref (285 : Nat)), (@PySem.Value.bool Bool.true), (@PySem.Value.int (181 : Int) (0 : Nat)), (@PySem.Value.ref (286 : Nat)), PySem.Value.none, (@PySem.Value.ref (287 : Nat)), (@PySem.Value.ref (288 : Nat)), (@PySem.Value.ref (289 : Nat)), (@PySem.Value.int (549 : Int) (0 : Nat)), (@PySem.Value.int (154 : Int) (0 : Nat)), (@PySem.Value.str (@PySem.Str.ofString "/claim/cut.py") (550 : Nat))])) (List.toArray []))) ::
(nat_lit 291, (@PySem.Obj.mk (@PySem.Value.type "function") Option.none (@PySem.Data.func (PySem.FuncData.mk (@PySem.Str.ofString "_law_pool") (@PySem.Str.ofString "_law_pool") (defArgs s__law_pool) (PySem.FuncBody.stmts (defBody s__law_pool)) (defScope s__law_pool) (3 : Nat) [] PySem.Value.none PySem.Value.none PySem.Value.none (@PySem.Value.str (@PySem.Str.ofString "law_quietprobes_k32_settings_refused") (508 : Nat)) Option.none (@PySem.Value.ref (290 : Nat)) PySem.Value.none (0 : Nat))) (List.toArray []))) ::
(nat_lit 292, (@PySem.Obj.mk (@PySem.Value.type "tuple") Option.none (@PySem.Data.seq (List.toArray []) (0 : Nat)) (List.toArray []))) ::
(nat_lit 295, (@PySem.Obj.mk (@PySem.Value.type "code") Option.none (@PySem.Data.fields (List.toArray [(@PySem.Value.str (@PySem.Str.ofString "_law_names") (552 : Nat)), (@PySem.Value.str (@PySem.Str.ofString "_law_names") (553 : Nat)), (@PySem.Value.str (@PySem.Str.ofString "/claim/cut.py") (554 : Nat)), (@PySem.Value.int (156 : Int) (0 : Nat)), (@PySem.Value.int (2 : Int) (0 : Nat)), (@PySem.Value.int (0 : Int) (0 : Nat)), (@PySem.Value.int (0 : Int) (0 : Nat)), (@PySem.Value.int (3 : Int) (0 : Nat)), (@PySem.Value.ref (292 : Nat)), (@PySem.Value.bool Bool.true), (@PySem.Value.int (181 : Int) (0 : Nat)), (@PySem.Value.ref (293 : Nat)), PySem.Value.none, PySem.Value.none, PySem.Value.none, (@PySem.Value.ref (294 : Nat)), (@PySem.Value.int (555 : Int) (0 : Nat)), (@PySem.Value.int (156 : Int) (0 : Nat)), (@PySem.Value.str (@PySem.Str.ofString "/claim/cut.py") (556 : Nat))])) (List.toArray []))) ::
(nat_lit 296, (@PySem.Obj.mk (@PySem.Value.type "function") Option.none (@PySem.Data.func (PySem.FuncData.mk (@PySem.Str.ofString "_law_names") (@PySem.Str.ofString "_law_names") (defArgs s__law_names) (PySem.FuncBody.stmts (defBody s__law_names)) (defScope s__law_names) (3 : Nat) [] PySem.Value.none PySem.Value.none PySem.Value.none (@PySem.Value.str (@PySem.Str.ofString "law_quietprobes_k32_settings_refused") (508 : Nat)) Option.none (@PySem.Value.ref (295 : Nat)) PySem.Value.none (0 : Nat))) (List.toArray []))) ::
(nat_lit 297, (@PySem.Obj.mk (@PySem.Value.type "tuple") Option.none (@PySem.Data.seq (List.toArray []) (0 : Nat)) (List.toArray []))) ::
(nat_lit 300, (@PySem.Obj.mk (@PySem.Value.type "code") Option.none (@PySem.Data.fields (List.toArray [(@PySem.Value.str (@PySem.Str.ofString "_law_same") (558 : Nat)), (@PySem.Value.str (@PySem.Str.ofString "_law_same") (559 : Nat)), (@PySem.Value.str (@PySem.Str.ofString "/claim/cut.py") (560 : Nat)), (@PySem.Value.int (165 : Int) (0 : Nat)), (@PySem.Value.int (2 : Int) (0 : Nat)), (@PySem.Value.int (0 : Int) (0 : Nat)), (@PySem.Value.int (0 : Int) (0 : Nat)), (@PySem.Value.int (3 : Int) (0 : Nat)), (@PySem.Value.ref (297 : Nat)), (@PySem.Value.bool Bool.true), (@PySem.Value.int (181 : Int) (0 : Nat)), (@PySem.Value.ref (298 : Nat)), PySem.Value.none, PySem.Value.none, PySem.Value.none, (@PySem.Value.ref (299 : Nat)), (@PySem.Value.int (561 : Int) (0 : Nat)), (@PySem.Value.int (165 : Int) (0 : Nat)), (@PySem.Value.str (@PySem.Str.ofString "/claim/cut.py") (562 : Nat))])) (List.toArray []))) ::
(nat_lit 301, (@PySem.Obj.mk (@PySem.Value.type "function") Option.none (@PySem.Data.func (PySem.FuncData.mk (@PySem.Str.ofString "_law_same") (@PySem.Str.ofString "_law_same") (defArgs s__law_same) (PySem.FuncBody.stmts (defBody s__law_same)) (defScope s__law_same) (3 : Nat) [] PySem.Value.none PySem.Value.none PySem.Value.none (@PySem.Value.str (@PySem.Str.ofString "law_quietprobes_k32_settings_refused") (508 : Nat)) Option.none (@PySem.Value.ref (300 : Nat)) PySem.Value.none (0 : Nat))) (List.toArray []))) ::
(nat_lit 302, (@PySem.Obj.mk (@PySem.Value.type "tuple") Option.none (@PySem.Data.seq (List.toArray []) (0 : Nat)) (List.toArray []))) ::
(nat_lit 305, (@PySem.Obj.mk (@PySem.Value.type "code") Option.none (@PySem.Data.fields (List.toArray [(@PySem.Value.str (@PySem.Str.ofString "_law_holds") (564 : Nat)), (@PySem.Value.str (@PySem.Str.ofString "_law_holds") (565 : Nat)), (@PySem.Value.str (@PySem.Str.ofString "/claim/cut.py") (566 : Nat)), (@PySem.Value.int (181 : Int) (0 : Nat)), (@PySem.Value.int (3 : Int) (0 : Nat)), (@PySem.Value.int (0 : Int) (0 : Nat)), (@PySem.Value.int (0 : Int) (0 : Nat)), (@PySem.Value.int (3 : Int) (0 : Nat)), (@PySem.Value.ref (302 : Nat)), (@PySem.Value.bool Bool.true), (@PySem.Value.int (181 : Int) (0 : Nat)), (@PySem.Value.ref (303 : Nat)), PySem.Value.none, PySem.Value.none, PySem.Value.none, (@PySem.Value.ref (304 : Nat)), (@PySem.Value.int (567 : Int) (0 : Nat)), (@PySem.Value.int (181 : Int) (0 : Nat)), (@PySem.Value.str (@PySem.Str.ofString "/claim/cut.py") (568 : Nat))])) (List.toArray []))) ::
(nat_lit 306, (@PySem.Obj.mk (@PySem.Value.type "function") Option.none (@PySem.Data.func (PySem.FuncData.mk (@PySem.Str.ofString "_law_holds") (@PySem.Str.ofString "_law_holds") (defArgs s__law_holds) (PySem.FuncBody.stmts (defBody s__law_holds)) (defScope s__law_holds) (3 : Nat) [] PySem.Value.none PySem.Value.none PySem.Value.none (@PySem.Value.str (@PySem.Str.ofString "law_quietprobes_k32_settings_refused") (508 : Nat)) Option.none (@PySem.Value.ref (305 : Nat)) PySem.Value.none (0 : Nat))) (List.toArray []))) ::
(nat_lit 307, (@PySem.Obj.mk (@PySem.Value.type "tuple") Option.none (@PySem.Data.seq (List.toArray []) (0 : Nat)) (List.toArray []))) ::
(nat_lit 309, (@PySem.Obj.mk (@PySem.Value.type "tuple") Option.none (@PySem.Data.seq (List.toArray [(@PySem.Value.str (@PySem.Str.ofString "_law_actual") (573 : Nat)), (@PySem.Value.str (@PySem.Str.ofString "_law_due") (574 : Nat))]) (0 : Nat)) (List.toArray []))) ::
(nat_lit 310, (@PySem.Obj.mk (@PySem.Value.type "tuple") Option.none (@PySem.Data.seq (List.toArray []) (0 : Nat)) (List.toArray []))) ::
(nat_lit 312, (@PySem.Obj.mk (@PySem.Value.type "code") Option.none (@PySem.Data.fields (List.toArray [(@PySem.Value.str (@PySem.Str.ofString "_law_same_odd") (570 : Nat)), (@PySem.Value.str (@PySem.Str.ofString "_law_same_odd") (571 : Nat)), (@PySem.Value.str (@PySem.Str.ofString "/claim/cut.py") (572 : Nat)), (@PySem.Value.int (192 : Int) (0 : Nat)), (@PySem.Value.int (2 : Int) (0 : Nat)), (@PySem.Value.int (0 : Int) (0 : Nat)), (@PySem.Value.int (0 : Int) (0 : Nat)), (@PySem.Value.int (3 : Int) (0 : Nat)), (@PySem.Value.ref (307 : Nat)), (@PySem.Value.bool Bool.true), (@PySem.Value.int (181 : Int) (0 : Nat)), (@PySem.Value.ref (308 : Nat)), PySem.Value.none, (@PySem.Value.ref (309 : Nat)), (@PySem.Value.ref (310 : Nat)), (@PySem.Value.ref (311 : Nat)), (@PySem.Value.int (575 : Int) (0 : Nat)), (@PySem.Value.int (192 : Int) (0 : Nat)), (@PySem.Value.str (@PySem.Str.ofString "/claim/cut.py") (576 : Nat))])) (List.toArray []))) ::
(nat_lit 313, (@PySem.Obj.mk (@PySem.Value.type "function") Option.none (@PySem.Data.func (PySem.FuncData.mk (@PySem.Str.ofString "_law_same_odd") (@PySem.Str.ofString "_law_same_odd") (defArgs s__law_same_odd) (PySem.FuncBody.stmts (defBody s__law_same_odd)) (defScope s__law_same_odd) (3 : Nat) [] PySem.Value.none PySem.Value.none PySem.Value.none (@PySem.Value.str (@PySem.Str.ofString "law_quietprobes_k32_settings_refused") (508 : Nat)) Option.none (@PySem.Value.ref (312 : Nat)) PySem.Value.none (0 : Nat))) (List.toArray []))) ::
(nat_lit 314, (@PySem.Obj.mk (@PySem.Value.type "tuple") Option.none (@PySem.Data.seq (List.toArray []) (0 : Nat)) (List.toArray []))) ::
(nat_lit 316, (@PySem.Obj.mk (@PySem.Value.type "tuple") Option.none (@PySem.Data.seq (List.toArray [(@PySem.Value.str (@PySem.Str.ofString "_law_pool_here") (581 : Nat)), (@PySem.Value.str (@PySem.Str.ofString "_law_names_here") (582 : Nat)), (@PySem.Value.str (@PySem.Str.ofString "_law_modes") (583 : Nat)), (@PySem.Value.str (@PySem.Str.ofString "_law_name") (584 : Nat))]) (0 : Nat)) (List.toArray []))) ::
(nat_lit 317, (@PySem.Obj.mk (@PySem.Value.type "tuple") Option.none (@PySem.Data.seq (List.toArray []) (0 : Nat)) (List.toArray []))) ::
(nat_lit 319, (@PySem.Obj.mk (@PySem.Value.type "code") Option.none (@PySem.Data.fields (List.toArray [(@PySem.Value.str (@PySem.Str.ofString "_law_random_modes") (578 : Nat)), (@PySem.Value.str (@PySem.Str.ofString "_law_random_modes") (579 : Nat)), (@PySem.Value.str (@PySem.Str.ofString "/claim/cut.py") (580 : Nat)), (@PySem.Value.int (194 : Int) (0 : Nat)), (@PySem.Value.int (2 : Int) (0 : Nat)), (@PySem.Value.int (0 : Int) (0 : Nat)), (@PySem.Value.int (0 : Int) (0 : Nat)), (@PySem.Value.int (3 : Int) (0 : Nat)), (@PySem.Value.ref (314 : Nat)), (@PySem.Value.bool Bool.true), (@PySem.Value.int (181 : Int) (0 : Nat)), (@PySem.Value.ref (315 : Nat)), PySem.Value.none, (@PySem.Value.ref (316 : Nat)), (@PySem.Value.ref (317 : Nat)), (@PySem.Value.ref (318 : Nat)), (@PySem.Value.int (585 : Int) (0 : Nat)), (@PySem.Value.int (194 : Int) (0 : Nat)), (@PySem.Value.str (@PySem.Str.ofString "/claim/cut.py") (586 : Nat))])) (List.toArray []))) ::
(nat_lit 320, (@PySem.Obj.mk (@PySem.Value.type "function") Option.none (@PySem.Data.func (PySem.FuncData.mk (@PySem.Str.ofString "_law_random_modes") (@PySem.Str.ofString "_law_random_modes") (defArgs s__law_random_modes) (PySem.FuncBody.stmts (defBody s__law_random_modes)) (defScope s__law_random_modes) (3 : Nat) [] PySem.Value.none PySem.Value.none PySem.Value.none (@PySem.Value.str (@PySem.Str.ofString "law_quietprobes_k32_settings_refused") (508 : Nat)) Option.none (@PySem.Value.ref (319 : Nat)) PySem.Value.none (0 : Nat))) (List.toArray []))) ::
(nat_lit 321, (@PySem.Obj.mk (@PySem.Value.type "tuple") Option.none (@PySem.Data.seq (List.toArray []) (0 : Nat)) (List.toArray []))) ::
(nat_lit 323, (@PySem.Obj.mk (@PySem.Value.type "tuple") Option.none (@PySem.Data.seq (List.toArray [(@PySem.Value.str (@PySem.Str.ofString "_law_modes") (591 : Nat)), (@PySem.Value.str (@PySem.Str.ofString "_law_setting_here") (592 : Nat)), (@PySem.Value.str (@PySem.Str.ofString "_law_name") (593 : Nat))]) (0 : Nat)) (List.toArray []))) ::
(nat_lit 324, (@PySem.Obj.mk (@PySem.Value.type "tuple") Option.none (@PySem.Data.seq (List.toArray []) (0 : Nat)) (List.toArray []))) ::
(nat_lit 326, (@PySem.Obj.mk (@PySem.Value.type "code") Option.none (@PySem.Data.fields (List.toArray [(@PySem.Value.str (@PySem.Str.ofString "_law_setting") (588 : Nat)), (@PySem.Value.str (@PySem.Str.ofString "_law_setting") (589 : Nat)), (@PySem.Value.str (@PySem.Str.ofString "/claim/cut.py") (590 : Nat)), (@PySem.Value.int (199 : Int) (0 : Nat)), (@PySem.Value.int (1 : Int) (0 : Nat)), (@PySem.Value.int (0 : Int) (0 : Nat)), (@PySem.Value.int (0 : Int) (0 : Nat)), (@PySem.Value.int (3 : Int) (0 : Nat)), (@PySem.Value.ref (321 : Nat)), (@PySem.Value.bool Bool.true), (@PySem.Value.int (181 : Int) (0 : Nat)), (@PySem.Value.ref (322 : Nat)), PySem.Value.none, (@PySem.Value.ref (323 : Nat)), (@PySem.Value.ref (324 : Nat)), (@PySem.Value.ref (325 : Nat)), (@PySem.Value.int (594 : Int) (0 : Nat)), (@PySem.Value.int (199 : Int) (0 : Nat)), (@PySem.Value.str (@PySem.Str.ofString "/claim/cut.py") (595 : Nat))])) (List.toArray []))) ::
(nat_lit 327, (@PySem.Obj.mk (@PySem.Value.type "function") Option.none (@PySem.Data.func (PySem.FuncData.mk (@PySem.Str.ofString "_law_setting") (@PySem.Str.ofString "_law_setting") (defArgs s__law_setting) (PySem.FuncBody.stmts (defBody s__law_setting)) (defScope s__law_setting) (3 : Nat) [] PySem.Value.none PySem.Value.none PySem.Value.none (@PySem.Value.str (@PySem.Str.ofString "law_quietprobes_k32_settings_refused") (508 : Nat)) Option.none (@PySem.Value.ref (326 : Nat)) PySem.Value.none (0 : Nat))) (List.toArray []))) ::
(nat_lit 328, (@PySem.Obj.mk (@PySem.Value.type "tuple") Option.none (@PySem.Data.seq (List.toArray []) (0 : Nat)) (List.toArray []))) ::
(nat_lit 330, (@PySem.Obj.mk (@PySem.Value.type "tuple") Option.none (@PySem.Data.seq (List.toArray [(@PySem.Value.str (@PySem.Str.ofString "_law_pool_here") (600 : Nat)), (@PySem.Value.str (@PySem.Str.ofString "_law_odd_here") (601 : Nat))]) (0 : Nat)) (List.toArray []))) ::
(nat_lit 331, (@PySem.Obj.mk (@PySem.Value.type "tuple") Option.none (@PySem.Data.seq (List.toArray []) (0 : Nat)) (List.toArray []))) ::
(nat_lit 333, (@PySem.Obj.mk (@PySem.Value.type "code") Option.none (@PySem.Data.fields (List.toArray [(@PySem.Value.str (@PySem.Str.ofString "_law_odd_mode") (597 : Nat)), (@PySem.Value.str (@PySem.Str.ofString "_law_odd_mode") (598 : Nat)), (@PySem.Value.str (@PySem.Str.ofString "/claim/cut.py") (599 : Nat)), (@PySem.Value.int (205 : Int) (0 : Nat)), (@PySem.Value.int (1 : Int) (0 : Nat)), (@PySem.Value.int (0 : Int) (0 : Nat)), (@PySem.Value.int (0 : Int) (0 : Nat)), (@PySem.Value.int (3 : Int) (0 : Nat)), (@PySem.Value.ref (328 : Nat)), (@PySem.Value.bool Bool.true), (@PySem.Value.int (181 : Int) (0 : Nat)), (@PySem.Value.ref (329 : Nat)), PySem.Value.none, (@PySem.Value.ref (330 : Nat)), (@PySem.Value.ref (331 : Nat)), (@PySem.Value.ref (332 : Nat)), (@PySem.Value.int (602 : Int) (0 : Nat)), (@PySem.Value.int (205 : Int) (0 : Nat)), (@PySem.Value.str (@PySem.Str.ofString "/claim/cut.py") (603 : Nat))])) (List.toArray []))) ::
(nat_lit 334, (@PySem.Obj.mk (@PySem.Value.type "function") Option.none (@PySem.Data.func (PySem.FuncData.mk (@PySem.Str.ofString "_law_odd_mode") (@PySem.Str.ofString "_law_odd_mode") (defArgs s__law_odd_mode) (PySem.FuncBody.stmts (defBody s__law_odd_mode)) (defScope s__law_odd_mode) (3 : Nat) [] PySem.Value.none PySem.Value.none PySem.Value.none (@PySem.Value.str (@PySem.Str.ofString "law_quietprobes_k32_settings_refused") (508 : Nat)) Option.none (@PySem.Value.ref (333 : Nat)) PySem.Value.none (0 : Nat))) (List.toArray []))) ::
(nat_lit 335, (@PySem.Obj.mk (@PySem.Value.type "tuple") Option.none (@PySem.Data.seq (List.toArray []) (0 : Nat)) (List.toArray []))) ::
(nat_lit 337, (@PySem.Obj.mk (@PySem.Value.type "tuple") Option.none (@PySem.Data.seq (List.toArray [(@PySem.Value.str (@PySem.Str.ofString "_law_on") (608 : Nat)), (@PySem.Value.str (@PySem.Str.ofString "_law_faint") (609 : Nat)), (@PySem.Value.str (@PySem.Str.ofString "_law_name") (610 : Nat)), (@PySem.Value.str (@PySem.Str.ofString "_law_seen") (611 : Nat))]) (0 : Nat)) (List.toArray []))) ::
(nat_lit 338, (@PySem.Obj.mk (@PySem.Value.type "tuple") Option.none (@PySem.Data.seq (List.toArray []) (0 : Nat)) (List.toArray []))) ::
(nat_lit 340, (@PySem.Obj.mk (@PySem.Value.type "code") Option.none (@PySem.Data.fields (List.toArray [(@PySem.Value.str (@PySem.Str.ofString "_law_expected") (605 : Nat)), (@PySem.Value.str (@PySem.Str.ofString "_law_expected") (606 : Nat)), (@PySem.Value.str (@PySem.Str.ofString "/claim/cut.py") (607 : Nat)), (@PySem.Value.int (208 : Int) (0 : Nat)), (@PySem.Value.int (2 : Int) (0 : Nat)), (@PySem.Value.int (0 : Int) (0 : Nat)), (@PySem.Value.int (0 : Int) (0 : Nat)), (@PySem.Value.int (3 : Int) (0 : Nat)), (@PySem.Value.ref (335 : Nat)), (@PySem.Value.bool Bool.true), (@PySem.Value.int (181 : Int) (0 : Nat)), (@PySem.Value.ref (336 : Nat)), PySem.Value.none, (@PySem.Value.ref (337 : Nat)), (@PySem.Value.ref (338 : Nat)), (@PySem.Value.ref (339 : Nat)), (@PySem.Value.int (612 : Int) (0 : Nat)), (@PySem.Value.int (208 : Int) (0 : Nat)), (@PySem.Value.str (@PySem.Str.ofString "/claim/cut.py") (613 : Nat))])) (List.toArray []))) ::
(nat_lit 341, (@PySem.Obj.mk (@PySem.Value.type "function") Option.none (@PySem.Data.func (PySem.FuncData.mk (@PySem.Str.ofString "_law_expected") (@PySem.Str.ofString "_law_expected") (defArgs s__law_expected) (PySem.FuncBody.stmts (defBody s__law_expected)) (defScope s__law_expected) (3 : Nat) [] PySem.Value.none PySem.Value.none PySem.Value.none (@PySem.Value.str (@PySem.Str.ofString "law_quietprobes_k32_settings_refused") (508 : Nat)) Option.none (@PySem.Value.ref (340 : Nat)) PySem.Value.none (0 : Nat))) (List.toArray []))) ::
(nat_lit 342, (@PySem.Obj.mk (@PySem.Value.type "tuple") Option.none (@PySem.Data.seq (List.toArray []) (0 : Nat)) (List.toArray []))) ::
(nat_lit 344, (@PySem.Obj.mk (@PySem.Value.type "tuple") Option.none (@PySem.Data.seq (List.toArray [(@PySem.Value.str (@PySem.Str.ofString "_law_on") (618 : Nat)), (@PySem.Value.str (@PySem.Str.ofString "_law_faint") (619 : Nat)), (@PySem.Value.str (@PySem.Str.ofString "_law_caught") (620 : Nat)), (@PySem.Value.str (@PySem.Str.ofString "_law_made_here") (621 : Nat)), (@PySem.Value.str (@PySem.Str.ofString "_law_told") (622 : Nat)), (@PySem.Value.str (@PySem.Str.ofString "e") (623 : Nat))]) (0 : Nat)) (List.toArray []))) ::
(nat_lit 345, (@PySem.Obj.mk (@PySem.Value.type "tuple") Option.none (@PySem.Data.seq (List.toArray []) (0 : Nat)) (List.toArray []))) ::
(nat_lit 347, (@PySem.Obj.mk (@PySem.Value.type "code") Option.none (@PySem.Data.fields (List.toArray [(@PySem.Value.str (@PySem.Str.ofString "_law_tried") (615 : Nat)), (@PySem.Value.str (@PySem.Str.ofString "_law_tried") (616 : Nat)), (@PySem.Value.str (@PySem.Str.ofString "/claim/cut.py") (617 : Nat)), (@PySem.Value.int (218 : Int) (0 : Nat)), (@PySem.Value.int (2 : Int) (0 : Nat)), (@PySem.Value.int (0 : Int) (0 : Nat)), (@PySem.Value.int (0 : Int) (0 : Nat)), (@PySem.Value.int (3 : Int) (0 : Nat)), (@PySem.Value.ref (342 : Nat)), (@PySem.Value.bool Bool.true), (@PySem.Value.int (181 : Int) (0 : Nat)), (@PySem.Value.ref (343 : Nat)), PySem.Value.none, (@PySem.Value.ref (344 : Nat)), (@PySem.Value.ref (345 : Nat)), (@PySem.Value.ref (346 : Nat)), (@PySem.Value.int (624 : Int) (0 : Nat)), (@PySem.Value.int (218 : Int) (0 : Nat)), (@PySem.Value.str (@PySem.Str.ofString "/claim/cut.py") (625 : Nat))])) (List.toArray []))) ::
(nat_lit 348, (@PySem.Obj.mk (@PySem.Value.type "function") Option.none (@PySem.Data.func (PySem.FuncData.mk (@PySem.Str.ofString "_law_tried") (@PySem.Str.ofString "_law_tried") (defArgs s__law_tried) (PySem.FuncBody.stmts (defBody s__law_tried)) (defScope s__law_tried) (3 : Nat) [] PySem.Value.none PySem.Value.none PySem.Value.none (@PySem.Value.str (@PySem.Str.ofString "law_quietprobes_k32_settings_refused") (508 : Nat)) Option.none (@PySem.Value.ref (347 : Nat)) PySem.Value.none (0 : Nat))) (List.toArray []))) ::
(nat_lit 349, (@PySem.Obj.mk (@PySem.Value.type "tuple") Option.none (@PySem.Data.seq (List.toArray []) (0 : Nat)) (List.toArray []))) ::
(nat_lit 351, (@PySem.Obj.mk (@PySem.Value.type "tuple") Option.none (@PySem.Data.seq (List.toArray [(@PySem.Value.str (@PySem.Str.ofString "_law_pool_here") (630 : Nat)), (@PySem.Value.str (@PySem.Str.ofString "_law_names_here") (631 : Nat)), (@PySem.Value.str (@PySem.Str.ofString "_law_many") (632 : Nat)), (@PySem.Value.str (@PySem.Str.ofString "_law_found") (633 : Nat)), (@PySem.Value.str (@PySem.Str.ofString "_law_k") (634 : Nat)), (@PySem.Value.str (@PySem.Str.ofString "_law_pick") (635 : Nat))]) (0 : Nat)) (List.toArray []))) ::
(nat_lit 352, (@PySem.Obj.mk (@PySem.Value.type "tuple") Option.none (@PySem.Data.seq (List.toArray []) (0 : Nat)) (List.toArray []))) ::
(nat_lit 354, (@PySem.Obj.mk (@PySem.Value.type "code") Option.none (@PySem.Data.fields (List.toArray [(@PySem.Value.str (@PySem.Str.ofString "_law_mixed") (627 : Nat)), (@PySem.Value.str (@PySem.Str.ofString "_law_mixed") (628 : Nat)), (@PySem.Value.str (@PySem.Str.ofString "/claim/cut.py") (629 : Nat)), (@PySem.Value.int (232 : Int) (0 : Nat)), (@PySem.Value.int (3 : Int) (0 : Nat)), (@PySem.Value.int (0 : Int) (0 : Nat)), (@PySem.Value.int (0 : Int) (0 : Nat)), (@PySem.Value.int (3 : Int) (0 : Nat)), (@PySem.Value.ref (349 : Nat)), (@PySem.Value.bool Bool.true), (@PySem.Value.int (181 : Int) (0 : Nat)), (@PySem.Value.ref (350 : Nat)), PySem.Value.none, (@PySem.Value.ref (351 : Nat)), (@PySem.Value.ref (352 : Nat)), (@PySem.Value.ref (353 : Nat)), (@PySem.Value.int (636 : Int) (0 : Nat)), (@PySem.Value.int (232 : Int) (0 : Nat)), (@PySem.Value.str (@PySem.Str.ofString "/claim/cut.py") (637 : Nat))])) (List.toArray []))) ::
(nat_lit 355, (@PySem.Obj.mk (@PySem.Value.type "function") Option.none (@PySem.Data.func (PySem.FuncData.mk (@PySem.Str.ofString "_law_mixed") (@PySem.Str.ofString "_law_mixed") (defArgs s__law_mixed) (PySem.FuncBody.stmts (defBody s__law_mixed)) (defScope s__law_mixed) (3 : Nat) [] PySem.Value.none PySem.Value.none PySem.Value.none (@PySem.Value.str (@PySem.Str.ofString "law_quietprobes_k32_settings_refused") (508 : Nat)) Option.none (@PySem.Value.ref (354 : Nat)) PySem.Value.none (0 : Nat))) (List.toArray []))) ::
(nat_lit 356, (@PySem.Obj.mk (@PySem.Value.type "tuple") Option.none (@PySem.Data.seq (List.toArray []) (0 : Nat)) (List.toArray []))) ::
(nat_lit 358, (@PySem.Obj.mk (@PySem.Value.type "tuple") Option.none (@PySem.Data.seq (List.toArray [(@PySem.Value.str (@PySem.Str.ofString "_law_setting_here") (642 : Nat)), (@PySem.Value.str (@PySem.Str.ofString "_law_name") (643 : Nat)), (@PySem.Value.str (@PySem.Str.ofString "_law_mode") (644 : Nat)), (@PySem.Value.str (@PySem.Str.ofString "_law_told") (645 : Nat)), (@PySem.Value.str (@PySem.Str.ofString "e") (646 : Nat))]) (0 : Nat)) (List.toArray []))) ::
(nat_lit 359, (@PySem.Obj.mk (@PySem.Value.type "tuple") Option.none (@PySem.Data.seq (List.toArray []) (0 : Nat)) (List.toArray []))) ::
(nat_lit 361, (@PySem.Obj.mk (@PySem.Value.type "code") Option.none (@PySem.Data.fields (List.toArray [(@PySem.Value.str (@PySem.Str.ofString "_law_put") (639 : Nat)), (@PySem.Value.str (@PySem.Str.ofString "_law_put") (640 : Nat)), (@PySem.Value.str (@PySem.Str.ofString "/claim/cut.py") (641 : Nat)), (@PySem.Value.int (238 : Int) (0 : Nat)), (@PySem.Value.int (3 : Int) (0 : Nat)), (@PySem.Value.int (0 : Int) (0 : Nat)), (@PySem.Value.int (0 : Int) (0 : Nat)), (@PySem.Value.int (3 : Int) (0 : Nat)), (@PySem.Value.ref (356 : Nat)), (@PySem.Value.bool Bool.true), (@PySem.Value.int (181 : Int) (0 : Nat)), (@PySem.Value.ref (357 : Nat)), PySem.Value.none, (@PySem.Value.ref (358 : Nat)), (@PySem.Value.ref (359 : Nat)), (@PySem.Value.ref (360 : Nat)), (@PySem.Value.int (647 : Int) (0 : Nat)), (@PySem.Value.int (238 : Int) (0 : Nat)), (@PySem.Value.str (@PySem.Str.ofString "/claim/cut.py") (648 : Nat))])) (List.toArray []))) ::
(nat_lit 362, (@PySem.Obj.mk (@PySem.Value.type "function") Option.none (@PySem.Data.func (PySem.FuncData.mk (@PySem.Str.ofString "_law_put") (@PySem.Str.ofString "_law_put") (defArgs s__law_put) (PySem.FuncBody.stmts (defBody s__law_put)) (defScope s__law_put) (3 : Nat) [] PySem.Value.none PySem.Value.none PySem.Value.none (@PySem.Value.str (@PySem.Str.ofString "law_quietprobes_k32_settings_refused") (508 : Nat)) Option.none (@PySem.Value.ref (361 : Nat)) PySem.Value.none (0 : Nat))) (List.toArray []))) ::
(nat_lit 363, (@PySem.Obj.mk (@PySem.Value.type "tuple") Option.none (@PySem.Data.seq (List.toArray []) (0 : Nat)) (List.toArray []))) ::
(nat_lit 365, (@PySem.Obj.mk (@PySem.Value.type "tuple") Option.none (@PySem.Data.seq (List.toArray [(@PySem.Value.str (@PySem.Str.ofString "_law_setting_here") (653 : Nat)), (@PySem.Value.str (@PySem.Str.ofString "_law_name") (654 : Nat)), (@PySem.Value.str (@PySem.Str.ofString "_law_told") (655 : Nat)), (@PySem.Value.str (@PySem.Str.ofString "e") (656 : Nat))]) (0 : Nat)) (List.toArray []))) ::
(nat_lit 366, (@PySem.Obj.mk (@PySem.Value.type "tuple") Option.none (@PySem.Data.seq (List.toArray []) (0 : Nat)) (List.toArray []))) ::
(nat_lit 368, (@PySem.Obj.mk (@PySem.Value.type "code") Option.none (@PySem.Data.fields (List.toArray [(@PySem.Value.str (@PySem.Str.ofString "_law_asked") (650 : Nat)), (@PySem.Value.str (@PySem.Str.ofString "_law_asked") (651 : Nat)), (@PySem.Value.str (@PySem.Str.ofString "/claim/cut.py") (652 : Nat)), (@PySem.Value.int (247 : Int) (0 : Nat)), (@PySem.Value.int (2 : Int) (0 : Nat)), (@PySem.Value.int (0 : Int) (0 : Nat)), (@PySem.Value.int (0 : Int) (0 : Nat)), (@PySem.Value.int (3 : Int) (0 : Nat)), (@PySem.Value.ref (363 : Nat)), (@PySem.Value.bool Bool.true), (@PySem.Value.int (181 : Int) (0 : Nat)), (@PySem.Value.ref (364 : Nat)), PySem.Value.none, (@PySem.Value.ref (365 : Nat)), (@PySem.Value.ref (366 : Nat)), (@PySem.Value.ref (367 : Nat)), (@PySem.Value.int (657 : Int) (0 : Nat)), (@PySem.Value.int (247 : Int) (0 : Nat)), (@PySem.Value.str (@PySem.Str.ofString "/claim/cut.py") (658 : Nat))])) (List.toArray []))) ::
(nat_lit 369, (@PySem.Obj.mk (@PySem.Value.type "function") Option.none (@PySem.Data.func (PySem.FuncData.mk (@PySem.Str.ofString "_law_asked") (@PySem.Str.ofString "_law_asked") (defArgs s__law_asked) (PySem.FuncBody.stmts (defBody s__law_asked)) (defScope s__law_asked) (3 : Nat) [] PySem.Value.none PySem.Value.none PySem.Value.none (@PySem.Value.str (@PySem.Str.ofString "law_quietprobes_k32_settings_refused") (508 : Nat)) Option.none (@PySem.Value.ref (368 : Nat)) PySem.Value.none (0 : Nat))) (List.toArray []))) ::
(nat_lit 370, (@PySem.Obj.mk (@PySem.Value.type "tuple") Option.none (@PySem.Data.seq (List.toArray []) (0 : Nat)) (List.toArray []))) ::
(nat_lit 372, (@PySem.Obj.mk (@PySem.Value.type "tuple") Option.none (@PySem.Data.seq (List.toArray [(@PySem.Value.str (@PySem.Str.ofString "_law_script") (663 : Nat)), (@PySem.Value.str (@PySem.Str.ofString "_law_pool_here") (664 : Nat)), (@PySem.Value.str (@PySem.Str.ofString "_law_names_here") (665 : Nat)), (@PySem.Value.str (@PySem.Str.ofString "_law_turn") (666 : Nat)), (@PySem.Value.str (@PySem.Str.ofString "_law_on") (667 : Nat)), (@PySem.Value.str (@PySem.Str.ofString "_law_faint") (668 : Nat)), (@PySem.Value.str (@PySem.Str.ofString "_law_due") (669 : Nat)), (@PySem.Value.str (@PySem.Str.ofString "_law_told") (670 : Nat)), (@PySem.Value.str (@PySem.Str.ofString "_law_modes") (671 : Nat)), (@PySem.Value.str (@PySem.Str.ofString "_law_name") (672 : Nat)), (@PySem.Value.str (@PySem.Str.ofString "_law_setting_here") (673 : Nat)), (@PySem.Value.str (@PySem.Str.ofString "_law_odd_here") (674 : Nat)), (@PySem.Value.str (@PySem.Str.ofString "_law_mode") (675 : Nat)), (@PySem.Value.str (@PySem.Str.ofString "_law_good") (676 : Nat))]) (0 : Nat)) (List.toArray []))) ::
(nat_lit 373, (@PySem.Obj.mk (@PySem.Value.type "tuple") Option.none (@PySem.Data.seq (List.toArray []) (0 : Nat)) (List.toArray []))) ::
(nat_lit 375, (@PySem.Obj.mk (@PySem.Value.type "code") Option.none (@PySem.Data.fields (List.toArray [(@PySem.Value.str (@PySem.Str.ofString "law") (660 : Nat)), (@PySem.Value.str (@PySem.Str.ofString "law") (661 : Nat)), (@PySem.Value.str (@PySem.Str.ofString "/claim/cut.py") (662 : Nat)), (@PySem.Value.int (253 : Int) (0 : Nat)), (@PySem.Value.int (1 : Int) (0 : Nat)), (@PySem.Value.int (0 : Int) (0 : Nat)), (@PySem.Value.int (0 : Int) (0 : Nat)), (@PySem.Value.int (3 : Int) (0 : Nat)), (@PySem.Value.ref (370 : Nat)), (@PySem.Value.bool Bool.true), (@PySem.Value.int (181 : Int) (0 : Nat)), (@PySem.Value.ref (371 : Nat)), PySem.Value.none, (@PySem.Value.ref (372 : Nat)), (@PySem.Value.ref (373 : Nat)), (@PySem.Value.ref (374 : Nat)), (@PySem.Value.int (677 : Int) (0 : Nat)), (@PySem.Value.int (253 : Int) (0 : Nat)), (@PySem.Value.str (@PySem.Str.ofString "/claim/cut.py") (678 : Nat))])) (List.toArray []))) ::
(nat_lit 376, (@PySem.Obj.mk (@PySem.Value.type "function") Option.none (@PySem.Data.func (PySem.FuncData.mk (@PySem.Str.ofString "law") (@PySem.Str.ofString "law") (defArgs s_law) (PySem.FuncBody.stmts (defBody s_law)) (defScope s_law) (3 : Nat) [] PySem.Value.none PySem.Value.none PySem.Value.none (@PySem.Value.str (@PySem.Str.ofString "law_quietprobes_k32_settings_refused") (508 : Nat)) Option.none (@PySem.Value.ref (375 : Nat)) PySem.Value.none (0 : Nat))) (List.toArray []))) :: []
def KA : List Nat := nat_lit 2 :: nat_lit 3 :: nat_lit 15 :: nat_lit 17 :: nat_lit 18 :: nat_lit 20 :: nat_lit 21 :: nat_lit 22 :: nat_lit 29 :: nat_lit 30 :: nat_lit 31 :: nat_lit 32 :: nat_lit 35 :: nat_lit 38 :: nat_lit 43 :: nat_lit 44 :: nat_lit 46 :: nat_lit 47 :: nat_lit 49 :: nat_lit 50 :: nat_lit 51 :: nat_lit 52 :: nat_lit 53 :: nat_lit 56 :: nat_lit 59 :: nat_lit 64 :: nat_lit 65 :: nat_lit 67 :: nat_lit 68 :: nat_lit 70 :: nat_lit 71 :: nat_lit 72 :: nat_lit 73 :: nat_lit 74 :: nat_lit 77 :: nat_lit 80 :: nat_lit 85 :: nat_lit 86 :: nat_lit 88 :: nat_lit 89 :: nat_lit 91 :: nat_lit 92 :: nat_lit 93 :: nat_lit 94 :: nat_lit 95 :: nat_lit 98 :: nat_lit 101 :: nat_lit 102 :: nat_lit 103 :: nat_lit 104 :: nat_lit 106 :: nat_lit 107 :: nat_lit 109 :: nat_lit 110 :: nat_lit 111 :: nat_lit 113 :: nat_lit 114 :: nat_lit 116 :: nat_lit 117 :: nat_lit 118 :: nat_lit 120 :: nat_lit 121 :: nat_lit 123 :: nat_lit 124 :: nat_lit 125 :: nat_lit 127 :: nat_lit 128 :: nat_lit 130 :: nat_lit 131 :: nat_lit 132 :: nat_lit 135 :: nat_lit 136 :: nat_lit 144 :: nat_lit 145 :: nat_lit 146 :: nat_lit 149 :: nat_lit 150 :: nat_lit 151 :: nat_lit 153 :: nat_lit 154 :: nat_lit 156 :: nat_lit 157 :: nat_lit 158 :: nat_lit 160 :: nat_lit 161 :: nat_lit 163 :: nat_lit 164 :: nat_lit 165 :: nat_lit 167 :: nat_lit 168 :: nat_lit 170 :: nat_lit 171 :: nat_lit 172 :: nat_lit 174 :: nat_lit 175 :: nat_lit 177 :: nat_lit 178 :: nat_lit 179 :: nat_lit 181 :: nat_lit 182 :: nat_lit 184 :: nat_lit 185 :: nat_lit 186 :: nat_lit 188 :: nat_lit 189 :: nat_lit 191 :: nat_lit 192 :: nat_lit 193 :: nat_lit 196 :: nat_lit 197 :: nat_lit 198 :: nat_lit 200 :: nat_lit 201 :: nat_lit 203 :: nat_lit 204 :: nat_lit 205 :: nat_lit 208 :: nat_lit 209 :: nat_lit 210 :: nat_lit 213 :: nat_lit 214 :: nat_lit 215 :: nat_lit 218 :: nat_lit 219 :: nat_lit 220 :: nat_lit 222 :: nat_lit 223 :: nat_lit 225 :: nat_lit 226 :: nat_lit 227 :: nat_lit 229 :: nat_lit 230 :: nat_lit 232 :: nat_lit 233 :: nat_lit 234 :: nat_lit 236 :: nat_lit 237 :: nat_lit 239 :: nat_lit 240 :: nat_lit 241 :: nat_lit 242 :: nat_lit 244 :: nat_lit 245 :: nat_lit 247 :: nat_lit 248 :: nat_lit 249 :: nat_lit 250 :: nat_lit 251 :: nat_lit 252 :: nat_lit 253 :: nat_lit 254 :: nat_lit 255 :: nat_lit 256 :: nat_lit 259 :: nat_lit 262 :: nat_lit 263 :: nat_lit 264 :: nat_lit 266 :: nat_lit 267 :: nat_lit 269 :: nat_lit 270 :: nat_lit 271 :: nat_lit 273 :: nat_lit 274 :: nat_lit 276 :: nat_lit 277 :: nat_lit 278 :: nat_lit 280 :: nat_lit 281 :: nat_lit 283 :: nat_lit 284 :: nat_lit 285 :: nat_lit 287 :: nat_lit 288 :: nat_lit 290 :: nat_lit 291 :: nat_lit 292 :: nat_lit 295 :: nat_lit 296 :: nat_lit 297 :: nat_lit 300 :: nat_lit 301 :: nat_lit 302 :: nat_lit 305 :: nat_lit 306 :: nat_lit 307 :: nat_lit 309 :: nat_lit 310 :: nat_lit 312 :: nat_lit 313 :: nat_lit 314 :: nat_lit 316 :: nat_lit 317 :: nat_lit 319 :: nat_lit 320 :: nat_lit 321 :: nat_lit 323 :: nat_lit 324 :: nat_lit 326 :: nat_lit 327 :: nat_lit 328 :: nat_lit 330 :: nat_lit 331 :: nat_lit 333 :: nat_lit 334 :: nat_lit 335 :: nat_lit 337 :: nat_lit 338 :: nat_lit 340 :: nat_lit 341 :: nat_lit 342 :: nat_lit 344 :: nat_lit 345 :: nat_lit 347 :: nat_lit 348 :: nat_lit 349 :: nat_lit 351 :: nat_lit 352 :: nat_lit 354 :: nat_lit 355 :: nat_lit 356 :: nat_lit 358 :: nat_lit 359 :: nat_lit 361 :: nat_lit 362 :: nat_lit 363 :: nat_lit 365 :: nat_lit 366 :: nat_lit 368 :: nat_lit 369 :: nat_lit 370 :: nat_lit 372 :: nat_lit 373 :: nat_lit 375 :: nat_lit 376 :: []
abbrev RR : PySem.W.OpenRow := PySem.W.OpenLaw.row PySem.Challenge.rw_quietprobes_k32_settings_refused
abbrev qv : Program := PySem.W.view RR.prog [36]
abbrev loo : List PySem.Str := "_wall" :: "QuietError" :: "BadName" :: "BadMode" :: "Twice" :: "LETTERS" :: "MOST_LETTERS" :: "is_name" :: "MODES" :: "rank" :: "greater_mode" :: "lesser_mode" :: "is_mode" :: "setting_with" :: "Setting" :: "_law_is_name" :: "_law_made" :: "_law_draw" :: "_law_odd" :: "_law_pool" :: "_law_names" :: "_law_same" :: "_law_holds" :: "_law_same_odd" :: "_law_random_modes" :: "_law_setting" :: "_law_odd_mode" :: "_law_expected" :: "_law_tried" :: "_law_mixed" :: "_law_put" :: "_law_asked" :: []
theorem KA_eq (P : PySem.Params) : KA = (KF P).map (·.1) := by kernel_rfl
abbrev hk : PySem.W.Hook := PySem.W.kHook KF KA KA_eq
def obK (s : PySem.W.SharedT) : hk.α := KA.map (HandSHeadRun.getT s)
theorem obK_eq (s : PySem.W.SharedT) : obK s = hk.obs s.abs := by
  show KA.map (HandSHeadRun.getT s) = KA.map s.abs.heap.get?
  exact congrArg KA.map (funext fun a => HandSHeadRun.getT_eq s a)
set_option maxHeartbeats 0 in
theorem run (w : World) : HandSHeadRun.RunEq RR qv hk obK 5434 loo w := by
  intro os
  kernel_rfl
theorem run_all (w : World) : HandSHeadRun.RunEq RR qv hk obK 5434 loo w := run w
set_option maxHeartbeats 0 in
theorem all_mk {l : PySem.W.OpenLaw} {w : World} {K : PySem.W.Frag} {h : Heap} {mg : Str → Option Value} {fa : Addr} (X : K.In h) (G : h.Ns mainGlobals mg) (hfa : mg "law" = some (.ref fa))
    {C_QuietError : Addr}
    {f0 : Addr} {oc0 kV0 dc0 pm0 cd0 ct0 : Value} {od0 an0 : Option Addr} {sl0 : Array (Option Value)}
    {f1 : Addr} {oc1 kV1 dc1 pm1 cd1 ct1 : Value} {od1 an1 : Option Addr} {sl1 : Array (Option Value)}
    {f2 : Addr} {oc2 kV2 dc2 pm2 cd2 ct2 : Value} {od2 an2 : Option Addr} {sl2 : Array (Option Value)}
    {f3 : Addr} {oc3 kV3 dc3 pm3 cd3 ct3 : Value} {od3 an3 : Option Addr} {sl3 : Array (Option Value)}
    {f4 : Addr} {oc4 kV4 dc4 pm4 cd4 ct4 : Value} {od4 an4 : Option Addr} {sl4 : Array (Option Value)}
    {f5 : Addr} {oc5 kV5 dc5 pm5 cd5 ct5 : Value} {od5 an5 : Option Addr} {sl5 : Array (Option Value)}
    {f6 : Addr} {oc6 kV6 dc6 pm6 cd6 ct6 : Value} {od6 an6 : Option Addr} {sl6 : Array (Option Value)}
    {f7 : Addr} {oc7 kV7 dc7 pm7 cd7 ct7 : Value} {od7 an7 : Option Addr} {sl7 : Array (Option Value)}
    {f8 : Addr} {oc8 kV8 dc8 pm8 cd8 ct8 : Value} {od8 an8 : Option Addr} {sl8 : Array (Option Value)}
    {f9 : Addr} {oc9 kV9 dc9 pm9 cd9 ct9 : Value} {od9 an9 : Option Addr} {sl9 : Array (Option Value)}
    {f10 : Addr} {oc10 kV10 dc10 pm10 cd10 ct10 : Value} {od10 an10 : Option Addr} {sl10 : Array (Option Value)}
    {f11 : Addr} {oc11 kV11 dc11 pm11 cd11 ct11 : Value} {od11 an11 : Option Addr} {sl11 : Array (Option Value)}
    {f12 : Addr} {oc12 kV12 dc12 pm12 cd12 ct12 : Value} {od12 an12 : Option Addr} {sl12 : Array (Option Value)}
    {f13 : Addr} {oc13 kV13 dc13 pm13 cd13 ct13 : Value} {od13 an13 : Option Addr} {sl13 : Array (Option Value)}
    {f14 : Addr} {oc14 kV14 dc14 pm14 cd14 ct14 : Value} {od14 an14 : Option Addr} {sl14 : Array (Option Value)}
    {f15 : Addr} {oc15 kV15 dc15 pm15 cd15 ct15 : Value} {od15 an15 : Option Addr} {sl15 : Array (Option Value)}
    {f16 : Addr} {oc16 kV16 dc16 pm16 cd16 ct16 : Value} {od16 an16 : Option Addr} {sl16 : Array (Option Value)}
    {f17 : Addr} {oc17 kV17 dc17 pm17 cd17 ct17 : Value} {od17 an17 : Option Addr} {sl17 : Array (Option Value)}
    {f18 : Addr} {oc18 kV18 dc18 pm18 cd18 ct18 : Value} {od18 an18 : Option Addr} {sl18 : Array (Option Value)}
    {f19 : Addr} {oc19 kV19 dc19 pm19 cd19 ct19 : Value} {od19 an19 : Option Addr} {sl19 : Array (Option Value)}
    {f20 : Addr} {oc20 kV20 dc20 pm20 cd20 ct20 : Value} {od20 an20 : Option Addr} {sl20 : Array (Option Value)}
    {f21 : Addr} {oc21 kV21 dc21 pm21 cd21 ct21 : Value} {od21 an21 : Option Addr} {sl21 : Array (Option Value)}
    {f22 : Addr} {oc22 kV22 dc22 pm22 cd22 ct22 : Value} {od22 an22 : Option Addr} {sl22 : Array (Option Value)}
    {f23 : Addr} {oc23 kV23 dc23 pm23 cd23 ct23 : Value} {od23 an23 : Option Addr} {sl23 : Array (Option Value)}
    {f24 : Addr} {oc24 kV24 dc24 pm24 cd24 ct24 : Value} {od24 an24 : Option Addr} {sl24 : Array (Option Value)}
    {st_LETTERS : Tok}
    {it_MOST_LETTERS : Tok}
    {tp_MODES : Addr} {to_MODES : Option Addr} {ti_MODES : Array Value} {tn_MODES : Nat} {tsl_MODES : Array (Option Value)}
    {C_BadName fI_BadName cc_BadName cda_BadName N_BadName : Addr} {kV_BadName dc_BadName pm_BadName ct_BadName oc_BadName ccl_BadName cl_BadName : Value} {an_BadName od_BadName cdd_BadName cld_BadName : Option Addr} {osl_BadName ccs_BadName csl_BadName : Array (Option Value)} {vs_BadName : Array Value} {file_BadName : Str} {tf_BadName : Tok} {nm_BadName q_BadName : Str} {bs_BadName bm_BadName : List Value} {sn_BadName : List Str} {sub_BadName : List Value} {ab_BadName : Bool} {col_BadName : Option Bool} {dd_BadName : Option Addr} {k0_BadName k1_BadName k2_BadName k3_BadName k5_BadName : Option Value}
    {C_BadMode fI_BadMode cc_BadMode cda_BadMode N_BadMode : Addr} {kV_BadMode dc_BadMode pm_BadMode ct_BadMode oc_BadMode ccl_BadMode cl_BadMode : Value} {an_BadMode od_BadMode cdd_BadMode cld_BadMode : Option Addr} {osl_BadMode ccs_BadMode csl_BadMode : Array (Option Value)} {vs_BadMode : Array Value} {file_BadMode : Str} {tf_BadMode : Tok} {nm_BadMode q_BadMode : Str} {bs_BadMode bm_BadMode : List Value} {sn_BadMode : List Str} {sub_BadMode : List Value} {ab_BadMode : Bool} {col_BadMode : Option Bool} {dd_BadMode : Option Addr} {k0_BadMode k1_BadMode k2_BadMode k3_BadMode k5_BadMode : Option Value}
    {C_Twice fI_Twice cc_Twice cda_Twice N_Twice : Addr} {kV_Twice dc_Twice pm_Twice ct_Twice oc_Twice ccl_Twice cl_Twice : Value} {an_Twice od_Twice cdd_Twice cld_Twice : Option Addr} {osl_Twice ccs_Twice csl_Twice : Array (Option Value)} {vs_Twice : Array Value} {file_Twice : Str} {tf_Twice : Tok} {nm_Twice q_Twice : Str} {bs_Twice bm_Twice : List Value} {sn_Twice : List Str} {sub_Twice : List Value} {ab_Twice : Bool} {col_Twice : Option Bool} {dd_Twice : Option Addr} {k0_Twice k1_Twice k2_Twice k3_Twice k5_Twice : Option Value}
    {C_Setting : Addr}
    {gf_Setting : Addr} {goc_Setting gkV_Setting gdc_Setting gpm_Setting gcd_Setting gct_Setting : Value} {god_Setting gan_Setting : Option Addr} {gsl_Setting : Array (Option Value)}
    {nf_Setting : Addr} {noc_Setting nkV_Setting ndc_Setting npm_Setting ncd_Setting nct_Setting : Value} {nod_Setting nan_Setting : Option Addr} {nsl_Setting : Array (Option Value)}
    {xf_Setting : Addr} {xoc_Setting xkV_Setting xdc_Setting xpm_Setting xcd_Setting xct_Setting : Value} {xod_Setting xan_Setting : Option Addr} {xsl_Setting : Array (Option Value)}
    {if_Setting : Addr} {ioc_Setting ikV_Setting idc_Setting ipm_Setting icd_Setting ict_Setting : Value} {iod_Setting ian_Setting : Option Addr} {isl_Setting : Array (Option Value)}
    {ikd_Setting ikt_Setting : Addr} {ikto_Setting : Option Addr} {ikti_Setting : Array Value} {iktn_Setting : Nat} {iksl_Setting : Array (Option Value)}
    {lf_Setting : Addr} {loc_Setting lkV_Setting ldc_Setting lpm_Setting lcd_Setting lct_Setting : Value} {lod_Setting lan_Setting : Option Addr} {lsl_Setting : Array (Option Value)}
    {m0f_Setting : Addr} {m0oc_Setting m0kV_Setting m0dc_Setting m0pm_Setting m0cd_Setting m0ct_Setting : Value} {m0od_Setting m0an_Setting : Option Addr} {m0sl_Setting : Array (Option Value)}
    (a0 : PySem.W.nsIn K mainGlobals "_wall" = some (some (.ref f0))) (l0 : K.lookup f0 = some ⟨oc0, od0, .func (PySem.W.fnOf "_wall" "_wall" (defArgs s__wall) (defBody s__wall) (defScope s__wall) .none kV0 dc0 pm0 an0 cd0 ct0), sl0⟩) (c0 : PySem.W.codeIn K cd0 "_wall" = true) (k0 : PySem.W.keepIn K (.ref f0) = true)
    (a1 : PySem.W.nsIn K mainGlobals "is_name" = some (some (.ref f1))) (l1 : K.lookup f1 = some ⟨oc1, od1, .func (PySem.W.fnOf "is_name" "is_name" (defArgs s_is_name) (defBody s_is_name) (defScope s_is_name) .none kV1 dc1 pm1 an1 cd1 ct1), sl1⟩) (c1 : PySem.W.codeIn K cd1 "is_name" = true) (k1 : PySem.W.keepIn K (.ref f1) = true)
    (a2 : PySem.W.nsIn K mainGlobals "rank" = some (some (.ref f2))) (l2 : K.lookup f2 = some ⟨oc2, od2, .func (PySem.W.fnOf "rank" "rank" (defArgs s_rank) (defBody s_rank) (defScope s_rank) .none kV2 dc2 pm2 an2 cd2 ct2), sl2⟩) (c2 : PySem.W.codeIn K cd2 "rank" = true) (k2 : PySem.W.keepIn K (.ref f2) = true)
    (a3 : PySem.W.nsIn K mainGlobals "greater_mode" = some (some (.ref f3))) (l3 : K.lookup f3 = some ⟨oc3, od3, .func (PySem.W.fnOf "greater_mode" "greater_mode" (defArgs s_greater_mode) (defBody s_greater_mode) (defScope s_greater_mode) .none kV3 dc3 pm3 an3 cd3 ct3), sl3⟩) (c3 : PySem.W.codeIn K cd3 "greater_mode" = true) (k3 : PySem.W.keepIn K (.ref f3) = true)
    (a4 : PySem.W.nsIn K mainGlobals "lesser_mode" = some (some (.ref f4))) (l4 : K.lookup f4 = some ⟨oc4, od4, .func (PySem.W.fnOf "lesser_mode" "lesser_mode" (defArgs s_lesser_mode) (defBody s_lesser_mode) (defScope s_lesser_mode) .none kV4 dc4 pm4 an4 cd4 ct4), sl4⟩) (c4 : PySem.W.codeIn K cd4 "lesser_mode" = true) (k4 : PySem.W.keepIn K (.ref f4) = true)
    (a5 : PySem.W.nsIn K mainGlobals "is_mode" = some (some (.ref f5))) (l5 : K.lookup f5 = some ⟨oc5, od5, .func (PySem.W.fnOf "is_mode" "is_mode" (defArgs s_is_mode) (defBody s_is_mode) (defScope s_is_mode) .none kV5 dc5 pm5 an5 cd5 ct5), sl5⟩) (c5 : PySem.W.codeIn K cd5 "is_mode" = true) (k5 : PySem.W.keepIn K (.ref f5) = true)
    (a6 : PySem.W.nsIn K mainGlobals "setting_with" = some (some (.ref f6))) (l6 : K.lookup f6 = some ⟨oc6, od6, .func (PySem.W.fnOf "setting_with" "setting_with" (defArgs s_setting_with) (defBody s_setting_with) (defScope s_setting_with) .none kV6 dc6 pm6 an6 cd6 ct6), sl6⟩) (c6 : PySem.W.codeIn K cd6 "setting_with" = true) (k6 : PySem.W.keepIn K (.ref f6) = true)
    (a7 : PySem.W.nsIn K mainGlobals "_law_is_name" = some (some (.ref f7))) (l7 : K.lookup f7 = some ⟨oc7, od7, .func (PySem.W.fnOf "_law_is_name" "_law_is_name" (defArgs s__law_is_name) (defBody s__law_is_name) (defScope s__law_is_name) .none kV7 dc7 pm7 an7 cd7 ct7), sl7⟩) (c7 : PySem.W.codeIn K cd7 "_law_is_name" = true) (k7 : PySem.W.keepIn K (.ref f7) = true)
    (a8 : PySem.W.nsIn K mainGlobals "_law_made" = some (some (.ref f8))) (l8 : K.lookup f8 = some ⟨oc8, od8, .func (PySem.W.fnOf "_law_made" "_law_made" (defArgs s__law_made) (defBody s__law_made) (defScope s__law_made) .none kV8 dc8 pm8 an8 cd8 ct8), sl8⟩) (c8 : PySem.W.codeIn K cd8 "_law_made" = true) (k8 : PySem.W.keepIn K (.ref f8) = true)
    (a9 : PySem.W.nsIn K mainGlobals "_law_draw" = some (some (.ref f9))) (l9 : K.lookup f9 = some ⟨oc9, od9, .func (PySem.W.fnOf "_law_draw" "_law_draw" (defArgs s__law_draw) (defBody s__law_draw) (defScope s__law_draw) .none kV9 dc9 pm9 an9 cd9 ct9), sl9⟩) (c9 : PySem.W.codeIn K cd9 "_law_draw" = true) (k9 : PySem.W.keepIn K (.ref f9) = true)
    (a10 : PySem.W.nsIn K mainGlobals "_law_odd" = some (some (.ref f10))) (l10 : K.lookup f10 = some ⟨oc10, od10, .func (PySem.W.fnOf "_law_odd" "_law_odd" (defArgs s__law_odd) (defBody s__law_odd) (defScope s__law_odd) .none kV10 dc10 pm10 an10 cd10 ct10), sl10⟩) (c10 : PySem.W.codeIn K cd10 "_law_odd" = true) (k10 : PySem.W.keepIn K (.ref f10) = true)
    (a11 : PySem.W.nsIn K mainGlobals "_law_pool" = some (some (.ref f11))) (l11 : K.lookup f11 = some ⟨oc11, od11, .func (PySem.W.fnOf "_law_pool" "_law_pool" (defArgs s__law_pool) (defBody s__law_pool) (defScope s__law_pool) .none kV11 dc11 pm11 an11 cd11 ct11), sl11⟩) (c11 : PySem.W.codeIn K cd11 "_law_pool" = true) (k11 : PySem.W.keepIn K (.ref f11) = true)
    (a12 : PySem.W.nsIn K mainGlobals "_law_names" = some (some (.ref f12))) (l12 : K.lookup f12 = some ⟨oc12, od12, .func (PySem.W.fnOf "_law_names" "_law_names" (defArgs s__law_names) (defBody s__law_names) (defScope s__law_names) .none kV12 dc12 pm12 an12 cd12 ct12), sl12⟩) (c12 : PySem.W.codeIn K cd12 "_law_names" = true) (k12 : PySem.W.keepIn K (.ref f12) = true)
    (a13 : PySem.W.nsIn K mainGlobals "_law_same" = some (some (.ref f13))) (l13 : K.lookup f13 = some ⟨oc13, od13, .func (PySem.W.fnOf "_law_same" "_law_same" (defArgs s__law_same) (defBody s__law_same) (defScope s__law_same) .none kV13 dc13 pm13 an13 cd13 ct13), sl13⟩) (c13 : PySem.W.codeIn K cd13 "_law_same" = true) (k13 : PySem.W.keepIn K (.ref f13) = true)
    (a14 : PySem.W.nsIn K mainGlobals "_law_holds" = some (some (.ref f14))) (l14 : K.lookup f14 = some ⟨oc14, od14, .func (PySem.W.fnOf "_law_holds" "_law_holds" (defArgs s__law_holds) (defBody s__law_holds) (defScope s__law_holds) .none kV14 dc14 pm14 an14 cd14 ct14), sl14⟩) (c14 : PySem.W.codeIn K cd14 "_law_holds" = true) (k14 : PySem.W.keepIn K (.ref f14) = true)
    (a15 : PySem.W.nsIn K mainGlobals "_law_same_odd" = some (some (.ref f15))) (l15 : K.lookup f15 = some ⟨oc15, od15, .func (PySem.W.fnOf "_law_same_odd" "_law_same_odd" (defArgs s__law_same_odd) (defBody s__law_same_odd) (defScope s__law_same_odd) .none kV15 dc15 pm15 an15 cd15 ct15), sl15⟩) (c15 : PySem.W.codeIn K cd15 "_law_same_odd" = true) (k15 : PySem.W.keepIn K (.ref f15) = true)
    (a16 : PySem.W.nsIn K mainGlobals "_law_random_modes" = some (some (.ref f16))) (l16 : K.lookup f16 = some ⟨oc16, od16, .func (PySem.W.fnOf "_law_random_modes" "_law_random_modes" (defArgs s__law_random_modes) (defBody s__law_random_modes) (defScope s__law_random_modes) .none kV16 dc16 pm16 an16 cd16 ct16), sl16⟩) (c16 : PySem.W.codeIn K cd16 "_law_random_modes" = true) (k16 : PySem.W.keepIn K (.ref f16) = true)
    (a17 : PySem.W.nsIn K mainGlobals "_law_setting" = some (some (.ref f17))) (l17 : K.lookup f17 = some ⟨oc17, od17, .func (PySem.W.fnOf "_law_setting" "_law_setting" (defArgs s__law_setting) (defBody s__law_setting) (defScope s__law_setting) .none kV17 dc17 pm17 an17 cd17 ct17), sl17⟩) (c17 : PySem.W.codeIn K cd17 "_law_setting" = true) (k17 : PySem.W.keepIn K (.ref f17) = true)
    (a18 : PySem.W.nsIn K mainGlobals "_law_odd_mode" = some (some (.ref f18))) (l18 : K.lookup f18 = some ⟨oc18, od18, .func (PySem.W.fnOf "_law_odd_mode" "_law_odd_mode" (defArgs s__law_odd_mode) (defBody s__law_odd_mode) (defScope s__law_odd_mode) .none kV18 dc18 pm18 an18 cd18 ct18), sl18⟩) (c18 : PySem.W.codeIn K cd18 "_law_odd_mode" = true) (k18 : PySem.W.keepIn K (.ref f18) = true)
    (a19 : PySem.W.nsIn K mainGlobals "_law_expected" = some (some (.ref f19))) (l19 : K.lookup f19 = some ⟨oc19, od19, .func (PySem.W.fnOf "_law_expected" "_law_expected" (defArgs s__law_expected) (defBody s__law_expected) (defScope s__law_expected) .none kV19 dc19 pm19 an19 cd19 ct19), sl19⟩) (c19 : PySem.W.codeIn K cd19 "_law_expected" = true) (k19 : PySem.W.keepIn K (.ref f19) = true)
    (a20 : PySem.W.nsIn K mainGlobals "_law_tried" = some (some (.ref f20))) (l20 : K.lookup f20 = some ⟨oc20, od20, .func (PySem.W.fnOf "_law_tried" "_law_tried" (defArgs s__law_tried) (defBody s__law_tried) (defScope s__law_tried) .none kV20 dc20 pm20 an20 cd20 ct20), sl20⟩) (c20 : PySem.W.codeIn K cd20 "_law_tried" = true) (k20 : PySem.W.keepIn K (.ref f20) = true)
    (a21 : PySem.W.nsIn K mainGlobals "_law_mixed" = some (some (.ref f21))) (l21 : K.lookup f21 = some ⟨oc21, od21, .func (PySem.W.fnOf "_law_mixed" "_law_mixed" (defArgs s__law_mixed) (defBody s__law_mixed) (defScope s__law_mixed) .none kV21 dc21 pm21 an21 cd21 ct21), sl21⟩) (c21 : PySem.W.codeIn K cd21 "_law_mixed" = true) (k21 : PySem.W.keepIn K (.ref f21) = true)
    (a22 : PySem.W.nsIn K mainGlobals "_law_put" = some (some (.ref f22))) (l22 : K.lookup f22 = some ⟨oc22, od22, .func (PySem.W.fnOf "_law_put" "_law_put" (defArgs s__law_put) (defBody s__law_put) (defScope s__law_put) .none kV22 dc22 pm22 an22 cd22 ct22), sl22⟩) (c22 : PySem.W.codeIn K cd22 "_law_put" = true) (k22 : PySem.W.keepIn K (.ref f22) = true)
    (a23 : PySem.W.nsIn K mainGlobals "_law_asked" = some (some (.ref f23))) (l23 : K.lookup f23 = some ⟨oc23, od23, .func (PySem.W.fnOf "_law_asked" "_law_asked" (defArgs s__law_asked) (defBody s__law_asked) (defScope s__law_asked) .none kV23 dc23 pm23 an23 cd23 ct23), sl23⟩) (c23 : PySem.W.codeIn K cd23 "_law_asked" = true) (k23 : PySem.W.keepIn K (.ref f23) = true)
    (a24 : PySem.W.nsIn K mainGlobals "law" = some (some (.ref f24))) (l24 : K.lookup f24 = some ⟨oc24, od24, .func (PySem.W.fnOf "law" "law" (defArgs s_law) (defBody s_law) (defScope s_law) .none kV24 dc24 pm24 an24 cd24 ct24), sl24⟩) (c24 : PySem.W.codeIn K cd24 "law" = true) (k24 : PySem.W.keepIn K (.ref f24) = true)
    (z_len : PySem.W.nsIn K mainGlobals "len" = some none)
    (z_int : PySem.W.nsIn K mainGlobals "int" = some none)
    (z_list : PySem.W.nsIn K mainGlobals "list" = some none)
    (z_tuple : PySem.W.nsIn K mainGlobals "tuple" = some none)
    (z_isi : PySem.W.nsIn K mainGlobals "isinstance" = some none)
    (z_range : PySem.W.nsIn K mainGlobals "range" = some none)
    (z_all : PySem.W.nsIn K mainGlobals "all" = some none)
    (z_any : PySem.W.nsIn K mainGlobals "any" = some none)
    (z_str : PySem.W.nsIn K mainGlobals "str" = some none)
    (z_bool : PySem.W.nsIn K mainGlobals "bool" = some none)
    (z_enum : PySem.W.nsIn K mainGlobals "enumerate" = some none)
    (z_zip : PySem.W.nsIn K mainGlobals "zip" = some none)
    (z_sum : PySem.W.nsIn K mainGlobals "sum" = some none)
    (z_max : PySem.W.nsIn K mainGlobals "max" = some none)
    (z_min : PySem.W.nsIn K mainGlobals "min" = some none)
    (z_sorted : PySem.W.nsIn K mainGlobals "sorted" = some none)
    (z_set : PySem.W.nsIn K mainGlobals "set" = some none)
    (z_dict : PySem.W.nsIn K mainGlobals "dict" = some none)
    (z_repr : PySem.W.nsIn K mainGlobals "repr" = some none)
    (sa_LETTERS : PySem.W.nsIn K mainGlobals "LETTERS" = some (some (.str abc st_LETTERS)))
    (ia_MOST_LETTERS : PySem.W.nsIn K mainGlobals "MOST_LETTERS" = some (some (.int 8 it_MOST_LETTERS)))
    (pa_MODES : PySem.W.nsIn K mainGlobals "MODES" = some (some (.ref tp_MODES))) (pl_MODES : K.lookup tp_MODES = some ⟨.type "tuple", to_MODES, .seq ti_MODES tn_MODES, tsl_MODES⟩) (pv_MODES : strVs ti_MODES.toList = some modesL)
    (oq : PySem.W.nsIn K cStatics "thirdparty.any" = some none) (z_super : PySem.W.nsIn K mainGlobals "super" = some none) (gtc : PySem.W.specialIn K (.builtin "object.__class__") "__get__" = some (some (.builtin "getset_descriptor.__get__"))) (tkc : PySem.W.takesIn K (.builtin "object.__class__") = some true) (tsup : (l.prog.main.scope.names.lookup ("super" : Str)).isSome = false)
    (ecg_BadName : PySem.W.nsIn K mainGlobals "BadName" = some (some (.ref C_BadName)))
    (exL_BadName : K.lookup C_BadName = some (excClassObj nm_BadName q_BadName C_BadName N_BadName bs_BadName bm_BadName true sn_BadName sub_BadName ab_BadName col_BadName dd_BadName k0_BadName k1_BadName k2_BadName k3_BadName k5_BadName "ValueError.__new__"))
    (esa_BadName : PySem.W.findIn K (.ref C_BadName) "__setattr__" = some (some (.builtin "object.__setattr__")))
    (eex_BadName : PySem.W.subIn K (.ref C_BadName) (.type "BaseException") = some true)
    (ety_BadName : PySem.W.typeIn K (.ref C_BadName) = some (.type "type"))
    (ekC_BadName : PySem.W.keepIn K (.ref C_BadName) = true)
    (ei1_BadName : PySem.W.findIn K (.ref C_BadName) "__init__" = some (some (.ref fI_BadName)))
    (ei2_BadName : PySem.W.typeIn K (.ref fI_BadName) = some (.type "function"))
    (emr_BadName : PySem.W.mroIn K C_BadName (.ref C_BadName) = some true)
    (esv_BadName : PySem.W.subIn K (.ref C_BadName) (.type "ValueError") = some true)
    (esu_BadName : PySem.W.ks_superIn K C_BadName C_BadName "__init__" = some (some (.builtin "ValueError.__init__")))
    (elk_BadName : K.lookup fI_BadName = some ⟨oc_BadName, od_BadName, .func (PySem.W.ksFn "__init__" "BadName.__init__" (defArgs s_BadName___init__) (defBody s_BadName___init__) (defScope s_BadName___init__) .none kV_BadName dc_BadName pm_BadName an_BadName (.ref cda_BadName) ct_BadName cc_BadName), osl_BadName⟩)
    (ehc_BadName : PySem.W.codeIn K (.ref cda_BadName) "BadName.__init__" = true)
    (eno_BadName : PySem.W.findIn K (.ref C_BadName) "name" = some none)
    (eco_BadName : K.lookup cda_BadName = some ⟨ccl_BadName, cdd_BadName, .fields vs_BadName, ccs_BadName⟩)
    (ece_BadName : K.lookup cc_BadName = some ⟨cl_BadName, cld_BadName, .cell (some (.ref C_BadName)), csl_BadName⟩)
    (ega_BadName : PySem.W.findIn K (.ref C_BadName) "__getattribute__" = some (some (.builtin "BaseException.__getattribute__")))
    (egg_BadName : PySem.W.findIn K (.ref C_BadName) "__getattr__" = some none)
    (ehd_BadName : PySem.W.hasDictIn K C_BadName = true)
    (ese_BadName : PySem.W.subIn K (.ref C_BadName) (.ref C_BadName) = some true)
    (ebm_BadName : PySem.HandSPX.refsVE bm_BadName = true)
    (evs_BadName : vs_BadName[2]? = some (.str file_BadName tf_BadName))
    (efl_BadName : ((l.prog.main.file : Str) == file_BadName) = true)
    (emb_BadName : bm_BadName = [.ref C_QuietError, .type "ValueError", .type "Exception", .type "BaseException", .type "object"])
    (ekl_BadName : PySem.W.findIn K (.ref C_BadName) "__class__" = some (some (.builtin "object.__class__")))
    (emo_BadName : PySem.W.mroIn K C_BadName (.type "object") = some true)
    (ecg_BadMode : PySem.W.nsIn K mainGlobals "BadMode" = some (some (.ref C_BadMode)))
    (exL_BadMode : K.lookup C_BadMode = some (excClassObj nm_BadMode q_BadMode C_BadMode N_BadMode bs_BadMode bm_BadMode true sn_BadMode sub_BadMode ab_BadMode col_BadMode dd_BadMode k0_BadMode k1_BadMode k2_BadMode k3_BadMode k5_BadMode "ValueError.__new__"))
    (esa_BadMode : PySem.W.findIn K (.ref C_BadMode) "__setattr__" = some (some (.builtin "object.__setattr__")))
    (eex_BadMode : PySem.W.subIn K (.ref C_BadMode) (.type "BaseException") = some true)
    (ety_BadMode : PySem.W.typeIn K (.ref C_BadMode) = some (.type "type"))
    (ekC_BadMode : PySem.W.keepIn K (.ref C_BadMode) = true)
    (ei1_BadMode : PySem.W.findIn K (.ref C_BadMode) "__init__" = some (some (.ref fI_BadMode)))
    (ei2_BadMode : PySem.W.typeIn K (.ref fI_BadMode) = some (.type "function"))
    (emr_BadMode : PySem.W.mroIn K C_BadMode (.ref C_BadMode) = some true)
    (esv_BadMode : PySem.W.subIn K (.ref C_BadMode) (.type "ValueError") = some true)
    (esu_BadMode : PySem.W.ks_superIn K C_BadMode C_BadMode "__init__" = some (some (.builtin "ValueError.__init__")))
    (elk_BadMode : K.lookup fI_BadMode = some ⟨oc_BadMode, od_BadMode, .func (PySem.W.ksFn "__init__" "BadMode.__init__" (defArgs s_BadMode___init__) (defBody s_BadMode___init__) (defScope s_BadMode___init__) .none kV_BadMode dc_BadMode pm_BadMode an_BadMode (.ref cda_BadMode) ct_BadMode cc_BadMode), osl_BadMode⟩)
    (ehc_BadMode : PySem.W.codeIn K (.ref cda_BadMode) "BadMode.__init__" = true)
    (eno_BadMode : PySem.W.findIn K (.ref C_BadMode) "mode" = some none)
    (eco_BadMode : K.lookup cda_BadMode = some ⟨ccl_BadMode, cdd_BadMode, .fields vs_BadMode, ccs_BadMode⟩)
    (ece_BadMode : K.lookup cc_BadMode = some ⟨cl_BadMode, cld_BadMode, .cell (some (.ref C_BadMode)), csl_BadMode⟩)
    (ega_BadMode : PySem.W.findIn K (.ref C_BadMode) "__getattribute__" = some (some (.builtin "BaseException.__getattribute__")))
    (egg_BadMode : PySem.W.findIn K (.ref C_BadMode) "__getattr__" = some none)
    (ehd_BadMode : PySem.W.hasDictIn K C_BadMode = true)
    (ese_BadMode : PySem.W.subIn K (.ref C_BadMode) (.ref C_BadMode) = some true)
    (ebm_BadMode : PySem.HandSPX.refsVE bm_BadMode = true)
    (evs_BadMode : vs_BadMode[2]? = some (.str file_BadMode tf_BadMode))
    (efl_BadMode : ((l.prog.main.file : Str) == file_BadMode) = true)
    (emb_BadMode : bm_BadMode = [.ref C_QuietError, .type "ValueError", .type "Exception", .type "BaseException", .type "object"])
    (ekl_BadMode : PySem.W.findIn K (.ref C_BadMode) "__class__" = some (some (.builtin "object.__class__")))
    (emo_BadMode : PySem.W.mroIn K C_BadMode (.type "object") = some true)
    (ecg_Twice : PySem.W.nsIn K mainGlobals "Twice" = some (some (.ref C_Twice)))
    (exL_Twice : K.lookup C_Twice = some (excClassObj nm_Twice q_Twice C_Twice N_Twice bs_Twice bm_Twice true sn_Twice sub_Twice ab_Twice col_Twice dd_Twice k0_Twice k1_Twice k2_Twice k3_Twice k5_Twice "ValueError.__new__"))
    (esa_Twice : PySem.W.findIn K (.ref C_Twice) "__setattr__" = some (some (.builtin "object.__setattr__")))
    (eex_Twice : PySem.W.subIn K (.ref C_Twice) (.type "BaseException") = some true)
    (ety_Twice : PySem.W.typeIn K (.ref C_Twice) = some (.type "type"))
    (ekC_Twice : PySem.W.keepIn K (.ref C_Twice) = true)
    (ei1_Twice : PySem.W.findIn K (.ref C_Twice) "__init__" = some (some (.ref fI_Twice)))
    (ei2_Twice : PySem.W.typeIn K (.ref fI_Twice) = some (.type "function"))
    (emr_Twice : PySem.W.mroIn K C_Twice (.ref C_Twice) = some true)
    (esv_Twice : PySem.W.subIn K (.ref C_Twice) (.type "ValueError") = some true)
    (esu_Twice : PySem.W.ks_superIn K C_Twice C_Twice "__init__" = some (some (.builtin "ValueError.__init__")))
    (elk_Twice : K.lookup fI_Twice = some ⟨oc_Twice, od_Twice, .func (PySem.W.ksFn "__init__" "Twice.__init__" (defArgs s_Twice___init__) (defBody s_Twice___init__) (defScope s_Twice___init__) .none kV_Twice dc_Twice pm_Twice an_Twice (.ref cda_Twice) ct_Twice cc_Twice), osl_Twice⟩)
    (ehc_Twice : PySem.W.codeIn K (.ref cda_Twice) "Twice.__init__" = true)
    (eno_Twice : PySem.W.findIn K (.ref C_Twice) "name" = some none)
    (eco_Twice : K.lookup cda_Twice = some ⟨ccl_Twice, cdd_Twice, .fields vs_Twice, ccs_Twice⟩)
    (ece_Twice : K.lookup cc_Twice = some ⟨cl_Twice, cld_Twice, .cell (some (.ref C_Twice)), csl_Twice⟩)
    (ega_Twice : PySem.W.findIn K (.ref C_Twice) "__getattribute__" = some (some (.builtin "BaseException.__getattribute__")))
    (egg_Twice : PySem.W.findIn K (.ref C_Twice) "__getattr__" = some none)
    (ehd_Twice : PySem.W.hasDictIn K C_Twice = true)
    (ese_Twice : PySem.W.subIn K (.ref C_Twice) (.ref C_Twice) = some true)
    (ebm_Twice : PySem.HandSPX.refsVE bm_Twice = true)
    (evs_Twice : vs_Twice[2]? = some (.str file_Twice tf_Twice))
    (efl_Twice : ((l.prog.main.file : Str) == file_Twice) = true)
    (emb_Twice : bm_Twice = [.ref C_QuietError, .type "ValueError", .type "Exception", .type "BaseException", .type "object"])
    (ekl_Twice : PySem.W.findIn K (.ref C_Twice) "__class__" = some (some (.builtin "object.__class__")))
    (emo_Twice : PySem.W.mroIn K C_Twice (.type "object") = some true)
    (ra_QuietError : PySem.W.nsIn K mainGlobals "QuietError" = some (some (.ref C_QuietError))) (ehd_QuietError : PySem.W.hasDictIn K C_QuietError = true) (ety_QuietError : PySem.W.typeIn K (.ref C_QuietError) = some (.type "type")) (zo_ValueError : PySem.W.nsIn K mainGlobals "ValueError" = some none) (zo_LookupError : PySem.W.nsIn K mainGlobals "LookupError" = some none)
    (ndE : ([C_BadName, C_BadMode, C_Twice, C_QuietError] : List Addr).Nodup)
    (ccg_Setting : PySem.W.nsIn K mainGlobals "Setting" = some (some (.ref C_Setting)))
    (cpg_Setting : PySem.W.plainGet K C_Setting Str.empty = true)
    (chd_Setting : PySem.W.hasDictIn K C_Setting = true)
    (cpo_Setting : PySem.W.plainOver K C_Setting = true)
    (csa_Setting : PySem.W.findIn K (.ref C_Setting) "__setattr__" = some (some (.builtin "object.__setattr__")))
    (ckl_Setting : PySem.W.findIn K (.ref C_Setting) "__class__" = some (some (.builtin "object.__class__")))
    (cmr_Setting : PySem.W.mroIn K C_Setting (.type "object") = some true)
    (cic_Setting : PySem.W.isClsIn K C_Setting = true)
    (cty_Setting : PySem.W.typeIn K (.ref C_Setting) = some (.type "type"))
    (csstr_Setting : PySem.W.subIn K (.ref C_Setting) (.type "str") = some false)
    (csint_Setting : PySem.W.subIn K (.ref C_Setting) (.type "int") = some false)
    (csbool_Setting : PySem.W.subIn K (.ref C_Setting) (.type "bool") = some false)
    (cslist_Setting : PySem.W.subIn K (.ref C_Setting) (.type "list") = some false)
    (cstuple_Setting : PySem.W.subIn K (.ref C_Setting) (.type "tuple") = some false)
    (ctNoneType_Setting : PySem.W.subIn K (.type "NoneType") (.ref C_Setting) = some false)
    (ctbool_Setting : PySem.W.subIn K (.type "bool") (.ref C_Setting) = some false)
    (ctint_Setting : PySem.W.subIn K (.type "int") (.ref C_Setting) = some false)
    (ctstr_Setting : PySem.W.subIn K (.type "str") (.ref C_Setting) = some false)
    (ctlist_Setting : PySem.W.subIn K (.type "list") (.ref C_Setting) = some false)
    (cttuple_Setting : PySem.W.subIn K (.type "tuple") (.ref C_Setting) = some false)
    (ctdict_Setting : PySem.W.subIn K (.type "dict") (.ref C_Setting) = some false)
    (cn0_Setting : PySem.W.findIn K (.ref C_Setting) "chosen" = some none)
    (cga__Setting : PySem.W.findIn K (.ref C_Setting) "__getitem__" = some (some (.ref gf_Setting)))
    (cgfn_Setting : PySem.W.isFn K (.ref gf_Setting) = true)
    (cgfi_Setting : PySem.W.fnIn K gf_Setting = true)
    (cglk_Setting : K.lookup gf_Setting = some ⟨goc_Setting, god_Setting, .func (PySem.W.fnOf "__getitem__" "Setting.__getitem__" (defArgs s_Setting___getitem__) (defBody s_Setting___getitem__) (defScope s_Setting___getitem__) .none gkV_Setting gdc_Setting gpm_Setting gan_Setting gcd_Setting gct_Setting), gsl_Setting⟩)
    (cgci_Setting : PySem.W.codeIn K gcd_Setting "Setting.__getitem__" = true)
    (cgkp_Setting : PySem.W.keepIn K (.ref gf_Setting) = true)
    (cna__Setting : PySem.W.findIn K (.ref C_Setting) "__contains__" = some (some (.ref nf_Setting)))
    (cnfn_Setting : PySem.W.isFn K (.ref nf_Setting) = true)
    (cnlk_Setting : K.lookup nf_Setting = some ⟨noc_Setting, nod_Setting, .func (PySem.W.fnOf "__contains__" "Setting.__contains__" (defArgs s_Setting___contains__) (defBody s_Setting___contains__) (defScope s_Setting___contains__) .none nkV_Setting ndc_Setting npm_Setting nan_Setting ncd_Setting nct_Setting), nsl_Setting⟩)
    (cnci_Setting : PySem.W.codeIn K ncd_Setting "Setting.__contains__" = true)
    (cnkp_Setting : PySem.W.keepIn K (.ref nf_Setting) = true)
    (cxa__Setting : PySem.W.findIn K (.ref C_Setting) "__setitem__" = some (some (.ref xf_Setting)))
    (cxfn_Setting : PySem.W.isFn K (.ref xf_Setting) = true)
    (cxnq_Setting : PySem.W.noSeq K C_Setting = true)
    (cxlk_Setting : K.lookup xf_Setting = some ⟨xoc_Setting, xod_Setting, .func (PySem.W.fnOf "__setitem__" "Setting.__setitem__" (defArgs s_Setting___setitem__) (defBody s_Setting___setitem__) (defScope s_Setting___setitem__) .none xkV_Setting xdc_Setting xpm_Setting xan_Setting xcd_Setting xct_Setting), xsl_Setting⟩)
    (cxci_Setting : PySem.W.codeIn K xcd_Setting "Setting.__setitem__" = true)
    (cxkp_Setting : PySem.W.keepIn K (.ref xf_Setting) = true)
    (cnob_Setting : PySem.W.findIn K (.ref C_Setting) "__bool__" = some none)
    (cmk_Setting : PySem.W.makesIn K C_Setting = true)
    (cii_Setting : PySem.W.findIn K (.ref C_Setting) "__init__" = some (some (.ref if_Setting)))
    (cifn_Setting : PySem.W.isFn K (.ref if_Setting) = true)
    (cikc_Setting : PySem.W.keepIn K (.ref C_Setting) = true)
    (cilk_Setting : K.lookup if_Setting = some ⟨ioc_Setting, iod_Setting, .func (PySem.W.fnOf "__init__" "Setting.__init__" (defArgs s_Setting___init__) (defBody s_Setting___init__) (defScope s_Setting___init__) .none ikV_Setting idc_Setting ipm_Setting ian_Setting icd_Setting ict_Setting), isl_Setting⟩)
    (cici_Setting : PySem.W.codeIn K icd_Setting "Setting.__init__" = true)
    (cikp_Setting : PySem.W.keepIn K (.ref if_Setting) = true)
    (cikv_Setting : ikV_Setting = .ref ikd_Setting)
    (cikn_Setting : PySem.W.nsIn K ikd_Setting "deaf" = some (some (.ref ikt_Setting)))
    (cikl_Setting : K.lookup ikt_Setting = some ⟨.type "tuple", ikto_Setting, .seq ikti_Setting iktn_Setting, iksl_Setting⟩)
    (cikz_Setting : strVs ikti_Setting.toList = some [])
    (cla__Setting : PySem.W.findIn K (.ref C_Setting) "__len__" = some (some (.ref lf_Setting)))
    (clfn_Setting : PySem.W.isFn K (.ref lf_Setting) = true)
    (clfi_Setting : PySem.W.fnIn K lf_Setting = true)
    (cllk_Setting : K.lookup lf_Setting = some ⟨loc_Setting, lod_Setting, .func (PySem.W.fnOf "__len__" "Setting.__len__" (defArgs s_Setting___len__) (defBody s_Setting___len__) (defScope s_Setting___len__) .none lkV_Setting ldc_Setting lpm_Setting lan_Setting lcd_Setting lct_Setting), lsl_Setting⟩)
    (clci_Setting : PySem.W.codeIn K lcd_Setting "Setting.__len__" = true)
    (clkp_Setting : PySem.W.keepIn K (.ref lf_Setting) = true)
    (cm0a_Setting : PySem.W.findIn K (.ref C_Setting) "names" = some (some (.ref m0f_Setting)))
    (cm0fn_Setting : PySem.W.isFn K (.ref m0f_Setting) = true)
    (cm0lk_Setting : K.lookup m0f_Setting = some ⟨m0oc_Setting, m0od_Setting, .func (PySem.W.fnOf "names" "Setting.names" (defArgs s_Setting_names) (defBody s_Setting_names) (defScope s_Setting_names) .none m0kV_Setting m0dc_Setting m0pm_Setting m0an_Setting m0cd_Setting m0ct_Setting), m0sl_Setting⟩)
    (cm0ci_Setting : PySem.W.codeIn K m0cd_Setting "Setting.names" = true)
    (cm0kp_Setting : PySem.W.keepIn K (.ref m0f_Setting) = true)
    (s21 : PySem.W.subIn K (.ref C_Twice) (.ref C_BadName) = some false)
    (smn : PySem.W.subIn K (.ref C_BadMode) (.ref C_BadName) = some false) :
    ∀ base : Heap, K.In base → base.Ns mainGlobals mg → FnE l.prog w K mg base CX0 8 fa NoRepr (spLaw K) := by
  have D__wall : Dfn K mg "_wall" s__wall ["k"] := dfn_mk X G a0 l0 c0 k0 fun _ _ _ _ _ _ us hl => match us, hl with | [_], _ => rfl
  have D_is_name : Dfn K mg "is_name" s_is_name ["value"] := dfn_mk X G a1 l1 c1 k1 fun _ _ _ _ _ _ us hl => match us, hl with | [_], _ => rfl
  have D_rank : Dfn K mg "rank" s_rank ["mode"] := dfn_mk X G a2 l2 c2 k2 fun _ _ _ _ _ _ us hl => match us, hl with | [_], _ => rfl
  have D_greater_mode : Dfn K mg "greater_mode" s_greater_mode ["one", "other"] := dfn_mk X G a3 l3 c3 k3 fun _ _ _ _ _ _ us hl => match us, hl with | [_, _], _ => rfl
  have D_lesser_mode : Dfn K mg "lesser_mode" s_lesser_mode ["one", "other"] := dfn_mk X G a4 l4 c4 k4 fun _ _ _ _ _ _ us hl => match us, hl with | [_, _], _ => rfl
  have D_is_mode : Dfn K mg "is_mode" s_is_mode ["mode"] := dfn_mk X G a5 l5 c5 k5 fun _ _ _ _ _ _ us hl => match us, hl with | [_], _ => rfl
  have D_setting_with : Dfn K mg "setting_with" s_setting_with ["modes"] := dfn_mk X G a6 l6 c6 k6 fun _ _ _ _ _ _ us hl => match us, hl with | [_], _ => rfl
  have D__law_is_name : Dfn K mg "_law_is_name" s__law_is_name ["_law_x"] := dfn_mk X G a7 l7 c7 k7 fun _ _ _ _ _ _ us hl => match us, hl with | [_], _ => rfl
  have D__law_made : Dfn K mg "_law_made" s__law_made ["_law_on", "_law_faint"] := dfn_mk X G a8 l8 c8 k8 fun _ _ _ _ _ _ us hl => match us, hl with | [_, _], _ => rfl
  have D__law_draw : Dfn K mg "_law_draw" s__law_draw ["_law_pool_here", "_law_many"] := dfn_mk X G a9 l9 c9 k9 fun _ _ _ _ _ _ us hl => match us, hl with | [_, _], _ => rfl
  have D__law_odd : Dfn K mg "_law_odd" s__law_odd ["_law_pool_here"] := dfn_mk X G a10 l10 c10 k10 fun _ _ _ _ _ _ us hl => match us, hl with | [_], _ => rfl
  have D__law_pool : Dfn K mg "_law_pool" s__law_pool ["_law_script"] := dfn_mk X G a11 l11 c11 k11 fun _ _ _ _ _ _ us hl => match us, hl with | [_], _ => rfl
  have D__law_names : Dfn K mg "_law_names" s__law_names ["_law_pool_here", "_law_many"] := dfn_mk X G a12 l12 c12 k12 fun _ _ _ _ _ _ us hl => match us, hl with | [_, _], _ => rfl
  have D__law_same : Dfn K mg "_law_same" s__law_same ["_law_actual", "_law_due"] := dfn_mk X G a13 l13 c13 k13 fun _ _ _ _ _ _ us hl => match us, hl with | [_, _], _ => rfl
  have D__law_holds : Dfn K mg "_law_holds" s__law_holds ["_law_setting_here", "_law_modes", "_law_names_here"] := dfn_mk X G a14 l14 c14 k14 fun _ _ _ _ _ _ us hl => match us, hl with | [_, _, _], _ => rfl
  have D__law_same_odd : Dfn K mg "_law_same_odd" s__law_same_odd ["_law_actual", "_law_due"] := dfn_mk X G a15 l15 c15 k15 fun _ _ _ _ _ _ us hl => match us, hl with | [_, _], _ => rfl
  have D__law_random_modes : Dfn K mg "_law_random_modes" s__law_random_modes ["_law_pool_here", "_law_names_here"] := dfn_mk X G a16 l16 c16 k16 fun _ _ _ _ _ _ us hl => match us, hl with | [_, _], _ => rfl
  have D__law_setting : Dfn K mg "_law_setting" s__law_setting ["_law_modes"] := dfn_mk X G a17 l17 c17 k17 fun _ _ _ _ _ _ us hl => match us, hl with | [_], _ => rfl
  have D__law_odd_mode : Dfn K mg "_law_odd_mode" s__law_odd_mode ["_law_pool_here"] := dfn_mk X G a18 l18 c18 k18 fun _ _ _ _ _ _ us hl => match us, hl with | [_], _ => rfl
  have D__law_expected : Dfn K mg "_law_expected" s__law_expected ["_law_on", "_law_faint"] := dfn_mk X G a19 l19 c19 k19 fun _ _ _ _ _ _ us hl => match us, hl with | [_, _], _ => rfl
  have D__law_tried : Dfn K mg "_law_tried" s__law_tried ["_law_on", "_law_faint"] := dfn_mk X G a20 l20 c20 k20 fun _ _ _ _ _ _ us hl => match us, hl with | [_, _], _ => rfl
  have D__law_mixed : Dfn K mg "_law_mixed" s__law_mixed ["_law_pool_here", "_law_names_here", "_law_many"] := dfn_mk X G a21 l21 c21 k21 fun _ _ _ _ _ _ us hl => match us, hl with | [_, _, _], _ => rfl
  have D__law_put : Dfn K mg "_law_put" s__law_put ["_law_setting_here", "_law_name", "_law_mode"] := dfn_mk X G a22 l22 c22 k22 fun _ _ _ _ _ _ us hl => match us, hl with | [_, _, _], _ => rfl
  have D__law_asked : Dfn K mg "_law_asked" s__law_asked ["_law_setting_here", "_law_name"] := dfn_mk X G a23 l23 c23 k23 fun _ _ _ _ _ _ us hl => match us, hl with | [_, _], _ => rfl
  have m_repr : mg "repr" = none := PySem.W.mg_none_of X G z_repr
  have B : Bl mg := ⟨PySem.W.mg_none_of X G z_len, PySem.W.mg_none_of X G z_int, PySem.W.mg_none_of X G z_list, PySem.W.mg_none_of X G z_tuple, PySem.W.mg_none_of X G z_isi, PySem.W.mg_none_of X G z_range, PySem.W.mg_none_of X G z_all, PySem.W.mg_none_of X G z_any, PySem.W.mg_none_of X G z_str, PySem.W.mg_none_of X G z_bool, PySem.W.mg_none_of X G z_enum, PySem.W.mg_none_of X G z_zip, PySem.W.mg_none_of X G z_sum, PySem.W.mg_none_of X G z_max, PySem.W.mg_none_of X G z_min, PySem.W.mg_none_of X G z_sorted, PySem.W.mg_none_of X G z_set, PySem.W.mg_none_of X G z_dict⟩
  have G_LETTERS : GS mg "LETTERS" abc := ⟨_, PySem.W.mg_of X G sa_LETTERS⟩
  have G_MOST_LETTERS : GI mg "MOST_LETTERS" 8 := ⟨_, PySem.W.mg_of X G ia_MOST_LETTERS⟩
  have G_MODES : GT K mg "MODES" modesL := ⟨_, PySem.W.mg_of X G pa_MODES, isK_tup pl_MODES pv_MODES (by decide +kernel) (by decide)⟩
  have X_BadName : ∀ base, ErrX l.prog w K mg base "BadName" C_BadName "name" := fun base => errX_mk (st := s_BadName___init__) X G ecg_BadName exL_BadName esa_BadName eex_BadName ety_BadName ekC_BadName ei1_BadName ei2_BadName emr_BadName esv_BadName esu_BadName oq z_super elk_BadName ehc_BadName eno_BadName eco_BadName ece_BadName ega_BadName egg_BadName ehd_BadName ese_BadName ebm_BadName evs_BadName efl_BadName tsup rfl ⟨_, rfl, rfl⟩ ⟨rfl, rfl, rfl, rfl⟩ (by decide +kernel) ⟨rfl, rfl, rfl⟩ (by decide) ⟨by decide, by decide⟩ (fun L => rfl) (fun L => rfl) (fun L => ⟨_, rfl⟩) (fun L => rfl) (fun us hl => match us, hl with | [_, _], _ => rfl)
  have X_BadMode : ∀ base, ErrX l.prog w K mg base "BadMode" C_BadMode "mode" := fun base => errX_mk (st := s_BadMode___init__) X G ecg_BadMode exL_BadMode esa_BadMode eex_BadMode ety_BadMode ekC_BadMode ei1_BadMode ei2_BadMode emr_BadMode esv_BadMode esu_BadMode oq z_super elk_BadMode ehc_BadMode eno_BadMode eco_BadMode ece_BadMode ega_BadMode egg_BadMode ehd_BadMode ese_BadMode ebm_BadMode evs_BadMode efl_BadMode tsup rfl ⟨_, rfl, rfl⟩ ⟨rfl, rfl, rfl, rfl⟩ (by decide +kernel) ⟨rfl, rfl, rfl⟩ (by decide) ⟨by decide, by decide⟩ (fun L => rfl) (fun L => rfl) (fun L => ⟨_, rfl⟩) (fun L => rfl) (fun us hl => match us, hl with | [_, _], _ => rfl)
  have X_Twice : ∀ base, ErrX l.prog w K mg base "Twice" C_Twice "name" := fun base => errX_mk (st := s_Twice___init__) X G ecg_Twice exL_Twice esa_Twice eex_Twice ety_Twice ekC_Twice ei1_Twice ei2_Twice emr_Twice esv_Twice esu_Twice oq z_super elk_Twice ehc_Twice eno_Twice eco_Twice ece_Twice ega_Twice egg_Twice ehd_Twice ese_Twice ebm_Twice evs_Twice efl_Twice tsup rfl ⟨_, rfl, rfl⟩ ⟨rfl, rfl, rfl, rfl⟩ (by decide +kernel) ⟨rfl, rfl, rfl⟩ (by decide) ⟨by decide, by decide⟩ (fun L => rfl) (fun L => rfl) (fun L => ⟨_, rfl⟩) (fun L => rfl) (fun us hl => match us, hl with | [_, _], _ => rfl)
  have R_QuietError : mg "QuietError" = some (.ref C_QuietError) := PySem.W.mg_of X G ra_QuietError
  have ED_BadName : ErrD K C_QuietError C_BadName := errD_mk exL_BadName emb_BadName ⟨ega_BadName, egg_BadName, eex_BadName, ehd_BadName, ekl_BadName, gtc, tkc, emo_BadName⟩ ety_BadName
  have ED_BadMode : ErrD K C_QuietError C_BadMode := errD_mk exL_BadMode emb_BadMode ⟨ega_BadMode, egg_BadMode, eex_BadMode, ehd_BadMode, ekl_BadMode, gtc, tkc, emo_BadMode⟩ ety_BadMode
  have ED_Twice : ErrD K C_QuietError C_Twice := errD_mk exL_Twice emb_Twice ⟨ega_Twice, egg_Twice, eex_Twice, ehd_Twice, ekl_Twice, gtc, tkc, emo_Twice⟩ ety_Twice
  have K_Setting : KCls K mg "Setting" C_Setting ["chosen"] := ⟨PySem.W.mg_of X G ccg_Setting, ⟨⟨cpg_Setting, chd_Setting, cpo_Setting, csa_Setting⟩, ckl_Setting, gtc, tkc, cmr_Setting, ((fm_cons csstr_Setting (fm_cons csint_Setting (fm_cons csbool_Setting (fm_cons cslist_Setting (fm_cons cstuple_Setting fm_nil))))))⟩, ((fm_cons cn0_Setting fm_nil)), ⟨cic_Setting, cty_Setting, ((fm_cons ctNoneType_Setting (fm_cons ctbool_Setting (fm_cons ctint_Setting (fm_cons ctstr_Setting (fm_cons ctlist_Setting (fm_cons cttuple_Setting (fm_cons ctdict_Setting fm_nil))))))))⟩⟩
  have D_Setting___getitem__ : DfG K C_Setting "__getitem__" "Setting.__getitem__" s_Setting___getitem__ ["self", "name"] := ⟨_, _, ⟨⟨_, _, _, _, _, _, _, _, _, _, rfl, cglk_Setting, cgci_Setting⟩⟩, ⟨cga__Setting, cgfi_Setting, cgfn_Setting⟩, (.all fun us hl => match us, hl with | [_, _], _ => rfl)⟩
  have D_Setting___contains__ : DfI K C_Setting "Setting.__contains__" s_Setting___contains__ ["self", "name"] := ⟨_, _, ⟨⟨_, _, _, _, _, _, _, _, _, _, rfl, cnlk_Setting, cnci_Setting⟩⟩, ⟨cna__Setting, cnfn_Setting⟩, (.all fun us hl => match us, hl with | [_, _], _ => rfl)⟩
  have D_Setting___setitem__ : DfSi K C_Setting "Setting.__setitem__" s_Setting___setitem__ ["self", "name", "mode"] := ⟨_, _, ⟨⟨_, _, _, _, _, _, _, _, _, _, rfl, cxlk_Setting, cxci_Setting⟩⟩, ⟨cxa__Setting, cxfn_Setting, cxnq_Setting⟩, (.all fun us hl => match us, hl with | [_, _, _], _ => rfl)⟩
  have Nob_Setting := cnob_Setting
  subst cikv_Setting
  have D_Setting___init__ : DfNK K C_Setting "Setting.__init__" s_Setting___init__ ["self"] "deaf" "on" (.tup []) := ⟨_, _, ⟨⟨_, _, _, _, _, _, _, _, _, _, rfl, cilk_Setting, cici_Setting⟩⟩, ⟨cmk_Setting, cii_Setting, cifn_Setting, cikc_Setting⟩, ⟨fun us rest w1 hl => match us, hl, rest with | [_], _, [] => rfl | [_], _, _ :: _ => rfl, _, _, .ref ikt_Setting, cikn_Setting, rfl, isK_tup cikl_Setting cikz_Setting (by decide +kernel) (by decide), fun us rest hl => match us, hl, rest with | [_], _, [] => ⟨_, _, _, _, _, _, rfl, rfl, rfl⟩ | [_], _, _ :: _ => ⟨_, _, _, _, _, _, rfl, rfl, rfl⟩⟩⟩
  have D_Setting___len__ : DfG K C_Setting "__len__" "Setting.__len__" s_Setting___len__ ["self"] := ⟨_, _, ⟨⟨_, _, _, _, _, _, _, _, _, _, rfl, cllk_Setting, clci_Setting⟩⟩, ⟨cla__Setting, clfi_Setting, clfn_Setting⟩, (.all fun us hl => match us, hl with | [_], _ => rfl)⟩
  have D_Setting_names : DfM K C_Setting "names" "Setting.names" s_Setting_names ["self"] := ⟨_, _, ⟨⟨_, _, _, _, _, _, _, _, _, _, rfl, cm0lk_Setting, cm0ci_Setting⟩⟩, ⟨cm0a_Setting, cm0fn_Setting, cm0kp_Setting⟩, (.all fun us hl => match us, hl with | [_], _ => rfl)⟩
  refine law_endQ (st := s_law) X G hfa a24 l24 c24 k24 (fun _ => rfl) (fun base fd F BF => ?_)
  have c_draw := c__law_draw (P := l.prog) (w := w) (base := base) B D__law_draw
  obtain ⟨fp, fdp, GP, gP, kP, bP⟩ := c__law_pool (P := l.prog) (w := w) (base := base) B D__law_pool
  have c_isname := c_is_name (P := l.prog) (w := w) (base := base) B G_LETTERS G_MOST_LETTERS D_is_name
  have c_ismode := c_is_mode (P := l.prog) (w := w) (base := base) B G_MODES D_is_mode
  have i_set := c_Setting_getitem B (X_BadName base) c_isname K_Setting D_Setting___getitem__
  have s_set := c_Setting_setitem B (X_BadName base) (X_BadMode base) c_isname c_ismode K_Setting D_Setting___setitem__
  have l_set := c_Setting_len (P := l.prog) (w := w) (mg := mg) (base := base) B K_Setting D_Setting___len__
  have n_set := c_Setting_contains B K_Setting c_isname D_Setting___contains__
  have m_names := c_Setting_names (P := l.prog) (w := w) (mg := mg) (base := base) B K_Setting D_Setting_names
  have nk_set := c_Setting_init B (X_BadName base) (X_Twice base) c_isname K_Setting D_Setting___init__
  have c_holds := c__law_holds B K_Setting i_set n_set m_names l_set ⟨Nob_Setting, l_set⟩ (c__law_same (P := l.prog) (w := w) (base := base) B D__law_same 4) (c__law_sameLO B 4 (c__law_same B D__law_same 4) D__law_same) D__law_holds
  obtain ⟨Cs, hCs⟩ : ∃ Cs : List Addr, Cs = [C_BadName, C_BadMode, C_Twice] := ⟨_, rfl⟩
  have hED : ∀ D ∈ Cs, ErrD K C_QuietError D := by
    intro D hD
    rw [hCs] at hD
    simp only [List.mem_cons, List.not_mem_nil, or_false] at hD
    rcases hD with rfl | rfl | rfl
    · exact ED_BadName
    · exact ED_BadMode
    · exact ED_Twice
  have hnq : C_QuietError ∉ Cs := by
    rw [hCs]
    intro k
    simp only [List.mem_cons, List.not_mem_nil, or_false] at k
    simp only [List.nodup_cons, List.mem_cons, List.not_mem_nil, or_false, not_or] at ndE
    rcases k with k | k | k
    · exact ndE.1.2.2 k.symm
    · exact ndE.2.1.2 k.symm
    · exact ndE.2.2.1 k.symm
  have i1 : C_BadName ∈ Cs := by rw [hCs]; exact .head _
  have i2 : C_BadMode ∈ Cs := by rw [hCs]; exact .tail _ (.head _)
  have i3 : C_Twice ∈ Cs := by rw [hCs]; exact .tail _ (.tail _ (.head _))
  have hne : C_BadName ≠ C_BadMode := by
    simp only [List.nodup_cons, List.mem_cons, List.not_mem_nil, or_false, not_or] at ndE
    exact ndE.1.1
  have hQ := isQ_of hED ehd_QuietError ety_QuietError
  have hV := isB_of hED (T := "ValueError") (b := true) (by decide +kernel) (by decide +kernel)
  have n1 := isTab_of hED hnq i2 C_BadName i1
  rw [decide_eq_false hne] at n1
  have n2 := isTab_of hED hnq i1 C_BadMode i2
  rw [decide_eq_false hne.symm] at n2
  have c_odd := c__law_odd B c_draw D__law_odd
  have c_lname := c__law_is_name (P := l.prog) (w := w) (base := base) B D__law_is_name
  have c_made := c__law_made B K_Setting nk_set D__law_made
  have c_tried := c__law_tried B (X_BadName base) (X_Twice base) R_QuietError s21 (hQ _ i1) (hQ _ i3) c_made D__law_tried
  have c_put := c__law_put B (PySem.W.mg_none_of X G zo_ValueError) (X_BadName base) (X_BadMode base) smn (hV _ i1) (hV _ i2) n1 n2 s_set D__law_put
  exact ok_law (CM := C_BadMode) (CT := C_Twice) (CB := C_BadName) F BF GP gP kP bP B c_draw (c__law_names B c_draw D__law_names) (c__law_mixed B c_draw c_odd D__law_mixed) (c__law_expected B c_lname D__law_expected) c_tried c_holds (c__law_same_odd m_repr D__law_same_odd) (c__law_random_modes B c_draw D__law_random_modes) (c__law_setting B K_Setting nk_set s_set D__law_setting) c_odd (c__law_odd_mode B c_draw D__law_odd_mode) (c__law_asked B (X_BadName base) i_set D__law_asked) c_put
theorem walk {l : PySem.W.OpenLaw} {q : Program} {loose : List Str} {XP : (Str → Option Value) → Heap → Prop} {YP : World → Heap → Prop} {d : DefRec} {K : Params → PySem.W.Frag} (hn : l.most = some 63) (hdf : d.params.defaults = [])
    (hY : ∀ (w : World) (h : Heap), YP w h → (K w.params).In h)
    (F : ∀ (w : World) (mg : Str → Option Value) (fa : Addr) (h : Heap), (K w.params).In h → h.Ns mainGlobals mg → mg d.name = some (.ref fa) →
      ∀ base : Heap, (K w.params).In base → base.Ns mainGlobals mg → FnE l.prog w (K w.params) mg base CX0 8 fa NoRepr (spLaw (K w.params))) :
    PySem.W.WalkO q loose XP YP l.row.toRowW d [] (fun f vs => PySem.call f vs) :=
  walk_ofQ (n := 63) (k := 8) (sp := fun w => spLaw (K w.params)) hn (by decide) hdf ⟨rfl, by decide, by decide⟩ hY F (fun _ _ a ns hl _ hS => ⟨a, ns, rfl, hS, hl, fun _ => rfl⟩)
end Q
open PySem PySem.W PyProof.Rows
set_option maxRecDepth 100000 in
set_option maxHeartbeats 0 in
theorem PySem.Challenge.cw_quietprobes_k32_settings_refused_holds : PySem.Challenge.rw_quietprobes_k32_settings_refused.Holds := by
  w_on; o_law
  refine HandSHeadRun.head_any (r := OpenLaw.row PySem.Challenge.rw_quietprobes_k32_settings_refused) (q := Q.qv) (H := PySem.W.kHook Q.KF Q.KA Q.KA_eq) (ob := Q.obK) (M := 5434) (loose := Q.loo) (d := HandSHeadRun.topDef (OpenLaw.row PySem.Challenge.rw_quietprobes_k32_settings_refused).prog 36) (kwd := []) Q.obK_eq (by kernel_rfl) (fun s => by kernel_rfl) Q.run_all (by kernel_rfl) (by kernel_rfl) (by kernel_rfl) (by rfl) (by first | assumption | decide +kernel) (by decide +kernel) ⟨rfl, rfl, rfl, rfl, rfl, by decide +kernel⟩ ?hw ?hc
  case hw => w_witness2
  k_fill
  refine Q.walk (l := PySem.Challenge.rw_quietprobes_k32_settings_refused) rfl (by kernel_rfl) (fun w h Y => PySem.W.kIn_of Y) ?F
  case F =>
    intro w mg fa h KX G hmg0
    have hmg : mg ("law" : PySem.Str) = some (.ref fa) := by
      have e : (HandSHeadRun.topDef (OpenLaw.row PySem.Challenge.rw_quietprobes_k32_settings_refused).prog 36).name = ("law" : PySem.Str) := by kernel_rfl
      rw [← e]
      exact hmg0
    refine' Q.all_mk KX G hmg ?a0 ?l0 ?c0 ?k0 ?a1 ?l1 ?c1 ?k1 ?a2 ?l2 ?c2 ?k2 ?a3 ?l3 ?c3 ?k3 ?a4 ?l4 ?c4 ?k4 ?a5 ?l5 ?c5 ?k5 ?a6 ?l6 ?c6 ?k6 ?a7 ?l7 ?c7 ?k7 ?a8 ?l8 ?c8 ?k8 ?a9 ?l9 ?c9 ?k9 ?a10 ?l10 ?c10 ?k10 ?a11 ?l11 ?c11 ?k11 ?a12 ?l12 ?c12 ?k12 ?a13 ?l13 ?c13 ?k13 ?a14 ?l14 ?c14 ?k14 ?a15 ?l15 ?c15 ?k15 ?a16 ?l16 ?c16 ?k16 ?a17 ?l17 ?c17 ?k17 ?a18 ?l18 ?c18 ?k18 ?a19 ?l19 ?c19 ?k19 ?a20 ?l20 ?c20 ?k20 ?a21 ?l21 ?c21 ?k21 ?a22 ?l22 ?c22 ?k22 ?a23 ?l23 ?c23 ?k23 ?a24 ?l24 ?c24 ?k24 ?z_len ?z_int ?z_list ?z_tuple ?z_isi ?z_range ?z_all ?z_any ?z_str ?z_bool ?z_enum ?z_zip ?z_sum ?z_max ?z_min ?z_sorted ?z_set ?z_dict ?z_repr ?sa_LETTERS ?ia_MOST_LETTERS ?pa_MODES ?pl_MODES ?pv_MODES ?oq ?z_super ?gtc ?tkc ?tsup ?ecg_BadName ?exL_BadName ?esa_BadName ?eex_BadName ?ety_BadName ?ekC_BadName ?ei1_BadName ?ei2_BadName ?emr_BadName ?esv_BadName ?esu_BadName ?elk_BadName ?ehc_BadName ?eno_BadName ?eco_BadName ?ece_BadName ?ega_BadName ?egg_BadName ?ehd_BadName ?ese_BadName ?ebm_BadName ?evs_BadName ?efl_BadName ?emb_BadName ?ekl_BadName ?emo_BadName ?ecg_BadMode ?exL_BadMode ?esa_BadMode ?eex_BadMode ?ety_BadMode ?ekC_BadMode ?ei1_BadMode ?ei2_BadMode ?emr_BadMode ?esv_BadMode ?esu_BadMode ?elk_BadMode ?ehc_BadMode ?eno_BadMode ?eco_BadMode ?ece_BadMode ?ega_BadMode ?egg_BadMode ?ehd_BadMode ?ese_BadMode ?ebm_BadMode ?evs_BadMode ?efl_BadMode ?emb_BadMode ?ekl_BadMode ?emo_BadMode ?ecg_Twice ?exL_Twice ?esa_Twice ?eex_Twice ?ety_Twice ?ekC_Twice ?ei1_Twice ?ei2_Twice ?emr_Twice ?esv_Twice ?esu_Twice ?elk_Twice ?ehc_Twice ?eno_Twice ?eco_Twice ?ece_Twice ?ega_Twice ?egg_Twice ?ehd_Twice ?ese_Twice ?ebm_Twice ?evs_Twice ?efl_Twice ?emb_Twice ?ekl_Twice ?emo_Twice ?ra_QuietError ?ehd_QuietError ?ety_QuietError ?zo_ValueError ?zo_LookupError ?ndE ?ccg_Setting ?cpg_Setting ?chd_Setting ?cpo_Setting ?csa_Setting ?ckl_Setting ?cmr_Setting ?cic_Setting ?cty_Setting ?csstr_Setting ?csint_Setting ?csbool_Setting ?cslist_Setting ?cstuple_Setting ?ctNoneType_Setting ?ctbool_Setting ?ctint_Setting ?ctstr_Setting ?ctlist_Setting ?cttuple_Setting ?ctdict_Setting ?cn0_Setting ?cga__Setting ?cgfn_Setting ?cgfi_Setting ?cglk_Setting ?cgci_Setting ?cgkp_Setting ?cna__Setting ?cnfn_Setting ?cnlk_Setting ?cnci_Setting ?cnkp_Setting ?cxa__Setting ?cxfn_Setting ?cxnq_Setting ?cxlk_Setting ?cxci_Setting ?cxkp_Setting ?cnob_Setting ?cmk_Setting ?cii_Setting ?cifn_Setting ?cikc_Setting ?cilk_Setting ?cici_Setting ?cikp_Setting ?cikv_Setting ?cikn_Setting ?cikl_Setting ?cikz_Setting ?cla__Setting ?clfn_Setting ?clfi_Setting ?cllk_Setting ?clci_Setting ?clkp_Setting ?cm0a_Setting ?cm0fn_Setting ?cm0lk_Setting ?cm0ci_Setting ?cm0kp_Setting ?s21 ?smn
    case a0 => k_is
    case l0 => k_is
    case c0 => k_is
    case k0 => k_is
    case a1 => k_is
    case l1 => k_is
    case c1 => k_is
    case k1 => k_is
    case a2 => k_is
    case l2 => k_is
    case c2 => k_is
    case k2 => k_is
    case a3 => k_is
    case l3 => k_is
    case c3 => k_is
    case k3 => k_is
    case a4 => k_is
    case l4 => k_is
    case c4 => k_is
    case k4 => k_is
    case a5 => k_is
    case l5 => k_is
    case c5 => k_is
    case k5 => k_is
    case a6 => k_is
    case l6 => k_is
    case c6 => k_is
    case k6 => k_is
    case a7 => k_is
    case l7 => k_is
    case c7 => k_is
    case k7 => k_is
    case a8 => k_is
    case l8 => k_is
    case c8 => k_is
    case k8 => k_is
    case a9 => k_is
    case l9 => k_is
    case c9 => k_is
    case k9 => k_is
    case a10 => k_is
    case l10 => k_is
    case c10 => k_is
    case k10 => k_is
    case a11 => k_is
    case l11 => k_is
    case c11 => k_is
    case k11 => k_is
    case a12 => k_is
    case l12 => k_is
    case c12 => k_is
    case k12 => k_is
    case a13 => k_is
    case l13 => k_is
    case c13 => k_is
    case k13 => k_is
    case a14 => k_is
    case l14 => k_is
    case c14 => k_is
    case k14 => k_is
    case a15 => k_is
    case l15 => k_is
    case c15 => k_is
    case k15 => k_is
    case a16 => k_is
    case l16 => k_is
    case c16 => k_is
    case k16 => k_is
    case a17 => k_is
    case l17 => k_is
    case c17 => k_is
    case k17 => k_is
    case a18 => k_is
    case l18 => k_is
    case c18 => k_is
    case k18 => k_is
    case a19 => k_is
    case l19 => k_is
    case c19 => k_is
    case k19 => k_is
    case a20 => k_is
    case l20 => k_is
    case c20 => k_is
    case k20 => k_is
    case a21 => k_is
    case l21 => k_is
    case c21 => k_is
    case k21 => k_is
    case a22 => k_is
    case l22 => k_is
    case c22 => k_is
    case k22 => k_is
    case a23 => k_is
    case l23 => k_is
    case c23 => k_is
    case k23 => k_is
    case a24 => k_is
    case l24 => k_is
    case c24 => k_is
    case k24 => k_is
    case z_len => k_is
    case z_int => k_is
    case z_list => k_is
    case z_tuple => k_is
    case z_isi => k_is
    case z_range => k_is
    case z_all => k_is
    case z_any => k_is
    case z_str => k_is
    case z_bool => k_is
    case z_enum => k_is
    case z_zip => k_is
    case z_sum => k_is
    case z_max => k_is
    case z_min => k_is
    case z_sorted => k_is
    case z_set => k_is
    case z_dict => k_is
    case z_repr => k_is
    case sa_LETTERS => k_is
    case ia_MOST_LETTERS => k_is
    case pa_MODES => k_is
    case pl_MODES => k_is
    case pv_MODES => rfl
    case oq => k_is
    case z_super => k_is
    case gtc => k_is
    case tkc => k_is
    case tsup => first | rfl | decide +kernel
    case ecg_BadName => k_is
    case exL_BadName => k_is
    case esa_BadName => k_is
    case eex_BadName => k_is
    case ety_BadName => k_is
    case ekC_BadName => k_is
    case ei1_BadName => k_is
    case ei2_BadName => k_is
    case emr_BadName => k_is
    case esv_BadName => k_is
    case esu_BadName => ks_is
    case elk_BadName => k_is
    case ehc_BadName => k_is
    case eno_BadName => k_is
    case eco_BadName => k_is
    case ece_BadName => k_is
    case ega_BadName => k_is
    case egg_BadName => k_is
    case ehd_BadName => k_is
    case ese_BadName => k_is
    case ebm_BadName => first | rfl | decide +kernel
    case evs_BadName => rfl
    case efl_BadName => first | rfl | decide +kernel
    case emb_BadName => rfl
    case ekl_BadName => k_is
    case emo_BadName => k_is
    case ecg_BadMode => k_is
    case exL_BadMode => k_is
    case esa_BadMode => k_is
    case eex_BadMode => k_is
    case ety_BadMode => k_is
    case ekC_BadMode => k_is
    case ei1_BadMode => k_is
    case ei2_BadMode => k_is
    case emr_BadMode => k_is
    case esv_BadMode => k_is
    case esu_BadMode => ks_is
    case elk_BadMode => k_is
    case ehc_BadMode => k_is
    case eno_BadMode => k_is
    case eco_BadMode => k_is
    case ece_BadMode => k_is
    case ega_BadMode => k_is
    case egg_BadMode => k_is
    case ehd_BadMode => k_is
    case ese_BadMode => k_is
    case ebm_BadMode => first | rfl | decide +kernel
    case evs_BadMode => rfl
    case efl_BadMode => first | rfl | decide +kernel
    case emb_BadMode => rfl
    case ekl_BadMode => k_is
    case emo_BadMode => k_is
    case ecg_Twice => k_is
    case exL_Twice => k_is
    case esa_Twice => k_is
    case eex_Twice => k_is
    case ety_Twice => k_is
    case ekC_Twice => k_is
    case ei1_Twice => k_is
    case ei2_Twice => k_is
    case emr_Twice => k_is
    case esv_Twice => k_is
    case esu_Twice => ks_is
    case elk_Twice => k_is
    case ehc_Twice => k_is
    case eno_Twice => k_is
    case eco_Twice => k_is
    case ece_Twice => k_is
    case ega_Twice => k_is
    case egg_Twice => k_is
    case ehd_Twice => k_is
    case ese_Twice => k_is
    case ebm_Twice => first | rfl | decide +kernel
    case evs_Twice => rfl
    case efl_Twice => first | rfl | decide +kernel
    case emb_Twice => rfl
    case ekl_Twice => k_is
    case emo_Twice => k_is
    case ra_QuietError => k_is
    case ehd_QuietError => k_is
    case ety_QuietError => k_is
    case zo_ValueError => k_is
    case zo_LookupError => k_is
    case ndE => decide
    case ccg_Setting => k_is
    case cpg_Setting => k_is
    case chd_Setting => k_is
    case cpo_Setting => k_is
    case csa_Setting => k_is
    case ckl_Setting => k_is
    case cmr_Setting => k_is
    case cic_Setting => k_is
    case cty_Setting => k_is
    case csstr_Setting => k_is
    case csint_Setting => k_is
    case csbool_Setting => k_is
    case cslist_Setting => k_is
    case cstuple_Setting => k_is
    case ctNoneType_Setting => k_is
    case ctbool_Setting => k_is
    case ctint_Setting => k_is
    case ctstr_Setting => k_is
    case ctlist_Setting => k_is
    case cttuple_Setting => k_is
    case ctdict_Setting => k_is
    case cn0_Setting => k_is
    case cga__Setting => k_is
    case cgfn_Setting => k_is
    case cgfi_Setting => k_is
    case cglk_Setting => k_is
    case cgci_Setting => k_is
    case cgkp_Setting => k_is
    case cna__Setting => k_is
    case cnfn_Setting => k_is
    case cnlk_Setting => k_is
    case cnci_Setting => k_is
    case cnkp_Setting => k_is
    case cxa__Setting => k_is
    case cxfn_Setting => k_is
    case cxnq_Setting => k_is
    case cxlk_Setting => k_is
    case cxci_Setting => k_is
    case cxkp_Setting => k_is
    case cnob_Setting => k_is
    case cmk_Setting => k_is
    case cii_Setting => k_is
    case cifn_Setting => k_is
    case cikc_Setting => k_is
    case cilk_Setting => k_is
    case cici_Setting => k_is
    case cikp_Setting => k_is
    case cikv_Setting => rfl
    case cikn_Setting => k_is
    case cikl_Setting => k_is
    case cikz_Setting => rfl
    case cla__Setting => k_is
    case clfn_Setting => k_is
    case clfi_Setting => k_is
    case cllk_Setting => k_is
    case clci_Setting => k_is
    case clkp_Setting => k_is
    case cm0a_Setting => k_is
    case cm0fn_Setting => k_is
    case cm0lk_Setting => k_is
    case cm0ci_Setting => k_is
    case cm0kp_Setting => k_is
    case s21 => k_is
    case smn => k_is
