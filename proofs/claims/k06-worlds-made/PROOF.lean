import PyProof.Rows.All
import Wide.All
import OpenK.AllK
import Wide.FinOn
import HandS.Base
import HandS.Call
import HandS.List
import HandS.Comp
import HandS.Ends
import HandS.Dict
import HandS.Iter
import HandS.Text
import HandS.Deep
import HandS.IsInst
import HandS.Star
import HandS.Words
import HandS.Wide
import HandS.Exc
import HandS.More
import HandS.TupAny
import KE.KUnpackStar
import HandS.ForMost
import HandS.ForExc
import HandS.Zip
import PyProof.RulesMatch
import KE.KExcSuper
import HandS.ExcInit
import HandS.ClsMeth
import HandS.SlotsOwn
import HandS.TryMany
import HandS.WordsExc
import HandS.ExcField
import PyProof.InstNe
import HandS.Defaults
import HandS.ExcIs
import KE.RegKSuper
import KE.KCallOwn
import HandS.DictComp
import KE.GoesEnum
import OpenK.KMeth
import HandS.Flow
import HandS.Small
import HandS.Style
import HandS.Zip0
import HandS.TryOnly
import HandS.SetKeys
import HandS.WordsDict
import HandS.OwnEq
import KE.KOpsOwn
import OpenK.KOps
import HandS.Records
import PyProof.StrOps2
import HandS.Property
import HandS.Head0
import HandS.Head1
import HandS.Head2
import HandS.Evl
import PySem.Challenge.RW_quietprobes_k06_worlds_made
set_option Elab.async false
set_option linter.all false
set_option maxRecDepth 100000
set_option autoImplicit false
namespace G
open PySem PySem.Spec L2
/-- a value told as data; adr: an address of which the assertion speaks -/
inductive D where
  | non | bl (b : Bool) | int (i : Int) | str (x : Str) | adr (a : Addr) | lst (ds : List D) | tup (ds : List D)
  /-- an instance that stays as it is: its class, its fields' names, what they hold -/
  | ins (C : Addr) (fs : List Str) (ds : List D)
  /-- a dict that stays as it is -/
  | dct (ks : List Key) (ds : List D)
/-- a text whose signs are signs, and that isn't long -/
def sok (x : Str) : Prop := PyData.strOk x = true ∧ x.length ≤ 1000000
def ks6 : List String := ["NoneType", "bool", "int", "str", "list", "tuple", "dict"]
def ks5 : List String := ["str", "int", "bool", "list", "tuple"]
/-- a class whose fields are plainly read and stored, none of these names being the class's own -/
structure Plain (K : PySem.W.Frag) (C : Addr) : Prop where
  cls : Cls K C
  kls : PySem.W.findIn K (.ref C) "__class__" = some (some (.builtin "object.__class__"))
  get : PySem.W.specialIn K (.builtin "object.__class__") "__get__" = some (some (.builtin "getset_descriptor.__get__"))
  tak : PySem.W.takesIn K (.builtin "object.__class__") = some true
  mro : PySem.W.mroIn K C (.type "object") = some true
  sub : ∀ T ∈ ks5, PySem.W.subIn K (.ref C) (.type T) = some false
structure Good (K : PySem.W.Frag) (C : Addr) (fs : List Str) : Prop where
  p : Plain K C
  no : ∀ f ∈ fs, NoAttr K C f
theorem Good.cls {K : PySem.W.Frag} {C : Addr} {fs : List Str} (g : Good K C fs) : Cls K C := g.p.cls
/-- what may be changed, and is data while nobody owns it -/
def Dat : HO → Prop
  | .lst _ => True
  | .ins _ _ _ => True
  | .dK _ => True
  | _ => False
mutual
/-- v is d in the heap H; no list, dict, instance of it is among M -/
inductive Is (K : PySem.W.Frag) (M : Addr → Prop) (H : Hp) : V → D → Prop
  | non : Is K M H .non .non
  | bl (b : Bool) : Is K M H (.bl b) (.bl b)
  | int (i : Int) : Is K M H (.int i) (.int i)
  | str {x : Str} : sok x → Is K M H (.str x) (.str x)
  | adr (a : Addr) : Is K M H (.ref a) (.adr a)
  | lst {a : Addr} {xs : List V} {ds : List D} : ¬ M a → H a = some (.lst xs) → IsAll K M H xs ds → Is K M H (.ref a) (.lst ds)
  | tup {a : Addr} {xs : List V} {ds : List D} : SqT K H a xs → IsAll K M H xs ds → Is K M H (.ref a) (.tup ds)
  | ins {a C dx : Addr} {kvs : List (Str × V)} {fs : List Str} {ds : List D} : ¬ M a → H a = some (.ins C dx kvs) → kvs.map (·.1) = fs → Good K C fs → IsAll K M H (kvs.map (·.2)) ds → Is K M H (.ref a) (.ins C fs ds)
  | dct {a : Addr} {kvs : List (Key × V)} {ks : List Key} {ds : List D} : ¬ M a → H a = some (.dK kvs) → kvs.map (·.1) = ks → IsAll K M H (kvs.map (·.2)) ds → Is K M H (.ref a) (.dct ks ds)
inductive IsAll (K : PySem.W.Frag) (M : Addr → Prop) (H : Hp) : List V → List D → Prop
  | nil : IsAll K M H [] []
  | cons {v : V} {vs : List V} {d : D} {ds : List D} : Is K M H v d → IsAll K M H vs ds → IsAll K M H (v :: vs) (d :: ds)
end
section
variable {K : PySem.W.Frag} {M M' : Addr → Prop} {H H' : Hp}
mutual
theorem Is.go (hl : ∀ a o, Dat o → ¬ M a → H a = some o → ¬ M' a ∧ H' a = some o) (ht : ∀ a xs, SqT K H a xs → SqT K H' a xs) : ∀ (d : D) (v : V), Is K M H v d → Is K M' H' v d
  | .non, _, h => by cases h; exact .non
  | .bl b, _, h => by cases h; exact .bl b
  | .int i, _, h => by cases h; exact .int i
  | .str x, _, h => by cases h with | str o => exact .str o
  | .adr a, _, h => by cases h; exact .adr a
  | .lst ds, _, h => by
    cases h with
    | lst n s h => exact .lst (hl _ (.lst _) True.intro n s).1 (hl _ (.lst _) True.intro n s).2 (IsAll.go hl ht ds _ h)
  | .tup ds, _, h => by
    cases h with
    | tup s h => exact .tup (ht _ _ s) (IsAll.go hl ht ds _ h)
  | .ins C fs ds, _, h => by
    cases h with
    | ins n s e g h => exact .ins (hl _ (.ins _ _ _) True.intro n s).1 (hl _ (.ins _ _ _) True.intro n s).2 e g (IsAll.go hl ht ds _ h)
  | .dct ks ds, _, h => by
    cases h with
    | dct n s e h => exact .dct (hl _ (.dK _) True.intro n s).1 (hl _ (.dK _) True.intro n s).2 e (IsAll.go hl ht ds _ h)
theorem IsAll.go (hl : ∀ a o, Dat o → ¬ M a → H a = some o → ¬ M' a ∧ H' a = some o) (ht : ∀ a xs, SqT K H a xs → SqT K H' a xs) : ∀ (ds : List D) (vs : List V), IsAll K M H vs ds → IsAll K M' H' vs ds
  | [], _, h => by cases h; exact .nil
  | d :: ds, _, h => by
    cases h with
    | cons h1 h2 => exact .cons (Is.go hl ht d _ h1) (IsAll.go hl ht ds _ h2)
end
theorem IsAll.length : ∀ {vs : List V} {ds : List D}, IsAll K M H vs ds → vs.length = ds.length
  | _, _, .nil => rfl
  | _, _, .cons _ h => by rw [List.length_cons, List.length_cons, IsAll.length h]
theorem IsAll.get : ∀ {vs : List V} {ds : List D} {i : Nat} {v : V}, IsAll K M H vs ds → vs[i]? = some v → ∃ d, ds[i]? = some d ∧ Is K M H v d
  | _, _, i, v, .nil, e => by simp at e
  | _, _, 0, v, .cons h _, e => by simp at e; subst e; exact ⟨_, rfl, h⟩
  | _, _, i + 1, v, .cons _ t, e => by
    obtain ⟨d, h1, h2⟩ := IsAll.get (i := i) (v := v) t (by simpa using e)
    exact ⟨d, by simpa using h1, h2⟩
theorem IsAll.getD : ∀ {vs : List V} {ds : List D} {i : Nat} {d : D}, IsAll K M H vs ds → ds[i]? = some d → ∃ v, vs[i]? = some v ∧ Is K M H v d
  | _, _, i, v, .nil, e => by simp at e
  | _, _, 0, v, .cons h _, e => by simp at e; subst e; exact ⟨_, rfl, h⟩
  | _, _, i + 1, d, .cons _ t, e => by
    obtain ⟨v, h1, h2⟩ := IsAll.getD (i := i) (d := d) t (by simpa using e)
    exact ⟨v, by simpa using h1, h2⟩
theorem IsAll.append : ∀ {vs ws : List V} {ds es : List D}, IsAll K M H vs ds → IsAll K M H ws es → IsAll K M H (vs ++ ws) (ds ++ es)
  | _, _, _, _, .nil, s => s
  | _, _, _, _, .cons r t, s => .cons r (IsAll.append t s)
theorem IsAll.take : ∀ {vs : List V} {ds : List D} (n : Nat), IsAll K M H vs ds → IsAll K M H (vs.take n) (ds.take n)
  | _, _, 0, _ => .nil
  | _, _, _ + 1, .nil => .nil
  | _, _, n + 1, .cons r t => .cons r (IsAll.take n t)
theorem IsAll.drop : ∀ {vs : List V} {ds : List D} (n : Nat), IsAll K M H vs ds → IsAll K M H (vs.drop n) (ds.drop n)
  | _, _, 0, r => r
  | _, _, _ + 1, .nil => .nil
  | _, _, n + 1, .cons r t => IsAll.drop n t
end
def Ext (H H' : Hp) : Prop := ∀ b o, H b = some o → H' b = some o
theorem Ext.refl (H : Hp) : Ext H H := fun _ _ h => h
theorem Ext.new {H : Hp} {p : Addr} {o : HO} (h : H p = none) : Ext H (upd H p o) := fun a u e => by
  rw [upd_ne (ne_of_none e h)]
  exact e
theorem Ext.sqt {K : PySem.W.Frag} {H H' : Hp} (e : Ext H H') {a : Addr} {xs : List V} (h : SqT K H a xs) : SqT K H' a xs := by
  rcases h with (h | ⟨o, h⟩) | h
  · exact .inl (.inl (e _ _ h))
  · exact .inl (.inr ⟨o, e _ _ h⟩)
  · exact .inr h
theorem is_ext {K : PySem.W.Frag} {N : Addr → Prop} {H H' : Hp} (e : Ext H H') (v : V) (d : D) (h : Is K N H v d) : Is K N H' v d := Is.go (fun a o _ n s => ⟨n, e _ _ s⟩) (fun a xs s => e.sqt s) d v h
theorem is_anti {K : PySem.W.Frag} {N N' : Addr → Prop} {H : Hp} (e : ∀ a, N' a → N a) {v : V} {d : D} (h : Is K N H v d) : Is K N' H v d := Is.go (fun a o _ n s => ⟨fun z => n (e a z), s⟩) (fun a xs s => s) d v h
/-- nothing that may be changed stands there -/
def NoDat (H : Hp) (p : Addr) : Prop := ∀ o, H p = some o → ¬ Dat o
theorem nodat {H : Hp} {p : Addr} (hp : H p = none) : NoDat H p := fun o e => by rw [hp] at e; cases e
theorem is_growD {K : PySem.W.Frag} {N : Addr → Prop} {H : Hp} {p : Addr} (hp : NoDat H p) {v : V} {d : D} (h : Is K N H v d) : Is K (fun a => N a ∨ a = p) H v d :=
  Is.go (fun a o dt n s => ⟨fun z => z.elim n fun e => (by rw [e] at s; exact hp o s dt), s⟩) (fun a xs s => s) d v h
theorem is_grow {K : PySem.W.Frag} {N : Addr → Prop} {H : Hp} {p : Addr} (hp : H p = none) {v : V} {d : D} (h : Is K N H v d) : Is K (fun a => N a ∨ a = p) H v d := is_growD (nodat hp) h
theorem all_of {K : PySem.W.Frag} {N N' : Addr → Prop} {H H' : Hp} (f : ∀ v d, Is K N H v d → Is K N' H' v d) : ∀ {vs : List V} {ds : List D}, IsAll K N H vs ds → IsAll K N' H' vs ds
  | _, _, .nil => .nil
  | _, _, .cons h t => .cons (f _ _ h) (all_of f t)
/-- a piece of what the heap is known to hold: it owns the objects at M, and speaks besides of data alone -/
structure At where
  M : Addr → Prop
  R : PySem.W.Frag → (Addr → Prop) → Hp → Prop
  loc : ∀ {K : PySem.W.Frag} {N : Addr → Prop} {H H' : Hp}, (∀ b o, M b → H b = some o → H' b = some o) → (∀ v d, Is K N H v d → Is K N H' v d) → R K N H → R K N H'
  anti : ∀ {K : PySem.W.Frag} {N N' : Addr → Prop} {H : Hp}, (∀ a, N' a → N a) → R K N H → R K N' H
  grow : ∀ {K : PySem.W.Frag} {N : Addr → Prop} {H : Hp} {p : Addr}, NoDat H p → R K N H → R K (fun a => N a ∨ a = p) H
  al : ∀ {K : PySem.W.Frag} {N : Addr → Prop} {H : Hp}, R K N H → ∀ a, M a → ∃ o, H a = some o
abbrev Rs := List (At)
section
variable {K : PySem.W.Frag}
def mem : Rs → Addr → Prop
  | [], _ => False
  | t :: r, a => t.M a ∨ mem r a
def hold (K : PySem.W.Frag) (N : Addr → Prop) : Rs → Hp → Prop
  | [], _ => True
  | t :: r, H => t.R K N H ∧ (∀ a, t.M a → ¬ mem r a) ∧ hold K N r H
theorem hold_ext {N : Addr → Prop} {H H' : Hp} (e : Ext H H') : ∀ {r : Rs}, hold K N r H → hold K N r H'
  | [], _ => True.intro
  | t :: r, h => ⟨t.loc (fun b o _ q => e b o q) (is_ext e) h.1, h.2.1, hold_ext e h.2.2⟩
theorem hold_loc {N : Addr → Prop} {H H' : Hp} : ∀ {r : Rs}, (∀ b o, mem r b → H b = some o → H' b = some o) → (∀ v d, Is K N H v d → Is K N H' v d) → hold K N r H → hold K N r H'
  | [], _, _, _ => True.intro
  | t :: r, f, g, h => ⟨t.loc (fun b o z q => f b o (.inl z) q) g h.1, h.2.1, hold_loc (fun b o z q => f b o (.inr z) q) g h.2.2⟩
theorem hold_anti {N N' : Addr → Prop} {H : Hp} (e : ∀ a, N' a → N a) : ∀ {r : Rs}, hold K N r H → hold K N' r H
  | [], _ => True.intro
  | t :: r, h => ⟨t.anti e h.1, h.2.1, hold_anti e h.2.2⟩
theorem hold_growD {N : Addr → Prop} {H : Hp} {p : Addr} (hp : NoDat H p) : ∀ {r : Rs}, hold K N r H → hold K (fun a => N a ∨ a = p) r H
  | [], _ => True.intro
  | t :: r, h => ⟨t.grow hp h.1, h.2.1, hold_growD hp h.2.2⟩
theorem hold_grow {N : Addr → Prop} {H : Hp} {p : Addr} (hp : H p = none) {r : Rs} (h : hold K N r H) : hold K (fun a => N a ∨ a = p) r H := hold_growD (nodat hp) h
theorem hold_al {N : Addr → Prop} {H : Hp} : ∀ {r : Rs}, hold K N r H → ∀ a, mem r a → ∃ o, H a = some o
  | [], _, _, z => z.elim
  | t :: r, h, a, .inl z => t.al h.1 a z
  | t :: r, h, a, .inr z => hold_al h.2.2 a z
theorem mem_append {r r' : Rs} {a : Addr} : mem (r ++ r') a ↔ mem r a ∨ mem r' a := by
  induction r with
  | nil => exact ⟨.inr, fun z => z.elim False.elim id⟩
  | cons t r ih =>
    show (t.M a ∨ mem (r ++ r') a) ↔ ((t.M a ∨ mem r a) ∨ mem r' a)
    rw [ih, or_assoc]
theorem hold_append {N : Addr → Prop} {r r' : Rs} {H : Hp} : hold K N (r ++ r') H ↔ hold K N r H ∧ hold K N r' H ∧ ∀ a, mem r a → ¬ mem r' a := by
  induction r with
  | nil => exact ⟨fun h => ⟨True.intro, h, fun _ z => z.elim⟩, fun h => h.2.1⟩
  | cons t r ih =>
    constructor
    · rintro ⟨h1, h2, h3⟩
      obtain ⟨i1, i2, i3⟩ := ih.mp h3
      exact ⟨⟨h1, fun a z y => h2 a z (mem_append.mpr (.inl y)), i1⟩, i2, fun a z => z.elim (fun z y => h2 a z (mem_append.mpr (.inr y))) (i3 a)⟩
    · rintro ⟨⟨h1, h2, h3⟩, h4, h5⟩
      exact ⟨h1, fun a z y => (mem_append.mp y).elim (h2 a z) (h5 a (.inl z)), ih.mpr ⟨h3, h4, fun a z => h5 a (.inr z)⟩⟩
/-- a list of our own at l that is being filled -/
def lstA (l : Addr) (ds : List D) : At where
  M := fun a => a = l
  R := fun K N H => ∃ vs, H l = some (.lst vs) ∧ IsAll K N H vs ds
  loc := fun f g ⟨vs, h, i⟩ => ⟨vs, f _ _ rfl h, all_of g i⟩
  anti := fun e ⟨vs, h, i⟩ => ⟨vs, h, all_of (fun _ _ => is_anti e) i⟩
  grow := fun hp ⟨vs, h, i⟩ => ⟨vs, h, all_of (fun _ _ => is_growD hp) i⟩
  al := fun ⟨vs, h, _⟩ a z => ⟨.lst vs, by rw [show a = l from z]; exact h⟩
end
/-- what r tells is so -/
def Rok (K : PySem.W.Frag) (r : Rs) (H : Hp) : Prop := hold K (mem r) r H
theorem Rok.ext {K : PySem.W.Frag} {r : Rs} {H H' : Hp} (h : Rok K r H) (e : Ext H H') : Rok K r H' := hold_ext e h
/-- all data stand as they stood -/
def Kp (K : PySem.W.Frag) (r : Rs) (H : Hp) (r' : Rs) (H' : Hp) : Prop := ∀ v d, Is K (mem r) H v d → Is K (mem r') H' v d
section
variable {K : PySem.W.Frag} {r r' r1 r2 : Rs} {H H' H1 H2 : Hp}
theorem Kp.refl : Kp K r H r H := fun _ _ h => h
theorem Kp.trans (a : Kp K r H r1 H1) (b : Kp K r1 H1 r2 H2) : Kp K r H r2 H2 := fun v d h => b v d (a v d h)
theorem Kp.ext (e : Ext H H') : Kp K r H r H' := is_ext e
theorem Kp.all (k : Kp K r H r' H') {vs : List V} {ds : List D} (h : IsAll K (mem r) H vs ds) : IsAll K (mem r') H' vs ds := all_of k h
/-- r knows more than r' -/
structure le (r r' : Rs) : Prop where
  m : ∀ a, mem r' a → mem r a
  r : ∀ K H, Rok K r H → Rok K r' H
theorem le.refl : le r r := ⟨fun _ h => h, fun _ _ h => h⟩
theorem le.trans (a : le r r1) (b : le r1 r2) : le r r2 := ⟨fun x h => a.m x (b.m x h), fun K H h => b.r K H (a.r K H h)⟩
theorem le.kp (l : le r r') : Kp K r H r' H := fun _ _ h => is_anti l.m h
theorem le.drop {t : Rs} : le (r ++ t) r := ⟨fun a h => mem_append.mpr (.inl h), fun K H h => hold_anti (fun a z => mem_append.mpr (.inl z)) (hold_append.mp h).1⟩
end
abbrev Dl := List (Option D)
def lk : Dl → Nat → Option D
  | [], _ => none
  | x :: _, 0 => x
  | _ :: l, n + 1 => lk l n
theorem lk_get : ∀ {δ : Dl} {i : Nat} {d : D}, lk δ i = some d → δ[i]? = some (some d)
  | [], i, d, h => by simp [lk] at h
  | x :: l, 0, d, h => by simp only [lk] at h; simp [h]
  | x :: l, n + 1, d, h => by
    simp only [lk] at h
    have := lk_get h
    simpa using this
/-- the names' slots hold the data -/
structure Okb (K : PySem.W.Frag) (r : Rs) (δ : Dl) (σ : St) (H : Hp) : Prop where
  env : ∀ (i : Nat) (d : D), δ[i]? = some (some d) → ∃ v, σ[i]? = some (some v) ∧ Is K (mem r) H v d
  r : Rok K r H
  len : δ.length = σ.length
theorem Okb.step {K : PySem.W.Frag} {r r' : Rs} {δ : Dl} {σ : St} {H H' : Hp} (o : Okb K r δ σ H) (k : Kp K r H r' H') (hr : Rok K r' H') : Okb K r' δ σ H' :=
  ⟨fun i d e => let ⟨v, h1, h2⟩ := o.env i d e; ⟨v, h1, k v d h2⟩, hr, o.len⟩
theorem Okb.set {K : PySem.W.Frag} {r : Rs} {δ : Dl} {σ : St} {H : Hp} (o : Okb K r δ σ H) {i : Nat} {v : V} {d : D} (h : Is K (mem r) H v d) : Okb K r (δ.set i (some d)) (σ.set i (some v)) H := by
  refine ⟨fun j e he => ?_, o.r, by rw [List.length_set, List.length_set]; exact o.len⟩
  by_cases hj : j = i
  · subst hj
    have hl : j < δ.length := by
      have := (List.getElem?_eq_some_iff.mp he).1
      rwa [List.length_set] at this
    rw [List.getElem?_set_self hl] at he
    cases he
    exact ⟨v, List.getElem?_set_self (o.len ▸ hl), h⟩
  · rw [List.getElem?_set_ne (Ne.symm hj)] at he ⊢
    exact o.env j e he
theorem Okb.drop {K : PySem.W.Frag} {r : Rs} {δ : Dl} {σ : St} {H : Hp} (o : Okb K r δ σ H) {i : Nat} : Okb K r (δ.set i none) (σ.set i none) H := by
  refine ⟨fun j e he => ?_, o.r, by rw [List.length_set, List.length_set]; exact o.len⟩
  by_cases hj : j = i
  · subst hj
    have hl : j < δ.length := by
      have := (List.getElem?_eq_some_iff.mp he).1
      rwa [List.length_set] at this
    rw [List.getElem?_set_self hl] at he
    cases he
  · rw [List.getElem?_set_ne (Ne.symm hj)] at he ⊢
    exact o.env j e he
/-- what is told of an exception: its class, its fields' names, what they hold; the slots, the pieces -/
abbrev XT := Addr → List Str → List D → Dl → Rs → Prop
/-- an exception's own dict -/
def ExAt (K : PySem.W.Frag) (r : Rs) (H : Hp) (a : Option Addr) (fs : List Str) (ds : List D) : Prop := match a with
  | some a => ¬ mem r a ∧ ∃ kvs : List (Str × V), H a = some (.xd kvs) ∧ kvs.map Prod.fst = fs ∧ IsAll K (mem r) H (kvs.map Prod.snd) ds
  | none => fs = [] ∧ ds = []
/-- what is wanted where an exception leaves -/
def Xc (K : PySem.W.Frag) (W : WX) (XR : XT) (r : Rs) (H : Hp) : Prop := ∀ C fs ds δ' r' σ' a H', XR C fs ds δ' r' → Okb K r' δ' σ' H' → Kp K r H r' H' → ExAt K r' H' a fs ds → W (.ref C) a σ' H'
theorem Xc.step {K : PySem.W.Frag} {W : WX} {XR : XT} {r r' : Rs} {H H' : Hp} (x : Xc K W XR r H) (k : Kp K r H r' H') : Xc K W XR r' H' := fun C fs ds δ' r2 σ' a H2 q o k2 e => x C fs ds δ' r2 σ' a H2 q o (k.trans k2) e
structure Ok (K : PySem.W.Frag) (W : WX) (XR : XT) (r : Rs) (δ : Dl) (σ : St) (H : Hp) : Prop where
  b : Okb K r δ σ H
  x : Xc K W XR r H
theorem Ok.r {K : PySem.W.Frag} {W : WX} {XR : XT} {p : Rs} {δ : Dl} {σ : St} {H : Hp} (o : Ok K W XR p δ σ H) : Rok K p H := o.b.r
section
variable {K : PySem.W.Frag} {W : WX} {XR : XT} {r r' : Rs} {δ : Dl} {σ : St} {H H' : Hp}
theorem Ok.env (o : Ok K W XR r δ σ H) : ∀ (i : Nat) (d : D), δ[i]? = some (some d) → ∃ v, σ[i]? = some (some v) ∧ Is K (mem r) H v d := o.b.env
theorem Ok.len (o : Ok K W XR r δ σ H) : δ.length = σ.length := o.b.len
theorem Ok.step (o : Ok K W XR r δ σ H) (k : Kp K r H r' H') (hr : Rok K r' H') : Ok K W XR r' δ σ H' := ⟨o.b.step k hr, o.x.step k⟩
theorem Ok.set (o : Ok K W XR r δ σ H) {i : Nat} {v : V} {d : D} (h : Is K (mem r) H v d) : Ok K W XR r (δ.set i (some d)) (σ.set i (some v)) H := ⟨o.b.set h, o.x⟩
theorem Ok.drop (o : Ok K W XR r δ σ H) {i : Nat} : Ok K W XR r (δ.set i none) (σ.set i none) H := ⟨o.b.drop, o.x⟩
end
abbrev PK1 := D → Rs → Prop
/-- readings over data: of an expression, of arguments, of a test -/
abbrev AT := XT → Dl → Rs → PK1 → Prop
abbrev AL := XT → Dl → Rs → (List D → Rs → Prop) → Prop
abbrev AB := XT → Dl → Rs → (Bool → Rs → Prop) → Prop
def TD (K : PySem.W.Frag) (W : WX) (t : AT) : TE := fun σ H Q => ∃ XR δ r P, Ok K W XR r δ σ H ∧ t XR δ r P ∧ ∀ d r' v H', P d r' → Ok K W XR r' δ σ H' → Kp K r H r' H' → Is K (mem r') H' v d → Q v H'
def TDL (K : PySem.W.Frag) (W : WX) (t : AL) : TA := fun σ H Q => ∃ XR δ r P, Ok K W XR r δ σ H ∧ t XR δ r P ∧ ∀ ds r' vs H', P ds r' → Ok K W XR r' δ σ H' → Kp K r H r' H' → IsAll K (mem r') H' vs ds → Q vs H'
def TDB (K : PySem.W.Frag) (W : WX) (t : AB) : TT := fun σ H Q => ∃ XR δ r P, Ok K W XR r δ σ H ∧ t XR δ r P ∧ ∀ b r' H', P b r' → Ok K W XR r' δ σ H' → Kp K r H r' H' → Q b H'
def PD (X : Cx) (W : WX) (e : Expr) (t : AT) : Prop := PE X e (TD X.K W t)
def PDL (X : Cx) (W : WX) (es : List Expr) (t : AL) : Prop := PA X es (TDL X.K W t)
def PDB (X : Cx) (W : WX) (e : Expr) (t : AB) : Prop := PT X e (TDB X.K W t)
def PDW (X : Cx) (W : WX) (e : Expr) (t : AB) : Prop := PW X e (TDB X.K W t)
theorem imE {X : Cx} {e : Expr} {t t' : TE} (h : PE X e t) (i : ∀ σ H Q, t' σ H Q → t σ H Q) : PE X e t' := ⟨fun pins s σ H Q I q => h.run pins s σ H Q I (i σ H Q q)⟩
theorem imA {X : Cx} {e : List Expr} {t t' : TA} (h : PA X e t) (i : ∀ σ H Q, t' σ H Q → t σ H Q) : PA X e t' := ⟨fun pos pins s σ H Q I q => h.run pos pins s σ H Q I (i σ H Q q)⟩
theorem imT {X : Cx} {e : Expr} {t t' : TT} (h : PT X e t) (i : ∀ σ H Q, t' σ H Q → t σ H Q) : PT X e t' := ⟨fun pins s σ H Q I q => h.run pins s σ H Q I (i σ H Q q)⟩
theorem imW {X : Cx} {e : Expr} {t t' : TT} (h : PW X e t) (i : ∀ σ H Q, t' σ H Q → t σ H Q) : PW X e t' := ⟨fun wh pins s σ H Q I q => h.run wh pins s σ H Q I (i σ H Q q)⟩
theorem imS {X : Cx} {e : Stmt} {t t' : TS} (h : PS X e t) (i : ∀ D σ H, t' D σ H → t D σ H) : PS X e t' := ⟨fun pins s σ H D I q => h.run pins s σ H D I (i D σ H q)⟩
theorem imSs {X : Cx} {e : List Stmt} {t t' : TS} (h : PSs X e t) (i : ∀ D σ H, t' D σ H → t D σ H) : PSs X e t' := ⟨fun pins s σ H D I q => h.run pins s σ H D I (i D σ H q)⟩
def aVar (i : Nat) : AT := fun x δ r P => match lk δ i with | some d => P d r | none => False
def aC (d : D) : AT := fun x _ r P => P d r
section
variable {X : Cx} {W : WX}
theorem td_var {K : PySem.W.Frag} {W : WX} {i : Nat} {σ : St} {H : Hp} {Q : VK} (q : TD K W (aVar i) σ H Q) : tVar i σ H Q := by
  obtain ⟨XR, δ, r, P, o, h, k⟩ := q
  unfold aVar at h
  split at h
  · rename_i d hd
    obtain ⟨v, h1, h2⟩ := o.env i d (lk_get hd)
    exact ⟨v, h1, k d r v H h o Kp.refl h2⟩
  · exact h.elim
theorem dv (i : Nat) {x : Str} {pos : Pos} (hN : X.N[i]? = some x := by rfl) (hv : Vis X.env.scope x := by first | exact Or.inl rfl | exact Or.inr (Or.inl rfl) | exact Or.inr (Or.inr rfl)) (hd : (x == ("__debug__" : Str)) = false := by decide)
    (hcd : (x == ("__classdict__" : Str)) = false := by decide) : PD X W (.Name x pos) (aVar i) := imE (pe_var hN hv hd hcd) fun _ _ _ q => td_var q
theorem td_c {K : PySem.W.Frag} {W : WX} {d : D} {v : V} {σ : St} {H : Hp} {Q : VK} (hv : ∀ M H, Is K M H v d) (q : TD K W (aC d) σ H Q) : tC v σ H Q := by
  obtain ⟨XR, δ, r, P, o, h, k⟩ := q
  exact k d r v H h o Kp.refl (hv _ _)
theorem d_int {i j pos} : PD X W (.Constant (.int i) j pos) (aC (.int i)) := imE pe_int fun _ _ _ q => td_c (fun _ _ => .int i) q
theorem d_bl {i j pos} : PD X W (.Constant (.bool i) j pos) (aC (.bl i)) := imE pe_bl fun _ _ _ q => td_c (fun _ _ => .bl i) q
theorem d_non {j pos} : PD X W (.Constant .none j pos) (aC .non) := imE pe_non fun _ _ _ q => td_c (fun _ _ => .non) q
def sokB (x : Str) : Bool := PyData.strOk x && decide (x.length ≤ 1000000)
theorem sok_of {x : Str} (h : sokB x = true) : sok x := by
  unfold sokB at h
  rw [Bool.and_eq_true, decide_eq_true_eq] at h
  exact h
theorem d_str {x j pos} (h : sokB x = true := by decide +kernel) : PD X W (.Constant (.str x) j pos) (aC (.str x)) := imE pe_str fun _ _ _ q => td_c (fun _ _ => .str (sok_of h)) q
/-- a constant of the module: a text, a number -/
theorem d_glob {x : Str} {v : V} {d : D} {u : Value} {pos : Pos} (hg : Gl X x) (hm : X.mg x = some u) (r : RelV v u) (hd : ∀ M H, Is X.K M H v d) (hdb : (x == ("__debug__" : Str)) = false := by decide) : PD X W (.Name x pos) (aC d) :=
  imE (pe_glob hg hm r hdb) fun _ _ _ q => td_c hd q
def aNil : AL := fun x _ r P => P [] r
def aCons (t : AT) (l : AL) : AL := fun x δ r P => t x δ r fun d r1 => l x δ r1 fun ds r2 => P (d :: ds) r2
theorem dl_nil : PDL X W [] aNil := imA pa_nil fun σ H Q q => by
  obtain ⟨XR, δ, r, P, o, h, k⟩ := q
  exact k [] r [] H h o Kp.refl .nil
theorem td_bind {K : PySem.W.Frag} {W : WX} {XR : XT} {σ : St} {H : Hp} {δ : Dl} {r : Rs} {t : AT} {P : PK1} {Q : VK} (o : Ok K W XR r δ σ H) (h : t XR δ r P) (k : ∀ d r' v H', P d r' → Ok K W XR r' δ σ H' → Kp K r H r' H' → Is K (mem r') H' v d → Q v H') : TD K W t σ H Q := ⟨XR, δ, r, P, o, h, k⟩
theorem tdl_bind {K : PySem.W.Frag} {W : WX} {XR : XT} {σ : St} {H : Hp} {δ : Dl} {r : Rs} {t : AL} {P : List D → Rs → Prop} {Q : List V → Hp → Prop} (o : Ok K W XR r δ σ H) (h : t XR δ r P) (k : ∀ d r' v H', P d r' → Ok K W XR r' δ σ H' → Kp K r H r' H' → IsAll K (mem r') H' v d → Q v H') : TDL K W t σ H Q := ⟨XR, δ, r, P, o, h, k⟩
theorem dl_cons {e : Expr} {es : List Expr} {t : AT} {l : AL} (ha : PD X W e t) (hr : PDL X W es l) (hs : starEach (e :: es) X.env = (false, eval e X.env) :: starEach es X.env := by rfl) : PDL X W (e :: es) (aCons t l) := imA (pa_cons ha hr hs) fun σ H Q q => by
  obtain ⟨XR, δ, r, P, o, h, k⟩ := q
  refine td_bind o h fun d r1 v H1 h1 o1 k1 i1 => tdl_bind o1 h1 fun ds r2 vs H2 h2 o2 k2 i2 => ?_
  exact k (d :: ds) r2 _ H2 h2 o2 (k1.trans k2) (.cons (k2 _ _ i1) i2)
/-- *e in an argument list -/
def aStar (t : AT) (l : AL) : AL := fun x δ r P => t x δ r fun d r1 => match d with
  | .lst xs => l x δ r1 fun ds r2 => P (xs ++ ds) r2
  | .tup xs => l x δ r1 fun ds r2 => P (xs ++ ds) r2
  | _ => False
theorem dl_star {e : Expr} {es : List Expr} {p : Pos} {t : AT} {l : AL} (ha : PD X W e t) (hr : PDL X W es l) (hs : starEach (.Starred e p :: es) X.env = (true, eval e X.env) :: starEach es X.env := by rfl) : PDL X W (.Starred e p :: es) (aStar t l) := imA (StX.pa_star ha hr hs) fun σ H Q q => by
  obtain ⟨XR, δ, r, P, o, h, k⟩ := q
  refine td_bind o h fun d r1 v H1 h1 o1 k1 i1 => ?_
  cases i1 with
  | lst n s a => exact ⟨_, _, rfl, .inr (SqL.of s), tdl_bind o1 h1 fun ds r2 vs H2 h2 o2 k2 i2 => k _ r2 _ H2 h2 o2 (k1.trans k2) ((k2.all a).append i2)⟩
  | tup s a => exact ⟨_, _, rfl, .inl s, tdl_bind o1 h1 fun ds r2 vs H2 h2 o2 k2 i2 => k _ r2 _ H2 h2 o2 (k1.trans k2) ((k2.all a).append i2)⟩
  | _ => exact h1.elim
def small (n : Nat) : Prop := n ≤ 1000000
theorem small.sz {n : Nat} (h : small n) : n ≤ sizeLine := Nat.le_trans h (by decide)
theorem not_al {K : PySem.W.Frag} {r : Rs} {H : Hp} {p : Addr} (h : Rok K r H) (hp : H p = none) : ¬ mem r p := fun z => by
  obtain ⟨o, e⟩ := hold_al h p z
  rw [hp] at e
  cases e
def aTup (l : AL) : AT := fun x δ r P => l x δ r fun ds r1 => small ds.length ∧ P (.tup ds) r1
def aLst (l : AL) : AT := fun x δ r P => l x δ r fun ds r1 => small ds.length ∧ P (.lst ds) r1
theorem new_tup {K : PySem.W.Frag} {r : Rs} {H : Hp} {p : Addr} {vs : List V} {ds : List D} (hp : H p = none) (i : IsAll K (mem r) H vs ds) : Is K (mem r) (upd H p (.tup vs)) (.ref p) (.tup ds) :=
  .tup (SqT.of upd_same) (Kp.all (r := r) (r' := r) (Kp.ext (Ext.new hp)) i)
theorem new_lst {K : PySem.W.Frag} {r : Rs} {H : Hp} {p : Addr} {vs : List V} {ds : List D} (hr : Rok K r H) (hp : H p = none) (i : IsAll K (mem r) H vs ds) : Is K (mem r) (upd H p (.lst vs)) (.ref p) (.lst ds) :=
  .lst (not_al hr hp) upd_same (Kp.all (r := r) (r' := r) (Kp.ext (Ext.new hp)) i)
theorem Ok.new {K : PySem.W.Frag} {W : WX} {XR : XT} {r : Rs} {δ : Dl} {σ : St} {H : Hp} {p : Addr} {u : HO} (o : Ok K W XR r δ σ H) (hp : H p = none) : Ok K W XR r δ σ (upd H p u) := o.step (Kp.ext (Ext.new hp)) (o.r.ext (Ext.new hp))
theorem d_tup {es : List Expr} {x1} {pos : Pos} {l : AL} (ha : PDL X W es l) : PD X W (.Tuple es x1 pos) (aTup l) := imE (pe_tup ha) fun σ H Q q => by
  obtain ⟨XR, δ, r, P, o, h, k⟩ := q
  refine tdl_bind o h fun ds r1 vs H1 h1 o1 k1 i1 => ⟨by rw [i1.length]; exact h1.1.sz, fun p hp => ?_⟩
  exact k _ r1 _ _ h1.2 (o1.new hp) (k1.trans (Kp.ext (Ext.new hp))) (new_tup hp i1)
theorem d_lst {es : List Expr} {pos : Pos} {l : AL} (ha : PDL X W es l) : PD X W (.List es pos) (aLst l) := imE (pe_lst ha) fun σ H Q q => by
  obtain ⟨XR, δ, r, P, o, h, k⟩ := q
  refine tdl_bind o h fun ds r1 vs H1 h1 o1 k1 i1 => ⟨by rw [i1.length]; exact h1.1.sz, fun p hp => ?_⟩
  exact k _ r1 _ _ h1.2 (o1.new hp) (k1.trans (Kp.ext (Ext.new hp))) (new_lst o1.r hp i1)
end
end G
namespace G
open PySem PySem.Spec L2
abbrev O2 := D → D → (D → Prop) → Prop
def rD (K : PySem.W.Frag) (o : O2) : R2 := fun x y H Q => ∃ (r : Rs) (d1 d2 : D) (P : D → Prop), Rok K r H ∧ Is K (mem r) H x d1 ∧ Is K (mem r) H y d2 ∧ o d1 d2 P ∧ ∀ d v H', P d → Ext H H' → Is K (mem r) H' v d → Q v H'
def aOp (o : O2) (ta tb : AT) : AT := fun x δ r P => ta x δ r fun d1 r1 => tb x δ r1 fun d2 r2 => o d1 d2 fun d => P d r2
section
variable {X : Cx} {W : WX} {a b c : Expr} {ta tb tc : AT} {pos : Pos}
theorem Ok.ext {K : PySem.W.Frag} {W : WX} {XR : XT} {r : Rs} {δ : Dl} {σ : L2.St} {H H' : Hp} (o : Ok K W XR r δ σ H) (e : Ext H H') : Ok K W XR r δ σ H' := o.step (Kp.ext e) (o.r.ext e)
theorem td_op {K : PySem.W.Frag} {W : WX} {o : O2} {ta tb : AT} {σ : L2.St} {H : Hp} {Q : VK} (q : TD K W (aOp o ta tb) σ H Q) : tOp (rD K o) (TD K W ta) (TD K W tb) σ H Q := by
  obtain ⟨XR, δ, r, P, ok, h, k⟩ := q
  refine td_bind ok h fun d1 r1 v1 H1 h1 o1 k1 i1 => td_bind o1 h1 fun d2 r2 v2 H2 h2 o2 k2 i2 => ?_
  exact ⟨r2, d1, d2, fun d => P d r2, o2.r, k2 _ _ i1, i2, h2, fun d v H' p e i => k d r2 v H' p (o2.ext e) ((k1.trans k2).trans (Kp.ext e)) i⟩
theorem d_bin {op : Operator} {o : O2} (ho : OpR X (binaryOp op) (rD X.K o)) (ha : PD X W a ta) (hb : PD X W b tb) : PD X W (.BinOp a op b pos) (aOp o ta tb) := imE (pe_op ho ha hb) fun _ _ _ q => td_op q
theorem d_cmp {op : CmpOp} {o : O2} (ho : OpR X (compareOp op) (rD X.K o)) (ha : PD X W a ta) (hb : PD X W b tb) (hm : behindInMarks op b = false := by first | exact nomark _ | with_unfolding_all rfl) : PD X W (.Compare a [op] [b] pos) (aOp o ta tb) :=
  imE (pe_cmpR ho ha hb hm) fun _ _ _ q => td_op q
/-- a value as a test: True or False -/
def aTest (t : AT) : AB := fun x δ r P => t x δ r fun d r1 => match d with | .bl b => P b r1 | _ => False
theorem tdb_test {K : PySem.W.Frag} {W : WX} {t : AT} {t0 : TE} {σ : L2.St} {H : Hp} {Q : Bool → Hp → Prop} (im : ∀ Q, TD K W t σ H Q → t0 σ H Q) (q : TDB K W (aTest t) σ H Q) : t0 σ H fun x H' => ∃ k, x = .bl k ∧ Q k H' := by
  obtain ⟨XR, δ, r, P, ok, h, k⟩ := q
  refine im _ (td_bind ok h fun d r1 v H1 h1 o1 k1 i1 => ?_)
  cases i1 with
  | bl b => exact ⟨b, rfl, k b r1 H1 h1 o1 k1⟩
  | _ => exact h1.elim
theorem b_cmp {op : CmpOp} {o : O2} (ho : OpR X (compareOp op) (rD X.K o)) (ha : PD X W a ta) (hb : PD X W b tb) (hm : behindInMarks op b = false := by first | exact nomark _ | with_unfolding_all rfl) : PDB X W (.Compare a [op] [b] pos) (aTest (aOp o ta tb)) :=
  imT (pt_cmpR ho ha hb hm) fun _ _ _ q => tdb_test (fun _ q => td_op q) q
/-- a value as a test: its truth -/
def truD : D → Option Bool
  | .non => some false | .bl b => some b | .int i => some (i != 0) | .str x => some ((x.length : Int) != 0) | .lst xs => some (!xs.isEmpty) | .tup xs => some (!xs.isEmpty) | _ => none
def aTru (t : AT) : AB := fun x δ r P => t x δ r fun d r1 => match truD d with | some b => P b r1 | none => False
theorem isEmpty_all {K : PySem.W.Frag} {N : Addr → Prop} {H : Hp} {xs : List V} {ds : List D} (h : IsAll K N H xs ds) : xs.isEmpty = ds.isEmpty := by cases h <;> rfl
theorem b_tru (ha : PD X W a ta) (he : ∀ whole, isTrue a X.env whole = (do let v ← whole; standAt a.pos; holding [v] (truthy v)) := by intro _; rfl) : PDB X W a (aTru ta) :=
  imT (pt_truth ha he) fun σ H Q q => by
    obtain ⟨XR, δ, r, P, ok, h, k⟩ := q
    refine td_bind ok h fun d r1 v H1 h1 o1 k1 i1 => ?_
    cases i1 with
    | non => exact ⟨false, rfl, k _ r1 H1 h1 o1 k1⟩
    | bl b => exact ⟨b, rfl, k _ r1 H1 h1 o1 k1⟩
    | int i => exact ⟨i != 0, rfl, k _ r1 H1 h1 o1 k1⟩
    | str s => exact ⟨_, ⟨Nat.le_trans s.2 (by decide), rfl⟩, k _ r1 H1 h1 o1 k1⟩
    | adr a => exact h1.elim
    | ins _ _ _ _ _ => exact h1.elim
    | dct _ _ _ _ => exact h1.elim
    | lst n s i => exact ⟨_, Or.inl ⟨_, SqL.of s, rfl⟩, k _ r1 H1 (by rw [isEmpty_all i]; exact h1) o1 k1⟩
    | tup s i => exact ⟨_, Or.inr (Or.inl ⟨_, s, rfl⟩), k _ r1 H1 (by rw [isEmpty_all i]; exact h1) o1 k1⟩
def oAdd : O2 := fun x y k => match x, y with
  | .int i, .int j => k (.int (i + j))
  | .str i, .str j => small (i.length + j.length) ∧ k (.str (i ++ j))
  | .lst i, .lst j => small (i.length + j.length) ∧ k (.lst (i ++ j))
  | .tup i, .tup j => small (i.length + j.length) ∧ k (.tup (i ++ j))
  | _, _ => False
theorem sok_append {i j : Str} (hi : sok i) (hj : sok j) (h : small (i.length + j.length)) : sok (i ++ j) := by
  obtain ⟨a, b⟩ := hi
  obtain ⟨c, d⟩ := hj
  refine ⟨?_, ?_⟩
  · show (i.cps ++ j.cps).all _ = true
    rw [Array.all_append]
    exact Bool.and_eq_true_iff.mpr ⟨a, c⟩
  · show (i.cps ++ j.cps).size ≤ _
    rw [Array.size_append]
    exact h
theorem all_nil {K : PySem.W.Frag} {N : Addr → Prop} {H : Hp} {xs : List V} {ds : List D} (h : IsAll K N H xs ds) : xs = [] ↔ ds = [] := by cases h <;> simp
theorem p_add : OpR X (binaryOp .Add) (rD X.K oAdd) := by
  rintro pins s σ H x y v u Q I rx ry ⟨r, d1, d2, P, hr, i1, i2, ho, k⟩
  cases i1 <;> cases i2 <;> try exact ho.elim
  · exact op_add pins s σ H _ _ v u Q I rx ry ⟨_, _, rfl, rfl, k _ _ H ho (Ext.refl H) (.int _)⟩
  · rename_i s1 _ s2
    exact op_add_str pins s σ H _ _ v u Q I rx ry ⟨_, _, rfl, rfl, ho.1.sz, k _ _ H ho.2 (Ext.refl H) (.str (sok_append s1 s2 ho.1))⟩
  · rename_i n1 h1 a1 _ _ _ n2 h2 a2
    exact op_cat pins s σ H _ _ v u Q I rx ry ⟨_, _, _, _, rfl, rfl, h1, h2, by rw [a1.length, a2.length]; exact ho.1.sz, fun p hp => k _ _ _ ho.2 (Ext.new hp) (new_lst hr hp (a1.append a2))⟩
  · rename_i h1 a1 _ _ _ h2 a2
    refine op_catA pins s σ H _ _ v u Q I rx ry ⟨_, _, _, _, rfl, rfl, h1, h2, by rw [a1.length, a2.length]; exact ho.1.sz, fun z => ?_, fun _ z => ?_, fun _ z p hp => k _ _ _ ho.2 (Ext.new hp) (new_tup hp (a1.append a2))⟩
    · have e := (all_nil a1).mp z
      subst e
      exact k _ _ H ho.2 (Ext.refl H) (.tup h2 a2)
    · have e := (all_nil a2).mp z
      subst e
      have q := ho.2
      rw [List.append_nil] at q
      exact k _ _ H q (Ext.refl H) (.tup h1 a1)
def oSub : O2 := fun x y k => match x, y with | .int i, .int j => k (.int (i - j)) | _, _ => False
theorem p_sub : OpR X (binaryOp .Sub) (rD X.K oSub) := by
  rintro pins s σ H x y v u Q I rx ry ⟨r, d1, d2, P, hr, i1, i2, ho, k⟩
  cases i1 <;> cases i2 <;> try exact ho.elim
  exact op_sub pins s σ H _ _ v u Q I rx ry ⟨_, _, rfl, rfl, k _ _ H ho (Ext.refl H) (.int _)⟩
def oPow : O2 := fun x y k => match x, y with | .int i, .int j => CPow i j ∧ k (.int (i ^ j.toNat)) | _, _ => False
theorem p_pow : OpR X (binaryOp .Pow) (rD X.K oPow) := by
  rintro pins s σ H x y v u Q I rx ry ⟨r, d1, d2, P, hr, i1, i2, ho, k⟩
  cases i1 <;> cases i2 <;> try exact ho.elim
  exact op_pow pins s σ H _ _ v u Q I rx ry ⟨_, _, rfl, rfl, ho.1, k _ _ H ho.2 (Ext.refl H) (.int _)⟩
def oCmp (f : Int → Int → Bool) (g : Str → Str → Bool) : O2 := fun x y k => match x, y with | .int i, .int j => k (.bl (f i j)) | .str i, .str j => k (.bl (g i j)) | _, _ => False
abbrev oLt : O2 := oCmp (fun i j => decide (i < j)) (fun i j => decide (i.cps.toList < j.cps.toList))
abbrev oLe : O2 := oCmp (fun i j => decide (i ≤ j)) (fun i j => !decide (j.cps.toList < i.cps.toList))
abbrev oGt : O2 := oCmp (fun i j => decide (j < i)) (fun i j => decide (j.cps.toList < i.cps.toList))
theorem p_lt : OpR X (compareOp .Lt) (rD X.K oLt) := by
  rintro pins s σ H x y v u Q I rx ry ⟨r, d1, d2, P, hr, i1, i2, ho, k⟩
  cases i1 <;> cases i2 <;> try exact ho.elim
  · exact op_lt pins s σ H _ _ v u Q I rx ry ⟨_, _, rfl, rfl, k _ _ H ho (Ext.refl H) (.bl _)⟩
  · exact op_lt_str pins s σ H _ _ v u Q I rx ry ⟨_, _, rfl, rfl, k _ _ H ho (Ext.refl H) (.bl _)⟩
theorem p_le : OpR X (compareOp .LtE) (rD X.K oLe) := by
  rintro pins s σ H x y v u Q I rx ry ⟨r, d1, d2, P, hr, i1, i2, ho, k⟩
  cases i1 <;> cases i2 <;> try exact ho.elim
  · exact op_le pins s σ H _ _ v u Q I rx ry ⟨_, _, rfl, rfl, k _ _ H ho (Ext.refl H) (.bl _)⟩
  · exact op_le_str pins s σ H _ _ v u Q I rx ry ⟨_, _, rfl, rfl, k _ _ H ho (Ext.refl H) (.bl _)⟩
theorem p_gt : OpR X (compareOp .Gt) (rD X.K oGt) := by
  rintro pins s σ H x y v u Q I rx ry ⟨r, d1, d2, P, hr, i1, i2, ho, k⟩
  cases i1 <;> cases i2 <;> try exact ho.elim
  · exact op_gt pins s σ H _ _ v u Q I rx ry ⟨_, _, rfl, rfl, k _ _ H ho (Ext.refl H) (.bl _)⟩
  · exact op_gt_str pins s σ H _ _ v u Q I rx ry ⟨_, _, rfl, rfl, k _ _ H ho (Ext.refl H) (.bl _)⟩
def isNonD : D → Bool | .non => true | _ => false
def oIs : O2 := fun x y k => match y with | .non => k (.bl (isNonD x)) | _ => False
def oNs : O2 := fun x y k => match y with | .non => k (.bl (!isNonD x)) | _ => False
theorem dec_non {K : PySem.W.Frag} {N : Addr → Prop} {H : Hp} {v : V} {d : D} (h : Is K N H v d) : decide (v = V.non) = isNonD d := by cases h <;> rfl
theorem p_is : OpR X (compareOp .Is) (rD X.K oIs) := by
  rintro pins s σ H x y v u Q I rx ry ⟨r, d1, d2, P, hr, i1, i2, ho, k⟩
  cases i2 <;> try exact ho.elim
  exact op_isN pins s σ H _ _ v u Q I rx ry ⟨rfl, by rw [dec_non i1]; exact k _ _ H ho (Ext.refl H) (.bl _)⟩
theorem p_ns : OpR X (compareOp .IsNot) (rD X.K oNs) := by
  rintro pins s σ H x y v u Q I rx ry ⟨r, d1, d2, P, hr, i1, i2, ho, k⟩
  cases i2 <;> try exact ho.elim
  exact op_notN pins s σ H _ _ v u Q I rx ry ⟨rfl, by rw [dec_non i1]; exact k _ _ H ho (Ext.refl H) (.bl _)⟩
mutual
def py : D → PyData
  | .non => .none | .bl b => .bool b | .int i => .int i | .str x => .str x | .adr _ => .dict [] | .ins _ _ _ => .dict [] | .dct _ _ => .dict [] | .lst ds => .list (pys ds) | .tup ds => .tuple (pys ds)
def pys : List D → List PyData
  | [] => []
  | d :: ds => py d :: pys ds
end
mutual
def dep : D → Nat
  | .adr _ => 1000 | .ins _ _ _ => 1000 | .dct _ _ => 1000 | .lst ds => deps ds + 1 | .tup ds => deps ds + 1 | _ => 0
def deps : List D → Nat
  | [] => 0
  | d :: ds => max (dep d) (deps ds)
end
mutual
theorem dep_py {K : PySem.W.Frag} {N : Addr → Prop} {H : Hp} : ∀ (d : D) (v : V), Is K N H v d → dep d ≤ 64 → Dp K H v (py d) ∧ (py d).canLay0 = true ∧ (py d).depth ≤ dep d
  | .non, _, h, _ => by cases h; exact ⟨.non, rfl, by simp [py, PyData.depth]⟩
  | .bl b, _, h, _ => by cases h; exact ⟨.bl b, rfl, by simp [py, PyData.depth]⟩
  | .int i, _, h, _ => by cases h; exact ⟨.int i, rfl, by simp [py, PyData.depth]⟩
  | .str x, _, h, _ => by cases h with | str o => exact ⟨.str x, by simp only [py, PyData.canLay0]; exact o.1, by simp [py, PyData.depth]⟩
  | .adr a, _, h, l => by simp [dep] at l
  | .ins _ _ _, _, h, l => by simp [dep] at l
  | .dct _ _, _, h, l => by simp [dep] at l
  | .lst ds, _, h, l => by
    cases h with
    | lst n s i =>
      have l' : deps ds ≤ 64 := by simp only [dep] at l; omega
      obtain ⟨a, b, c⟩ := deps_py ds _ i l'
      exact ⟨by simp only [py]; exact .lst (SqL.of s) a, by simp only [py, PyData.canLay0]; exact b, by simp only [py, PyData.depth, dep]; omega⟩
  | .tup ds, _, h, l => by
    cases h with
    | tup s i =>
      have l' : deps ds ≤ 64 := by simp only [dep] at l; omega
      obtain ⟨a, b, c⟩ := deps_py ds _ i l'
      exact ⟨by simp only [py]; exact .tup s a, by simp only [py, PyData.canLay0]; exact b, by simp only [py, PyData.depth, dep]; omega⟩
theorem deps_py {K : PySem.W.Frag} {N : Addr → Prop} {H : Hp} : ∀ (ds : List D) (vs : List V), IsAll K N H vs ds → deps ds ≤ 64 → DpAll K H vs (pys ds) ∧ PyData.canLayAll0 (pys ds) = true ∧ PyData.depthAll (pys ds) ≤ deps ds
  | [], _, h, _ => by cases h; exact ⟨by simp only [pys]; exact .nil, rfl, by simp [pys, PyData.depthAll]⟩
  | d :: ds, _, h, l => by
    cases h with
    | cons h1 h2 =>
      have l1 : dep d ≤ 64 := by simp only [deps] at l; omega
      have l2 : deps ds ≤ 64 := by simp only [deps] at l; omega
      obtain ⟨a, b, c⟩ := dep_py d _ h1 l1
      obtain ⟨a', b', c'⟩ := deps_py ds _ h2 l2
      exact ⟨by simp only [pys]; exact .cons a a', by simp only [pys, PyData.canLayAll0]; rw [b, b']; rfl, by simp only [pys, PyData.depthAll, deps]; omega⟩
end
theorem shaped_py {K : PySem.W.Frag} {N : Addr → Prop} {H : Hp} {d : D} {v : V} (h : Is K N H v d) (l : dep d ≤ 64) : Dp K H v (py d) ∧ SeqAt.shaped (py d) = true := by
  obtain ⟨a, b, c⟩ := dep_py d v h l
  exact ⟨a, by unfold SeqAt.shaped; rw [b]; exact decide_eq_true (by omega)⟩
def eqD (a b : D) : Bool := PyData.eqv (py a) (py b)
def oEq : O2 := fun x y k => dep x ≤ 64 ∧ dep y ≤ 64 ∧ k (.bl (eqD x y))
def oNe : O2 := fun x y k => dep x ≤ 64 ∧ dep y ≤ 64 ∧ k (.bl (!eqD x y))
theorem p_eq (hu : X.A.units + 64 < cLine) : OpR X (compareOp .Eq) (rD X.K oEq) := by
  rintro pins s σ H x y v u Q I rx ry ⟨r, d1, d2, P, hr, i1, i2, ho, k⟩
  obtain ⟨a1, b1⟩ := shaped_py i1 ho.1
  obtain ⟨a2, b2⟩ := shaped_py i2 ho.2.1
  exact op_eqD hu pins s σ H _ _ v u Q I rx ry ⟨_, _, a1, a2, b1, b2, k _ _ H ho.2.2 (Ext.refl H) (.bl _)⟩
theorem p_ne (hu : X.A.units + 64 < cLine) : OpR X (compareOp .NotEq) (rD X.K oNe) := by
  rintro pins s σ H x y v u Q I rx ry ⟨r, d1, d2, P, hr, i1, i2, ho, k⟩
  obtain ⟨a1, b1⟩ := shaped_py i1 ho.1
  obtain ⟨a2, b2⟩ := shaped_py i2 ho.2.1
  exact op_neD hu pins s σ H _ _ v u Q I rx ry ⟨_, _, a1, a2, b1, b2, k _ _ H ho.2.2 (Ext.refl H) (.bl _)⟩
def flat : D → Bool | .non => true | .bl _ => true | .int _ => true | .str _ => true | _ => false
theorem flat_V {K : PySem.W.Frag} {N : Addr → Prop} {H : Hp} {v : V} {d : D} (h : Is K N H v d) (f : flat d = true) : flatV v = true := by cases h <;> first | rfl | cases f
theorem flat_all {K : PySem.W.Frag} {N : Addr → Prop} {H : Hp} : ∀ {vs : List V} {ds : List D}, IsAll K N H vs ds → ds.all flat = true → vs.all flatV = true
  | _, _, .nil, _ => rfl
  | _, _, .cons h t, f => by
    rw [List.all_cons, Bool.and_eq_true] at f ⊢
    exact ⟨flat_V h f.1, flat_all t f.2⟩
theorem eqV_D {K : PySem.W.Frag} {N : Addr → Prop} {H : Hp} {v w : V} {d e : D} (h : Is K N H v d) (g : Is K N H w e) (f : flat d = true) (f' : flat e = true) : eqV v w = eqD d e := by
  cases h <;> cases g <;> first | rfl | cases f | cases f' | (simp [eqV, eqD, py, PyData.eqv])
theorem any_D {K : PySem.W.Frag} {N : Addr → Prop} {H : Hp} {v : V} {d : D} (h : Is K N H v d) (f : flat d = true) : ∀ {vs : List V} {ds : List D}, IsAll K N H vs ds → ds.all flat = true → inV v vs = ds.any fun z => eqD z d
  | _, _, .nil, _ => rfl
  | _, _, .cons g t, q => by
    rw [List.all_cons, Bool.and_eq_true] at q
    have ih := any_D h f t q.2
    unfold inV at ih ⊢
    rw [List.any_cons, List.any_cons, ih, eqV_D g h q.1 f]
theorem any_pys (d : D) : ∀ ds : List D, ((pys ds).any fun z => PyData.eqv z (py d)) = ds.any fun z => eqD z d
  | [] => rfl
  | e :: ds => by simp only [pys, List.any_cons]; rw [any_pys d ds]; rfl
def memD (d : D) (ds : List D) : Bool := ds.any fun z => eqD z d
def sub1 : Str → Option Nat | ⟨⟨[c]⟩⟩ => some c | _ => none
/-- in: flat things in a tuple or list; anything in a list; one sign in a text -/
def oInP (neg : Bool) : O2 := fun x y k => match y with
  | .lst ds => dep x ≤ 64 ∧ deps ds ≤ 63 ∧ k (.bl (cond neg (!memD x ds) (memD x ds)))
  | .tup ds => flat x = true ∧ ds.all flat = true ∧ k (.bl (cond neg (!memD x ds) (memD x ds)))
  | .str z => match x with
    | .str w => match sub1 w with
      | some c => k (.bl (cond neg (!decide (c ∈ z.cps.toList)) (decide (c ∈ z.cps.toList))))
      | none => k (.bl (cond neg (!(!(Builtin.Str.occurrences z w 0 z.length 1).isEmpty)) (!(Builtin.Str.occurrences z w 0 z.length 1).isEmpty)))
    | _ => False
  | _ => False
structure oIn (neg : Bool) (x y : D) (k : D → Prop) : Prop where
  ex : oInP neg x y k
theorem sub1_some {w : Str} {c : Nat} (h : sub1 w = some c) : w = ⟨#[c]⟩ := by
  obtain ⟨⟨l⟩⟩ := w
  match l, h with
  | [x], h => simp only [sub1] at h; cases h; rfl
theorem p_in (hu : X.A.units + 65 < cLine) : OpR X (compareOp .In) (rD X.K (oIn false)) := by
  rintro pins s σ H x y v u Q I rx ry ⟨r, d1, d2, P, hr, i1, i2, ho, k⟩
  obtain ⟨ho⟩ := ho
  cases i2 <;> try exact ho.elim
  · rename_i z hz
    cases i1 <;> try exact ho.elim
    rename_i w hw
    simp only [oInP] at ho
    split at ho
    · rename_i c hc
      have e := sub1_some hc
      subst e
      exact op_in_sign pins s σ H _ _ v u Q I rx ry ⟨_, _, rfl, rfl, k _ _ H ho (Ext.refl H) (.bl _)⟩
    · exact op_in_str pins s σ H _ _ v u Q I rx ry ⟨_, _, rfl, rfl, k _ _ H ho (Ext.refl H) (.bl _)⟩
  · rename_i n h a
    obtain ⟨a1, b1⟩ := shaped_py i1 ho.1
    obtain ⟨a2, b2⟩ := shaped_py (N := mem r) (.lst n h a) (by simp only [dep]; have := ho.2.1; omega)
    simp only [py] at a2 b2
    refine op_inD hu pins s σ H _ _ v u Q I rx ry ⟨_, _, a1, a2, b1, b2, ?_⟩
    rw [any_pys]
    exact k _ _ H ho.2.2 (Ext.refl H) (.bl _)
  · rename_i h a
    refine op_in_seq pins s σ H _ _ v u Q I rx ry ⟨_, _, rfl, .inr h, flat_V i1 ho.1, flat_all a ho.2.1, ?_⟩
    rw [if_neg Bool.false_ne_true, any_D i1 ho.1 a ho.2.1]
    exact k _ _ H ho.2.2 (Ext.refl H) (.bl _)
theorem p_notIn (hu : X.A.units + 65 < cLine) : OpR X (compareOp .NotIn) (rD X.K (oIn true)) := by
  rintro pins s σ H x y v u Q I rx ry ⟨r, d1, d2, P, hr, i1, i2, ho, k⟩
  obtain ⟨ho⟩ := ho
  cases i2 <;> try exact ho.elim
  · rename_i z hz
    cases i1 <;> try exact ho.elim
    rename_i w hw
    simp only [oInP] at ho
    split at ho
    · rename_i c hc
      have e := sub1_some hc
      subst e
      exact op_notIn_sign pins s σ H _ _ v u Q I rx ry ⟨_, _, rfl, rfl, k _ _ H ho (Ext.refl H) (.bl _)⟩
    · exact op_notin_str pins s σ H _ _ v u Q I rx ry ⟨_, _, rfl, rfl, k _ _ H ho (Ext.refl H) (.bl _)⟩
  · rename_i n h a
    obtain ⟨a1, b1⟩ := shaped_py i1 ho.1
    obtain ⟨a2, b2⟩ := shaped_py (N := mem r) (.lst n h a) (by simp only [dep]; have := ho.2.1; omega)
    simp only [py] at a2 b2
    refine op_notInD hu pins s σ H _ _ v u Q I rx ry ⟨_, _, a1, a2, b1, b2, ?_⟩
    rw [any_pys]
    exact k _ _ H ho.2.2 (Ext.refl H) (.bl _)
  · rename_i h a
    refine op_notIn_seq pins s σ H _ _ v u Q I rx ry ⟨_, _, rfl, .inr h, flat_V i1 ho.1, flat_all a ho.2.1, ?_⟩
    rw [if_pos rfl, any_D i1 ho.1 a ho.2.1]
    exact k _ _ H ho.2.2 (Ext.refl H) (.bl _)
end
end G
namespace G
open PySem PySem.Spec L2
section
variable {X : Cx} {W : WX} {a b c : Expr} {ta tb tc : AT} {pos : Pos}
theorem tdb_bind {K : PySem.W.Frag} {W : WX} {XR : XT} {σ : L2.St} {H : Hp} {δ : Dl} {r : Rs} {t : AB} {P : Bool → Rs → Prop} {Q : Bool → Hp → Prop} (o : Ok K W XR r δ σ H) (h : t XR δ r P) (k : ∀ d r' H', P d r' → Ok K W XR r' δ σ H' → Kp K r H r' H' → Q d H') : TDB K W t σ H Q := ⟨XR, δ, r, P, o, h, k⟩
section
variable {K : PySem.W.Frag}
def bAnd (t u : AB) : AB := fun x δ r P => t x δ r fun b r1 => (b = true → u x δ r1 P) ∧ (b = false → P false r1)
def bOr (t u : AB) : AB := fun x δ r P => t x δ r fun b r1 => (b = true → P true r1) ∧ (b = false → u x δ r1 P)
def bNot (t : AB) : AB := fun x δ r P => t x δ r fun b r1 => P (!b) r1
def aAnd (t u : AT) : AT := fun x δ r P => t x δ r fun d r1 => match d with | .bl b => (b = true → u x δ r1 P) ∧ (b = false → P (.bl false) r1) | _ => False
def aNot (t : AT) : AT := fun x δ r P => t x δ r fun d r1 => match d with | .bl b => P (.bl (!b)) r1 | _ => False
def aIf (t : AB) (u w : AT) : AT := fun x δ r P => t x δ r fun b r1 => (b = true → u x δ r1 P) ∧ (b = false → w x δ r1 P)
end
variable {bA bB : AB} {rest : List Expr}
theorem w_and1 (ha : PDB X W a bA) : PDW X W (.BoolOp .And [a] pos) bA := pw_and1 ha
theorem w_or1 (ha : PDB X W a bA) : PDW X W (.BoolOp .Or [a] pos) bA := pw_or1 ha
theorem w_and (ha : PDB X W a bA) (hb : PDW X W (.BoolOp .And (b :: rest) pos) bB) : PDW X W (.BoolOp .And (a :: b :: rest) pos) (bAnd bA bB) := imW (pw_and ha hb) fun σ H Q q => by
  obtain ⟨XR, δ, r, P, ok, h, k⟩ := q
  refine tdb_bind ok h fun d r1 H1 h1 o1 k1 => ?_
  cases d with
  | true => exact tdb_bind o1 (h1.1 rfl) fun d r2 H2 h2 o2 k2 => k d r2 H2 h2 o2 (k1.trans k2)
  | false => exact k _ r1 H1 (h1.2 rfl) o1 k1
theorem w_or (ha : PDB X W a bA) (hb : PDW X W (.BoolOp .Or (b :: rest) pos) bB) : PDW X W (.BoolOp .Or (a :: b :: rest) pos) (bOr bA bB) := imW (pw_or ha hb) fun σ H Q q => by
  obtain ⟨XR, δ, r, P, ok, h, k⟩ := q
  refine tdb_bind ok h fun d r1 H1 h1 o1 k1 => ?_
  cases d with
  | false => exact tdb_bind o1 (h1.2 rfl) fun d r2 H2 h2 o2 k2 => k d r2 H2 h2 o2 (k1.trans k2)
  | true => exact k _ r1 H1 (h1.1 rfl) o1 k1
theorem b_w (h : PDW X W a bA) : PDB X W a bA := PW.pt h
theorem b_not (ha : PDB X W a bA) : PDB X W (.UnaryOp .Not a pos) (bNot bA) := imT (pt_not ha) fun σ H Q q => by
  obtain ⟨XR, δ, r, P, ok, h, k⟩ := q
  exact tdb_bind ok h fun d r1 H1 h1 o1 k1 => k _ r1 H1 h1 o1 k1
theorem d_one {op} (h : PD X W a ta) : PD X W (.BoolOp op [a] pos) ta := pe_one h
theorem d_and (ha : PD X W a ta) (hb : PD X W (.BoolOp .And (b :: rest) pos) tb) : PD X W (.BoolOp .And (a :: b :: rest) pos) (aAnd ta tb) := imE (pe_and ha hb) fun σ H Q q => by
  obtain ⟨XR, δ, r, P, ok, h, k⟩ := q
  refine td_bind ok h fun d r1 v H1 h1 o1 k1 i1 => ?_
  cases i1 <;> try exact h1.elim
  rename_i d
  refine ⟨d, rfl, ?_⟩
  cases d with
  | true => exact td_bind o1 (h1.1 rfl) fun d r2 v H2 h2 o2 k2 i2 => k d r2 v H2 h2 o2 (k1.trans k2) i2
  | false => exact k _ r1 _ H1 (h1.2 rfl) o1 k1 (.bl _)
theorem d_not (ha : PD X W a ta) : PD X W (.UnaryOp .Not a pos) (aNot ta) := imE (pe_not ha) fun σ H Q q => by
  obtain ⟨XR, δ, r, P, ok, h, k⟩ := q
  refine td_bind ok h fun d r1 v H1 h1 o1 k1 i1 => ?_
  cases i1 <;> try exact h1.elim
  exact ⟨_, rfl, k _ r1 _ H1 h1 o1 k1 (.bl _)⟩
theorem d_if (hc : PDB X W c bA) (ha : PD X W a ta) (hb : PD X W b tb) : PD X W (.IfExp c a b pos) (aIf bA ta tb) := imE (pe_ifExp hc ha hb) fun σ H Q q => by
  obtain ⟨XR, δ, r, P, ok, h, k⟩ := q
  refine tdb_bind ok h fun d r1 H1 h1 o1 k1 => ?_
  cases d with
  | true => exact td_bind o1 (h1.1 rfl) fun d r2 v H2 h2 o2 k2 i2 => k d r2 v H2 h2 o2 (k1.trans k2) i2
  | false => exact td_bind o1 (h1.2 rfl) fun d r2 v H2 h2 o2 k2 i2 => k d r2 v H2 h2 o2 (k1.trans k2) i2
def oNeg (x : D) (k : D → Prop) : Prop := match x with | .int i => k (.int (-i)) | _ => False
def aNeg (t : AT) : AT := fun x δ r P => t x δ r fun d r1 => oNeg d fun d => P d r1
theorem d_neg (ha : PD X W a ta) : PD X W (.UnaryOp .USub a pos) (aNeg ta) := imE (pe_un un_neg ha) fun σ H Q q => by
  obtain ⟨XR, δ, r, P, ok, h, k⟩ := q
  refine td_bind ok h fun d r1 v H1 h1 o1 k1 i1 => ?_
  cases i1 <;> try exact h1.elim
  exact ⟨_, rfl, k _ r1 _ H1 h1 o1 k1 (.int _)⟩
/-- a < b <= c -/
def aChain (o o' : O2) (ta tb tc : AT) : AT := fun x δ r P => ta x δ r fun d1 r1 => tb x δ r1 fun d2 r2 => o d1 d2 fun d => match d with
  | .bl b => (b = true → tc x δ r2 fun d3 r3 => o' d2 d3 fun d => P d r3) ∧ (b = false → P (.bl false) r2)
  | _ => False
theorem td_chain {K : PySem.W.Frag} {W : WX} {o o' : O2} {ta tb tc : AT} {σ : L2.St} {H : Hp} {Q : VK} (q : TD K W (aChain o o' ta tb tc) σ H Q) : tChain (rD K o) (rD K o') (TD K W ta) (TD K W tb) (TD K W tc) σ H Q := by
  obtain ⟨XR, δ, r, P, ok, h, k⟩ := q
  refine td_bind ok h fun d1 r1 v1 H1 h1 o1 k1 i1 => td_bind o1 h1 fun d2 r2 v2 H2 h2 o2 k2 i2 => ?_
  refine ⟨r2, d1, d2, _, o2.r, k2 _ _ i1, i2, h2, fun d v H' p e i => ?_⟩
  cases i <;> try exact p.elim
  rename_i d
  refine ⟨d, rfl, ?_⟩
  cases d with
  | true =>
    show TD K W tc σ H' _
    refine td_bind (o2.ext e) (p.1 rfl) fun d3 r3 v3 H3 h3 o3 k3 i3 => ?_
    exact ⟨r3, d2, d3, fun d => P d r3, o3.r, k3 _ _ (is_ext e _ _ i2), i3, h3, fun d v H' p e' i => k d r3 v H' p (o3.ext e') ((((k1.trans k2).trans (Kp.ext e)).trans k3).trans (Kp.ext e')) i⟩
  | false => exact k _ r2 _ H' (p.2 rfl) (o2.ext e) ((k1.trans k2).trans (Kp.ext e)) (.bl _)
theorem b_chain {op op' : CmpOp} {o o' : O2} (ho : OpR X (compareOp op) (rD X.K o)) (ho' : OpR X (compareOp op') (rD X.K o')) (ha : PD X W a ta) (hb : PD X W b tb) (hc : PD X W c tc)
    (hm : lastMarks [op, op'] [b, c] = false := by with_unfolding_all rfl) : PDB X W (.Compare a [op, op'] [b, c] pos) (aTest (aChain o o' ta tb tc)) := imT (pt_chain ho ho' ha hb hc hm) fun _ _ _ q => tdb_test (fun _ q => td_chain q) q
def oIxP : O2 := fun x y k => match x, y with
  | .lst ds, .int i => match atI ds i with | some d => k d | none => False
  | .tup ds, .int i => match atI ds i with | some d => k d | none => False
  | .str z, .int i => match atI z.cps.toList i with | some c => k (.str ⟨#[c]⟩) | none => False
  | _, _ => False
structure oIx (x y : D) (k : D → Prop) : Prop where
  ex : oIxP x y k
theorem at_all {K : PySem.W.Frag} {N : Addr → Prop} {H : Hp} {vs : List V} {ds : List D} {i : Int} {d : D} (h : IsAll K N H vs ds) (e : atI ds i = some d) : ∃ v, atI vs i = some v ∧ Is K N H v d := by
  unfold atI at e ⊢
  rw [h.length]
  cases q : ixN ds.length i with
  | none => rw [q] at e; cases e
  | some j =>
    rw [q] at e
    exact h.getD e
theorem sok_sign {z : Str} {i : Int} {c : Nat} (h : sok z) (e : atI z.cps.toList i = some c) : sok ⟨#[c]⟩ := by
  refine ⟨?_, by show 1 ≤ 1000000; decide⟩
  unfold atI at e
  cases q : ixN z.cps.toList.length i with
  | none => rw [q] at e; cases e
  | some j =>
    rw [q] at e
    have hm := List.mem_of_getElem? e
    have h1 : z.cps.all (fun c => decide (c < 0x110000)) = true := h.1
    rw [← Array.all_toList, List.all_eq_true] at h1
    show (#[c] : Array Nat).all _ = true
    simpa using h1 c hm
theorem p_ix : IxR X (rD X.K oIx) := by
  rintro value slice pins s σ H x y v u Q I rx ry ⟨r, d1, d2, P, hr, i1, i2, ho, k⟩ hs
  obtain ⟨ho⟩ := ho
  cases i1 <;> cases i2 <;> try exact ho.elim
  · rename_i z hz i
    simp only [oIxP] at ho
    split at ho
    · rename_i c hc
      exact ix_str value slice pins s σ H _ _ v u Q I rx ry ⟨_, _, _, rfl, rfl, Nat.le_trans hz.2 (by decide), hc, k _ _ H ho (Ext.refl H) (.str (sok_sign hz hc))⟩ hs
    · exact ho.elim
  · rename_i n h a i
    simp only [oIxP] at ho
    split at ho
    · rename_i d hd
      obtain ⟨w, hw, iw⟩ := at_all a hd
      exact ix_list value slice pins s σ H _ _ v u Q I rx ry ⟨_, _, _, _, rfl, rfl, SqL.of h, hw, k _ _ H ho (Ext.refl H) iw⟩ hs
    · exact ho.elim
  · rename_i h a i
    simp only [oIxP] at ho
    split at ho
    · rename_i d hd
      obtain ⟨w, hw, iw⟩ := at_all a hd
      exact ix_tup value slice pins s σ H _ _ v u Q I rx ry ⟨_, _, _, _, rfl, rfl, h, hw, k _ _ H ho (Ext.refl H) iw⟩ hs
    · exact ho.elim
theorem d_ix (ha : PD X W a ta) (hb : PD X W b tb) (hs : PlainIx b := by exact fun _ _ => rfl) : PD X W (.Subscript a b pos) (aOp oIx ta tb) := imE (pe_ix p_ix ha hb hs) fun _ _ _ q => td_op q
abbrev AO := XT → Dl → Rs → (Option Int → Rs → Prop) → Prop
section
variable {K : PySem.W.Frag}
def aNo : AO := fun x _ r P => P none r
def aPart (t : AT) : AO := fun x δ r P => t x δ r fun d r1 => match d with | .int i => P (some i) r1 | _ => False
def TDO (K : PySem.W.Frag) (W : WX) (t : AO) : TO := fun σ H Q => ∃ XR δ r P, Ok K W XR r δ σ H ∧ t XR δ r P ∧ ∀ o r' H', P o r' → Ok K W XR r' δ σ H' → Kp K r H r' H' → Q o H'
end
def PDO (X : Cx) (W : WX) (e : Option Expr) (t : AO) : Prop := PO X e (TDO X.K W t)
theorem imO {X : Cx} {e : Option Expr} {t t' : TO} (h : PO X e t) (i : ∀ σ H Q, t' σ H Q → t σ H Q) : PO X e t' := ⟨fun pins s σ H Q I q => h.run pins s σ H Q I (i σ H Q q)⟩
theorem o_no : PDO X W none aNo := imO po_none fun σ H Q q => by
  obtain ⟨XR, δ, r, P, ok, h, k⟩ := q
  exact k _ r H h ok Kp.refl
theorem o_some (h : PD X W a ta) : PDO X W (some a) (aPart ta) := imO (po_some h) fun σ H Q q => by
  obtain ⟨XR, δ, r, P, ok, h, k⟩ := q
  refine td_bind ok h fun d r1 v H1 h1 o1 k1 i1 => ?_
  cases i1 <;> try exact h1.elim
  exact ⟨_, rfl, k _ r1 H1 h1 o1 k1⟩
def cutD (xs : List D) (lo hi : Option Int) : List D := (xs.drop (HT.sIx xs.length 0 lo)).take (HT.sIx xs.length xs.length hi - HT.sIx xs.length 0 lo)
/-- x[lo:hi] -/
def oSlP (x : D) (lo hi : Option Int) (k : D → Prop) : Prop := match x with
  | .lst ds => k (.lst (cutD ds lo hi))
  | .tup ds => k (.tup (cutD ds lo hi))
  | .str z => k (.str (cutS z lo hi))
  | _ => False
structure oSl (x : D) (lo hi : Option Int) (k : D → Prop) : Prop where
  ex : oSlP x lo hi k
def aSl (t : AT) (lo hi : AO) : AT := fun x δ r P => t x δ r fun d r1 => lo x δ r1 fun l r2 => hi x δ r2 fun u r3 => oSl d l u fun d => P d r3
def rSlD (K : PySem.W.Frag) : V → Option Int → Option Int → Hp → VK → Prop := fun x lo hi H Q => ∃ (r : Rs) (d : D) (P : D → Prop), Rok K r H ∧ Is K (mem r) H x d ∧ oSl d lo hi P ∧ ∀ d v H', P d → Ext H H' → Is K (mem r) H' v d → Q v H'
theorem cut_all {K : PySem.W.Frag} {N : Addr → Prop} {H : Hp} {vs : List V} {ds : List D} (lo hi : Option Int) (h : IsAll K N H vs ds) : IsAll K N H (cutV vs lo hi) (cutD ds lo hi) := by
  unfold cutV cutD
  rw [h.length]
  exact (h.drop _).take _
theorem sok_cut {z : Str} (h : sok z) (lo hi : Option Int) : sok (cutS z lo hi) := by
  refine ⟨?_, ?_⟩
  · have h1 : z.cps.all (fun c => decide (c < 0x110000)) = true := h.1
    rw [← Array.all_toList, List.all_eq_true] at h1
    show (cutS z lo hi).cps.all (fun c => decide (c < 0x110000)) = true
    rw [← Array.all_toList, List.all_eq_true]
    intro c hc
    unfold cutS at hc
    exact h1 c (List.mem_of_mem_drop (List.mem_of_mem_take (by simpa using hc)))
  · have := h.2
    unfold cutS Str.length at *
    simp only [List.size_toArray, List.length_take, List.length_drop, Array.length_toList]
    omega
theorem p_sl : SlR X (rSlD X.K) := by
  rintro pins s σ H x v vl vu lo hi sl Q I rx hs pl pu ⟨r, d, P, hr, i, ho, k⟩
  obtain ⟨ho⟩ := ho
  cases i <;> try exact ho.elim
  · rename_i hz
    exact sl_str pins s σ H _ v vl vu lo hi sl Q I rx hs pl pu ⟨_, rfl, Nat.le_trans hz.2 (by decide), k _ _ H ho (Ext.refl H) (.str (sok_cut hz lo hi))⟩
  · rename_i n h a
    exact sl_list pins s σ H _ v vl vu lo hi sl Q I rx hs pl pu ⟨_, _, rfl, SqL.of h, fun p hp => k _ _ _ ho (Ext.new hp) (new_lst hr hp (cut_all lo hi a))⟩
  · rename_i h a
    refine sl_tupA pins s σ H _ v vl vu lo hi sl Q I rx hs pl pu ⟨_, _, rfl, h, fun z => ?_, fun _ p hp => k _ _ _ ho (Ext.new hp) (new_tup hp (cut_all lo hi a))⟩
    have e : ∀ ds : List D, HT.sIx ds.length 0 lo = 0 ∧ HT.sIx ds.length ds.length hi = ds.length → cutD ds lo hi = ds := fun ds ⟨z1, z2⟩ => by
      unfold cutD
      rw [z1, z2]
      simp
    rw [a.length] at z
    have ho : P (.tup (cutD _ lo hi)) := ho
    rw [e _ z] at ho
    exact k _ _ H ho (Ext.refl H) (.tup h a)
theorem d_sl {lo hi : Option Expr} {tl th : AO} {p2 : Pos} (ha : PD X W a ta) (hl : PDO X W lo tl) (hh : PDO X W hi th) : PD X W (.Subscript a (.Slice lo hi none p2) pos) (aSl ta tl th) := imE (pe_slice p_sl ha hl hh) fun σ H Q q => by
  obtain ⟨XR, δ, r, P, ok, h, k⟩ := q
  refine td_bind ok h fun d r1 v H1 h1 o1 k1 i1 => ⟨_, δ, r1, _, o1, h1, fun l r2 H2 h2 o2 k2 => ⟨_, δ, r2, _, o2, h2, fun u r3 H3 h3 o3 k3 => ?_⟩⟩
  exact ⟨r3, d, fun d => P d r3, o3.r, k3 _ _ (k2 _ _ i1), h3, fun d v H' p e i => k d r3 v H' p (o3.ext e) (((k1.trans k2).trans k3).trans (Kp.ext e)) i⟩
abbrev OC := List D → (D → Prop) → Prop
def rC (K : PySem.W.Frag) (o : OC) : List V → Hp → VK → Prop := fun vs H Q => ∃ (r : Rs) (ds : List D) (P : D → Prop), Rok K r H ∧ IsAll K (mem r) H vs ds ∧ o ds P ∧ ∀ d v H', P d → Ext H H' → Is K (mem r) H' v d → Q v H'
def aBlt (o : OC) (l : AL) : AT := fun x δ r P => l x δ r fun ds r1 => o ds fun d => P d r1
variable {e : Expr} {es : List Expr} {x : Str} {p : Pos} {l : AL} {o : OC} {bid T : String}
theorem tcb {K : PySem.W.Frag} {W : WX} {o : OC} {l : AL} {σ : L2.St} {H : Hp} {Q : VK} (q : TD K W (aBlt o l) σ H Q) : tCB (rC K o) (TDL K W l) σ H Q := by
  obtain ⟨XR, δ, r, P, ok, h, k⟩ := q
  refine tdl_bind ok h fun ds r1 vs H1 h1 o1 k1 i1 => ⟨r1, ds, fun d => P d r1, o1.r, i1, h1, fun d v H' p e i => k d r1 v H' p (o1.ext e) (k1.trans (Kp.ext e)) i⟩
theorem d_blt (hc : CallR X (.builtin bid) (rC X.K o)) (hg : Gl X x) (hm : X.mg x = none) (ha : PDL X W (e :: es) l) (hv : bootBuiltins x = some (.builtin bid) := by decide +kernel) (hn : x ≠ "__name__" := by decide) (hdb : (x == ("__debug__" : Str)) = false := by decide)
    (he : starEach (e :: es) X.env = (false, eval e X.env) :: starEach es X.env := by rfl) (hpl : (backTo pos (starEach es X.env)).any (·.1) = false := by rfl) : PD X W (.Call (.Name x p) (e :: es) [] pos) (aBlt o l) :=
  imE (pe_callB hc hg hm hv ha hn hdb he hpl) fun _ _ _ q => tcb q
theorem d_ty (hc : CallR X (.type T) (rC X.K o)) (hg : Gl X x) (hm : X.mg x = none) (ha : PDL X W (e :: es) l) (hv : bootBuiltins x = some (.type T) := by decide +kernel) (hn : x ≠ "__name__" := by decide) (hdb : (x == ("__debug__" : Str)) = false := by decide)
    (he : starEach (e :: es) X.env = (false, eval e X.env) :: starEach es X.env := by rfl) (hpl : (backTo pos (starEach es X.env)).any (·.1) = false := by rfl) : PD X W (.Call (.Name x p) (e :: es) [] pos) (aBlt o l) :=
  imE (pe_callTy hc hg hm hv ha hn hdb he hpl) fun _ _ _ q => tcb q
def oLen : OC := fun ds k => match ds with
  | [.lst xs] => xs.length ≤ sizeLine → k (.int xs.length) | [.tup xs] => xs.length ≤ sizeLine → k (.int xs.length) | [.str z] => k (.int z.length) | _ => False
theorem c_len : CallR X (.builtin "len") (rC X.K oLen) := by
  rintro pins s σ H vs us Q I rv ⟨r, ds, P, hr, i, ho, k⟩
  cases i with
  | nil => exact ho.elim
  | cons i t =>
    cases t with
    | cons _ _ => cases i <;> exact ho.elim
    | nil =>
      cases i <;> try exact ho.elim
      · rename_i hz
        exact call_len pins s σ H _ us Q I rv ⟨_, _, rfl, ⟨Nat.le_trans hz.2 (by decide), rfl⟩, k _ _ H ho (Ext.refl H) (.int _)⟩
      · rename_i n h a
        obtain ⟨_, _, _, hz⟩ := I.list (SqL.of h)
        exact call_len pins s σ H _ us Q I rv ⟨_, _, rfl, .inl ⟨_, SqL.of h, rfl⟩, by rw [a.length] at hz ⊢; exact k _ _ H (ho hz) (Ext.refl H) (.int _)⟩
      · rename_i h a
        obtain ⟨_, _, _, hz⟩ := I.tuple h
        exact call_len pins s σ H _ us Q I rv ⟨_, _, rfl, .inr ⟨_, h, rfl⟩, by rw [a.length] at hz ⊢; exact k _ _ H (ho hz) (Ext.refl H) (.int _)⟩
def oList : OC := fun ds k => match ds with | [.lst xs] => k (.lst xs) | [.tup xs] => k (.lst xs) | _ => False
theorem c_list : CallR X (.type "list") (rC X.K oList) := by
  rintro pins s σ H vs us Q I rv ⟨r, ds, P, hr, i, ho, k⟩
  cases i with
  | nil => exact ho.elim
  | cons i t =>
    cases t with
    | cons _ _ => cases i <;> exact ho.elim
    | nil =>
      cases i <;> try exact ho.elim
      · rename_i n h a
        exact call_list_of pins s σ H _ us Q I rv ⟨_, _, rfl, .inl (SqL.of h), fun p hp => k _ _ _ ho (Ext.new hp) (new_lst hr hp a)⟩
      · rename_i h a
        exact call_list_of pins s σ H _ us Q I rv ⟨_, _, rfl, .inr h, fun p hp => k _ _ _ ho (Ext.new hp) (new_lst hr hp a)⟩
def oTuple : OC := fun ds k => match ds with | [.lst xs] => k (.tup xs) | [.tup xs] => k (.tup xs) | _ => False
theorem c_tuple : CallR X (.type "tuple") (rC X.K oTuple) := by
  rintro pins s σ H vs us Q I rv ⟨r, ds, P, hr, i, ho, k⟩
  cases i with
  | nil => exact ho.elim
  | cons i t =>
    cases t with
    | cons _ _ => cases i <;> exact ho.elim
    | nil =>
      cases i <;> try exact ho.elim
      · rename_i n h a
        exact call_tuple_of pins s σ H _ us Q I rv ⟨_, _, rfl, .inl ⟨SqL.of h, fun p hp => k _ _ _ ho (Ext.new hp) (new_tup hp a)⟩⟩
      · rename_i h a
        exact call_tuple_of pins s σ H _ us Q I rv ⟨_, _, rfl, .inr ⟨h, k _ _ H ho (Ext.refl H) (.tup h a)⟩⟩
def bls : List D → Option (List Bool)
  | [] => some []
  | .bl b :: r => (bls r).map (b :: ·)
  | _ :: _ => none
theorem bls_map : ∀ (bs : List Bool), bls (bs.map .bl) = some bs
  | [] => rfl
  | b :: bs => by simp [bls, bls_map bs]
theorem bls_all {K : PySem.W.Frag} {N : Addr → Prop} {H : Hp} : ∀ {vs : List V} {ds : List D} {bs : List Bool}, IsAll K N H vs ds → bls ds = some bs → vs = bs.map V.bl
  | _, _, _, .nil, e => by cases e; rfl
  | _, d :: ds, bs, .cons i t, e => by
    cases i <;> try (simp [bls] at e; done)
    simp only [bls] at e
    cases q : bls ds with
    | none => rw [q] at e; cases e
    | some cs =>
      rw [q] at e
      cases e
      rw [bls_all t q]
      rfl
def oAllP (f : List Bool → Bool) : OC := fun ds k => match ds with | [.lst xs] => (match bls xs with | some bs => k (.bl (f bs)) | none => False) | _ => False
structure oAll (f : List Bool → Bool) (ds : List D) (k : D → Prop) : Prop where
  ex : oAllP f ds k
theorem c_all (hc : X.calm = true := by rfl) : CallR X (.builtin "all") (rC X.K (oAll fun bs => bs.all id)) := by
  rintro pins s σ H vs us Q I rv ⟨r, ds, P, hr, i, ho, k⟩
  obtain ⟨ho⟩ := ho
  cases i with
  | nil => exact ho.elim
  | cons i t =>
    cases t with
    | cons _ _ => cases i <;> exact ho.elim
    | nil =>
      cases i <;> try exact ho.elim
      rename_i n h a
      simp only [oAllP] at ho
      split at ho
      · rename_i bs hb
        have e := bls_all a hb
        subst e
        exact cr_all hc pins s σ H _ us Q I rv ⟨_, _, rfl, SqL.of h, k _ _ H ho (Ext.refl H) (.bl _)⟩
      · exact ho.elim
def tyD : D → String
  | .non => "NoneType" | .bl _ => "bool" | .int _ => "int" | .str _ => "str" | .lst _ => "list" | .tup _ => "tuple" | .dct _ _ => "dict" | _ => ""
def nad : D → Bool | .adr _ => false | .ins _ _ _ => false | _ => true
theorem tyX {K : PySem.W.Frag} {N : Addr → Prop} {H : Hp} {v : V} {d : D} (h : Is K N H v d) (n : nad d = true) : TyX K H v (.type (tyD d)) := by
  cases h with
  | non => exact .base .non
  | bl b => exact .base (.bl b)
  | int i => exact .base (.int i)
  | str _ => exact .base (.str _)
  | adr a => cases n
  | ins _ _ _ _ _ => cases n
  | dct n0 s e a => exact .base (.dK s)
  | lst _ h _ => exact .base (.lst h)
  | tup h _ =>
    rcases h with (h | ⟨o, h⟩) | ⟨o, its, k, h1, h2, _⟩
    · exact .base (.tup h)
    · exact .fTuple h
    · exact .kTuple h1 h2
inductive Ty5 : String → Prop | str : Ty5 "str" | int : Ty5 "int" | bool : Ty5 "bool" | list : Ty5 "list" | tuple : Ty5 "tuple"
def tyB (T n : String) : Bool := T == n || (T == "int" && n == "bool")
def isTy (T : String) (d : D) : Bool := tyB T (tyD d)
theorem kk6 : (ks6.all fun n => ks5.all fun T => decide (kitB n T = some (tyB T n))) = true := by decide +kernel
theorem kk {n T : String} (h : n ∈ ks6) (g : T ∈ ks5) : kitB n T = some (tyB T n) := by
  have q := List.all_eq_true.mp (List.all_eq_true.mp kk6 n h) T g
  exact of_decide_eq_true q
theorem kit5 {K : PySem.W.Frag} {T : String} (t : Ty5 T) (d : D) (n : nad d = true) : PySem.W.kitOne K (.type (tyD d)) (.type T) = some (isTy T d) := by
  refine kit_ty (kk ?_ ?_)
  · cases d <;> first | (cases n; done) | simp [tyD, ks6]
  · cases t <;> simp [ks5]
def noAdr : D → Bool | .adr _ => false | _ => true
theorem kit_own {K : PySem.W.Frag} {C : Addr} {T : String} (t : Ty5 T) (h : ∀ T ∈ ks5, PySem.W.subIn K (.ref C) (.type T) = some false) : PySem.W.kitOne K (.ref C) (.type T) = some false := by
  have hm : T ∈ ks5 := by cases t <;> simp [ks5]
  have km : PySem.W.kitMeta T = true := by cases t <;> decide +kernel
  unfold PySem.W.kitOne
  rw [if_neg (show ¬ ((Value.ref C == Value.type T) = true) by intro e; cases (beq_iff_eq.mp e))]
  show (if PySem.W.kitMeta T = true then PySem.W.subIn K (.ref C) (.type T) else none) = some false
  rw [if_pos km]
  exact h T hm
theorem tyX2 {K : PySem.W.Frag} {N : Addr → Prop} {H : Hp} {v : V} {d : D} (h : Is K N H v d) (n : noAdr d = true) : ∃ t, TyX K H v t ∧ ∀ T, Ty5 T → PySem.W.kitOne K t (.type T) = some (isTy T d) := by
  cases d with
  | adr a => cases n
  | ins C fs ds =>
    cases h with
    | ins n s e g a =>
      refine ⟨_, .base (.ins s g.cls g.p.kls g.p.get g.p.tak g.p.mro), fun T t => ?_⟩
      rw [kit_own t g.p.sub]
      cases t <;> rfl
  | non => exact ⟨_, tyX h rfl, fun T t => kit5 t _ rfl⟩
  | bl b => exact ⟨_, tyX h rfl, fun T t => kit5 t _ rfl⟩
  | int i => exact ⟨_, tyX h rfl, fun T t => kit5 t _ rfl⟩
  | str x => exact ⟨_, tyX h rfl, fun T t => kit5 t _ rfl⟩
  | lst ds => exact ⟨_, tyX h rfl, fun T t => kit5 t _ rfl⟩
  | tup ds => exact ⟨_, tyX h rfl, fun T t => kit5 t _ rfl⟩
  | dct ks ds => exact ⟨_, tyX h rfl, fun T t => kit5 t _ rfl⟩
/-- isinstance(x, T) -/
def aIsi (T : String) (t : AT) : AT := fun x δ r P => t x δ r fun d r1 => match d with | .adr _ => False | d => P (.bl (isTy T d)) r1
theorem d_isi {q : Pos} {y : Str} (ht : Ty5 T) (hg : Gl X "isinstance") (hm : X.mg "isinstance" = none) (ha : PD X W a ta) (gy : Gl X y) (my : X.mg y = none) (by_ : bootBuiltins y = some (.type T) := by decide +kernel) (hny : y ≠ "__name__" := by decide) (hdy : (y == ("__debug__" : Str)) = false := by decide)
    (he : starEach [a, .Name y q] X.env = (false, eval a X.env) :: starEach [.Name y q] X.env := by rfl) (hpl : (backTo pos (starEach [.Name y q] X.env)).any (·.1) = false := by rfl) (he2 : starEach [.Name y q] X.env = (false, eval (.Name y q) X.env) :: starEach [] X.env := by rfl) :
    PD X W (.Call (.Name "isinstance" p) [a, .Name y q] [] pos) (aIsi T ta) := imE (pe_callB call_isi hg hm (by decide +kernel) (pa_cons ha (pa_cons (pe_bltn (v := .ty T) gy my by_ rfl hny hdy) pa_nil he2) he) (by decide) (by decide) he hpl) fun σ H Q q => by
  obtain ⟨XR, δ, r, P, ok, h, k⟩ := q
  refine td_bind ok h fun d r1 v H1 h1 o1 k1 i1 => ?_
  have n : noAdr d = true := by cases d <;> first | exact h1.elim | rfl
  obtain ⟨t0, ty0, kt0⟩ := tyX2 i1 n
  have h2 : P (.bl (isTy T d)) r1 := by cases d <;> first | exact h1.elim | exact h1
  exact ⟨v, .ty T, _, _, _, rfl, .ty T, ty0, kt0 T ht, k _ r1 _ H1 h2 o1 k1 (.bl _)⟩
end
end G
namespace G
open PySem PySem.Spec L2
/-- what follows a statement -/
structure An where
  nx : Dl → Rs → Prop
  rt : D → Rs → Prop := fun _ _ => False
  bk : Dl → Rs → Prop := fun _ _ => False
  ct : Dl → Rs → Prop := fun _ _ => False
  xr : XT := fun _ _ _ _ _ => False
abbrev AS := An → Dl → Rs → Prop
structure Fin (K : PySem.W.Frag) (W : WX) (A : An) (r : Rs) (H : Hp) (D : Ends) : Prop where
  nx : ∀ δ' r' σ' H', A.nx δ' r' → Ok K W A.xr r' δ' σ' H' → Kp K r H r' H' → D.nx σ' H'
  rt : ∀ d r' v H', A.rt d r' → Rok K r' H' → Kp K r H r' H' → Is K (mem r') H' v d → D.rt v H'
  bk : ∀ δ' r' σ' H', A.bk δ' r' → Ok K W A.xr r' δ' σ' H' → Kp K r H r' H' → D.bk σ' H'
  ct : ∀ δ' r' σ' H', A.ct δ' r' → Ok K W A.xr r' δ' σ' H' → Kp K r H r' H' → D.ct σ' H'
theorem Fin.step {K : PySem.W.Frag} {W : WX} {A : An} {r r1 : Rs} {H H1 : Hp} {D : Ends} (f : Fin K W A r H D) (k : Kp K r H r1 H1) : Fin K W A r1 H1 D :=
  ⟨fun δ r' σ H' a o q => f.nx δ r' σ H' a o (k.trans q), fun d r' v H' a o q i => f.rt d r' v H' a o (k.trans q) i, fun δ r' σ H' a o q => f.bk δ r' σ H' a o (k.trans q), fun δ r' σ H' a o q => f.ct δ r' σ H' a o (k.trans q)⟩
def TSD (K : PySem.W.Frag) (W : WX) (t : AS) : TS := fun D σ H => ∃ δ r A, Ok K W A.xr r δ σ H ∧ t A δ r ∧ Fin K W A r H D
def PSD (X : Cx) (W : WX) (st : Stmt) (t : AS) : Prop := PS X st (TSD X.K W t)
def PBD (X : Cx) (W : WX) (st : List Stmt) (t : AS) : Prop := PSs X st (TSD X.K W t)
section
variable {K : PySem.W.Frag}
def sNext : AS := fun A δ r => A.nx δ r
def sSeq (t u : AS) : AS := fun A δ r => t { A with nx := fun δ' r' => u A δ' r' } δ r
def sExpr (t : AT) : AS := fun A δ r => t A.xr δ r fun _ r1 => A.nx δ r1
def sRet (t : AT) : AS := fun A δ r => t A.xr δ r A.rt
def sIf (c : AB) (t u : AS) : AS := fun A δ r => c A.xr δ r fun b r1 => (b = true → t A δ r1) ∧ (b = false → u A δ r1)
def sAsg (i : Nat) (t : AT) : AS := fun A δ r => t A.xr δ r fun d r1 => A.nx (δ.set i (some d)) r1
def setAll : Dl → List Nat → List D → Dl
  | δ, i :: is, d :: ds => setAll (δ.set i (some d)) is ds
  | δ, _, _ => δ
def sTup (is : List Nat) (t : AT) : AS := fun A δ r => t A.xr δ r fun d r1 => match d with | .tup ds => ds.length = is.length ∧ A.nx (setAll δ is ds) r1 | _ => False
end
section
variable {X : Cx} {W : WX} {st : Stmt} {rest : List Stmt} {t u : AS} {e c : Expr} {te : AT} {tc : AB} {pos : Pos}
theorem ss_nil : PBD X W [] sNext := imSs pss_nil fun D σ H ⟨δ, r, A, o, h, f⟩ => f.nx _ _ _ _ h o Kp.refl
theorem ss_one (h : PSD X W st t) : PBD X W [st] t := pss_one h
theorem ss_cons (h1 : PSD X W st t) (h2 : PBD X W rest u) : PBD X W (st :: rest) (sSeq t u) := imSs (pss_cons h1 h2) fun D σ H ⟨δ, r, A, o, h, f⟩ =>
  ⟨δ, r, { A with nx := fun δ' r' => u A δ' r' }, o, h, ⟨fun δ' r' σ' H' a o' k => ⟨δ', r', A, o', a, f.step k⟩, f.rt, f.bk, f.ct⟩⟩
theorem s_expr (he : PD X W e te) (hs : swapsWith e none pos.line X.env = pure false := by rfl) : PSD X W (.Expr e pos) (sExpr te) := imS (ps_expr he hs) fun D σ H ⟨δ, r, A, o, h, f⟩ =>
  td_bind o h fun d r1 v H1 h1 o1 k1 i1 => f.nx _ _ _ _ h1 o1 k1
theorem s_ret (he : PD X W e te) : PSD X W (.Return (some e) pos) (sRet te) := imS (ps_ret he) fun D σ H ⟨δ, r, A, o, h, f⟩ =>
  td_bind o h fun d r1 v H1 h1 o1 k1 i1 => f.rt _ _ _ _ h1 o1.r k1 i1
theorem s_if {a b : List Stmt} (hc : PDB X W c tc) (ha : PBD X W a t) (hb : PBD X W b u) : PSD X W (.If c a b pos) (sIf tc t u) := imS (ps_if hc ha hb) fun D σ H ⟨δ, r, A, o, h, f⟩ =>
  tdb_bind o h fun d r1 H1 h1 o1 k1 => by
    cases d with
    | true => exact ⟨δ, r1, A, o1, h1.1 rfl, f.step k1⟩
    | false => exact ⟨δ, r1, A, o1, h1.2 rfl, f.step k1⟩
theorem s_set {i : Nat} {x : Str} {pos' : Pos} (hN : X.N.Nodup) (he : PD X W e te) (hi : X.N[i]? = some x := by rfl) (hx : Loc X.env.scope x := by first | exact Or.inl rfl | exact Or.inr rfl) (hs : swapsWith e (some (.Name x pos')) pos.line X.env = pure false := by rfl)
    (hf : X.fn x = true ∨ X.env.scope.names.lookup x = some .local := by first | exact .inl rfl | exact .inr rfl | assumption) : PSD X W (.Assign [.Name x pos'] e pos) (sAsg i te) := imS (ps_set hN hi hx he hs hf) fun D σ H ⟨δ, r, A, o, h, f⟩ =>
  td_bind o h fun d r1 v H1 h1 o1 k1 i1 => f.nx _ _ _ _ h1 (o1.set i1) k1
def gNames : List Nat → TGs
  | [] => gNil
  | i :: is => gCons (gName i) (gNames is)
theorem names_all {K : PySem.W.Frag} {W : WX} {XR : XT} {r : Rs} {H : Hp} {Q : L2.St → Hp → Prop} : ∀ {is : List Nat} {vs : List V} {ds : List D} {δ : Dl} {σ : L2.St}, Ok K W XR r δ σ H → IsAll K (mem r) H vs ds → ds.length = is.length → (∀ σ', Ok K W XR r (setAll δ is ds) σ' H → Q σ' H) → gNames is vs σ H Q
  | [], _, _, δ, σ, o, .nil, _, k => ⟨rfl, k σ o⟩
  | [], _, _, δ, σ, o, .cons _ _, l, k => by cases l
  | i :: is, _, _, δ, σ, o, .nil, l, k => by cases l
  | i :: is, _, _, δ, σ, o, .cons h t, l, k => ⟨_, _, rfl, names_all (is := is) (o.set h) t (by simpa using l) k⟩
theorem s_tup {is : List Nat} {ts : List Expr} {kk : Nat} {p2 : Pos} (he : PD X W e te) (hg : PGs X ts (gNames is)) (hc : X.calm = true := by rfl) (hn : (assignEach ts X.env).length = is.length := by rfl) (hst : (assignEach ts X.env).findIdx? (·.1) = none := by rfl)
    (hs : swapsWithSole [.Tuple ts kk p2] e pos.line X.env = pure false := by rfl) (hw : swappedStores [.Tuple ts kk p2] e X.env = pure none := by rfl)
    (h1 : (assignEach [.Tuple ts kk p2] X.env).map (·.2) = [assign (.Tuple ts kk p2) X.env] := by rfl) : PSD X W (.Assign [.Tuple ts kk p2] e pos) (sTup is te) :=
  imS (ps_asg he (pg_tup hc hg hn hst) hs hw h1) fun D σ H ⟨δ, r, A, o, h, f⟩ => td_bind o h fun d r1 v H1 h1 o1 k1 i1 => by
    cases i1 with
    | tup s a => exact ⟨_, _, rfl, s, by rw [a.length]; exact h1.1, names_all o1 a h1.1 fun σ' o' => f.nx _ _ _ _ h1.2 o' k1⟩
    | _ => exact h1.elim
end
/-- the turns of J yield the data ds, whatever else happens -/
def Walks (K : PySem.W.Frag) (J : It) (ds : List D) (r : Rs) (H : Hp) : Prop := ∀ i r1 H1, Kp K r H r1 H1 → Rok K r1 H1 →
  (i < ds.length → J.go i H1 ∧ ∀ x H2, J.yld i H1 x H2 → Ext H1 H2 ∧ ∃ d, ds[i]? = some d ∧ Is K (mem r1) H2 x d) ∧ (i = ds.length → J.stop i H1)
abbrev AI := XT → Dl → Rs → (List D → Rs → Prop) → Prop
def TDI (K : PySem.W.Frag) (W : WX) (t : AI) : TI := fun σ H R => ∃ XR δ r P, Ok K W XR r δ σ H ∧ t XR δ r P ∧ ∀ ds r' J H', P ds r' → Ok K W XR r' δ σ H' → Kp K r H r' H' → Walks K J ds r' H' → R J H'
def PDI (X : Cx) (W : WX) (tg iter : Expr) (t : AI) : Prop := PI X tg iter (TDI X.K W t)
theorem imI {X : Cx} {tg e : Expr} {t t' : TI} (h : PI X tg e t) (i : ∀ σ H Q, t' σ H Q → t σ H Q) : PI X tg e t' := ⟨fun pins s σ H Q I q => h.run pins s σ H Q I (i σ H Q q)⟩
section
variable {X : Cx} {W : WX} {tg e : Expr} {te : AT} {pos : Pos}
def iSeqL (t : AT) : AI := fun x δ r P => t x δ r fun d r1 => match d with | .lst ds => P ds r1 | _ => False
def iSeqT (t : AT) : AI := fun x δ r P => t x δ r fun d r1 => match d with | .tup ds => P ds r1 | _ => False
theorem walks_l {K : PySem.W.Frag} {r : Rs} {H : Hp} {a : Addr} {ds : List D} (h : Is K (mem r) H (.ref a) (.lst ds)) : Walks K (Itl K a) ds r H := by
  intro i r1 H1 k _
  cases k _ _ h with
  | lst n s al =>
    rename_i xs
    refine ⟨fun hi => ⟨⟨xs, xs[i]'(by rw [al.length]; exact hi), SqL.of s, by simp⟩, ?_⟩, fun hi => ⟨xs, SqL.of s, by rw [al.length, hi] <;> exact Nat.le_refl _⟩⟩
    rintro x H2 ⟨rfl, hx⟩
    obtain ⟨d, h1, h2⟩ := al.get (hx xs (SqL.of s))
    exact ⟨Ext.refl _, d, h1, h2⟩
theorem walks_t {K : PySem.W.Frag} {r : Rs} {H : Hp} {a : Addr} {ds : List D} (h : Is K (mem r) H (.ref a) (.tup ds)) : Walks K (Itt K a) ds r H := by
  intro i r1 H1 k _
  cases k _ _ h with
  | tup s al =>
    rename_i xs
    refine ⟨fun hi => ⟨⟨xs, xs[i]'(by rw [al.length]; exact hi), s, by simp⟩, ?_⟩, fun hi => ⟨xs, s, by rw [al.length, hi] <;> exact Nat.le_refl _⟩⟩
    rintro x H2 ⟨rfl, hx⟩
    obtain ⟨d, h1, h2⟩ := al.get (hx xs s)
    exact ⟨Ext.refl _, d, h1, h2⟩
theorem i_list (h : PD X W e te) : PDI X W tg e (iSeqL te) := imI (pi_list h) fun σ H Q ⟨XR, δ, r, P, o, q, k⟩ => td_bind o q fun d r1 v H1 h1 o1 k1 i1 => by
  cases i1 with
  | lst n s al => exact ⟨_, rfl, ⟨_, SqL.of s⟩, k _ _ _ _ h1 o1 k1 (walks_l (.lst n s al))⟩
  | _ => exact h1.elim
theorem i_tup (h : PD X W e te) : PDI X W tg e (iSeqT te) := imI (pi_tup h) fun σ H Q ⟨XR, δ, r, P, o, q, k⟩ => td_bind o q fun d r1 v H1 h1 o1 k1 i1 => by
  cases i1 with
  | tup s al => exact ⟨_, rfl, ⟨_, s⟩, k _ _ _ _ h1 o1 k1 (walks_t (.tup s al))⟩
  | _ => exact h1.elim
def iStrD (t : AT) : AI := fun x δ r P => t x δ r fun d r1 => match d with | .str z => P (z.cps.toList.map fun c => .str ⟨#[c]⟩) r1 | _ => False
theorem sok_mem {z : Str} {c : Nat} (h : sok z) (e : c ∈ z.cps.toList) : sok ⟨#[c]⟩ := by
  refine ⟨?_, by show 1 ≤ 1000000; decide⟩
  have h1 : z.cps.all (fun c => decide (c < 0x110000)) = true := h.1
  rw [← Array.all_toList, List.all_eq_true] at h1
  show (#[c] : Array Nat).all _ = true
  simpa using h1 c e
theorem i_str (h : PD X W e te) : PDI X W tg e (iStrD te) := imI (pi_str h) fun σ H Q ⟨XR, δ, r, P, o, q, k⟩ => td_bind o q fun d r1 v H1 h1 o1 k1 i1 => by
  cases i1 with
  | str s =>
    rename_i z
    refine ⟨_, rfl, k _ _ _ _ h1 o1 k1 ?_⟩
    intro i r2 H2 _ _
    refine ⟨fun hi => ⟨(show i < z.cps.size by simpa using hi), ?_⟩, fun hi => ?_⟩
    · rintro x H3 ⟨rfl, c, hc, rfl⟩
      have hm : c ∈ z.cps.toList := by
        have := Array.mem_of_getElem? hc
        simpa using this
      refine ⟨Ext.refl _, .str ⟨#[c]⟩, ?_, .str (sok_mem s hm)⟩
      rw [List.getElem?_map, Array.getElem?_toList, hc]
      rfl
    · show z.cps.size ≤ i
      rw [hi]
      simp
  | _ => exact h1.elim
def iR1 (l : AL) : AI := fun x δ r P => l x δ r fun ds r1 => match ds with | [.int n] => (-(2 ^ 62) ≤ n ∧ n < 2 ^ 62) ∧ P ((List.range n.toNat).map fun i => .int (i : Nat)) r1 | _ => False
theorem walks_r {K : PySem.W.Frag} {r : Rs} {H : Hp} {lo : Int} {n : Nat} : Walks K (Itr lo n) ((List.range n).map fun i => .int (lo + (i : Nat))) r H := by
  intro i r1 H1 _ _
  refine ⟨fun hi => ⟨(show i < n by simpa using hi), ?_⟩, fun hi => ?_⟩
  · rintro x H2 ⟨rfl, rfl⟩
    have hi' : i < n := by simpa using hi
    refine ⟨Ext.refl _, .int (lo + i), ?_, .int _⟩
    rw [List.getElem?_map, List.getElem?_range hi']
    rfl
  · show n ≤ i
    rw [hi]
    simp
theorem i_r1 {p : Pos} {l : AL} (hg : Gl X "range") (hm : X.mg "range" = none) (ha : PDL X W [e] l) (hs : starEach [e] X.env = [(false, eval e X.env)] := by rfl) : PDI X W tg (.Call (.Name "range" p) [e] [] pos) (iR1 l) :=
  imI (pi_range1 hg hm ha hs) fun σ H Q ⟨XR, δ, r, P, o, q, k⟩ => tdl_bind o q fun ds r1 vs H1 h1 o1 k1 i1 => by
    match ds, h1, i1 with
    | [.int n], h1, .cons (.int _) .nil =>
      refine ⟨_, rfl, h1.1.1, h1.1.2, k _ _ _ _ h1.2 o1 k1 ?_⟩
      have w := walks_r (K := X.K) (r := r1) (H := H1) (lo := 0) (n := n.toNat)
      simp only [Int.zero_add] at w
      exact w
abbrev AG := D → Dl → (Dl → Prop) → Prop
def gN (i : Nat) : AG := fun d δ Q => Q (δ.set i (some d))
def gT (is : List Nat) : AG := fun d δ Q => match d with | .tup ds => ds.length = is.length ∧ Q (setAll δ is ds) | _ => False
def Agree (js : List Nat) (σ σ' : L2.St) : Prop := σ'.length = σ.length ∧ ∀ k : Nat, k ∉ js → σ'[k]? = σ[k]?
theorem Agree.refl {js : List Nat} {σ : L2.St} : Agree js σ σ := ⟨rfl, fun _ _ => rfl⟩
theorem Agree.trans {js : List Nat} {σ σ1 σ2 : L2.St} (a : Agree js σ σ1) (b : Agree js σ1 σ2) : Agree js σ σ2 := ⟨b.1.trans a.1, fun k h => (b.2 k h).trans (a.2 k h)⟩
theorem Agree.set {js : List Nat} {σ : L2.St} {i : Nat} {x : Option V} (h : i ∈ js) : Agree js σ (σ.set i x) := ⟨List.length_set, fun k hk => List.getElem?_set_ne (fun (e : i = k) => hk (e ▸ h))⟩
theorem names_agree {K : PySem.W.Frag} {W : WX} {XR : XT} {r : Rs} {H : Hp} {Q : L2.St → Hp → Prop} {js : List Nat} : ∀ {is : List Nat} {vs : List V} {ds : List D} {δ : Dl} {σ : L2.St}, (∀ i ∈ is, i ∈ js) → Ok K W XR r δ σ H → IsAll K (mem r) H vs ds → ds.length = is.length → (∀ σ', Ok K W XR r (setAll δ is ds) σ' H → Agree js σ σ' → Q σ' H) → gNames is vs σ H Q
  | [], _, _, δ, σ, _, o, .nil, _, k => ⟨rfl, k σ o Agree.refl⟩
  | [], _, _, δ, σ, _, o, .cons _ _, l, k => by cases l
  | i :: is, _, _, δ, σ, _, o, .nil, l, k => by cases l
  | i :: is, _, _, δ, σ, hj, o, .cons h t, l, k => ⟨_, _, rfl, names_agree (is := is) (fun i h => hj i (List.mem_cons_of_mem _ h)) (o.set h) t (by simpa using l) fun σ' o' a => k σ' o' ((Agree.set (hj i List.mem_cons_self)).trans a)⟩
def TDG (K : PySem.W.Frag) (js : List Nat) (g : AG) : TG := fun v σ H Q => ∃ (W : WX) (XR : XT) (δ : Dl) (r : Rs) (d : D) (P : Dl → Prop), Ok K W XR r δ σ H ∧ Is K (mem r) H v d ∧ g d δ P ∧ ∀ δ' σ', P δ' → Ok K W XR r δ' σ' H → Agree js σ σ' → Q σ' H
def PDG (X : Cx) (target : Expr) (js : List Nat) (g : AG) : Prop := PG X target (TDG X.K js g)
theorem imG {X : Cx} {e : Expr} {t t' : TG} (h : PG X e t) (i : ∀ v σ H Q, t' v σ H Q → t v σ H Q) : PG X e t' := ⟨fun pins s σ H v u Q I rv q => h.run pins s σ H v u Q I rv (i v σ H Q q)⟩
theorem g_name {i : Nat} {x : Str} (hN : X.N.Nodup) (hi : X.N[i]? = some x := by rfl) (hx : Loc X.env.scope x := by first | exact Or.inl rfl | exact Or.inr rfl) (hf : X.fn x = true ∨ X.env.scope.names.lookup x = some .local := by first | exact .inl rfl | exact .inr rfl | assumption) : PDG X (.Name x pos) [i] (gN i) :=
  imG (pg_name hN hi hx hf) fun v σ H Q ⟨_, _, δ, r, d, P, o, i, g, k⟩ => k _ _ g (o.set i) (Agree.set List.mem_cons_self)
theorem g_tup {is : List Nat} {ts : List Expr} {kk : Nat} (hg : PGs X ts (gNames is)) (hc : X.calm = true := by rfl) (hn : (assignEach ts X.env).length = is.length := by rfl) (hst : (assignEach ts X.env).findIdx? (·.1) = none := by rfl) : PDG X (.Tuple ts kk pos) is (gT is) :=
  imG (pg_tup hc hg hn hst) fun v σ H Q ⟨_, _, δ, r, d, P, o, i, g, k⟩ => by
    cases i with
    | tup s al => exact ⟨_, _, rfl, s, by rw [al.length]; exact g.1, names_agree (fun _ h => h) o al g.1 fun σ' o' a => k _ _ g.2 o' a⟩
    | _ => exact g.elim
theorem pgs_n {i : Nat} {is : List Nat} {x : Str} {ts : List Expr} (hN : X.N.Nodup) (hr : PGs X ts (gNames is)) (hi : X.N[i]? = some x := by rfl) (hx : Loc X.env.scope x := by first | exact Or.inl rfl | exact Or.inr rfl) (hf : X.fn x = true ∨ X.env.scope.names.lookup x = some .local := by first | exact .inl rfl | exact .inr rfl | assumption)
    (hs : (assignEach (.Name x pos :: ts) X.env).map (·.2) = assign (.Name x pos) X.env :: (assignEach ts X.env).map (·.2) := by rfl) : PGs X (.Name x pos :: ts) (gNames (i :: is)) := pgs_cons (pg_name hN hi hx hf) hr hs
def sForK (g : AG) (tb : AS) (A : An) (ds : List D) (δ : Dl) (r1 : Rs) : Prop := ∃ I : Nat → Dl → Rs → Prop, I 0 δ r1 ∧
  (∀ i d δ' r', ds[i]? = some d → I i δ' r' → g d δ' fun δ2 => tb { A with nx := I (i + 1), ct := I (i + 1), bk := A.nx } δ2 r') ∧ ∀ δ' r', I ds.length δ' r' → A.nx δ' r'
def sFor (ti : AI) (g : AG) (tb : AS) : AS := fun A δ r => ti A.xr δ r fun ds r1 => sForK g tb A ds δ r1
theorem s_for {body : List Stmt} {js : List Nat} {wi : AI} {g : AG} {tb : AS} (hi : PDI X W tg e wi) (hg : PDG X tg js g) (hb : PBD X W body tb) (hp : PassesOwn (model X.prog X.w) X.A X.env X.xe) (hc : X.calm = true := by rfl)
    (hs : ∀ x, foldedSetIterable e X.env x = pure x := by intro _; rfl) : PSD X W (.For tg e body [] pos) (sFor wi g tb) := imS (ps_for hp hc hi hg hb hs) fun D σ H ⟨δ, r, A, o, h, f⟩ =>
  ⟨A.xr, δ, r, _, o, h, fun ds r1 J H1 ⟨I, h0, hst, hd⟩ o1 k1 w => by
    refine ⟨fun i m σ' H' => m = ds.length - i ∧ i ≤ ds.length ∧ ∃ δ' r', I i δ' r' ∧ Ok X.K W A.xr r' δ' σ' H' ∧ Kp X.K r1 H1 r' H', ⟨ds.length, by simp, Nat.zero_le _, δ, r1, h0, o1, Kp.refl⟩, ?_⟩
    rintro i m σ' H' ⟨rfl, hi, δ', r', hI, o', k'⟩
    by_cases hlt : i < ds.length
    · obtain ⟨hgo, hy⟩ := (w i r' H' k' o'.r).1 hlt
      refine .inr ⟨hgo, fun σ2 H2 => ∃ δ2 r2, I (i + 1) δ2 r2 ∧ Ok X.K W A.xr r2 δ2 σ2 H2 ∧ Kp X.K r1 H1 r2 H2, fun σ2 H2 ⟨δ2, r2, q1, q2, q3⟩ => ⟨ds.length - (i + 1), by omega, rfl, hlt, δ2, r2, q1, q2, q3⟩, fun x H2 y => ?_⟩
      obtain ⟨ex, d, hd', ix⟩ := hy x H2 y
      refine ⟨W, A.xr, δ', r', d, _, o'.ext ex, ix, hst i d δ' r' hd' hI, fun δ2 σ2 q o2 _ => ⟨δ2, r', { A with nx := I (i + 1), ct := I (i + 1), bk := A.nx }, o2, q, ?_⟩⟩
      have kk := k'.trans (Kp.ext ex)
      have fk := f.step (k1.trans kk)
      exact ⟨fun δ3 r3 σ3 H3 a o3 k3 => ⟨δ3, r3, a, o3, kk.trans k3⟩, fk.rt, fun δ3 r3 σ3 H3 a o3 k3 => fk.nx δ3 r3 σ3 H3 a o3 k3, fun δ3 r3 σ3 H3 a o3 k3 => ⟨δ3, r3, a, o3, kk.trans k3⟩⟩
    · have e : i = ds.length := by omega
      exact .inl ⟨(w i r' H' k' o'.r).2 e, f.nx _ _ _ _ (hd δ' r' (e ▸ hI)) o' (k1.trans k')⟩⟩
end
end G
namespace G
open PySem PySem.Spec L2
def wipeD (δ : Dl) : List Nat → Dl
  | [] => δ
  | v :: vs => (wipeD δ vs).set v none
theorem Ok.wipe {K : PySem.W.Frag} {W : WX} {XR : XT} {r : Rs} {δ : Dl} {σ : L2.St} {H : Hp} (o : Ok K W XR r δ σ H) : ∀ vs : List Nat, Ok K W XR r (wipeD δ vs) (wipe σ vs) H
  | [] => o
  | v :: vs => (Ok.wipe o vs).drop
theorem wipe_get (σ : L2.St) : ∀ (vs : List Nat) (k : Nat), (wipe σ vs)[k]? = if k ∈ vs ∧ k < σ.length then some none else σ[k]?
  | [], k => by simp [wipe]
  | v :: vs, k => by
    unfold wipe
    rw [List.getElem?_set]
    by_cases e : v = k
    · subst e
      rw [if_pos rfl, wipe_length]
      by_cases h : v < σ.length
      · rw [if_pos h, if_pos ⟨List.mem_cons_self, h⟩]
      · rw [if_neg h, if_neg (fun z => h z.2), List.getElem?_eq_none (by omega)]
    · rw [if_neg e, wipe_get σ vs k]
      have : (k ∈ v :: vs) ↔ k ∈ vs := ⟨fun z => (List.mem_cons.mp z).elim (fun q => absurd q.symm e) id, List.mem_cons_of_mem _⟩
      simp only [this]
theorem wipe_agree {σ σ' : L2.St} {js vs : List Nat} (a : Agree js (wipe σ vs) σ') (h : ∀ j ∈ js, j ∈ vs) : wipe σ' vs = wipe σ vs := by
  apply List.ext_getElem?
  intro k
  rw [wipe_get, wipe_get]
  have hl : σ'.length = σ.length := by rw [a.1, wipe_length]
  rw [hl]
  by_cases c : k ∈ vs ∧ k < σ.length
  · rw [if_pos c, if_pos c]
  · rw [if_neg c, if_neg c]
    by_cases hk : k ∈ vs
    · have h1 : σ.length ≤ k := Nat.le_of_not_lt fun z => c ⟨hk, z⟩
      rw [List.getElem?_eq_none (by omega), List.getElem?_eq_none h1]
    · rw [a.2 k (fun z => hk (h k z)), wipe_get, if_neg c]
section
variable {K : PySem.W.Frag}
theorem rok_plus {r : Rs} {H : Hp} {p : Addr} (h : Rok K r H) (hp : H p = none) : Rok K (r ++ [lstA p []]) (upd H p (.lst [])) ∧ Kp K r H (r ++ [lstA p []]) (upd H p (.lst [])) := by
  have e : ∀ a, mem (r ++ [lstA p []]) a → mem r a ∨ a = p := fun a z => (mem_append.mp z).elim .inl fun z => z.elim .inr False.elim
  refine ⟨hold_append.mpr ⟨hold_anti e (hold_ext (Ext.new hp) (hold_grow hp h)), ⟨⟨[], upd_same, .nil⟩, fun _ _ z => z, True.intro⟩, fun a m z => ?_⟩, fun v d i => is_anti e (is_ext (Ext.new hp) _ _ (is_grow hp i))⟩
  have : a = p := z.elim (fun z => z) False.elim
  subst this
  exact not_al h hp m
theorem is_otherO {N : Addr → Prop} {H : Hp} {q : Addr} {u u' : HO} (hN : N q) (hD : H q = some u) (nt : ∀ xs, u ≠ .tup xs ∧ ∀ o : Obj, u ≠ .frz o (.tup xs)) {v : V} {d : D} (h : Is K N H v d) : Is K N (upd H q u') v d := by
  refine Is.go (fun a o _ n s => ⟨n, by rw [upd_ne (fun (e : a = q) => n (e ▸ hN))]; exact s⟩) (fun a xs s => ?_) d v h
  rcases s with (s | ⟨o, s⟩) | s
  · exact .inl (.inl (by rw [upd_ne (fun e => by subst e; rw [hD] at s; exact (nt xs).1 (Option.some.inj s))]; exact s))
  · exact .inl (.inr ⟨o, by rw [upd_ne (fun e => by subst e; rw [hD] at s; exact (nt xs).2 o (Option.some.inj s))]; exact s⟩)
  · exact .inr s
theorem is_other {N : Addr → Prop} {H : Hp} {q : Addr} {ys : List V} (hN : N q) {xs : List V} (hD : H q = some (.lst xs)) {v : V} {d : D} (h : Is K N H v d) : Is K N (upd H q (.lst ys)) v d := is_otherO hN hD (fun _ => ⟨(fun e => by cases e), (fun _ e => by cases e)⟩) h
theorem rok_more {r : Rs} {H : Hp} {p : Addr} {acc : List D} {v : V} {d : D} (h : Rok K (r ++ [lstA p acc]) H) (i : Is K (mem (r ++ [lstA p acc])) H v d) : ∃ vs, H p = some (.lst vs) ∧ vs.length = acc.length ∧
    Rok K (r ++ [lstA p (acc ++ [d])]) (upd H p (.lst (vs ++ [v]))) ∧ ∀ w e, Is K (mem (r ++ [lstA p acc])) H w e → Is K (mem (r ++ [lstA p (acc ++ [d])])) (upd H p (.lst (vs ++ [v]))) w e := by
  obtain ⟨h1, ⟨⟨vs, h2, h3⟩, _, _⟩, h5⟩ := hold_append.mp h
  have me : mem (r ++ [lstA p acc]) = mem (r ++ [lstA p (acc ++ [d])]) := by
    funext a
    exact propext ((mem_append).trans (mem_append (r := r) (r' := [lstA p (acc ++ [d])])).symm)
  have hN : mem (r ++ [lstA p acc]) p := mem_append.mpr (.inr (.inl rfl))
  have go : ∀ w e, Is K (mem (r ++ [lstA p acc])) H w e → Is K (mem (r ++ [lstA p acc])) (upd H p (.lst (vs ++ [v]))) w e := fun w e q => is_other hN h2 q
  refine ⟨vs, h2, h3.length, ?_, fun w e q => me ▸ go w e q⟩
  refine hold_append.mpr ⟨?_, ⟨⟨vs ++ [v], upd_same, ?_⟩, fun _ _ z => z, True.intro⟩, h5⟩
  · rw [← me]
    refine hold_loc (fun b o m q => ?_) go h1
    rw [upd_ne (fun e => h5 b m (.inl e))]
    exact q
  · rw [← me]
    exact (all_of go h3).append (.cons (go _ _ i) .nil)
theorem le_rok {r r' : Rs} (l : le r r') {H : Hp} (h : Rok K r H) : Rok K r' H := l.r _ H h
/-- our own list is a list like others -/
theorem rok_done {r : Rs} {H : Hp} {p : Addr} {acc : List D} (h : Rok K (r ++ [lstA p acc]) H) : Rok K r H ∧ Is K (mem r) H (.ref p) (.lst acc) ∧ Kp K (r ++ [lstA p acc]) H r H := by
  obtain ⟨h1, ⟨⟨vs, h2, h3⟩, _, _⟩, h5⟩ := hold_append.mp h
  have an : ∀ a, mem r a → mem (r ++ [lstA p acc]) a := fun a z => mem_append.mpr (.inl z)
  exact ⟨hold_anti an h1, .lst (fun z => h5 p z (.inl rfl)) h2 (all_of (fun _ _ => is_anti an) h3), fun _ _ => is_anti an⟩
def bYes : AB := fun x _ r P => P true r
structure aLcK (x : XT) (g : AG) (tt : AB) (te : AT) (δw : Dl) (ds : List D) (r1 : Rs) (P : PK1) : Prop where
  ex : ∃ I : Nat → List D → Rs → Prop, I 0 [] r1 ∧
  (∀ (p : Addr) i d acc r', ds[i]? = some d → I i acc r' → g d δw fun δ2 => tt x δ2 (r' ++ [lstA p acc]) fun b r2 =>
    (b = true → te x δ2 r2 fun y r3 => small (acc.length + 1) ∧ ∃ r4, le r3 (r4 ++ [lstA p acc]) ∧ I (i + 1) (acc ++ [y]) r4) ∧ (b = false → ∃ r4, le r2 (r4 ++ [lstA p acc]) ∧ I (i + 1) acc r4)) ∧
  ∀ acc r', I ds.length acc r' → P (.lst acc) r'
def aLc (ti : AI) (g : AG) (tt : AB) (te : AT) (vs : List Nat) : AT := fun x δ r P => ti x δ r fun ds r1 => aLcK x g tt te (wipeD δ vs) ds r1 P
theorem td_lc {W : WX} {ti : AI} {g : AG} {tt : AB} {te : AT} {vs js : List Nat} (hj : ∀ j ∈ js, j ∈ vs) {σ : L2.St} {H : Hp} {Q : VK} (q : TD K W (aLc ti g tt te vs) σ H Q) : tLc (TDI K W ti) (TDG K js g) (TDB K W tt) (TD K W te) vs σ H Q := by
  obtain ⟨XR, δ, r, P, o, h, k⟩ := q
  refine ⟨XR, δ, r, _, o, h, fun ds r1 J H1 ⟨⟨I, h0, hst, hd⟩⟩ o1 k1 w p hp => ?_⟩
  obtain ⟨s1, s2⟩ := rok_plus o1.r hp
  refine ⟨fun i m H' => m = ds.length - i ∧ i ≤ ds.length ∧ ∃ acc r', I i acc r' ∧ Rok K (r' ++ [lstA p acc]) H' ∧ Kp K r1 H1 (r' ++ [lstA p acc]) H', ⟨ds.length, by simp, Nat.zero_le _, [], r1, h0, s1, s2⟩, ?_⟩
  rintro i m H' ⟨rfl, hi, acc, r', hI, ro, kp⟩
  by_cases hlt : i < ds.length
  · obtain ⟨hgo, hy⟩ := (w i _ H' kp ro).1 hlt
    refine .inr ⟨hgo, fun H2 => ∃ acc r2, I (i + 1) acc r2 ∧ Rok K (r2 ++ [lstA p acc]) H2 ∧ Kp K r1 H1 (r2 ++ [lstA p acc]) H2, fun H2 ⟨acc, r2, q1, q2, q3⟩ => ⟨ds.length - (i + 1), by omega, rfl, hlt, acc, r2, q1, q2, q3⟩, fun x H2 y => ?_⟩
    obtain ⟨ex, d, hd', ix⟩ := hy x H2 y
    have k2 := kp.trans (Kp.ext ex)
    have o2 : Ok K W XR (r' ++ [lstA p acc]) (wipeD δ vs) (wipe σ vs) H2 := (o1.step k2 (ro.ext ex)).wipe vs
    refine ⟨W, XR, wipeD δ vs, _, d, _, o2, ix, hst p i d acc r' hd' hI, fun δ2 σ2 q o3 ag => ⟨wipe_agree ag hj, XR, δ2, _, _, o3, q, fun b r3 H3 q3 o4 k4 => ?_⟩⟩
    cases b with
    | true =>
      show TD K W te σ2 H3 _
      refine td_bind o4 (q3.1 rfl) fun y r5 v H5 ⟨sz, r6, l6, h5⟩ o5 k5 i5 => ?_
      obtain ⟨ws, e1, e2, e3, e4⟩ := rok_more (le_rok l6 o5.r) (is_anti l6.m i5)
      refine ⟨ws, e1, by rw [e2]; exact Nat.lt_of_lt_of_le (Nat.lt_succ_self _) sz.sz, acc ++ [y], r6, h5, e3, fun v' d' z => e4 _ _ (is_anti l6.m (k5 _ _ (k4 _ _ (k2 _ _ z))))⟩
    | false =>
      show ∃ acc r2, _
      obtain ⟨r6, l6, h5⟩ := q3.2 rfl
      exact ⟨acc, r6, h5, le_rok l6 o4.r, fun v' d' z => is_anti l6.m (k4 _ _ (k2 _ _ z))⟩
  · have e : i = ds.length := by omega
    obtain ⟨d1, d2, d3⟩ := rok_done ro
    exact .inl ⟨(w i _ H' kp ro).2 e, k _ r' _ H' (hd acc r' (e ▸ hI)) (o1.step (kp.trans d3) d1) ((k1.trans kp).trans d3) d2⟩
end
section
variable {X : Cx} {W : WX}
theorem pts_no : PTs X [] (TDB X.K W bYes) := ⟨fun pins s σ H Q I ⟨XR, δ, r, P, o, h, k⟩ => pts_nil.run pins s σ H Q I (k true r H h o Kp.refl)⟩
theorem pts_1 {c : Expr} {t : AB} (h : PDB X W c t) : PTs X [c] (TDB X.K W t) := pts_one h
theorem d_lc {elt tg iter : Expr} {ifs : List Expr} {scope : Scope} {own : List (Str × Nat)} {pos : Pos} {js : List Nat} {wi : AI} {g : AG} {tt : AB} {te : AT} (hN : X.N.Nodup) (hi : PDI X W tg iter wi) (ok : BlkOk X.N X.env.scope scope own)
    (hg : ∀ (s : Shared) (H : Hp) (C : Addr) (cl : List (Str × Addr)) (fp : List Addr), PDG (X.blk s H scope (compEnvC scope cl C X.env) fp) tg js g) (ht : ∀ (s : Shared) (H : Hp) (C : Addr) (cl : List (Str × Addr)) (fp : List Addr), PTs (X.blk s H scope (compEnvC scope cl C X.env) fp) ifs (TDB X.K W tt))
    (he : ∀ (s : Shared) (H : Hp) (C : Addr) (cl : List (Str × Addr)) (fp : List Addr), PD (X.blk s H scope (compEnvC scope cl C X.env) fp) W elt te) (hj : ∀ j ∈ js, j ∈ own.map (·.2) := by decide) (hc : X.calm = true := by rfl) (hs : ∀ x, foldedSetIterable iter X.env x = pure x := by intro _; rfl) :
    PD X W (.ListComp elt [⟨tg, iter, ifs, 0⟩] scope pos) (aLc wi g tt te (own.map (·.2))) :=
  imE (pe_lc (g := TDG X.K js g) (tt := TDB X.K W tt) (te := TD X.K W te) hc hN hi ok hg ht he hs) fun _ _ _ q => td_lc hj q
theorem s_setLc {i : Nat} {y : Str} {py : Pos} {elt tg iter : Expr} {ifs : List Expr} {scope : Scope} {own : List (Str × Nat)} {pos spos : Pos} {js : List Nat} {wi : AI} {g : AG} {tt : AB} {te : AT} (hN : X.N.Nodup) (hi : PDI X W tg iter wi) (ok : BlkOk X.N X.env.scope scope own)
    (hg : ∀ (s : Shared) (H : Hp) (C : Addr) (cl : List (Str × Addr)) (fp : List Addr), PDG (X.blk s H scope (compEnvC scope cl C X.env) fp) tg js g) (ht : ∀ (s : Shared) (H : Hp) (C : Addr) (cl : List (Str × Addr)) (fp : List Addr), PTs (X.blk s H scope (compEnvC scope cl C X.env) fp) ifs (TDB X.K W tt))
    (he : ∀ (s : Shared) (H : Hp) (C : Addr) (cl : List (Str × Addr)) (fp : List Addr), PD (X.blk s H scope (compEnvC scope cl C X.env) fp) W elt te) (hsw : swapsWith (.ListComp elt [⟨tg, iter, ifs, 0⟩] scope pos) (some (.Name y py)) spos.line X.env = pure true) (hj : ∀ j ∈ js, j ∈ own.map (·.2) := by decide)
    (hc : X.calm = true := by rfl) (hy : X.N[i]? = some y := by rfl) (hyl : X.env.scope.names.lookup y = some .local := by rfl) (hs : ∀ x, foldedSetIterable iter X.env x = pure x := by intro _; rfl) :
    PSD X W (.Assign [.Name y py] (.ListComp elt [⟨tg, iter, ifs, 0⟩] scope pos) spos) (sAsg i (aLc wi g tt te (own.map (·.2)))) :=
  imS (ps_setLc (g := TDG X.K js g) (tt := TDB X.K W tt) (te := TD X.K W te) hc hN hy hyl hsw hi ok hg ht he hs) fun D σ H ⟨δ, r, A, o, h, f⟩ => td_lc hj (td_bind o h fun d r1 v H1 h1 o1 k1 i1 => f.nx _ _ _ _ h1 (o1.set i1) k1)
end
section
variable {K : PySem.W.Frag} {x : XT} {g : AG} {te : AT} {tt : AB} {δw : Dl} {ds : List D} {r1 : Rs} {P : PK1}
theorem lc_map (f : D → D) (hz : small ds.length) (he : ∀ d ∈ ds, ∀ (r' : Rs) (P' : PK1), P' (f d) r' → g d δw fun δ2 => te x δ2 r' P') (hP : P (.lst (ds.map f)) r1) : aLcK x g bYes te δw ds r1 P := by
  refine ⟨fun i acc r' => acc = (ds.take i).map f ∧ r' = r1, ⟨rfl, rfl⟩, ?_, ?_⟩
  · rintro p i d acc r' hd ⟨rfl, rfl⟩
    have hi := (List.getElem?_eq_some_iff.mp hd).1
    refine Eq.mp ?_ (he d (List.mem_of_getElem? hd) (r' ++ [lstA p ((ds.take i).map f)]) (fun y r3 => small (((ds.take i).map f).length + 1) ∧ ∃ r4, le r3 (r4 ++ [lstA p ((ds.take i).map f)]) ∧ ((ds.take i).map f ++ [y] = (ds.take (i + 1)).map f ∧ r4 = r')) ?_)
    · congr 1
      funext δ2
      unfold bYes
      simp
    · refine ⟨?_, r', le.refl, ?_, rfl⟩
      · rw [List.length_map, List.length_take]
        have : small ds.length := hz
        unfold small at *
        omega
      · rw [List.take_add_one, hd, List.map_append]
        rfl
  · rintro acc r' ⟨rfl, rfl⟩
    rw [List.take_length]
    exact hP
end
end G
namespace G
open PySem PySem.Spec L2
open PyProof.Rows (envOfC)
abbrev XD := Addr → List Str → List D → Rs → Prop
abbrev SpX := List D → Rs → PK1 → XD → Prop
/-- a promise over data as a promise of the hand layer -/
def lift (K : PySem.W.Frag) (sd : SpX) : Sp := fun vs H Q E => ∃ (r : Rs) (ds : List D) (P : PK1) (XR : XD), Rok K r H ∧ IsAll K (mem r) H vs ds ∧ sd ds r P XR ∧
  (∀ d r' v H', P d r' → Rok K r' H' → Kp K r H r' H' → Is K (mem r') H' v d → Q v H') ∧
  (∀ C fs es r' a H', XR C fs es r' → Rok K r' H' → Kp K r H r' H' → ExAt K r' H' a fs es → E (.ref C) a H')
def noX : XD := fun _ _ _ _ => False
/-- the def at f keeps the promise sd -/
abbrev FO (P : Program) (w : World) (K : PySem.W.Frag) (mg : Str → Option Value) (base : Heap) (k : Nat) (f : Addr) (fd : FuncData) (ps : List Str) (sd : SpX) : Prop := FnOk P w K mg base (L2.CX P w) k f fd ps (lift K sd)
abbrev FR (P : Program) (w : World) (K : PySem.W.Frag) (mg : Str → Option Value) (base : Heap) (k : Nat) (f : Addr) (sd : SpX) : Prop := FnR P w K mg base (L2.CX P w) k f (lift K sd)
theorem lift_imp {K : PySem.W.Frag} {sd sd' : SpX} (h : ∀ ds r P XR, sd' ds r P XR → sd ds r P XR) : ∀ vs H Q E, lift K sd' vs H Q E → lift K sd vs H Q E := fun vs H Q E ⟨r, ds, P, XR, h1, h2, h3, h4⟩ => ⟨r, ds, P, XR, h1, h2, h _ _ _ _ h3, h4⟩
theorem fr_of {P : Program} {w : World} {K : PySem.W.Frag} {mg : Str → Option Value} {base : Heap} {k : Nat} {f : Addr} {fd : FuncData} {ps : List Str} {sd : SpX} (F : FO P w K mg base k f fd ps sd) (hb : Binds K fd ps []) : FR P w K mg base k f sd := by
  have q := F.raw hb .nil
  exact q.imp fun vs H Q E h => by rw [List.append_nil]; exact h
/-- the last arguments by their defaults -/
theorem fr_dfl {P : Program} {w : World} {K : PySem.W.Frag} {mg : Str → Option Value} {base : Heap} {k : Nat} {f : Addr} {fd : FuncData} {ps : List Str} {sd : SpX} {dus : List Value} {dvs : List V} {dd : List D} (F : FO P w K mg base k f fd ps sd) (hb : Binds K fd ps dus) (hd : Vals dvs dus) (hdd : ∀ M H, IsAll K M H dvs dd) :
    FR P w K mg base k f (fun ds r P XR => sd (ds ++ dd) r P XR) :=
  (F.raw hb hd).imp fun vs H Q E ⟨r, ds, P', XR, h1, h2, h3, h4⟩ => ⟨r, ds ++ dd, P', XR, h1, h2.append (hdd _ _), h3, h4⟩
section
variable {X : Cx} {W : WX} {k : Nat} {f : Addr} {sd : SpX} {pins : List (Addr × Obj)} {σ : L2.St} {H : Hp} {s : Shared} {us : List Value} {vs : List V}
theorem run_at {sp : Sp} {E : XK} {Q : VK} (F : FnR X.prog X.w X.K X.mg X.base (L2.CX X.prog X.w) k f sp) (hr : Room k X.A) (hx : PassesAt (L2.CX X.prog X.w) X σ E) (I : L2.Inv X pins σ H s) (r : Vals vs us) (h : sp vs H Q E) :
    codeAny (model X.prog X.w) X.A (.call (.ref f) ⟨us, []⟩) (fun r s' => match r with | .ok (.ret v) => EP X pins σ Q v s' | .ok _ => False | .error e => X.xe e s') s := by
  refine codeAny_mono (F X.A X.stack s H us vs Q E hr I.env0 r h) fun r s' hq => ?_
  cases r with
  | error e => exact hx pins H s e s' I hq
  | ok fl =>
    cases fl with
    | ret u => exact I.after hq
    | next => exact False.elim hq
    | brk => exact False.elim hq
    | cont => exact False.elim hq
/-- nothing is let out -/
theorem passN {E : XK} (h : ∀ c d H, ¬ E c d H) : PassesAt (L2.CX X.prog X.w) X σ E := fun _ _ _ _ _ _ hh => by
  obtain ⟨_, _, _, _, _, _, _, _, _, _, _, _, z⟩ := hh
  exact (h _ _ _ z).elim
theorem lift_at {XR : XT} {r : Rs} {δ : Dl} {P : PK1} {ds : List D} {Q : VK} (o : Ok X.K W XR r δ σ H) (i : IsAll X.K (mem r) H vs ds) (h : sd ds r P fun C fs es r' => XR C fs es δ r')
    (k : ∀ d r' v H', P d r' → Ok X.K W XR r' δ σ H' → Kp X.K r H r' H' → Is X.K (mem r') H' v d → Q v H') : lift X.K sd vs H Q (WE W σ) :=
  ⟨r, ds, P, _, o.r, i, h, fun d r' v H' a b c i => k d r' v H' a (o.step c b) c i, fun C fs es r' a H' x ro kk e => o.x C fs es δ r' σ a H' x (o.b.step kk ro) kk e⟩
theorem lift_n {XR : XT} {r : Rs} {δ : Dl} {P : PK1} {ds : List D} {Q : VK} (o : Ok X.K W XR r δ σ H) (i : IsAll X.K (mem r) H vs ds) (h : sd ds r P noX)
    (k : ∀ d r' v H', P d r' → Ok X.K W XR r' δ σ H' → Kp X.K r H r' H' → Is X.K (mem r') H' v d → Q v H') : lift X.K sd vs H Q E0 :=
  ⟨r, ds, P, _, o.r, i, h, fun d r' v H' a b c i => k d r' v H' a (o.step c b) c i, fun _ _ _ _ _ _ x => x.elim⟩
theorem passE : PassesAt (L2.CX X.prog X.w) X σ E0 := passN fun _ _ _ z => z
end
/-- a call's reading: what is raised goes on; nothing is raised -/
def aCall (sd : SpX) (l : AL) : AT := fun x δ r P => l x δ r fun ds r1 => sd ds r1 P fun C fs es r' => x C fs es δ r'
def aCallN (sd : SpX) (l : AL) : AT := fun x δ r P => l x δ r fun ds r1 => sd ds r1 P noX
section
variable {X : Cx} {W : WX} {k : Nat} {f : Addr} {sd : SpX} {x : Str} {p pos : Pos} {e : Expr} {es : List Expr} {l : AL}
theorem call_P {sp : Sp} {E : XK} {Q : VK} {pins : List (Addr × Obj)} {σ : L2.St} {H : Hp} {s : Shared} {us : List Value} {vs : List V} (F : FnR X.prog X.w X.K X.mg X.base (L2.CX X.prog X.w) k f sp) (hr : Room k X.A) (hx : PassesAt (L2.CX X.prog X.w) X σ E) (I : L2.Inv X pins σ H s) (r : Vals vs us) (h : sp vs H Q E) :
    wpAny (model X.prog X.w) X.A (call (.ref f) us) (EP X pins σ Q) X.xe s := wpAny_call (run_at F hr hx I r h)
/-- x(e, ..) -/
theorem call_any (F : FR X.prog X.w X.K X.mg X.base k f sd) (hr : Room k X.A) (hk : PySem.W.keepIn X.K (.ref f) = true) (hm : X.mg x = some (.ref f)) (tr : AT) (ha : PDL X W (e :: es) l)
    (im : ∀ {pins : List (Addr × Obj)} {σ : L2.St} {H : Hp} {s : Shared} {Q : VK}, TD X.K W tr σ H Q → L2.Inv X pins σ H s → TDL X.K W l σ H fun vs H1 => ∃ E : XK, PassesAt (L2.CX X.prog X.w) X σ E ∧ lift X.K sd vs H1 Q E)
    (hg : Gl X x) (hdb : (x == ("__debug__" : Str)) = false) (he : starEach (e :: es) X.env = (false, eval e X.env) :: starEach es X.env) (hpl : (backTo pos (starEach es X.env)).any (·.1) = false) : PD X W (.Call (.Name x p) (e :: es) [] pos) tr := by
  refine ⟨fun pins s σ H Q I h => ?_⟩
  refine wpAny_Call_Name_kw (ld_glob I hg hm ?_ hdb)
  refine PySem.W.callWith_K (h₀ := X.base) I.ok.mod.kin hk (thn (ha.run pos pins s σ H _ I (im h I)) fun us s1 ⟨vs, H1, I1, r, E, hx, q⟩ => ⟨I1.kIn, ?_⟩) he hpl
  exact call_P F hr hx I1 r q
theorem d_call (F : FR X.prog X.w X.K X.mg X.base k f sd) (tk : Takes X W) (hr : Room k X.A) (hm : X.mg x = some (.ref f)) (hk : PySem.W.keepIn X.K (.ref f) = true)
    (ha : PDL X W (e :: es) l) (hg : Gl X x := by rfl) (hdb : (x == ("__debug__" : Str)) = false := by decide) (he : starEach (e :: es) X.env = (false, eval e X.env) :: starEach es X.env := by rfl) (hpl : (backTo pos (starEach es X.env)).any (·.1) = false := by rfl) :
    PD X W (.Call (.Name x p) (e :: es) [] pos) (aCall sd l) := call_any F hr hk hm _ ha (fun q I => by
  obtain ⟨XR, δ, r, P, ok, h, kk⟩ := q
  exact tdl_bind ok h fun ds r1 vs H1 h1 o1 k1 i1 => ⟨_, passAt tk _, lift_at o1 i1 h1 fun d r' v H' a b c i => kk d r' v H' a b (k1.trans c) i⟩) hg hdb he hpl
theorem d_callN (F : FR X.prog X.w X.K X.mg X.base k f sd) (hr : Room k X.A) (hm : X.mg x = some (.ref f)) (hk : PySem.W.keepIn X.K (.ref f) = true)
    (ha : PDL X W (e :: es) l) (hg : Gl X x := by rfl) (hdb : (x == ("__debug__" : Str)) = false := by decide) (he : starEach (e :: es) X.env = (false, eval e X.env) :: starEach es X.env := by rfl) (hpl : (backTo pos (starEach es X.env)).any (·.1) = false := by rfl) :
    PD X W (.Call (.Name x p) (e :: es) [] pos) (aCallN sd l) := call_any F hr hk hm _ ha (fun q I => by
  obtain ⟨XR, δ, r, P, ok, h, kk⟩ := q
  exact tdl_bind ok h fun ds r1 vs H1 h1 o1 k1 i1 => ⟨_, passE, lift_n o1 i1 h1 fun d r' v H' a b c i => kk d r' v H' a b (k1.trans c) i⟩) hg hdb he hpl
end
def startD (N : List Str) (ds : List D) : Dl := ds.map some ++ List.replicate (N.length - ds.length) none
/-- a promise that any heap is told by, kept -/
def fit (P : PK1) : PK1 := fun d r' => ∃ r0, le r' r0 ∧ P d r0
theorem fit.of {P : PK1} {d : D} {r : Rs} (h : P d r) : fit P d r := ⟨r, le.refl, h⟩
def fitX (XR : XD) : XT := fun C fs es _ r' => ∃ r0, le r' r0 ∧ XR C fs es r0
theorem fitX.of {XR : XD} {C : Addr} {fs : List Str} {es : List D} {δ : Dl} {r : Rs} (h : XR C fs es r) : fitX XR C fs es δ r := ⟨r, le.refl, h⟩
theorem ExAt.anti {K : PySem.W.Frag} {r r' : Rs} {H : Hp} {a : Option Addr} {fs : List Str} {ds : List D} (h : ∀ a, mem r' a → mem r a) (e : ExAt K r H a fs ds) : ExAt K r' H a fs ds := by
  cases a with
  | none => exact e
  | some a =>
    obtain ⟨h0, kvs, h1, h2, h3⟩ := e
    exact ⟨fun z => h0 (h _ z), kvs, h1, h2, all_of (fun _ _ => is_anti h) h3⟩
abbrev WK (E : XK) : WX := fun cls d _ H => E cls d H
abbrev W0 : WX := fun _ _ _ _ => False
section
variable {P : Program} {w : World} {K : PySem.W.Frag} {mg : Str → Option Value} {base : Heap}
theorem start_ok {W : WX} {XR : XT} {N : List Str} {vs : List V} {ds : List D} {r : Rs} {H : Hp} (ro : Rok K r H) (hi : IsAll K (mem r) H vs ds) (x : Xc K W XR r H) : Ok K W XR r (startD N ds) (L2.start N vs) H := by
  refine ⟨⟨fun i d e => ?_, ro, ?_⟩, x⟩
  · unfold startD at e
    unfold L2.start
    rcases Nat.lt_or_ge i ds.length with hlt | hge
    · rw [List.getElem?_append_left (by simpa using hlt), List.getElem?_map] at e
      cases q : ds[i]? with
      | none => rw [q] at e; cases e
      | some d0 =>
        rw [q] at e
        cases e
        obtain ⟨v, h1, h2⟩ := hi.getD q
        exact ⟨v, by rw [List.getElem?_append_left (by rw [List.length_map, hi.length]; exact hlt), List.getElem?_map, h1] <;> rfl, h2⟩
    · rw [List.getElem?_append_right (by simpa using hge), List.getElem?_replicate] at e
      split at e <;> cases e
  · unfold startD L2.start
    rw [List.length_append, List.length_append, List.length_map, List.length_map, List.length_replicate, List.length_replicate, hi.length]
/-- THE RULE for a def -/
theorem fn_d {x qual : Str} {st : Stmt} {f : Addr} {fd : FuncData} {N ps : List Str} {k : Nat} {sd : SpX} (F : Fun K x qual st f fd) (S : FnScope N ps (defScope st)) (len : ∀ ds r P' XR, sd ds r P' XR → ds.length = ps.length)
    (hbody : ∀ (cdv : Value) (A : Around) (outer : List Env) (s : Shared) (H : Hp) (E : XK), Room k (A.deeper (envOfC qual (defScope st) s.heap.objs.size f cdv)) → Takes (cxOf (L2.CX P w) P w K mg base N qual (defScope st) f cdv A outer s H E) (WK E) →
      PassesOwn (model P w) (cxOf (L2.CX P w) P w K mg base N qual (defScope st) f cdv A outer s H E).A (cxOf (L2.CX P w) P w K mg base N qual (defScope st) f cdv A outer s H E).env (cxOf (L2.CX P w) P w K mg base N qual (defScope st) f cdv A outer s H E).xe →
      ∃ t : AS, PBD (cxOf (L2.CX P w) P w K mg base N qual (defScope st) f cdv A outer s H E) (WK E) (defBody st) t ∧
      ∀ ds r P' XR, sd ds r P' XR → t { nx := fun _ r' => fit P' .non r', rt := fit P', xr := fitX XR } (startD N ds) r) : FO P w K mg base (k + 1) f fd ps sd := by
  refine F.okX S (fun vs H Q E h => ?_) (fun cdv A outer s H vs Q E hr h => ?_)
  · obtain ⟨r, ds, P', XR, hr, hi, hs, _, _⟩ := h
    rw [hi.length]
    exact len _ _ _ _ hs
  · obtain ⟨r, ds, P', XR, ro, hi, hs, hq, hx⟩ := h
    obtain ⟨t, ht, hread⟩ := hbody cdv A outer s H E hr (takes_of rfl rfl rfl rfl) (passes_of rfl)
    refine ⟨_, ht, startD N ds, r, { nx := fun _ r' => fit P' .non r', rt := fit P', xr := fitX XR }, start_ok ro hi ?_, hread ds r P' XR hs, ⟨fun δ' r' σ' H' a o k => ?_, fun d r' v H' a o k i => ?_, fun _ _ _ _ z => z.elim, fun _ _ _ _ z => z.elim⟩⟩
    · rintro C fs es δ' r' σ' a H' ⟨r0, l, q⟩ o k e
      exact hx C fs es r0 a H' q (l.r _ _ o.r) (k.trans l.kp) (e.anti l.m)
    · obtain ⟨r0, l, a⟩ := a
      exact hq _ r0 _ H' a (l.r _ _ o.r) (k.trans l.kp) .non
    · obtain ⟨r0, l, a⟩ := a
      exact hq _ r0 _ H' a (l.r _ _ o) (k.trans l.kp) (is_anti l.m i)
end
end G
namespace G
open PySem PySem.Spec L2
open PyProof.Rows (envOfC)
/-- the def st stands under the module's name x -/
def Dfn (K : PySem.W.Frag) (mg : Str → Option Value) (x : Str) (st : Stmt) (ps : List Str) : Prop := ∃ f fd, Fun K x x st f fd ∧ mg x = some (.ref f) ∧ Binds K fd ps []
/-- the module's name x may be called by the promise sd -/
def Cl (P : Program) (w : World) (K : PySem.W.Frag) (mg : Str → Option Value) (base : Heap) (k : Nat) (x : Str) (ps : List Str) (sd : SpX) : Prop :=
  ∃ f fd, FO P w K mg base k f fd ps sd ∧ mg x = some (.ref f) ∧ PySem.W.keepIn K (.ref f) = true ∧ Binds K fd ps []
theorem cl_of {P : Program} {w : World} {K : PySem.W.Frag} {mg : Str → Option Value} {base : Heap} {x : Str} {st : Stmt} {N ps : List Str} {k : Nat} {sd : SpX} (Dx : Dfn K mg x st ps) (S : FnScope N ps (defScope st)) (len : ∀ ds r P' XR, sd ds r P' XR → ds.length = ps.length)
    (hbody : ∀ (f : Addr) (cdv : Value) (A : Around) (outer : List Env) (s : Shared) (H : Hp) (E : XK), Room k (A.deeper (envOfC x (defScope st) s.heap.objs.size f cdv)) → Takes (cxOf (L2.CX P w) P w K mg base N x (defScope st) f cdv A outer s H E) (WK E) →
      PassesOwn (model P w) (cxOf (L2.CX P w) P w K mg base N x (defScope st) f cdv A outer s H E).A (cxOf (L2.CX P w) P w K mg base N x (defScope st) f cdv A outer s H E).env (cxOf (L2.CX P w) P w K mg base N x (defScope st) f cdv A outer s H E).xe →
      ∃ t : AS, PBD (cxOf (L2.CX P w) P w K mg base N x (defScope st) f cdv A outer s H E) (WK E) (defBody st) t ∧
      ∀ ds r P' XR, sd ds r P' XR → t { nx := fun _ r' => fit P' .non r', rt := fit P', xr := fitX XR } (startD N ds) r) : Cl P w K mg base (k + 1) x ps sd := by
  obtain ⟨f, fd, F, g, b⟩ := Dx
  exact ⟨f, fd, fn_d F S len (hbody f), g, F.kp, b⟩
/-- a promise that is never asked -/
theorem cl_never {P : Program} {w : World} {K : PySem.W.Frag} {mg : Str → Option Value} {base : Heap} {x : Str} {st : Stmt} {ps : List Str} {k : Nat} {sd : SpX} (Dx : Dfn K mg x st ps) (h : ∀ ds r P' XR, ¬ sd ds r P' XR) : Cl P w K mg base k x ps sd := by
  obtain ⟨f, fd, F, g, b⟩ := Dx
  exact ⟨f, fd, ⟨fun vs H Q E ⟨r, ds, P', XR, _, _, z, _⟩ => (h _ _ _ _ z).elim, fun A outer s H args us vs Q E _ _ _ _ ⟨r, ds, P', XR, _, _, z, _⟩ => (h _ _ _ _ z).elim⟩, g, F.kp, b⟩
theorem Cl.imp {P : Program} {w : World} {K : PySem.W.Frag} {mg : Str → Option Value} {base : Heap} {x : Str} {ps : List Str} {k : Nat} {sd sd' : SpX} (c : Cl P w K mg base k x ps sd) (h : ∀ ds r P XR, sd' ds r P XR → sd ds r P XR) : Cl P w K mg base k x ps sd' := by
  obtain ⟨f, fd, F, g, kp, b⟩ := c
  exact ⟨f, fd, FnOk.imp F (lift_imp h), g, kp, b⟩
theorem Cl.mono {P : Program} {w : World} {K : PySem.W.Frag} {mg : Str → Option Value} {base : Heap} {x : Str} {ps : List Str} {j k : Nat} {sd : SpX} (c : Cl P w K mg base j x ps sd) (h : j ≤ k) : Cl P w K mg base k x ps sd := by
  obtain ⟨f, fd, F, g, kp, b⟩ := c
  exact ⟨f, fd, FnOk.mono F h, g, kp, b⟩
/-- a def that was walked as one that lets nothing out -/
theorem cl_cx0 {P : Program} {w : World} {K : PySem.W.Frag} {mg : Str → Option Value} {base : Heap} {x : Str} {ps : List Str} {k : Nat} {sd : SpX} {f : Addr} {fd : FuncData} (F : FnOk P w K mg base CX0 k f fd ps (lift K sd)) (g : mg x = some (.ref f)) (kp : PySem.W.keepIn K (.ref f) = true) (b : Binds K fd ps []) : Cl P w K mg base k x ps sd := by
  refine ⟨f, fd, ⟨F.len, fun A outer s H args us vs Q E hr he hb hv hs => codeAny_mono (F.run A outer s H args us vs Q E hr he hb hv hs) fun r s' h => ?_⟩, g, kp, b⟩
  cases r with
  | ok fl => cases fl <;> exact h
  | error e => exact h.elim
section
variable {X : Cx} {W : WX} {k j : Nat} {ps : List Str} {sd : SpX} {x : Str} {p pos : Pos} {e : Expr} {es : List Expr} {l : AL}
theorem d_fn (C : Cl X.prog X.w X.K X.mg X.base k x ps sd) (tk : Takes X W) (hr : Room j X.A) (ha : PDL X W (e :: es) l) (hj : k ≤ j := by first | decide | exact Nat.le_refl _ | omega) (hg : Gl X x := by rfl) (hdb : (x == ("__debug__" : Str)) = false := by decide)
    (he : starEach (e :: es) X.env = (false, eval e X.env) :: starEach es X.env := by rfl) (hpl : (backTo pos (starEach es X.env)).any (·.1) = false := by rfl) : PD X W (.Call (.Name x p) (e :: es) [] pos) (aCall sd l) := by
  obtain ⟨f, fd, F, g, kp, b⟩ := C
  exact d_call (fr_of F b) tk (hr.mono hj) g kp ha hg hdb he hpl
theorem d_fnN (C : Cl X.prog X.w X.K X.mg X.base k x ps sd) (hr : Room j X.A) (ha : PDL X W (e :: es) l) (hj : k ≤ j := by first | decide | exact Nat.le_refl _ | omega) (hg : Gl X x := by rfl) (hdb : (x == ("__debug__" : Str)) = false := by decide)
    (he : starEach (e :: es) X.env = (false, eval e X.env) :: starEach es X.env := by rfl) (hpl : (backTo pos (starEach es X.env)).any (·.1) = false := by rfl) : PD X W (.Call (.Name x p) (e :: es) [] pos) (aCallN sd l) := by
  obtain ⟨f, fd, F, g, kp, b⟩ := C
  exact d_callN (fr_of F b) (hr.mono hj) g kp ha hg hdb he hpl
end
/-- names that the module does not bind -/
structure Bl (mg : Str → Option Value) : Prop where
  len : mg "len" = none
  int : mg "int" = none
  list : mg "list" = none
  tuple : mg "tuple" = none
  isi : mg "isinstance" = none
  range : mg "range" = none
  all : mg "all" = none
  any : mg "any" = none
  str : mg "str" = none
  bool : mg "bool" = none
  enum : mg "enumerate" = none
  zip : mg "zip" = none
  sum : mg "sum" = none
  max : mg "max" = none
  min : mg "min" = none
  sorted : mg "sorted" = none
  set : mg "set" = none
  dict : mg "dict" = none
theorem own_step {K : PySem.W.Frag} {t t' : At} {X : Rs} {H H' : Hp} (h : Rok K (t :: X) H) (hm : t'.M = t.M) (hk : ∀ b o, ¬ t.M b → H b = some o → H' b = some o) (hT : ∀ b, t.M b → ∀ u, Rd H b u → ∀ xs, u ≠ .tup xs) (ht : t'.R K (mem (t' :: X)) H') : Rok K (t' :: X) H' ∧ Kp K (t :: X) H (t' :: X) H' := by
  have me : mem (t' :: X) = mem (t :: X) := by
    show (fun a => t'.M a ∨ mem X a) = (fun a => t.M a ∨ mem X a)
    rw [hm]
  have go : Kp K (t :: X) H (t' :: X) H' := fun v d q => by
    rw [me]
    refine Is.go (fun a o _ n s => ⟨n, hk a _ (fun z => n (.inl z)) s⟩) (fun a xs s => ?_) _ _ q
    rcases s with s | s
    · have na : ¬ t.M a := fun z => hT a z _ s xs rfl
      rcases s with s | ⟨o, s⟩
      · exact .inl (.inl (hk a _ na s))
      · exact .inl (.inr ⟨o, hk a _ na s⟩)
    · exact .inr s
  obtain ⟨h1, h2, h3⟩ := h
  have go' : ∀ v d, Is K (mem (t :: X)) H v d → Is K (mem (t :: X)) H' v d := by
    have g := go
    unfold Kp at g
    rw [me] at g
    exact g
  refine ⟨⟨ht, by rw [hm]; exact h2, ?_⟩, go⟩
  rw [me]
  exact hold_loc (fun b o m q => hk b o (fun z => h2 b z m) q) go' h3
/-- the pool of draws at p, its script's rest at a; fewer than N draws so far -/
def poolA (p a : Addr) (N : Nat) : At where
  M := fun b => b = p ∨ b = a
  R := fun _ _ H => p ≠ a ∧ ∃ (ns : List Int) (c1 c2 c3 : Int), H p = some (.lst [.ref a, .int c1, .int c2, .int c3]) ∧ H a = some (.lst (ns.map V.int)) ∧ 0 ≤ c1 ∧ 0 ≤ c2 ∧ c2 ≤ N ∧ 0 ≤ c3 ∧ c3 < 2147483629 ∧ ns.length ≤ 63
  loc := fun f _ ⟨ne, ns, c1, c2, c3, h1, h2, h⟩ => ⟨ne, ns, c1, c2, c3, f _ _ (.inl rfl) h1, f _ _ (.inr rfl) h2, h⟩
  anti := fun _ h => h
  grow := fun _ h => h
  al := fun ⟨ne, ns, c1, c2, c3, h1, h2, h⟩ b z => z.elim (fun e => ⟨_, e.symm ▸ h1⟩) fun e => ⟨_, e.symm ▸ h2⟩
theorem pool_mono {p a : Addr} {N N' : Nat} (h : N ≤ N') {X : Rs} : le (poolA p a N :: X) (poolA p a N' :: X) :=
  ⟨fun b z => z, fun K H ⟨⟨ne, ns, c1, c2, c3, h1, h2, h3, h4, h5, h6⟩, q, q2⟩ => ⟨⟨ne, ns, c1, c2, c3, h1, h2, h3, h4, by omega, h6⟩, q, q2⟩⟩
/-- a draw below m -/
def spDraw : SpX := fun ds r P _ => ∃ p a m N X, ds = [.adr p, .int m] ∧ r = poolA p a N :: X ∧ (0 < m ∧ m ≤ 10000000000000000000000000000000000000000) ∧ N < 1000000000000 ∧ ∀ k, 0 ≤ k → k < m → P (.int k) (poolA p a (N + 1) :: X)
theorem pool_step {K : PySem.W.Frag} {p a : Addr} {N N' : Nat} {X : Rs} {H H' : Hp} (h : Rok K (poolA p a N :: X) H) (hk : ∀ b o, b ≠ p → b ≠ a → H b = some o → H' b = some o) (ht : (poolA p a N').R K (mem (poolA p a N' :: X)) H') : Rok K (poolA p a N' :: X) H' ∧ Kp K (poolA p a N :: X) H (poolA p a N' :: X) H' := by
  obtain ⟨⟨ne, ns, c1, c2, c3, h1, h2, _⟩, _, _⟩ := id h
  refine own_step h rfl (fun b o n q => hk b o (fun e => n (.inl e)) (fun e => n (.inr e)) q) (fun b z u q xs e => ?_) ht
  subst e
  rcases z with rfl | rfl
  · rcases q with q | ⟨o, q⟩
    · rw [h1] at q; cases q
    · rw [h1] at q; cases q
  · rcases q with q | ⟨o, q⟩
    · rw [h2] at q; cases q
    · rw [h2] at q; cases q
theorem pget_list {X : Cx} : PGet X (fun o i H Q => ∃ (p : Addr) (xs : List V) (j : Nat) (v : V), o = .ref p ∧ i = .int (j : Nat) ∧ j < 1000000 ∧ SqL X.K H p xs ∧ xs[j]? = some v ∧ Q v H) := by
  rintro pins s σ H o i ov iv Q I ro ri ⟨p, xs, j, v, rfl, rfl, hj, hq, hv, q⟩
  cases ro
  obtain ⟨t, rfl⟩ := ri
  obtain ⟨its, r, pl, hz⟩ := I.list hq
  obtain ⟨u, hu, ru⟩ := r.get hv
  exact wpAny_getItem_list pl.isList (by omega) (by omega) (by simpa using hu) ⟨v, H, I, ru, q⟩
theorem brT {A B : Prop} (h : A) : (true = true → A) ∧ (true = false → B) := ⟨fun _ => h, fun e => (by cases e)⟩
theorem brF {A B : Prop} (h : B) : (false = true → A) ∧ (false = false → B) := ⟨fun e => (by cases e), fun _ => h⟩
theorem brt {b : Bool} {A B : Prop} (e : b = true) (h : A) : (b = true → A) ∧ (b = false → B) := ⟨fun _ => h, fun q => by rw [e] at q; cases q⟩
theorem brf {b : Bool} {A B : Prop} (e : b = false) (h : B) : (b = true → A) ∧ (b = false → B) := ⟨fun q => (by rw [e] at q; cases q), fun _ => h⟩
end G
namespace G
open PySem PySem.Spec L2
open PyProof.Rows (envOfC)
abbrev tl (x : Str) : List Nat := x.cps.toList
def strL : List D → Option (List Str)
  | [] => some []
  | .str z :: r => (strL r).map (z :: ·)
  | _ :: _ => none
theorem strL_map : ∀ (l : List Str), strL (l.map .str) = some l
  | [] => rfl
  | b :: bs => by simp [strL, strL_map bs]
theorem strL_all {K : PySem.W.Frag} {N : Addr → Prop} {H : Hp} : ∀ {vs : List V} {ds : List D} {ys : List Str}, IsAll K N H vs ds → strL ds = some ys → vs = ys.map V.str ∧ ∀ y ∈ ys, sok y
  | _, _, _, .nil, e => by cases e; exact ⟨rfl, fun _ h => by cases h⟩
  | _, d :: ds, bs, .cons i t, e => by
    cases i <;> try (simp [strL] at e; done)
    rename_i z hz
    simp only [strL] at e
    cases q : strL ds with
    | none => rw [q] at e; cases e
    | some cs =>
      rw [q] at e
      cases e
      obtain ⟨h1, h2⟩ := strL_all t q
      rw [h1]
      exact ⟨rfl, fun y hy => (List.mem_cons.mp hy).elim (fun e => e ▸ hz) (h2 y)⟩
theorem sok_iff {z : Str} : sok z ↔ (∀ c ∈ tl z, c < 1114112) ∧ (tl z).length ≤ 1000000 := by
  unfold sok PyData.strOk Str.length
  rw [← Array.all_toList, List.all_eq_true, Array.length_toList]
  simp only [decide_eq_true_eq]
theorem joinL_mem {S : List Nat} {c : Nat} : ∀ {ps : List (List Nat)}, c ∈ TL.joinL S ps → c ∈ S ∨ ∃ p ∈ ps, c ∈ p
  | [], h => by cases h
  | [p], h => .inr ⟨p, List.mem_cons_self, h⟩
  | p :: q :: r, h => by
    rcases List.mem_append.mp h with h | h
    · exact .inr ⟨p, List.mem_cons_self, h⟩
    · rcases List.mem_append.mp h with h | h
      · exact .inl h
      · rcases joinL_mem (ps := q :: r) h with h | ⟨x, h1, h2⟩
        · exact .inl h
        · exact .inr ⟨x, List.mem_cons_of_mem _ h1, h2⟩
theorem joinL_len {S : List Nat} : ∀ {ps : List (List Nat)}, (TL.joinL S ps).length ≤ (ps.map List.length).sum + ps.length * S.length
  | [] => by simp [TL.joinL]
  | [p] => by simp [TL.joinL]
  | p :: q :: r => by
    have ih := joinL_len (S := S) (ps := q :: r)
    simp only [TL.joinL, List.length_append, List.map_cons, List.sum_cons, List.length_cons, Nat.add_mul, Nat.one_mul] at ih ⊢
    omega
def tJoin (a : Str) (ys : List Str) : Str := Txt.join a ys
theorem tl_tJoin (a : Str) (ys : List Str) : tl (tJoin a ys) = TL.joinL (tl a) (ys.map tl) := by
  unfold tJoin
  rw [TL.join_eq]
  exact TL.tl_join a ys
theorem tl_len (ys : List Str) : (ys.map tl).map List.length = ys.map (·.length) := by
  rw [List.map_map]
  rfl
def oJoinP (x y : D) (k : D → Prop) : Prop := match x with
  | .str a => match y with
    | .lst ds => (match strL ds with | some ys => (ys.map (·.length)).sum + ys.length * a.length ≤ 1000000 ∧ k (.str (tJoin a ys)) | none => False)
    | .tup ds => (match strL ds with | some ys => (ys.map (·.length)).sum + ys.length * a.length ≤ 1000000 ∧ k (.str (tJoin a ys)) | none => False)
    | _ => False
  | _ => False
structure oJoin (x y : D) (k : D → Prop) : Prop where
  ex : oJoinP x y k
def aM1 (o : O2) (ta tb : AT) : AT := fun x δ r P => ta x δ r fun d1 r1 => match d1 with | .str z => tb x δ r1 fun d2 r2 => o (.str z) d2 fun d => P d r2 | _ => False
theorem sok_join {a : Str} {ys : List Str} (ha : sok a) (hy : ∀ y ∈ ys, sok y) (hz : (ys.map (·.length)).sum + ys.length * a.length ≤ 1000000) : sok (tJoin a ys) := by
  rw [sok_iff, tl_tJoin]
  refine ⟨fun c hc => ?_, ?_⟩
  · rcases joinL_mem hc with h | ⟨p, hp, h⟩
    · exact (sok_iff.mp ha).1 c h
    · obtain ⟨y, h1, rfl⟩ := List.mem_map.mp hp
      exact (sok_iff.mp (hy y h1)).1 c h
  · have := joinL_len (S := tl a) (ps := ys.map tl)
    rw [tl_len, List.length_map] at this
    exact Nat.le_trans this hz
section
variable {X : Cx} {W : WX} {o e : Expr} {ta tb : AT} {apos pos : Pos}
theorem d_join (ho : PD X W o ta) (he : PD X W e tb) (hs : starEach [e] X.env = [(false, eval e X.env)] := by rfl) (hbase : attributeBase o "join" X.env (eval o X.env) = eval o X.env := by rfl) (hline : (apos.endLine == pos.line) = true := by rfl) :
    PD X W (.Call (.Attribute o "join" apos) [e] [] pos) (aM1 oJoin ta tb) := imE (pe_join ho he hs hbase hline) fun σ H Q q => by
  obtain ⟨XR, δ, r, P, ok, h, k⟩ := q
  refine td_bind ok h fun d1 r1 v1 H1 h1 o1 k1 i1 => ?_
  cases i1 <;> try exact h1.elim
  rename_i z hz
  refine ⟨⟨z, rfl⟩, td_bind o1 h1 fun d2 r2 v2 H2 h2 o2 k2 i2 => ?_⟩
  obtain ⟨h2⟩ := h2
  cases i2 <;> try exact h2.elim
  · rename_i n hl al
    simp only [oJoinP] at h2
    split at h2
    · rename_i ys hys
      obtain ⟨e1, e2⟩ := strL_all al hys
      subst e1
      exact ⟨z, _, ys, rfl, rfl, .inl (SqL.of hl), Nat.le_trans h2.1 (by decide), k _ r2 _ H2 h2.2 o2 (k1.trans k2) (.str (sok_join hz e2 h2.1))⟩
    · exact h2.elim
  · rename_i hl al
    simp only [oJoinP] at h2
    split at h2
    · rename_i ys hys
      obtain ⟨e1, e2⟩ := strL_all al hys
      subst e1
      exact ⟨z, _, ys, rfl, rfl, .inr hl, Nat.le_trans h2.1 (by decide), k _ r2 _ H2 h2.2 o2 (k1.trans k2) (.str (sok_join hz e2 h2.1))⟩
    · exact h2.elim
end
def isLet (c : Nat) : Bool := decide (97 ≤ c) && decide (c ≤ 122)
/-- 1 to 8 letters a to z -/
def isNm (z : Str) : Bool := decide (1 ≤ z.length) && decide (z.length ≤ 8) && (tl z).all isLet
/-- a word is drawn -/
def spWord : SpX := fun ds r P _ => ∃ p a N X, ds = [.adr p] ∧ r = poolA p a N :: X ∧ N < 100000000000 ∧ ∀ z, isNm z = true → P (.str z) (poolA p a (N + 9) :: X)
/-- the pool is made of a script -/
def spPool (K : PySem.W.Frag) : Sp := fun vs H Q _ => ∃ (s : Addr) (ns : List Int), vs = [.ref s] ∧ SqL K H s (ns.map V.int) ∧ ns.length ≤ 63 ∧ ∀ p a H', Rok K [poolA p a 0] H' → Q (.ref p) H'
/-- a law: a list of at most 63 ints is handed in, True comes out -/
def spLaw (K : PySem.W.Frag) : Sp := fun vs H Q _ => ∃ (a : Addr) (ns : List Int), vs = [.ref a] ∧ SqL K H a (ns.map V.int) ∧ ns.length ≤ 63 ∧ ∀ H', Q (.bl true) H'
end G
namespace G
open PySem PySem.Spec L2
theorem ix_s {z : Str} {i : Int} {c : Nat} {k : D → Prop} (h : atI (tl z) i = some c) (q : k (.str ⟨#[c]⟩)) : oIx (.str z) (.int i) k := by
  refine ⟨?_⟩
  show (match atI (tl z) i with | some c => k (.str ⟨#[c]⟩) | none => False)
  rw [h]
  exact q
theorem ix_l {z : List D} {i : Int} {c : D} {k : D → Prop} (h : atI z i = some c) (q : k c) : oIx (.lst z) (.int i) k := by
  refine ⟨?_⟩
  show (match atI z i with | some c => k c | none => False)
  rw [h]
  exact q
theorem ix_t {z : List D} {i : Int} {c : D} {k : D → Prop} (h : atI z i = some c) (q : k c) : oIx (.tup z) (.int i) k := by
  refine ⟨?_⟩
  show (match atI z i with | some c => k c | none => False)
  rw [h]
  exact q
theorem join_l {a : Str} {ds : List D} {ys : List Str} {k : D → Prop} (h : strL ds = some ys) (hz : (ys.map (·.length)).sum + ys.length * a.length ≤ 1000000) (q : k (.str (tJoin a ys))) : oJoin (.str a) (.lst ds) k := by
  refine ⟨?_⟩
  show (match strL ds with | some ys => (ys.map (·.length)).sum + ys.length * a.length ≤ 1000000 ∧ k (.str (tJoin a ys)) | none => False)
  rw [h]
  exact ⟨hz, q⟩
def sg (c : Nat) : Str := ⟨#[c]⟩
theorem joinL_sg : ∀ cs : List Nat, TL.joinL [] (cs.map fun c => [c]) = cs
  | [] => rfl
  | [c] => rfl
  | c :: d :: r => by
    have ih := joinL_sg (d :: r)
    show [c] ++ ([] ++ TL.joinL [] ((d :: r).map fun c => [c])) = _
    rw [ih]
    rfl
theorem tl_signs (cs : List Nat) : tl (tJoin ⟨#[]⟩ (cs.map sg)) = cs := by
  rw [tl_tJoin, List.map_map]
  exact joinL_sg cs
theorem len_tl (z : Str) : z.length = (tl z).length := by unfold Str.length tl; simp
theorem sum_ones : ∀ cs : List Nat, ((cs.map sg).map (·.length)).sum = cs.length
  | [] => rfl
  | c :: cs => by
    rw [List.map_cons, List.map_cons, List.sum_cons, sum_ones cs, List.length_cons]
    show 1 + cs.length = _
    omega
theorem nm_signs {cs : List Nat} (h1 : 1 ≤ cs.length) (h8 : cs.length ≤ 8) (h : ∀ c ∈ cs, isLet c = true) : isNm (tJoin ⟨#[]⟩ (cs.map sg)) = true := by
  unfold isNm
  rw [len_tl, tl_signs]
  simp only [Bool.and_eq_true, decide_eq_true_eq, List.all_eq_true]
  exact ⟨⟨h1, h8⟩, h⟩
theorem strL_sg (cs : List Nat) : strL (cs.map fun c => D.str (sg c)) = some (cs.map sg) := by
  have h := strL_map (cs.map sg)
  rw [List.map_map] at h
  exact h
def abc : Str := "abcdefghijklmnopqrstuvwxyz"
theorem abc_all : ((List.range 26).all fun n => match atI (tl abc) ((n : Nat) : Int) with | some c => isLet c | none => false) = true := by decide +kernel
theorem abc_at {k : Int} (h0 : 0 ≤ k) (h1 : k < 26) : ∃ c, atI (tl abc) k = some c ∧ isLet c = true := by
  have h := List.all_eq_true.mp abc_all k.toNat (List.mem_range.mpr (by omega))
  rw [Int.toNat_of_nonneg h0] at h
  cases e : atI (tl abc) k with
  | none => rw [e] at h; cases h
  | some c => rw [e] at h; exact ⟨c, rfl, h⟩
mutual
/-- no address in it, nothing long -/
def plain : D → Bool
  | .adr _ => false | .ins _ _ _ => false | .dct _ _ => false | .lst ds => decide (ds.length ≤ 1000000) && plains ds | .tup ds => decide (ds.length ≤ 1000000) && plains ds | _ => true
def plains : List D → Bool
  | [] => true
  | d :: ds => plain d && plains ds
end
mutual
/-- the same, True no 1 -/
def same : D → D → Bool
  | .non, .non => true
  | .bl a, .bl b => a == b
  | .int a, .int b => a == b
  | .str a, .str b => a == b
  | .lst a, .lst b => sames a b
  | .tup a, .tup b => sames a b
  | _, _ => false
def sames : List D → List D → Bool
  | [], [] => true
  | a :: as, b :: bs => same a b && sames as bs
  | _, _ => false
end
mutual
theorem same_refl : ∀ d : D, plain d = true → same d d = true
  | .non, _ => rfl
  | .bl b, _ => by simp [same]
  | .int b, _ => by simp [same]
  | .str b, _ => by simp [same]
  | .adr _, h => by cases h
  | .ins _ _ _, h => by cases h
  | .dct _ _, h => by cases h
  | .lst ds, h => by simp only [same]; exact sames_refl ds (by simp only [plain, Bool.and_eq_true] at h; exact h.2)
  | .tup ds, h => by simp only [same]; exact sames_refl ds (by simp only [plain, Bool.and_eq_true] at h; exact h.2)
theorem sames_refl : ∀ ds : List D, plains ds = true → sames ds ds = true
  | [], _ => rfl
  | d :: ds, h => by
    simp only [plains, Bool.and_eq_true] at h
    simp only [sames, same_refl d h.1, sames_refl ds h.2]
    rfl
end
theorem plain_tup {ds : List D} (h : plain (.tup ds) = true) : ds.length ≤ 1000000 ∧ plains ds = true := by
  simp only [plain, Bool.and_eq_true, decide_eq_true_eq] at h
  exact h
theorem plain_lst {ds : List D} (h : plain (.lst ds) = true) : ds.length ≤ 1000000 ∧ plains ds = true := by
  simp only [plain, Bool.and_eq_true, decide_eq_true_eq] at h
  exact h
theorem plain_of_tup {ds : List D} (h : ds.length ≤ 1000000) (g : plains ds = true) : plain (.tup ds) = true := by
  simp only [plain, Bool.and_eq_true, decide_eq_true_eq]
  exact ⟨h, g⟩
theorem plain_of_lst {ds : List D} (h : ds.length ≤ 1000000) (g : plains ds = true) : plain (.lst ds) = true := by
  simp only [plain, Bool.and_eq_true, decide_eq_true_eq]
  exact ⟨h, g⟩
theorem plains_of : ∀ {ds : List D}, (∀ d ∈ ds, plain d = true) → plains ds = true
  | [], _ => rfl
  | a :: as, h => by
    simp only [plains, Bool.and_eq_true]
    exact ⟨h a List.mem_cons_self, plains_of fun d m => h d (List.mem_cons_of_mem _ m)⟩
theorem sames_len : ∀ {a b : List D}, sames a b = true → a.length = b.length
  | [], [], _ => rfl
  | _ :: _, _ :: _, h => by
    simp only [sames, Bool.and_eq_true] at h
    rw [List.length_cons, List.length_cons, sames_len h.2]
  | [], _ :: _, h => by simp [sames] at h
  | _ :: _, [], h => by simp [sames] at h
theorem eqD_int (a b : Int) : eqD (.int a) (.int b) = (a == b) := rfl
theorem eqD_str (a b : Str) : eqD (.str a) (.str b) = (a == b) := rfl
theorem ne_len {m n : Nat} (h : m ≠ n) : (!eqD (.int m) (.int n)) = true := by
  rw [eqD_int]
  simp
  omega
theorem eq_len {m n : Nat} (h : m = n) : (!eqD (.int m) (.int n)) = false := by
  rw [eqD_int, h]
  simp
theorem sames_at : ∀ {xs ys : List D} {j : Nat} {x y : D}, sames xs ys = true → xs[j]? = some x → ys[j]? = some y → same x y = true
  | [], _, j, x, y, _, e, _ => by simp at e
  | _ :: _, [], j, x, y, h, _, _ => by simp [sames] at h
  | a :: as, b :: bs, 0, x, y, h, e, f => by
    simp only [sames, Bool.and_eq_true] at h
    simp at e f
    rw [← e, ← f]
    exact h.1
  | a :: as, b :: bs, j + 1, x, y, h, e, f => by
    simp only [sames, Bool.and_eq_true] at h
    exact sames_at (j := j) h.2 (by simpa using e) (by simpa using f)
theorem sames_of : ∀ {xs ys : List D}, xs.length = ys.length → (∀ (j : Nat) (x y : D), xs[j]? = some x → ys[j]? = some y → same x y = true) → sames xs ys = true
  | [], [], _, _ => rfl
  | [], _ :: _, h, _ => by cases h
  | _ :: _, [], h, _ => by cases h
  | a :: as, b :: bs, h, f => by
    simp only [sames, Bool.and_eq_true]
    exact ⟨f 0 a b rfl rfl, sames_of (by simpa using h) fun j x y e g => f (j + 1) x y (by simpa using e) (by simpa using g)⟩
theorem plains_at : ∀ {xs : List D} {j : Nat} {x : D}, plains xs = true → xs[j]? = some x → plain x = true
  | [], j, x, _, e => by simp at e
  | a :: as, 0, x, h, e => by
    simp only [plains, Bool.and_eq_true] at h
    simp at e
    rw [← e]
    exact h.1
  | a :: as, j + 1, x, h, e => by
    simp only [plains, Bool.and_eq_true] at h
    exact plains_at (j := j) h.2 (by simpa using e)
theorem deps_at : ∀ {xs : List D} {j : Nat} {x : D}, xs[j]? = some x → dep x ≤ deps xs
  | [], j, x, e => by simp at e
  | a :: as, 0, x, e => by
    simp at e
    rw [← e]
    simp only [deps]
    omega
  | a :: as, j + 1, x, e => by
    have := deps_at (xs := as) (j := j) (x := x) (by simpa using e)
    simp only [deps]
    omega
/-- the loop of _law_same -/
theorem same_sides {xs ys : List D} {j : Nat} {y : D} (hl : xs.length = ys.length) (e : ys[j]? = some y) : ∃ x, xs[j]? = some x := by
  have := (List.getElem?_eq_some_iff.mp e).1
  exact ⟨xs[j]'(by omega), by simp⟩
/-- _law_same: two data, depth below n -/
def spSame (n : Nat) : SpX := fun ds r P _ => ∃ a b, ds = [a, b] ∧ plain a = true ∧ plain b = true ∧ dep a ≤ 64 ∧ dep b < n ∧ P (.bl (same a b)) r
end G
namespace G
open PySem PySem.Spec L2
open PyProof.Rows (envOfC)
theorem law_go {K : PySem.W.Frag} {W : WX} {t : AS} {N : List Str} {Dd : Ends} {s p a : Addr} {H' : Hp} (ro : Rok K [poolA p a 0] H') (hD : ∀ H', Dd.rt (.bl true) H')
    (h : t { nx := fun _ _ => False, rt := fun d _ => d = .bl true } (none :: some (.adr p) :: List.replicate (N.length - 2) none) [poolA p a 0]) (hN : 2 ≤ N.length := by decide) : TSD K W t Dd ((L2.start N [.ref s]).set 1 (some (.ref p))) H' := by
  refine ⟨_, _, { nx := fun _ _ => False, rt := fun d _ => d = .bl true }, ⟨⟨fun i d e => ?_, ro, ?_⟩, fun _ _ _ _ _ _ _ _ z => z.elim⟩, h, ⟨fun _ _ _ _ z => z.elim, fun d r' v H2 e _ _ i => ?_, fun _ _ _ _ z => z.elim, fun _ _ _ _ z => z.elim⟩⟩
  · match i with
    | 0 => cases e
    | 1 =>
      cases e
      refine ⟨.ref p, ?_, .adr p⟩
      rw [List.getElem?_set_self]
      unfold L2.start
      simp
      omega
    | i + 2 =>
      have e : (List.replicate (N.length - 2) (none : Option D))[i]? = some (some d) := e
      rw [List.getElem?_replicate] at e
      split at e <;> cases e
  · unfold L2.start
    simp
    omega
  · subst e
    cases i
    exact hD _
theorem dfn_mk {K : PySem.W.Frag} {h : Heap} {mg : Str → Option Value} (X : K.In h) (G : h.Ns mainGlobals mg) {x : Str} {st : Stmt} {ps : List Str} {f : Addr} {oc : Value} {od an : Option Addr} {osl : Array (Option Value)} {kV doc pm cdv ct : Value}
    (a : PySem.W.nsIn K mainGlobals x = some (some (.ref f))) (l : K.lookup f = some ⟨oc, od, .func (PySem.W.fnOf x x (defArgs st) (defBody st) (defScope st) .none kV doc pm an cdv ct), osl⟩) (c : PySem.W.codeIn K cdv x = true) (k : PySem.W.keepIn K (.ref f) = true)
    (b : ∀ (kV doc pm : Value) (an : Option Addr) (cdv ct : Value) (us : List Value), us.length = ps.length → bindArgs (PySem.W.fnOf x x (defArgs st) (defBody st) (defScope st) .none kV doc pm an cdv ct) ⟨us, []⟩ = pure (ps.zip us)) : Dfn K mg x st ps :=
  have F := fun_mk (st := st) l c k
  ⟨f, _, F, PySem.W.mg_of X G a, F.binds b⟩
theorem law_end {P : Program} {w : World} {K : PySem.W.Frag} {h : Heap} {mg : Str → Option Value} (X : K.In h) (G : h.Ns mainGlobals mg) {fa f : Addr} {st : Stmt} {n : Nat} (hfa : mg "law" = some (.ref fa)) {oc : Value} {od an : Option Addr} {osl : Array (Option Value)} {kV doc pm cdv ct : Value}
    (a : PySem.W.nsIn K mainGlobals "law" = some (some (.ref f))) (l : K.lookup f = some ⟨oc, od, .func (PySem.W.fnOf "law" "law" (defArgs st) (defBody st) (defScope st) .none kV doc pm an cdv ct), osl⟩) (c : PySem.W.codeIn K cdv "law" = true) (k : PySem.W.keepIn K (.ref f) = true)
    (b : ∀ v : Value, bindArgs (PySem.W.fnOf "law" "law" (defArgs st) (defBody st) (defScope st) .none kV doc pm an cdv ct) ⟨[v], []⟩ = pure [(("_law_script" : Str), v)])
    (ok : ∀ (base : Heap) (fd : FuncData), Fun K "law" "law" st f fd → FnOk P w K mg base CX0 n f fd ["_law_script"] (spLaw K)) :
    ∃ fd : FuncData, (∀ (s : Shared) (v : Value), BindsTo s fd ⟨[v], []⟩ [("_law_script", v)]) ∧ ∀ base : Heap, K.In base → base.Ns mainGlobals mg → FnOk P w K mg base CX0 n fa fd ["_law_script"] (spLaw K) := by
  have e := hfa.symm.trans (PySem.W.mg_of X G a)
  cases e
  exact ⟨_, fun s v => .of_eq (b v), fun base _ _ => ok base _ (fun_mk (st := st) l c k)⟩
theorem at0 {α : Type} {z : α} {l : List α} : atI (z :: l) 0 = some z := L2.atI_nat (j := 0) rfl
theorem at1 {α : Type} {z y : α} {l : List α} : atI (z :: y :: l) 1 = some y := L2.atI_nat (j := 1) rfl
theorem at2 {α : Type} {z y x : α} {l : List α} : atI (z :: y :: x :: l) 2 = some x := L2.atI_nat (j := 2) rfl
theorem sl_l {xs : List D} {lo hi : Option Int} {k : D → Prop} (h : k (.lst (cutD xs lo hi))) : oSl (.lst xs) lo hi k := ⟨h⟩
theorem sl_s {z : Str} {lo hi : Option Int} {k : D → Prop} (h : k (.str (cutS z lo hi))) : oSl (.str z) lo hi k := ⟨h⟩
theorem eqv_str (a : Str) : PyData.eqv (.str a) (.str a) = true := by
  show (a == a) = true
  simp
end G
namespace G
open PySem PySem.Spec L2
open PyProof.Rows (envOfC)
structure PMt (X : Cx) (p : Pattern) (f : Str → Bool) : Prop where
  run : ∀ (pins : List (Addr × Obj)) (s : Shared) (σ : L2.St) (H : Hp) (z : Str) (t : Tok) (Q : Option (List (Str × Value)) → Shared → Prop), Inv X pins σ H s → sok z →
    (∀ s', Inv X pins σ H s' → Q (cond (f z) (some []) none) s') → wpAny (model X.prog X.w) X.A (matchPattern p X.env (.str z t)) Q X.xe s
section
variable {X : Cx} {W : WX}
theorem pm_v {c : Str} {j : Nat} {p1 pos : Pos} (hu : X.A.units + 64 < cLine) (h : sokB c = true := by decide +kernel) : PMt X (.MatchValue (.Constant (.str c) j p1) pos) (fun z => z == c) := by
  refine ⟨fun pins s σ H z t Q I hz k => wpAny_matchPattern_Value ?_⟩
  refine thn ((pe_str (X := X) (x := c) (j := j) (pos := p1)).run pins s σ H (fun v H' => v = .str c ∧ H' = H) I ⟨rfl, rfl⟩) fun x s1 ⟨v, H1, I1, r1, e1, e2⟩ => ?_
  subst e1
  subst e2
  have i1 : Is X.K (fun _ => False) H1 (.str z) (.str z) := .str hz
  have i2 : Is X.K (fun _ => False) H1 (.str c) (.str c) := .str (sok_of h)
  obtain ⟨a1, b1⟩ := shaped_py i1 (Nat.zero_le _)
  obtain ⟨a2, b2⟩ := shaped_py i2 (Nat.zero_le _)
  refine thn (op_eqD hu pins s1 σ H1 (.str z) (.str c) (.str z t) x (fun v H' => v = .bl (z == c) ∧ H' = H1) I1 ⟨t, rfl⟩ r1 ⟨_, _, a1, a2, b1, b2, rfl, rfl⟩) fun cc s2 ⟨v, H2, I2, r2, e1, e2⟩ => ?_
  subst e1
  subst e2
  cases r2
  refine wpAny_truthy_bool ?_
  have := k s2 I2
  cases q : (z == c) <;> rw [q] at this <;> exact this
theorem pm_any {pos : Pos} : PMt X (.MatchAs none none pos) (fun _ => true) := ⟨fun pins s σ H z t Q I hz k => wpAny_matchPattern_Capture (k s I)⟩
/-- the cases at a text -/
def PCs (X : Cx) (W : WX) (cs : List MatchCase) (t : Str → AS) : Prop := ∀ (first : Bool) (pins : List (Addr × Obj)) (s : Shared) (σ : L2.St) (H : Hp) (D : Ends) (z : Str) (tk : Tok), Inv X pins σ H s → sok z → TSD X.K W (t z) D σ H →
  wpAny (model X.prog X.w) X.A (matchCases cs X.env (.str z tk) first) (SP X pins D) X.xe s
def sMc (f : Str → Bool) (u : AS) (v : Str → AS) : Str → AS := fun z A δ r => (f z = true → u A δ r) ∧ (f z = false → v z A δ r)
theorem pc_nil : PCs X W [] (fun _ => sNext) := fun first pins s σ H D z tk I hz ⟨δ, r, A, o, h, f⟩ => wpAny_matchCases_nil ⟨σ, H, I, f.nx _ _ _ _ h o Kp.refl⟩
theorem pc_cons {p : Pattern} {body : List Stmt} {cs : List MatchCase} {f : Str → Bool} {u : AS} {v : Str → AS} (h : PMt X p f) (hb : PBD X W body u) (hc : PCs X W cs v) : PCs X W (⟨p, none, body⟩ :: cs) (sMc f u v) :=
  fun first pins s σ H D z tk I hz ⟨δ, r, A, o, q, fi⟩ => wpAny_matchCases_cons (h.run pins s σ H z tk _ I hz fun s1 I1 => by
    cases e : f z with
    | true => exact wpAny_assignInOrder_none (hb.run pins s1 σ H D I1 ⟨δ, r, A, o, q.1 e, fi⟩)
    | false => exact hc false pins s1 σ H D z tk I1 hz ⟨δ, r, A, o, q.2 e, fi⟩)
def sMatch (te : AT) (t : Str → AS) : AS := fun A δ r => te A.xr δ r fun d r1 => match d with | .str z => t z A δ r1 | _ => False
theorem s_match {e : Expr} {cs : List MatchCase} {pos : Pos} {te : AT} {t : Str → AS} (he : PD X W e te) (hc : PCs X W cs t) : PSD X W (.Match e cs pos) (sMatch te t) := by
  refine ⟨fun pins s σ H D I ⟨δ, r, A, o, h, f⟩ => wpAny_Match ?_⟩
  refine thn (he.run pins s σ H (fun v H1 => ∃ z, v = .str z ∧ sok z ∧ TSD X.K W (t z) D σ H1) I (td_bind o h fun d r1 v H1 h1 o1 k1 i1 => ?_)) fun u s1 ⟨v, H1, I1, r1, z, e1, hz, q⟩ => ?_
  · cases i1 <;> try exact h1.elim
    rename_i z hz
    exact ⟨z, rfl, hz, δ, r1, A, o1, h1, f.step k1⟩
  · subst e1
    obtain ⟨tk, rfl⟩ := r1
    exact hc true pins s1 σ H1 D z tk I1 hz q
variable {dk : Addr} {tbl : List (Str × D)}
end
end G
namespace G
open PySem PySem.Spec L2
def GS (mg : Str → Option Value) (x z : Str) : Prop := ∃ t, mg x = some (.str z t)
def GI (mg : Str → Option Value) (x : Str) (n : Int) : Prop := ∃ t, mg x = some (.int n t)
section
variable {X : Cx} {W : WX} {x : Str} {pos : Pos}
theorem d_gS {z : Str} (h : GS X.mg x z) (hz : sokB z = true := by decide +kernel) (hg : Gl X x := by rfl) (hdb : (x == ("__debug__" : Str)) = false := by decide) : PD X W (.Name x pos) (aC (.str z)) := by
  obtain ⟨t, h⟩ := h
  exact d_glob (v := .str z) hg h ⟨t, rfl⟩ (fun _ _ => .str (sok_of hz)) hdb
theorem d_gI {n : Int} (h : GI X.mg x n) (hg : Gl X x := by rfl) (hdb : (x == ("__debug__" : Str)) = false := by decide) : PD X W (.Name x pos) (aC (.int n)) := by
  obtain ⟨t, h⟩ := h
  exact d_glob (v := .int n) hg h ⟨t, rfl⟩ (fun _ _ => .int n) hdb
end
/-- the texts of a written tuple -/
def strVs : List Value → Option (List Str)
  | [] => some []
  | .str x _ :: r => (strVs r).map (x :: ·)
  | _ :: _ => none
theorem strVs_vals : ∀ {l : List Value} {xs : List Str}, strVs l = some xs → Vals (xs.map V.str) l
  | [], _, e => by cases e; exact .nil
  | .str x t :: r, xs, e => by
    simp only [strVs] at e
    cases q : strVs r with
    | none => rw [q] at e; cases e
    | some ys =>
      rw [q] at e
      cases e
      exact .cons ⟨t, rfl⟩ (strVs_vals q)
theorem all_strs {K : PySem.W.Frag} {M : Addr → Prop} {H : Hp} : ∀ {xs : List Str}, xs.all sokB = true → IsAll K M H (xs.map V.str) (xs.map D.str)
  | [], _ => .nil
  | x :: xs, h => by
    rw [List.all_cons, Bool.and_eq_true] at h
    exact .cons (.str (sok_of h.1)) (all_strs h.2)
theorem isK_tup {K : PySem.W.Frag} {a : Addr} {od : Option Addr} {its : Array Value} {n : Nat} {sl : Array (Option Value)} {xs : List Str} (hl : K.lookup a = some ⟨.type "tuple", od, .seq its n, sl⟩) (h : strVs its.toList = some xs) (hs : xs.all sokB = true) (hn : xs.length ≤ 1000000) (M : Addr → Prop) (H : Hp) : Is K M H (.ref a) (.tup (xs.map .str)) := by
  have v := strVs_vals h
  refine .tup (xs := xs.map V.str) (.inr ⟨_, its, n, hl, rfl, rfl, ?_, v⟩) (all_strs hs)
  have e := v.length
  rw [List.length_map] at e
  have e2 : its.size = xs.length := by rw [← Array.length_toList]; exact e.symm
  rw [e2, sizeLine_eq]
  omega
theorem u65 {k : Nat} {A : Around} (r : Room k A) : A.units + 65 < cLine := by have := r.un; omega
theorem memD_str (z : Str) (xs : List Str) : memD (.str z) (xs.map .str) = xs.any fun y => y == z := by
  unfold memD
  rw [List.any_map]
  congr 1
theorem flat_strs (xs : List Str) : (xs.map D.str).all flat = true := by
  rw [List.all_map, List.all_eq_true]
  exact fun _ _ => rfl
theorem oIn_t {z : Str} {xs : List Str} {k : D → Prop} (h : k (.bl (xs.any fun y => y == z))) : oIn false (.str z) (.tup (xs.map .str)) k := ⟨⟨rfl, flat_strs xs, by rw [cond_false, memD_str]; exact h⟩⟩
theorem oNi_t {z : Str} {xs : List Str} {k : D → Prop} (h : k (.bl (!(xs.any fun y => y == z)))) : oIn true (.str z) (.tup (xs.map .str)) k := ⟨⟨rfl, flat_strs xs, by rw [cond_true, memD_str]; exact h⟩⟩
theorem oAll_of {f : List Bool → Bool} {xs : List D} {bs : List Bool} {k : D → Prop} (h : bls xs = some bs) (q : k (.bl (f bs))) : oAll f [.lst xs] k := by
  refine ⟨?_⟩
  show (match bls xs with | some bs => k (.bl (f bs)) | none => False)
  rw [h]
  exact q
theorem bls_of {α : Type} (f : α → Bool) (xs : List α) : bls (xs.map fun x => D.bl (f x)) = some (xs.map f) := by
  have := bls_map (xs.map f)
  rw [List.map_map] at this
  exact this
theorem abc_in : ((List.range 123).all fun c => isLet c == decide (c ∈ tl abc)) = true := by decide +kernel
theorem abc_max : ((tl abc).all fun c => decide (c < 123)) = true := by decide +kernel
theorem isLet_abc (c : Nat) : decide (c ∈ tl abc) = isLet c := by
  by_cases h : c < 123
  · exact (eq_of_beq (List.all_eq_true.mp abc_in c (List.mem_range.mpr h))).symm
  · have h1 : c ∉ tl abc := fun m => h (of_decide_eq_true (List.all_eq_true.mp abc_max c m))
    rw [decide_eq_false h1]
    unfold isLet
    have : ¬ c ≤ 122 := by omega
    simp [this]
def isNameD : D → Bool | .str z => isNm z | _ => false
def spIsName : SpX := fun ds r P _ => ∃ d, ds = [d] ∧ plain d = true ∧ P (.bl (isNameD d)) r
end G
namespace G
open PySem PySem.Spec L2
open PyProof.Rows (envOfC)
def Own (r : Rs) (l : Addr) (ds : List D) : Prop := ∃ pre post, r = pre ++ lstA l ds :: post
theorem Own.hd {r : Rs} {l : Addr} {ds : List D} : Own (lstA l ds :: r) l ds := ⟨[], r, rfl⟩
section
variable {K : PySem.W.Frag} {r pre post : Rs} {H : Hp} {l p : Addr} {ds es : List D} {vs ws : List V}
theorem mem_mid {x y : At} (h : x.M = y.M) : mem (pre ++ x :: post) = mem (pre ++ y :: post) := by
  funext a
  refine propext ((mem_append (r := pre) (r' := x :: post)).trans (Iff.trans ?_ (mem_append (r := pre) (r' := y :: post)).symm))
  show (mem pre a ∨ (x.M a ∨ mem post a)) ↔ (mem pre a ∨ (y.M a ∨ mem post a))
  rw [h]
theorem own_mid (h : Rok K (pre ++ lstA l ds :: post) H) : ∃ vs, H l = some (.lst vs) ∧ IsAll K (mem (pre ++ lstA l ds :: post)) H vs ds := by
  obtain ⟨_, ⟨h2, _⟩, _⟩ := hold_append.mp h
  exact h2
theorem own_get (h : Rok K r H) (o : Own r l ds) : ∃ vs, H l = some (.lst vs) ∧ IsAll K (mem r) H vs ds := by
  obtain ⟨pre, post, rfl⟩ := o
  exact own_mid h
theorem own_mem : mem (pre ++ lstA l ds :: post) l := mem_append.mpr (.inr (.inl rfl))
theorem own_put (h : Rok K (pre ++ lstA l ds :: post) H) (i : IsAll K (mem (pre ++ lstA l ds :: post)) H ws es) : Rok K (pre ++ lstA l es :: post) (upd H l (.lst ws)) ∧ Kp K (pre ++ lstA l ds :: post) H (pre ++ lstA l es :: post) (upd H l (.lst ws)) := by
  obtain ⟨vs, e1, _⟩ := own_mid h
  obtain ⟨h1, ⟨h2, h3, h4⟩, h5⟩ := hold_append.mp h
  have me : mem (pre ++ lstA l ds :: post) = mem (pre ++ lstA l es :: post) := mem_mid rfl
  have go : ∀ w e, Is K (mem (pre ++ lstA l ds :: post)) H w e → Is K (mem (pre ++ lstA l ds :: post)) (upd H l (.lst ws)) w e := fun w e q => is_other own_mem e1 q
  refine ⟨hold_append.mpr ⟨?_, ⟨⟨ws, upd_same, ?_⟩, h3, ?_⟩, h5⟩, fun w e q => me ▸ go w e q⟩
  · rw [← me]
    exact hold_loc (fun b o m q => by rw [upd_ne (fun e => h5 b m (.inl e))]; exact q) go h1
  · rw [← me]
    exact all_of go i
  · rw [← me]
    exact hold_loc (fun b o m q => by rw [upd_ne (fun e => h3 b e m)]; exact q) go h4
theorem own_drop (h : Rok K (pre ++ lstA l ds :: post) H) : Rok K (pre ++ post) H ∧ Is K (mem (pre ++ post)) H (.ref l) (.lst ds) ∧ Kp K (pre ++ lstA l ds :: post) H (pre ++ post) H := by
  obtain ⟨h1, ⟨h2, h3, h4⟩, h5⟩ := hold_append.mp h
  have an : ∀ a, mem (pre ++ post) a → mem (pre ++ lstA l ds :: post) a := fun a z => (mem_append.mp z).elim (fun z => mem_append.mpr (.inl z)) fun z => mem_append.mpr (.inr (.inr z))
  obtain ⟨vs, e1, e2⟩ := h2
  refine ⟨hold_append.mpr ⟨hold_anti an h1, hold_anti an h4, fun a m z => h5 a m (.inr z)⟩, .lst (fun z => ?_) e1 (all_of (fun _ _ => is_anti an) e2), fun _ _ => is_anti an⟩
  rcases mem_append.mp z with z | z
  · exact h5 l z (.inl rfl)
  · exact h3 l rfl z
theorem rok_new (h : Rok K r H) (hp : H p = none) (i : IsAll K (mem r) H vs ds) : Rok K (r ++ [lstA p ds]) (upd H p (.lst vs)) ∧ Kp K r H (r ++ [lstA p ds]) (upd H p (.lst vs)) := by
  have e : ∀ a, mem (r ++ [lstA p ds]) a → mem r a ∨ a = p := fun a z => (mem_append.mp z).elim .inl fun z => z.elim .inr False.elim
  have go : Kp K r H (r ++ [lstA p ds]) (upd H p (.lst vs)) := fun v d q => is_anti e (is_ext (Ext.new hp) _ _ (is_grow hp q))
  refine ⟨hold_append.mpr ⟨hold_anti e (hold_ext (Ext.new hp) (hold_grow hp h)), ⟨⟨vs, upd_same, all_of go i⟩, fun _ _ z => z, True.intro⟩, fun a m z => ?_⟩, go⟩
  have : a = p := z.elim (fun z => z) False.elim
  subst this
  exact not_al h hp m
end
def aLstO (l : AL) : AT := fun x δ r P => l x δ r fun ds r1 => small ds.length ∧ ∀ p, P (.adr p) (r1 ++ [lstA p ds])
section
variable {X : Cx} {W : WX} {e : Expr} {es : List Expr} {pos : Pos} {l : AL} {te : AT}
theorem d_lstO (ha : PDL X W es l) : PD X W (.List es pos) (aLstO l) := imE (pe_lst ha) fun σ H Q q => by
  obtain ⟨XR, δ, r, P, o, h, k⟩ := q
  refine tdl_bind o h fun ds r1 vs H1 h1 o1 k1 i1 => ⟨by rw [i1.length]; exact h1.1.sz, fun p hp => ?_⟩
  obtain ⟨q1, q2⟩ := rok_new o1.r hp i1
  exact k _ _ _ _ (h1.2 p) (o1.step q2 q1) (k1.trans q2) (.adr p)
def rC2 (K : PySem.W.Frag) (o : Rs → OC) : List V → Hp → VK → Prop := fun vs H Q => ∃ (r : Rs) (ds : List D) (P : D → Prop), Rok K r H ∧ IsAll K (mem r) H vs ds ∧ o r ds P ∧ ∀ d v H', P d → Ext H H' → Is K (mem r) H' v d → Q v H'
def aBlt2 (o : Rs → OC) (l : AL) : AT := fun x δ r P => l x δ r fun ds r1 => o r1 ds fun d => P d r1
theorem tcb2 {K : PySem.W.Frag} {W : WX} {o : Rs → OC} {l : AL} {σ : L2.St} {H : Hp} {Q : VK} (q : TD K W (aBlt2 o l) σ H Q) : tCB (rC2 K o) (TDL K W l) σ H Q := by
  obtain ⟨XR, δ, r, P, ok, h, k⟩ := q
  refine tdl_bind ok h fun ds r1 vs H1 h1 o1 k1 i1 => ⟨r1, ds, fun d => P d r1, o1.r, i1, h1, fun d v H' p e i => k d r1 v H' p (o1.ext e) (k1.trans (Kp.ext e)) i⟩
theorem d_blt2 {bid : String} {o : Rs → OC} {x : Str} {p : Pos} (hc : CallR X (.builtin bid) (rC2 X.K o)) (hg : Gl X x) (hm : X.mg x = none) (ha : PDL X W (e :: es) l) (hv : bootBuiltins x = some (.builtin bid) := by decide +kernel) (hn : x ≠ "__name__" := by decide) (hdb : (x == ("__debug__" : Str)) = false := by decide)
    (he : starEach (e :: es) X.env = (false, eval e X.env) :: starEach es X.env := by rfl) (hpl : (backTo pos (starEach es X.env)).any (·.1) = false := by rfl) : PD X W (.Call (.Name x p) (e :: es) [] pos) (aBlt2 o l) :=
  imE (pe_callB hc hg hm hv ha hn hdb he hpl) fun _ _ _ q => tcb2 q
structure oLenO (r : Rs) (ds : List D) (k : D → Prop) : Prop where
  ex : ∃ l xs, ds = [.adr l] ∧ Own r l xs ∧ (xs.length ≤ sizeLine → k (.int xs.length))
theorem c_lenO : CallR X (.builtin "len") (rC2 X.K oLenO) := by
  rintro pins s σ H vs us Q I rv ⟨r, ds, P, hr, i, ⟨l, xs, rfl, ow, ho⟩, k⟩
  obtain ⟨ws, h1, h2⟩ := own_get hr ow
  cases i with
  | cons i t =>
    cases t
    cases i
    obtain ⟨_, _, _, hz⟩ := I.list (SqL.of h1)
    exact call_len pins s σ H _ us Q I rv ⟨_, _, rfl, .inl ⟨_, SqL.of h1, rfl⟩, by rw [h2.length] at hz ⊢; exact k _ _ H (ho hz) (Ext.refl H) (.int _)⟩
def rD2 (K : PySem.W.Frag) (o : Rs → O2) : R2 := fun x y H Q => ∃ (r : Rs) (d1 d2 : D) (P : D → Prop), Rok K r H ∧ Is K (mem r) H x d1 ∧ Is K (mem r) H y d2 ∧ o r d1 d2 P ∧ ∀ d v H', P d → Ext H H' → Is K (mem r) H' v d → Q v H'
def aOp2 (o : Rs → O2) (ta tb : AT) : AT := fun x δ r P => ta x δ r fun d1 r1 => tb x δ r1 fun d2 r2 => o r2 d1 d2 fun d => P d r2
theorem td_op2 {K : PySem.W.Frag} {W : WX} {o : Rs → O2} {ta tb : AT} {σ : L2.St} {H : Hp} {Q : VK} (q : TD K W (aOp2 o ta tb) σ H Q) : tOp (rD2 K o) (TD K W ta) (TD K W tb) σ H Q := by
  obtain ⟨XR, δ, r, P, ok, h, k⟩ := q
  refine td_bind ok h fun d1 r1 v1 H1 h1 o1 k1 i1 => td_bind o1 h1 fun d2 r2 v2 H2 h2 o2 k2 i2 => ?_
  exact ⟨r2, d1, d2, fun d => P d r2, o2.r, k2 _ _ i1, i2, h2, fun d v H' p e i => k d r2 v H' p (o2.ext e) ((k1.trans k2).trans (Kp.ext e)) i⟩
structure oIxO (r : Rs) (x y : D) (k : D → Prop) : Prop where
  ex : ∃ l xs i d, x = .adr l ∧ y = .int i ∧ Own r l xs ∧ atI xs i = some d ∧ k d
theorem p_ixO : IxR X (rD2 X.K oIxO) := by
  rintro value slice pins s σ H x y v u Q I rx ry ⟨r, d1, d2, P, hr, i1, i2, ⟨l, xs, i, d, rfl, rfl, ow, hd, ho⟩, k⟩ hs
  cases i1
  cases i2
  obtain ⟨ws, h1, h2⟩ := own_get hr ow
  obtain ⟨w, hw, iw⟩ := at_all h2 hd
  exact ix_list value slice pins s σ H _ _ v u Q I rx ry ⟨_, _, _, _, rfl, rfl, SqL.of h1, hw, k _ _ H ho (Ext.refl H) iw⟩ hs
theorem d_ixO {a b : Expr} {ta tb : AT} (ha : PD X W a ta) (hb : PD X W b tb) (hs : PlainIx b := by exact fun _ _ => rfl) : PD X W (.Subscript a b pos) (aOp2 oIxO ta tb) := imE (pe_ix p_ixO ha hb hs) fun _ _ _ q => td_op2 q
abbrev OM := Rs → Addr → List D → (D → Rs → Prop) → Prop
def aMth (om : OM) (to : AT) (l : AL) : AT := fun x δ r P => to x δ r fun d r1 => ∃ a xs, d = .adr a ∧ Own r1 a xs ∧ l x δ r1 fun ds r2 => om r2 a ds P
def OMok (K : PySem.W.Frag) (om : OM) (rr : V → List V → Hp → VK → Prop) : Prop := ∀ r a ds P H vs Q, Rok K r H → IsAll K (mem r) H vs ds → om r a ds P → (∀ d r' v H', P d r' → Rok K r' H' → Kp K r H r' H' → Is K (mem r') H' v d → Q v H') → rr (.ref a) vs H Q
theorem d_mth {om : OM} {rr : V → List V → Hp → VK → Prop} {o : Expr} {to : AT} {name : Str} {id : String} {apos cpos : Pos} (slot : Slot "list" name id) (hty : typeOf (.builtin id) = pure (.type "method_descriptor")) (hm : MtR X id rr) (hom : OMok X.K om rr) (ho : PD X W o to) (ha : PDL X W (e :: es) l)
    (hbase : attributeBase o name X.env (eval o X.env) = eval o X.env := by rfl)
    (hfew : ((backTo cpos (starEach (e :: es) X.env)).all (fun x => !x.1) && (backToKw cpos (keywordEach [] X.env)).all (fun x => x.1.isSome)
      && decide ((e :: es).length + ([] : List Keyword).length + (if ([] : List Keyword).isEmpty then 0 else 1) < 30)) = true := by rfl)
    (hline : (apos.endLine == cpos.line) = true := by rfl) (hs : starEach (e :: es) X.env = (false, eval e X.env) :: starEach es X.env := by rfl) (hplain : (backTo cpos (starEach es X.env)).any (·.1) = false := by rfl) :
    PD X W (.Call (.Attribute o name apos) (e :: es) [] cpos) (aMth om to l) := imE (pe_bm PySem.F.plainAttrs_list slot hty hm ho ha hbase hfew hline hs hplain) fun σ H Q q => by
  obtain ⟨XR, δ, r, P, ok, h, k⟩ := q
  refine td_bind ok h fun d r1 v H1 h1 o1 k1 i1 => ?_
  obtain ⟨a, xs, rfl, ow, h1⟩ := h1
  cases i1
  obtain ⟨ws, g1, g2⟩ := own_get o1.r ow
  refine ⟨.inl ⟨rfl, ws, SqL.of g1⟩, tdl_bind o1 h1 fun ds r2 vs H2 h2 o2 k2 i2 => ?_⟩
  exact hom r2 a ds P H2 vs Q o2.r i2 h2 fun d r' v H' p ro kk i => k d r' v H' p (o2.step kk ro) ((k1.trans k2).trans kk) i
structure oApp (r : Rs) (a : Addr) (ds : List D) (P : D → Rs → Prop) : Prop where
  ex : ∃ pre xs post y, ds = [y] ∧ r = pre ++ lstA a xs :: post ∧ small (xs.length + 1) ∧ P .non (pre ++ lstA a (xs ++ [y]) :: post)
theorem om_app {K : PySem.W.Frag} : OMok K oApp rAppend := by
  rintro r a ds P H vs Q ro i ⟨pre, xs, post, y, rfl, rfl, hz, hp⟩ k
  cases i with
  | cons i t =>
    cases t
    obtain ⟨ws, e1, e2⟩ := own_mid ro
    obtain ⟨q1, q2⟩ := own_put ro (e2.append (.cons i .nil))
    exact ⟨a, ws, _, rfl, rfl, e1, by rw [e2.length]; exact Nat.lt_of_lt_of_le (Nat.lt_succ_self _) hz.sz, k _ _ _ _ hp q1 q2 .non⟩
theorem d_app {o : Expr} {to : AT} {apos cpos : Pos} (ho : PD X W o to) (ha : PDL X W [e] l) (hbase : attributeBase o "append" X.env (eval o X.env) = eval o X.env := by rfl)
    (hfew : ((backTo cpos (starEach [e] X.env)).all (fun x => !x.1) && (backToKw cpos (keywordEach [] X.env)).all (fun x => x.1.isSome)
      && decide (([e] : List Expr).length + ([] : List Keyword).length + (if ([] : List Keyword).isEmpty then 0 else 1) < 30)) = true := by rfl)
    (hline : (apos.endLine == cpos.line) = true := by rfl) (hs : starEach [e] X.env = (false, eval e X.env) :: starEach [] X.env := by rfl) (hplain : (backTo cpos (starEach [] X.env)).any (·.1) = false := by rfl) : PD X W (.Call (.Attribute o "append" apos) [e] [] cpos) (aMth oApp to l) :=
  d_mth PySem.F.slot_list_append PySem.F.type_list_append mt_append om_app ho ha hbase hfew hline hs hplain
theorem set_all {K : PySem.W.Frag} {N : Addr → Prop} {H : Hp} {v : V} {d : D} (i : Is K N H v d) : ∀ {vs : List V} {ds : List D} (n : Nat), IsAll K N H vs ds → IsAll K N H (vs.set n v) (ds.set n d)
  | _, _, _, .nil => .nil
  | _, _, 0, .cons _ t => .cons i t
  | _, _, n + 1, .cons h t => .cons h (set_all i n t)
end
end G
namespace G
open PySem PySem.Spec L2
def gd (n : Nat) : Nat → D → Bool
  | _, .adr _ => false
  | _, .ins _ _ _ => false
  | _, .dct _ _ => false
  | 0, .lst _ => false
  | 0, .tup _ => false
  | m + 1, .lst ds => decide (ds.length ≤ n) && ds.all (gd n m)
  | m + 1, .tup ds => decide (ds.length ≤ n) && ds.all (gd n m)
  | _, _ => true
theorem gd_lst {n m : Nat} {ds : List D} : gd n (m + 1) (.lst ds) = true ↔ ds.length ≤ n ∧ ∀ d ∈ ds, gd n m d = true := by
  simp only [gd, Bool.and_eq_true, decide_eq_true_eq, List.all_eq_true]
theorem gd_tup {n m : Nat} {ds : List D} : gd n (m + 1) (.tup ds) = true ↔ ds.length ≤ n ∧ ∀ d ∈ ds, gd n m d = true := by
  simp only [gd, Bool.and_eq_true, decide_eq_true_eq, List.all_eq_true]
theorem gd_str {n m : Nat} {z : Str} : gd n m (.str z) = true := by cases m <;> rfl
theorem gd_int {n m : Nat} {z : Int} : gd n m (.int z) = true := by cases m <;> rfl
theorem gd_plain {n : Nat} (hn : n ≤ 1000000) : ∀ {m : Nat} {d : D}, gd n m d = true → plain d = true := by
  intro m
  induction m with
  | zero =>
    intro d h
    cases d <;> first | rfl | cases h
  | succ m ih =>
    intro d h
    cases d with
    | lst ds =>
      rw [gd_lst] at h
      exact plain_of_lst (by omega) (plains_of fun d hd => ih (h.2 d hd))
    | tup ds =>
      rw [gd_tup] at h
      exact plain_of_tup (by omega) (plains_of fun d hd => ih (h.2 d hd))
    | adr _ => cases h
    | ins _ _ _ => cases h
    | dct _ _ => cases h
    | _ => rfl
theorem deps_le {k : Nat} : ∀ {ds : List D}, (∀ d ∈ ds, dep d ≤ k) → deps ds ≤ k
  | [], _ => Nat.zero_le _
  | d :: ds, h => by
    simp only [deps]
    have h1 := h d List.mem_cons_self
    have h2 := deps_le (ds := ds) fun d m => h d (List.mem_cons_of_mem _ m)
    omega
theorem gd_dep {n : Nat} : ∀ {m : Nat} {d : D}, gd n m d = true → dep d ≤ m := by
  intro m
  induction m with
  | zero =>
    intro d h
    cases d <;> first | exact Nat.zero_le _ | cases h
  | succ m ih =>
    intro d h
    cases d with
    | lst ds =>
      rw [gd_lst] at h
      have := deps_le fun d hd => ih (h.2 d hd)
      simp only [dep]
      omega
    | tup ds =>
      rw [gd_tup] at h
      have := deps_le fun d hd => ih (h.2 d hd)
      simp only [dep]
      omega
    | adr _ => cases h
    | ins _ _ _ => cases h
    | dct _ _ => cases h
    | _ => exact Nat.zero_le _
theorem isNm_len {z : Str} (h : isNm z = true) : z.length ≤ 8 := by
  unfold isNm at h
  simp only [Bool.and_eq_true, decide_eq_true_eq] at h
  exact h.1.2
theorem len_app (a b : Str) : (a ++ b).length = a.length + b.length := by
  show (a.cps ++ b.cps).size = _
  rw [Array.size_append]
  rfl
theorem pick_at {l : List Str} {k : Int} (h0 : 0 ≤ k) (h1 : k < (l.length : Nat)) : ∃ n w, k = ((n : Nat) : Int) ∧ l[n]? = some w ∧ atI (l.map D.str) k = some (.str w) := by
  obtain ⟨n, rfl⟩ : ∃ n : Nat, k = n := ⟨k.toNat, by omega⟩
  have hn : n < l.length := by omega
  exact ⟨n, l[n], rfl, by simp, L2.atI_nat (by simp)⟩
/-- at a place of a written list of data -/
theorem pick_in {l : List D} {k : Int} (h0 : 0 ≤ k) (h1 : k < (l.length : Nat)) : ∃ d, d ∈ l ∧ atI l k = some d := by
  obtain ⟨n, rfl⟩ : ∃ n : Nat, k = n := ⟨k.toNat, by omega⟩
  have hn : n < l.length := by omega
  exact ⟨l[n], List.getElem_mem _, L2.atI_nat (by simp)⟩
/-- any object, depth left n -/
def objB : Nat → Nat
  | 0 => 60
  | n + 1 => 100 + 4 * objB n
def spObj (n : Nat) : SpX := fun ds r P _ => ∃ p a N X, ∃ dp : Int, ds = [.adr p, .int dp] ∧ r = poolA p a N :: X ∧ 0 ≤ dp ∧ 2 ≤ dp + n ∧ N + 10000 * n < 20000000000 ∧ n ≤ 2 ∧ ∀ d, gd 8 (n + 1) d = true → P d (poolA p a (N + objB n) :: X)
end G
namespace G
open PySem PySem.Spec L2
/-- [e(x) for x in ds if f(x)] -/
theorem lc_fm {x : XT} {g : AG} {te : AT} {tt : AB} {δw : Dl} {ds : List D} {r1 : Rs} {P : PK1} (f : D → Bool) (e : D → D) (hz : small ds.length)
    (he : ∀ d ∈ ds, ∀ (r' : Rs) (Q1 : PK1) (Q2 : Rs → Prop), (f d = true → Q1 (e d) r') → (f d = false → Q2 r') → g d δw fun δ2 => tt x δ2 r' fun b r2 => (b = true → te x δ2 r2 Q1) ∧ (b = false → Q2 r2)) (hP : P (.lst ((ds.filter f).map e)) r1) : aLcK x g tt te δw ds r1 P := by
  refine ⟨fun i acc r' => acc = ((ds.take i).filter f).map e ∧ r' = r1, ⟨rfl, rfl⟩, ?_, ?_⟩
  · rintro p i d acc r' hd ⟨rfl, rfl⟩
    have hi := (List.getElem?_eq_some_iff.mp hd).1
    refine he d (List.mem_of_getElem? hd) _ _ _ (fun q => ⟨?_, r', le.refl, ?_, rfl⟩) (fun q => ⟨r', le.refl, ?_, rfl⟩)
    · rw [List.length_map]
      have h1 := List.length_filter_le f (ds.take i)
      rw [List.length_take] at h1
      have : small ds.length := hz
      unfold small at *
      omega
    · rw [List.take_add_one, hd, List.filter_append, List.map_append]
      show _ = _ ++ List.map e (List.filter f [d])
      rw [List.filter_cons, q]
      rfl
    · rw [List.take_add_one, hd, List.filter_append, List.map_append]
      show _ = _ ++ List.map e (List.filter f [d])
      rw [List.filter_cons, q]
      simp
  · rintro acc r' ⟨rfl, rfl⟩
    rw [List.take_length]
    exact hP
theorem eq_nil (xs : List D) : eqD (.lst xs) (.lst []) = xs.isEmpty := by
  cases xs <;> rfl
theorem filter_none {xs : List D} {f : D → Bool} : (xs.filter fun d => !f d).isEmpty = xs.all f := by
  induction xs with
  | nil => rfl
  | cons x xs ih =>
    rw [List.filter_cons, List.all_cons]
    cases f x with
    | true => exact ih
    | false => rfl
theorem deps_mem {k : Nat} : ∀ {ds : List D} {d : D}, deps ds ≤ k → d ∈ ds → dep d ≤ k
  | [], _, _, m => by cases m
  | a :: as, d, h, m => by
    simp only [deps] at h
    rcases List.mem_cons.mp m with rfl | m
    · omega
    · exact deps_mem (by omega) m
theorem deps_filter {k : Nat} {f : D → Bool} {ds : List D} (h : deps ds ≤ k) : deps (ds.filter f) ≤ k := deps_le fun d m => deps_mem h (List.mem_filter.mp m).1
theorem deps_chars {α : Type} (f : α → Str) (l : List α) : deps (l.map fun c => D.str (f c)) = 0 := by
  have : deps (l.map fun c => D.str (f c)) ≤ 0 := deps_le fun d m => by
    obtain ⟨c, _, rfl⟩ := List.mem_map.mp m
    exact Nat.le_refl _
  omega
end G
namespace G
open PySem PySem.Spec L2
end G
namespace G
open PySem PySem.Spec L2
end G
namespace G
open PySem PySem.Spec L2
end G
namespace G
open PySem PySem.Spec L2
end G
namespace G
open PySem PySem.Spec L2 PySem.W PyProof.Rows
/-- what the written part says of such a class at C: its __init__ at f stores under fld -/
structure ErrK (P : Program) (K : Frag) (mg : Str → Option Value) (C : Addr) : Prop where
  cls : OexC K C
  mro : mroIn K C (.ref C) = some true
  sub : subIn K (.ref C) (.type "ValueError") = some true
  sup : ks_superIn K C C "__init__" = some (some (.builtin "ValueError.__init__"))
  opq : nsIn K cStatics "thirdparty.any" = some none
  mgs : mg "super" = none
  top : (P.main.scope.names.lookup ("super" : Str)).isSome = false
def spEI (C : Addr) (fld : Str) : Sp := fun vs H Q _ => ∃ (a : Addr) (v : V), vs = [.ref a, v] ∧ H a = some (exo a C none) ∧ ∀ dx, H dx = none → dx ≠ a → Q .non (upd (upd H dx (exd dx [(fld, v)])) a (exo a C (some dx)))
def cxE (P : Program) (w : World) (K : Frag) (mg : Str → Option Value) (base : Heap) (N : List Str) (qual : Str) (scope : Scope) (f : Addr) (cda cc : Addr) (A : Around) (outer : List Env) (s : Shared) (H : Hp) (xe : Value → Shared → Prop) : Cx where
  prog := P
  w := w
  K := K
  mg := mg
  base := base
  A := A.deeper (ksEnv qual scope s.heap.objs.size f (.ref cda) cc)
  N := N
  s_0 := s
  H_0 := H
  env := ksEnv qual scope s.heap.objs.size f (.ref cda) cc
  outer := outer
  stack := ksEnv qual scope s.heap.objs.size f (.ref cda) cc :: outer
  ex := []
  calm := true
  fn := fun _ => false
  pn := []
  xe := xe
section
variable {P : Program} {w : World} {K : Frag} {mg : Str → Option Value} {base : Heap}
theorem exinit {C fI cc cda : Addr} {cd0 : ClassData} {prm fld : Str} {qual name : Str} {params : Arguments} {scope : Scope} {dV kV doc pm cdv ct oc ccl cl : Value} {an od cdd cld : Option Addr} {osl ccs csl : Array (Option Value)} {vs0 : Array Value} {file : Str} {tf : Tok}
    {p0 p1 p2 p3 p4 p5 p6 p7 p8 p9 : Pos} {txt : Str} {j : Nat} {jj : _}
    (T : ErrK P K mg C)
    (lk : K.lookup fI = some ⟨oc, od, .func (ksFn name qual params [.Expr (.Call (.Attribute (.Call (.Name "super" p0) [] [] p1) "__init__" p2) [.Constant (.str txt) jj p3] [] p4) p5, .Assign [.Attribute (.Name "self" p6) fld p7] (.Name prm p8) p9] scope dV kV doc pm an (.ref cda) ct cc), osl⟩)
    (hcd : codeIn K (.ref cda) qual = true) (hD : clsIn K C = some cd0) (hno : findIn K (.ref C) fld = some none)
    (hcode : K.lookup cda = some ⟨ccl, cdd, .fields vs0, ccs⟩) (hvs : vs0[2]? = some (.str file tf)) (hfile : ((P.main.file : Str) == file) = true)
    (hcell : K.lookup cc = some ⟨cl, cld, .cell (some (.ref C)), csl⟩)
    (hp : ∃ ar : Arg, (params.posonlyargs ++ params.args).head? = some ar ∧ ar.arg = "self")
    (hnm : scope.names.lookup ("self" : Str) = some .local ∧ scope.names.lookup prm = some .local ∧ scope.names.lookup ("super" : Str) = some .globalImplicit ∧ scope.names.lookup ("__class__" : Str) = some .free)
    (hfree : ∀ x, scope.names.lookup x = some .cell ∨ scope.names.lookup x = some .free → x = "__class__") (hcl : ∀ x ∈ scope.names, x.2 ≠ .cell)
    (hsc : scope.isCoroutine = false ∧ scope.isGenerator = false ∧ scope.kind = .function) (hps : ("self" : Str) ≠ prm) (hcdbg : (prm == ("__debug__" : Str)) = false ∧ (prm == ("__classdict__" : Str)) = false)
    (hin : ∀ L, interactive (ksEnv qual scope L fI (.ref cda) cc) = false)
    (hpl1 : ∀ L, swapsWith (.Call (.Attribute (.Call (.Name "super" p0) [] [] p1) "__init__" p2) [.Constant (.str txt) jj p3] [] p4) none p5.line (ksEnv qual scope L fI (.ref cda) cc) = pure false)
    (hev : ∀ L, ∃ pl : Sem Bool, eval (.Call (.Attribute (.Call (.Name "super" p0) [] [] p1) "__init__" p2) [.Constant (.str txt) jj p3] [] p4) (ksEnv qual scope L fI (.ref cda) cc) = (do
      let ov ← attributeBase (.Call (.Name "super" p0) [] [] p1) "__init__" (ksEnv qual scope L fI (.ref cda) cc) (eval (.Call (.Name "super" p0) [] [] p1) (ksEnv qual scope L fI (.ref cda) cc))
      standAt p2.atName
      let (f, first) ← holding [ov] (getMethod ov "__init__" pl)
      callWith p4 f first (backTo p4 (starEach [.Constant (.str txt) jj p3] (ksEnv qual scope L fI (.ref cda) cc))) []))
    (hpl2 : ∀ L, swapsWith (.Name prm p8) (some (.Attribute (.Name "self" p6) fld p7)) p9.line (ksEnv qual scope L fI (.ref cda) cc) = pure false) :
    FnOk P w K mg base CX0 1 fI (ksFn name qual params [.Expr (.Call (.Attribute (.Call (.Name "super" p0) [] [] p1) "__init__" p2) [.Constant (.str txt) jj p3] [] p4) p5, .Assign [.Attribute (.Name "self" p6) fld p7] (.Name prm p8) p9] scope dV kV doc pm an (.ref cda) ct cc) ["self", prm] (spEI C fld) := by
  refine ⟨fun vs H Q E ⟨a, v, e, _⟩ => by rw [e]; rfl, fun A outer s H args us vs Q E hr e0 hb r hsp => ?_⟩
  obtain ⟨a, v, rfl, hea, hq⟩ := hsp
  obtain ⟨u, rfl, rv⟩ : ∃ u, us = [.ref a, u] ∧ RelV v u := by
    match us, r with
    | [_, u], .cons ra (.cons rv .nil) => exact ⟨u, by rw [show _ = Value.ref a from ra], rv⟩
  have KX : K.In s.heap := e0.mod.kin.keeps fun b o e => (e0.bs b o e).1
  have lim : s.heap.NoLimit := e0.mod.nolimit.keeps fun b o e => (e0.bs b o e).1
  refine ks_codeAny_call_defAt hr.depth (KX _ _ lk) rfl lim (codeRec_of KX hcd) rfl hb hcl (fun x hx => ?_) (fun h₀ hns hk => ?_) hsc.1 hsc.2.1 hsc.2.2
  · simp only [List.zip_cons_cons, List.zip_nil_right, List.mem_cons, List.not_mem_nil, or_false] at hx
    rcases hx with rfl | rfl
    · exact hnm.1
    · exact hnm.2.1
  have kX : K.In h₀ := KX.keeps hk
  have hcc : H cc = none := (e0.bs _ _ (e0.mod.kin _ _ hcell)).2
  have lkc : ∀ {x : Str} {c : Addr}, List.lookup x [(("__class__" : Str), cc)] = some c → x = "__class__" ∧ c = cc := fun {x c} h => by
    by_cases e : x = "__class__"
    · subst e
      simp at h
      exact ⟨rfl, h.symm⟩
    · have e2 : (x == ("__class__" : Str)) = false := by simpa using e
      simp [List.lookup, e2] at h
  have hm1 : ((("self" : Str), Value.ref a) :: (prm, u) :: []).reverse.lookup ("self" : Str) = some (.ref a) := by
    have : (("self" : Str) == prm) = false := by simpa using hps
    simp [List.lookup, this]
  have hm2 : ((("self" : Str), Value.ref a) :: (prm, u) :: []).reverse.lookup prm = some u := by
    simp [List.lookup]
  have hns' : h₀.Ns s.heap.objs.size fun x => ((("self" : Str), Value.ref a) :: (prm, u) :: []).reverse.lookup x := hns
  have I : L2.Inv (cxE P w K mg base ["self", prm] qual scope fI cda cc A outer s H fun _ _ => False) [] [some (.ref a), some v] H { s with heap := h₀, toks := s.toks + 2 } := by
    refine ⟨⟨e0.mod, hsc.2.2, rfl, rfl, Nat.le_refl _, fun x y c h1 h2 => ?_, fun x hx => ?_, fun x c z _ => (by cases z), fun _ => hr.hd, Around.frames_deeper e0.frames, .inr ⟨rfl, rfl⟩, fun b z => (by cases z), e0.bs, e0.bsz, fun b o _ z => (by cases z), fun b z => (by cases z), e0.funs, e0.frf⟩,
      rfl, e0.bare, Un.kept hk, ⟨_, hns', fun i x v' h1 h2 h3 => ?_⟩, fun x c h => ?_, e0.hok.fresh (Nat.le_refl _), fun x c h => ?_, fun p z => (by cases z), e0.hok.kept hk, rfl⟩
    · rw [(lkc h1).1, (lkc h2).1]
    · have := hfree x hx
      subst this
      exact ⟨cc, by simp [cxE, ksEnv, envX]⟩
    · match i, h1, h2 with
      | 0, h1, h2 =>
        cases h1
        cases h2
        exact ⟨_, rfl, .inl ⟨hnm.1, hm1⟩⟩
      | 1, h1, h2 =>
        cases h1
        cases h2
        exact ⟨u, rv, .inl ⟨hnm.2.1, hm2⟩⟩
    · rw [(lkc h).2]
      exact ⟨_, _, kX _ _ hcell, rfl⟩
    · rw [(lkc h).2]
      exact hcc
  obtain ⟨ar, hp1, hp2⟩ := hp
  obtain ⟨pl, hev⟩ := hev s.heap.objs.size
  -- super().__init__(text)
  refine ks_wpAt_execs_cons (ks_wpAt_Expr_any (ks_wpAt_MethodCall (c := _) (ks_wpAt_super_base (env := ksEnv qual scope s.heap.objs.size fI (.ref cda) cc) hnm.2.2.1 hnm.2.2.2 rfl rfl (kX _ _ lk) rfl hp1 rfl (kX _ _ hcode) rfl hvs hfile T.top ?_) hev) (hin _) (hpl1 _))
  obtain ⟨mb, hmb, hmb2⟩ := e0.mod.blt
  have kb : ∀ b o, base.get? b = some o → h₀.get? b = some o := fun b o e => hk _ _ (e0.bs b o e).1
  refine ks_loadName_global hsc.2.2 hnm.2.2.1 (PySem.Calls.loadGlobal_builtin (env := ksEnv qual scope s.heap.objs.size fI (.ref cda) cc) (e0.mod.glob.keeps kb) T.mgs (hmb.keeps kb) ((hmb2 _ (by decide +kernel)).trans PyProof.Rows.Boot.super) ⟨rfl, ?_⟩)
  refine wpAny_loadName_free hsc.2.2 hnm.2.2.2 rfl ⟨_, kX _ _ hcell, rfl⟩ ?_
  rw [hp2]
  refine wpAny_loadName_local hsc.2.2 hnm.1 hns' hm1 ?_
  obtain ⟨t1, ho⟩ := exo_at I.hok hea
  obtain ⟨oD, hD1, hD2⟩ : ∃ oD, h₀.get? C = some oD ∧ oD.data = .cls cd0 := by
    unfold clsIn at hD
    split at hD
    · rename_i c d cd' sl ho
      cases hD
      exact ⟨_, kX _ _ ho, rfl⟩
    · cases hD
  refine ks_wpAny_isType_cls hD1 hD2 ⟨rfl, ?_⟩
  replace ho : h₀.get? a = _ := ho
  refine ks_wpAny_call_super hD1 hD2 ho rfl (fun c e => by cases e) (looks_mroIn kX T.mro) (fun h2 hso k2 => ?_)
  have kX2 : K.In h2 := kX.keeps k2
  have hne : a ≠ C := fun e => by
    subst e
    rw [hD1] at ho
    cases ho
    cases hD2
  have hmro : ∃ l, alongIn K "__init__" l = some (some (.builtin "ValueError.__init__")) ∧ (cd0.mro.dropWhile (· != .ref C)).drop 1 = l := by
    have q := T.sup
    unfold ks_superIn at q
    rw [hD] at q
    exact ⟨_, q, rfl⟩
  obtain ⟨ml, hml, hdl⟩ := hmro
  have ho2 := k2 _ _ ho
  have hI2 : Looks (model P w) h2 (isInstance (.ref a) (.type "ValueError")) true := (InstAt.type (show InstAt h2 a _ C none from ⟨ho2, rfl, rfl, trivial⟩)).andThen (looks_subIn kX2 T.sub)
  refine kxs_getMethod kxs_ValueError hso (looks_opaque kX2 T.opq) (l₀ := cd0.mro) (fun A Q E s k q => wpAny_bind ((looks_clsIn kX2 hD) A _ E s k (wpAny_pure q))) hdl kX2 hml hI2 hne rfl ?_
  have hlt : h₀.objs.size < h2.objs.size := Heap.lt_size hso
  have hsz : h₀.objs.size ≤ h2.objs.size := Nat.le_of_lt hlt
  have k3 : ∀ b o, h₀.get? b = some o → (h2.push (kxs_mw "ValueError.__init__" a)).get? b = some o := fun b o e => Heap.get?_push_of_some _ (k2 b o e)
  have hu3 : (h2.push (kxs_mw "ValueError.__init__" a)).get? h2.objs.size = some (kxs_mw "ValueError.__init__" a) := Heap.get?_push_size h2 rfl
  have J3 := ClX.pin_new (t' := s.toks + 2 + 1) I k3 hsz hu3 (fun v e => by cases e)
  dsimp only
  refine kxs_callWith (i := "ValueError.__init__") (x := a) rfl ?_
  refine PySem.Calls.evalArgs_plain ?_
  refine wpAny_mono (((pa_cons (X := cxE P w K mg base ["self", prm] qual scope fI cda cc A outer s H fun _ _ => False) (e := .Constant (.str txt) jj p3) (es := []) pe_str pa_nil).run p4 _ _ _ H (fun vs H' => vs = [.str txt] ∧ H' = H) J3 ⟨rfl, rfl⟩)) (fun vs s4 ⟨ws, H4, I4, r4, e4, e5⟩ => ?_) (fun _ _ z => False.elim z)
  subst e4
  have e5' := e5.symm
  subst e5'
  have hu4 : s4.heap.get? h2.objs.size = some (kxs_mw "ValueError.__init__" a) := ClX.pin_at I4
  have J4 := ClX.unpin I4
  refine ⟨hu4, ?_⟩
  obtain ⟨t4, ho4⟩ := exo_at J4.hok hea
  obtain ⟨hp4, g4, d4, tk4, os4⟩ := s4
  have hl4 : vs.length ≤ sizeLine := by
    rw [← r4.length]
    show 1 ≤ sizeLine
    rw [sizeLine_eq]
    omega
  obtain ⟨nm, q, N, bs, bm, sn, sub, ab, col, dd, k0, k1, k2', k3', k5, hC, hbm⟩ := T.cls.cls
  refine wpAny_call (codeAny_of_tree ?_)
  show wpAny _ _ (callAny (.ref h2.objs.size) ⟨vs, []⟩) _ _ _
  simp only [callAny]
  refine wpAny_bind (wpAny_load hu4 ?_)
  simp only [kxs_mw, show (Value.type "method-wrapper" == Value.type "method" || Value.type "method-wrapper" == Value.type "builtin_function_or_method" || Value.type "method-wrapper" == Value.type "method-wrapper") = true by decide, if_true]
  refine KFB.if_so (by decide) ?_
  refine wpAny_bind (check_bound_init F.excBase_ValueError.toExcCallFacts (J4.kIn _ _ hC) ho4 rfl ?_)
  refine wpAny_bind (wpAny_pure (wpAny_pure ?_))
  refine ⟨plainId_quiet F.excBase_ValueError.init.plain _, codeAny_builtin F.excBase_ValueError.initEntry ?_⟩
  refine exc_init_tree (cls := .ref C) (t0 := t4) (dv := none) (c2 := .none) (c3 := .none) (b4 := .bool false) ho4 hl4 fun h5 kk5 ho5 _ => ?_
  have J5 := J4.write (t' := tk4) (x := a) (e := a) (o := exo a C none) (by rw [hea]; exact True.intro) (.inl rfl) kk5 ⟨_, ho5⟩ (exo_ok ho5)
  have eu : upd H a (exo a C none) = H := by
    funext b
    by_cases hb : b = a
    · rw [hb, upd_same, hea]
    · rw [upd_ne hb]
  rw [eu] at J5
  dsimp only
  refine wpAt_of_wpAny (wpAny_mono ((pss_one (ps_ost (X := cxE P w K mg base ["self", prm] qual scope fI cda cc A outer s H fun _ _ => False) (pe_var (i := 0) rfl (.inl hnm.1)) (pe_var (i := 1) rfl (.inl hnm.2.1) hcdbg.1 hcdbg.2) (hpl2 _))).run [] _ _ H { nx := fun _ H' => Q .non H', rt := Q } J5 ⟨v, rfl, .ref a, rfl, a, C, rfl, T.cls, hno, .inl ⟨hea, fun dx n1 n2 => hq dx n1 n2⟩⟩) (fun fl s' hs => ?_) fun _ _ z => False.elim z)
  cases fl with
  | next =>
    obtain ⟨σ', H', J, q⟩ := hs
    exact ⟨.non, H', J.os, J.bare, J.base, J.hok, rfl, q⟩
  | ret u =>
    obtain ⟨v, σ', H', J, rv, q⟩ := hs
    exact ⟨v, H', J.os, J.bare, J.base, J.hok, rv, q⟩
  | brk =>
    obtain ⟨_, _, _, q⟩ := hs
    exact False.elim q
  | cont =>
    obtain ⟨_, _, _, q⟩ := hs
    exact False.elim q
end
end G
namespace L2
open PySem PySem.Spec PyProof.Rows
/-- what the clauses wish of an exception of the body, one after the other; some i: the slot of the clause's name -/
def wManyA (K : PySem.W.Frag) (Wout : WX) (D : Ends) : List (Value × Option Nat × (Addr → Value → Option Addr → TS)) → WX
  | [] => Wout
  | (c, none, ts) :: r => fun cls d σ H => ∃ b, PySem.W.exmOne K cls c = some b ∧ (b = true → ∀ a, H a = none → ts a cls d D σ H) ∧ (b = false → wManyA K Wout D r cls d σ H)
  | (c, some i, ts) :: r => fun cls d σ H => ∃ b, PySem.W.exmOne K cls c = some b ∧
      (b = true → ∀ a, H a = none → ts a cls d { nx := fun σ' H' => D.nx (σ'.set i none) H', rt := D.rt, bk := fun σ' H' => D.bk (σ'.set i none) H', ct := fun σ' H' => D.ct (σ'.set i none) H' } (σ.set i (some (.ref a))) H) ∧ (b = false → wManyA K Wout D r cls d σ H)
inductive HdsA (X : Cx) : List ExceptHandler → List (Value × Option Nat × (Addr → Value → Option Addr → TS)) → Prop
  | nil : HdsA X [] []
  | cons {x : Str} {c : Value} {ts : Addr → Value → Option Addr → TS} {b₀ : Stmt} {suite : List Stmt} {np pos' : Pos} {hds : List ExceptHandler} {l : List (Value × Option Nat × (Addr → Value → Option Addr → TS))} (hc : Names X x c)
      (hsu : ∀ (a : Addr) (oe : Obj) (cls : Value) (d : Option Addr) (pn : List (Addr × Obj)), Zc cls d oe → (∃ vs, oe.data = .fields vs) → PSs (X.suite a ((a, oe) :: pn)) (b₀ :: suite) (ts a cls d)) (r : HdsA X hds l) :
      HdsA X (.ExceptHandler (some (.Name x np)) none (b₀ :: suite) pos' :: hds) ((c, none, ts) :: l)
  | as {x n : Str} {i : Nat} {c : Value} {ts : Addr → Value → Option Addr → TS} {b₀ : Stmt} {suite : List Stmt} {np pos' : Pos} {hds : List ExceptHandler} {l : List (Value × Option Nat × (Addr → Value → Option Addr → TS))} (hN : X.N.Nodup) (hi : X.N[i]? = some n) (hln : X.env.kindOf n = some .local) (hc : Names X x c)
      (hsu : ∀ (a : Addr) (oe : Obj) (cls : Value) (d : Option Addr) (pn : List (Addr × Obj)), Zc cls d oe → (∃ vs, oe.data = .fields vs) → PSs (X.suite a ((a, oe) :: pn)) (b₀ :: suite) (ts a cls d)) (r : HdsA X hds l) :
      HdsA X (.ExceptHandler (some (.Name x np)) (some n) (b₀ :: suite) pos' :: hds) ((c, some i, ts) :: l)
section
variable {X : Cx} {body : List Stmt} {h₀ : ExceptHandler} {hds : List ExceptHandler} {l : List (Value × Option Nat × (Addr → Value → Option Addr → TS))} {pos : Pos} {tb : WX → TS} {Wout : WX}
theorem ps_try_manyA (hs : X.stack = X.env :: X.outer) (hf : X.env.frame = some X.env.locals) (tk : Takes X Wout)
    (hb : ∀ (W : WX) (pn : List (Addr × Obj)) (xe : Value → Shared → Prop), Takes (X.tr pn xe) W → PassesOwn (model X.prog X.w) X.A X.env xe → PSs (X.tr pn xe) body (tb W))
    (hh : HdsA X (h₀ :: hds) l) : PS X (.Try body (h₀ :: hds) [] [] pos) (fun D σ H => tb (wManyA X.K Wout D l) D σ H) := by
  refine ⟨fun pins s σ H D I h => ?_⟩
  have ok := I.ok
  have hfr : X.A.frames = some (X.env :: X.outer) := by rw [ok.frames, hs]
  refine wpAny_Try_except ?_
  refine wpAny_mono ((hb (wManyA X.K Wout D l) (X.pn ++ pins) (fun e s₁ => wpAny (model X.prog X.w) X.A (noteFrame e X.env) (fun _ s₂ => wpAny (model X.prog X.w) X.A (setFlight e none) (fun _ s₃ =>
    wpAny (model X.prog X.w) X.A (handleBy e X.env (h₀ :: hds)) (SP X pins D) X.xe s₃) X.xe s₂) X.xe s₁) (fun u s' xx => ?_) PassesOwn.looking).run [] s σ H D (I.toTry _) h) (fun f s1 hsp => ?_) (fun e s1 he => he)
  · obtain ⟨a, B, sI, pins', σ', H', cls, d, rfl, J', nb, up, sky, na, os, ag, w⟩ := xx
    have J : Inv X pins σ' H' sI := J'.ofTry ok
    have sky' : Sky B (X.env :: X.outer) a (Zc cls d) X.env.locals s'.heap := by rw [← hs]; exact sky
    show wpAny (model X.prog X.w) X.A (noteFrame (.ref a) X.env) _ _ _
    refine Sky.land Zc.steady hfr hf sky' fun h3 fl3 up3 => ?_
    have J3 : Inv X pins σ' H' { s' with heap := h3 } := J.landed nb fl3.1 (up.trans up3) os ag
    obtain ⟨oe3, vs3, he3, hz3, hd3⟩ := fl3.there
    have notFr : ∀ {h : Heap} {o : Obj} {vs : Array Value}, h.FunFrames B (X.env :: X.outer) → h.get? a = some o → o.data = .fields vs → a ∉ frs (X.env :: X.outer) := fun {h o vs} ff e dd hm => by
      obtain ⟨_, o', e', hnf⟩ := ff.mem hm
      rw [e] at e'; cases e'
      exact hnf _ dd
    have nfr := notFr fl3.2.2.1 he3 hd3
    have nL : a ≠ X.env.locals := fun z => nfr (List.mem_filterMap.mpr ⟨X.env, List.mem_cons_self, by rw [hf, z]⟩)
    have nF : a ∉ X.fs := fun hm => by
      obtain ⟨e, he, q⟩ := List.mem_filterMap.mp hm
      exact nfr (List.mem_filterMap.mpr ⟨e, List.mem_cons_of_mem _ he, q⟩)
    have S3 := J3.suite he3 hd3 na nL nF
    have go : ∀ {hds' : List ExceptHandler} {l' : List (Value × Option Nat × (Addr → Value → Option Addr → TS))}, HdsA X hds' l' → wManyA X.K Wout D l' cls d σ' H' →
        wpAny (model X.prog X.w) X.A (handleBy (.ref a) X.env hds') (SP X pins D) X.xe { s' with heap := h3 } := by
      intro hds' l' hk
      induction hk with
      | nil =>
        intro w
        refine wpAny_handleBy_nil ?_
        obtain ⟨k1, k2, k3, oe, vs, T, oT, ts', he, hz, hd, h1, hr⟩ := id fl3
        unfold PySem.passOn
        refine wpAny_bind (wpAny_field he hd h1 ?_)
        rw [if_neg (show ¬ ((Value.ref T == Value.none) = true) from by simp)]
        have fin : wpAny (model X.prog X.w) X.A (setFlight (.ref a) X.env.frame) (fun _ s4 => wpAny (model X.prog X.w) X.A (throw (.ref a) : Sem Flow) (SP X pins D) X.xe s4) X.xe { s' with heap := h3 } := by
          rw [hf]
          refine HandSPX.setFlight_upZ fl3 fun h4 hh4 up4 => wpAny_throw (tk _ _ ?_)
          exact ⟨a, B, sI, pins, σ', H', cls, d, rfl, J, nb, (up.trans up3).trans up4, .inr (.inr (by rw [hs]; exact hh4)), na, os, ag, w⟩
        first
          | exact wpAny_bind (wpAny_pure (wpAny_bind fin))
          | exact wpAny_bind fin
      | @cons x c ts b₀ suite np pos' hds2 l2 hc hsu r ih =>
        intro w
        obtain ⟨b, hb1, hyes, hno⟩ := w
        refine wpAny_handleBy_cons (codeAny_handlers_test ?_) (by intro q; cases q)
        have LT : PySem.W.Looks (model X.prog X.w) h3 (typeOf (.ref a)) cls := fun A Q E s k q => wpAny_typeOf_ref (k _ _ he3) (by rw [hz3.1]; exact q)
        have LM := PySem.W.exm_one (M := model X.prog X.w) (J3.kIn) LT hb1
        have test : ∀ {Q : Value → Shared → Prop} {E : Value → Shared → Prop}, Q c { s' with heap := h3 } → wpAny (model X.prog X.w) (X.A.mark (some (.ref a))) (eval (.Name x np) X.env) Q E { s' with heap := h3 } := fun {Q E} q => by
          obtain ⟨hg, hdbg, hm | ⟨hm, hv, hnn⟩⟩ := hc
          · exact ld_glob (X := X.suite a ((a, oe3) :: (X.pn ++ pins))) S3 hg hm q hdbg
          · exact ld_blt (X := X.suite a ((a, oe3) :: (X.pn ++ pins))) S3 hg hm hv q hnn hdbg
        refine test (LM.here ?_)
        cases b with
        | true =>
          refine codeAny_handlers_suite ?_
          refine HandSPX.lands_againZ fl3 fun h4 fl4 up4 => ?_
          have J4 : Inv X pins σ' H' { s' with heap := h4 } := J.landed nb fl4.1 ((up.trans up3).trans up4) os ag
          obtain ⟨oe4, vs4, he4, hz4, hd4⟩ := fl4.there
          have S4 := J4.suite he4 hd4 na nL nF
          refine wpAny_mono ((hsu a oe4 cls d (X.pn ++ pins) hz4 ⟨_, hd4⟩).run [] _ _ H' _ S4 (hyes rfl a na)) (fun f s6 hsp => ?_) (fun _ _ z => False.elim z)
          cases f with
          | next =>
            obtain ⟨σ6, H6, S6, q6⟩ := hsp
            exact ⟨_, _, S6.unsuite ok, q6⟩
          | brk =>
            obtain ⟨σ6, H6, S6, q6⟩ := hsp
            exact ⟨_, _, S6.unsuite ok, q6⟩
          | cont =>
            obtain ⟨σ6, H6, S6, q6⟩ := hsp
            exact ⟨_, _, S6.unsuite ok, q6⟩
          | ret u =>
            obtain ⟨v6, σ6, H6, S6, r6, q6⟩ := hsp
            exact ⟨_, _, _, S6.unsuite ok, r6, q6⟩
        | false =>
          show wpAny _ X.A (handleBy (.ref a) X.env hds2) _ _ _
          exact ih (hno rfl)
      | @as x n i c ts b₀ suite np pos' hds2 l2 hN hi hln hc hsu r ih =>
        intro w
        obtain ⟨b, hb1, hyes, hno⟩ := w
        have hloc : Loc X.env.scope n := .inl hln
        refine wpAny_handleBy_cons (codeAny_handlers_test ?_) (by intro q; cases q)
        have LT : PySem.W.Looks (model X.prog X.w) h3 (typeOf (.ref a)) cls := fun A Q E s k q => wpAny_typeOf_ref (k _ _ he3) (by rw [hz3.1]; exact q)
        have LM := PySem.W.exm_one (M := model X.prog X.w) (J3.kIn) LT hb1
        have test : ∀ {Q : Value → Shared → Prop} {E : Value → Shared → Prop}, Q c { s' with heap := h3 } → wpAny (model X.prog X.w) (X.A.mark (some (.ref a))) (eval (.Name x np) X.env) Q E { s' with heap := h3 } := fun {Q E} q => by
          obtain ⟨hg, hdbg, hm | ⟨hm, hv, hnn⟩⟩ := hc
          · exact ld_glob (X := X.suite a ((a, oe3) :: (X.pn ++ pins))) S3 hg hm q hdbg
          · exact ld_blt (X := X.suite a ((a, oe3) :: (X.pn ++ pins))) S3 hg hm hv q hnn hdbg
        refine test (LM.here ?_)
        cases b with
        | true =>
          refine codeAny_handlers_suite_as ?_
          refine HandSPX.lands_againZ fl3 fun h4 fl4 up4 => ?_
          have J4 : Inv X pins σ' H' { s' with heap := h4 } := J.landed nb fl4.1 ((up.trans up3).trans up4) os ag
          obtain ⟨oe4, vs4, he4, hz4, hd4⟩ := fl4.there
          have S4 := J4.suite he4 hd4 na nL nF
          refine store_ok (X := X.suite a ((a, oe4) :: (X.pn ++ pins))) (v := .ref a) S4 hN hi hloc rfl (fun s5 S5 => ?_) (.inr hln)
          refine wpAny_mono ((hsu a oe4 cls d (X.pn ++ pins) hz4 ⟨_, hd4⟩).run [] s5 _ H' _ S5 (hyes rfl a na)) (fun f s6 hsp => ?_) (fun _ _ z => False.elim z)
          have end_ : ∀ {σ6 : St} {H6 : Hp} {Q : Shared → Prop}, Inv (X.suite a ((a, oe4) :: (X.pn ++ pins))) [] σ6 H6 s6 → (∀ s7, Inv X pins (σ6.set i none) H6 s7 → Q s7) →
              wpAny (model X.prog X.w) X.A (do bindName X.env n .none; unbindBehindTheSuite X.env n pos') (fun _ s7 => Q s7) X.xe s6 := fun {σ6 H6 Q} S6 hq => gone_ok (S6.unsuite ok) hN hi hln hq
          cases f with
          | next =>
            obtain ⟨σ6, H6, S6, q6⟩ := hsp
            exact end_ S6 fun s7 J7 => ⟨_, _, J7, q6⟩
          | brk =>
            obtain ⟨σ6, H6, S6, q6⟩ := hsp
            exact end_ S6 fun s7 J7 => ⟨_, _, J7, q6⟩
          | cont =>
            obtain ⟨σ6, H6, S6, q6⟩ := hsp
            exact end_ S6 fun s7 J7 => ⟨_, _, J7, q6⟩
          | ret u =>
            obtain ⟨v6, σ6, H6, S6, r6, q6⟩ := hsp
            exact end_ S6 fun s7 J7 => ⟨_, _, _, J7, r6, q6⟩
        | false =>
          show wpAny _ X.A (handleBy (.ref a) X.env hds2) _ _ _
          exact ih (hno rfl)
    exact go hh w
  · cases f with
    | next =>
      obtain ⟨σ', H', J', q⟩ := hsp
      exact wpAny_execs_nil ⟨σ', H', J'.ofTry ok, q⟩
    | brk =>
      obtain ⟨σ', H', J', q⟩ := hsp
      exact ⟨σ', H', J'.ofTry ok, q⟩
    | cont =>
      obtain ⟨σ', H', J', q⟩ := hsp
      exact ⟨σ', H', J'.ofTry ok, q⟩
    | ret u =>
      obtain ⟨v, σ', H', J', r, q⟩ := hsp
      exact ⟨v, σ', H', J'.ofTry ok, r, q⟩
end
end L2
namespace G
open PySem PySem.Spec L2
/-- the module's name x is an own error at C; its one argument is its field fld -/
structure ErrC (P : Program) (w : World) (K : PySem.W.Frag) (mg : Str → Option Value) (base : Heap) (x : Str) (C : Addr) (fld : Str) : Prop where
  g : mg x = some (.ref C)
  cls : OexC K C
  init : ∃ fI fd prm, PySem.W.findIn K (.ref C) "__init__" = some (some (.ref fI)) ∧ PySem.W.typeIn K (.ref fI) = some (.type "function") ∧ FnOk P w K mg base CX0 1 fI fd ["self", prm] (spEI C fld) ∧ Binds K fd ["self", prm] []
def sRaise (C : Addr) (fld : Str) (l : AL) : AS := fun A δ r => l A.xr δ r fun ds r1 => ∃ d, ds = [d] ∧ A.xr C [fld] [d] δ r1
section
variable {X : Cx} {W : WX} {x fld : Str} {C : Addr} {e : Expr} {l : AL} {p pos pos2 : Pos} {k : Nat}
theorem s_raise (T : ErrC X.prog X.w X.K X.mg X.base x C fld) (tk : Takes X W) (hr : Room k X.A) (ha : PDL X W [e] l) (hk : 2 ≤ k := by first | decide | omega) (hc : X.calm = true := by rfl) (hg : Gl X x := by rfl) (hdb : (x == ("__debug__" : Str)) = false := by decide)
    (he : starEach [e] X.env = (false, eval e X.env) :: starEach [] X.env := by rfl) (hpl : (backTo pos (starEach [] X.env)).any (·.1) = false := by rfl) : PSD X W (.Raise (some (.Call (.Name x p) [e] [] pos)) none pos2) (sRaise C fld l) := by
  obtain ⟨fI, fd, prm, i1, i2, F, hb⟩ := T.init
  refine imS (ps_raise hc tk (pmk_oex (CX := CX0) T.cls i1 i2 F (hr.mono hk) hb .nil (fun _ _ _ _ _ _ _ z => z.elim) hg T.g ha hdb he hpl)) fun D σ H ⟨δ, r, A, o, h, f⟩ => ?_
  refine tdl_bind o h fun ds r1 vs H1 h1 o1 k1 i1 => ?_
  obtain ⟨d, rfl, h1⟩ := h1
  cases i1 with
  | cons iv it =>
    cases it
    rename_i v
    refine ⟨by show 1 ≤ 1000; decide, fun a na => ⟨a, v, rfl, upd_same, fun dx n1 n2 => ⟨rfl, dx, [(fld, v)], upd_same, ?_, ?_, ?_⟩⟩⟩
    · rw [upd_ne n2, upd_same]
    · rw [upd_ne n2] at n1
      exact n1
    · have nd : H1 dx = none := by rw [upd_ne n2] at n1; exact n1
      have ext : Ext H1 (upd (del (upd (upd (upd H1 a (exo a C none)) dx (exd dx [(fld, v)])) a (exo a C (some dx))) a) dx (.xd [(fld, v)])) := fun b u e => by
        have h1 : b ≠ a := ne_of_none e na
        have h2 : b ≠ dx := ne_of_none e nd
        rw [upd_ne h2, del_ne h1, upd_ne h1, upd_ne h2, upd_ne h1]
        exact e
      exact o1.x C [fld] [d] δ r1 σ (some dx) _ h1 (o1.b.step (Kp.ext ext) (o1.r.ext ext)) (Kp.ext ext) ⟨not_al o1.r nd, [(fld, v)], upd_same, rfl, .cons (is_ext ext _ _ iv) .nil⟩
end
/-- an exception's own dict, while it is held -/
def xdA (dx : Addr) (fs : List Str) (ds : List D) : At where
  M := fun a => a = dx
  R := fun K N H => ∃ kvs : List (Str × V), H dx = some (.xd kvs) ∧ kvs.map Prod.fst = fs ∧ IsAll K N H (kvs.map Prod.snd) ds
  loc := fun f g ⟨vs, h, e, i⟩ => ⟨vs, f _ _ rfl h, e, all_of g i⟩
  anti := fun q ⟨vs, h, e, i⟩ => ⟨vs, h, e, all_of (fun _ _ => is_anti q) i⟩
  grow := fun hp ⟨vs, h, e, i⟩ => ⟨vs, h, e, all_of (fun _ _ => is_growD hp) i⟩
  al := fun ⟨vs, h, _⟩ a z => ⟨.xd vs, by rw [show a = dx from z]; exact h⟩
theorem rok_xd {K : PySem.W.Frag} {r : Rs} {H : Hp} {dx : Addr} {fs : List Str} {ds : List D} (h : Rok K r H) (e : ExAt K r H (some dx) fs ds) : Rok K (r ++ [xdA dx fs ds]) H ∧ Kp K r H (r ++ [xdA dx fs ds]) H := by
  obtain ⟨nm, kvs, h1, h2, h3⟩ := e
  have e : ∀ a, mem (r ++ [xdA dx fs ds]) a → mem r a ∨ a = dx := fun a z => (mem_append.mp z).elim .inl fun z => z.elim .inr False.elim
  have nd : NoDat H dx := fun o q => by rw [h1] at q; cases q; exact fun z => z
  have go : Kp K r H (r ++ [xdA dx fs ds]) H := fun v d q => is_anti e (is_growD nd q)
  refine ⟨hold_append.mpr ⟨hold_anti e (hold_growD nd h), ⟨⟨kvs, h1, h2, all_of go h3⟩, fun _ _ z => z, True.intro⟩, fun a m z => ?_⟩, go⟩
  have : a = dx := z.elim (fun z => z) False.elim
  subst this
  exact nm m
/-- an except clause's reading: what its class answers of the classes that may come (Cs), the slot of its name, its suite's reading -/
structure Cl1 where
  Cs : List (Addr × Bool)
  i : Option Nat
  u : Addr → Value → Option Addr → AS
def held : Option Addr → List Str → List D → Rs
  | some dx, fs, ds => [xdA dx fs ds]
  | none, _, _ => []
def dropR (Q : Dl → Rs → Prop) : Dl → Rs → Prop := fun δ r => ∃ r', le r r' ∧ Q δ r'
def sHds (A : An) : List Cl1 → XT
  | [] => A.xr
  | c :: cs => fun C fs ds δ r => ∃ b, (C, b) ∈ c.Cs ∧ (b = true → ∀ (a : Addr) (d : Option Addr), (d = none → fs = [] ∧ ds = []) → match c.i with
      | none => c.u a (.ref C) d { nx := dropR A.nx, rt := fun v r' => ∃ r2, le r' r2 ∧ A.rt v r2, bk := dropR A.bk, ct := dropR A.ct } δ (r ++ held d fs ds)
      | some i => c.u a (.ref C) d { nx := dropR fun δ' => A.nx (δ'.set i none), rt := fun v r' => ∃ r2, le r' r2 ∧ A.rt v r2, bk := dropR fun δ' => A.bk (δ'.set i none), ct := dropR fun δ' => A.ct (δ'.set i none) } (δ.set i (some (.adr a))) (r ++ held d fs ds)) ∧
    (b = false → sHds A cs C fs ds δ r)
def sTry (tb : AS) (cs : List Cl1) : AS := fun A δ r => tb { A with xr := sHds A cs } δ r
inductive HdsD (X : Cx) : List ExceptHandler → List Cl1 → Prop
  | nil : HdsD X [] []
  | cons {x : Str} {c : Value} {Cs : List (Addr × Bool)} {u : Addr → Value → Option Addr → AS} {b₀ : Stmt} {suite : List Stmt} {np pos' : Pos} {hds : List ExceptHandler} {l : List Cl1} (hc : Names X x c) (hC : ∀ p ∈ Cs, PySem.W.exmOne X.K (.ref p.1) c = some p.2)
      (hsu : ∀ (a : Addr) (oe : Obj) (cls : Value) (d : Option Addr) (pn : List (Addr × Obj)), Zc cls d oe → (∃ vs, oe.data = .fields vs) → PBD (X.suite a ((a, oe) :: pn)) W0 (b₀ :: suite) (u a cls d)) (r : HdsD X hds l) :
      HdsD X (.ExceptHandler (some (.Name x np)) none (b₀ :: suite) pos' :: hds) (⟨Cs, none, u⟩ :: l)
  | as {x n : Str} {i : Nat} {c : Value} {Cs : List (Addr × Bool)} {u : Addr → Value → Option Addr → AS} {b₀ : Stmt} {suite : List Stmt} {np pos' : Pos} {hds : List ExceptHandler} {l : List Cl1} (hN : X.N.Nodup) (hi : X.N[i]? = some n) (hln : X.env.kindOf n = some .local) (hc : Names X x c) (hC : ∀ p ∈ Cs, PySem.W.exmOne X.K (.ref p.1) c = some p.2)
      (hsu : ∀ (a : Addr) (oe : Obj) (cls : Value) (d : Option Addr) (pn : List (Addr × Obj)), Zc cls d oe → (∃ vs, oe.data = .fields vs) → PBD (X.suite a ((a, oe) :: pn)) W0 (b₀ :: suite) (u a cls d)) (r : HdsD X hds l) :
      HdsD X (.ExceptHandler (some (.Name x np)) (some n) (b₀ :: suite) pos' :: hds) (⟨Cs, some i, u⟩ :: l)
theorem held_ok {K : PySem.W.Frag} {r : Rs} {H : Hp} {d : Option Addr} {fs : List Str} {ds : List D} (h : Rok K r H) (e : ExAt K r H d fs ds) : Rok K (r ++ held d fs ds) H ∧ Kp K r H (r ++ held d fs ds) H := by
  cases d with
  | none =>
    show Rok K (r ++ []) H ∧ Kp K r H (r ++ []) H
    rw [List.append_nil]
    exact ⟨h, Kp.refl⟩
  | some dx => exact rok_xd h e
theorem hdsA_of {X : Cx} {W : WX} : ∀ {hds : List ExceptHandler} {cs : List Cl1}, HdsD X hds cs → ∃ l, HdsA X hds l ∧ ∀ (D : Ends) (A : An) (r : Rs) (H : Hp), Xc X.K W A.xr r H → Fin X.K W A r H D → Xc X.K (wManyA X.K W D l) (sHds A cs) r H := by
  intro hds cs h
  induction h with
  | nil => exact ⟨[], .nil, fun D A r H x f => x⟩
  | @cons x c Cs u b₀ suite np pos' hds l hc hC hsu r ih =>
    obtain ⟨l', hl, hx⟩ := ih
    refine ⟨(c, none, fun a cls d => TSD X.K W0 (u a cls d)) :: l', .cons hc hsu hl, fun D A r H x f => ?_⟩
    rintro C fs ds δ' r' σ' a H' ⟨b, hb, ht, hf⟩ o k e
    refine ⟨b, hC _ hb, fun q a0 na => ?_, fun q => hx D A r H x f C fs ds δ' r' σ' a H' (hf q) o k e⟩
    obtain ⟨q1, q2⟩ := held_ok o.r e
    have hh := ht q a0 a (fun z => by subst z; exact e)
    refine ⟨δ', r' ++ held a fs ds, _, ⟨o.step q2 q1, ?_⟩, hh, ?_⟩
    · exact fun _ _ _ _ _ _ _ _ z => z.elim
    refine ⟨?_, ?_, ?_, ?_⟩
    · rintro δ2 r2 σ2 H2 ⟨r3, l3, q3⟩ o2 k2
      exact f.nx _ _ _ _ q3 ⟨o2.b.step l3.kp (l3.r _ _ o2.r), x.step (((k.trans q2).trans k2).trans l3.kp)⟩ (((k.trans q2).trans k2).trans l3.kp)
    · rintro d r2 v H2 ⟨r3, l3, q3⟩ o2 k2 i
      exact f.rt _ _ _ _ q3 (l3.r _ _ o2) (((k.trans q2).trans k2).trans l3.kp) (l3.kp _ _ i)
    · rintro δ2 r2 σ2 H2 ⟨r3, l3, q3⟩ o2 k2
      exact f.bk _ _ _ _ q3 ⟨o2.b.step l3.kp (l3.r _ _ o2.r), x.step (((k.trans q2).trans k2).trans l3.kp)⟩ (((k.trans q2).trans k2).trans l3.kp)
    · rintro δ2 r2 σ2 H2 ⟨r3, l3, q3⟩ o2 k2
      exact f.ct _ _ _ _ q3 ⟨o2.b.step l3.kp (l3.r _ _ o2.r), x.step (((k.trans q2).trans k2).trans l3.kp)⟩ (((k.trans q2).trans k2).trans l3.kp)
  | @as x n i c Cs u b₀ suite np pos' hds l hN hi hln hc hC hsu r ih =>
    obtain ⟨l', hl, hx⟩ := ih
    refine ⟨(c, some i, fun a cls d => TSD X.K W0 (u a cls d)) :: l', .as hN hi hln hc hsu hl, fun D A r H x f => ?_⟩
    rintro C fs ds δ' r' σ' a H' ⟨b, hb, ht, hf⟩ o k e
    refine ⟨b, hC _ hb, fun q a0 na => ?_, fun q => hx D A r H x f C fs ds δ' r' σ' a H' (hf q) o k e⟩
    obtain ⟨q1, q2⟩ := held_ok o.r e
    have hh := ht q a0 a (fun z => by subst z; exact e)
    refine ⟨δ'.set i (some (.adr a0)), r' ++ held a fs ds, _, ⟨(o.step q2 q1).set (.adr a0), ?_⟩, hh, ?_⟩
    · exact fun _ _ _ _ _ _ _ _ z => z.elim
    refine ⟨?_, ?_, ?_, ?_⟩
    · rintro δ2 r2 σ2 H2 ⟨r3, l3, q3⟩ o2 k2
      exact f.nx _ _ _ _ q3 ⟨(o2.b.step l3.kp (l3.r _ _ o2.r)).drop, x.step (((k.trans q2).trans k2).trans l3.kp)⟩ (((k.trans q2).trans k2).trans l3.kp)
    · rintro d r2 v H2 ⟨r3, l3, q3⟩ o2 k2 i
      exact f.rt _ _ _ _ q3 (l3.r _ _ o2) (((k.trans q2).trans k2).trans l3.kp) (l3.kp _ _ i)
    · rintro δ2 r2 σ2 H2 ⟨r3, l3, q3⟩ o2 k2
      exact f.bk _ _ _ _ q3 ⟨(o2.b.step l3.kp (l3.r _ _ o2.r)).drop, x.step (((k.trans q2).trans k2).trans l3.kp)⟩ (((k.trans q2).trans k2).trans l3.kp)
    · rintro δ2 r2 σ2 H2 ⟨r3, l3, q3⟩ o2 k2
      exact f.ct _ _ _ _ q3 ⟨(o2.b.step l3.kp (l3.r _ _ o2.r)).drop, x.step (((k.trans q2).trans k2).trans l3.kp)⟩ (((k.trans q2).trans k2).trans l3.kp)
section
variable {X : Cx} {W : WX} {body : List Stmt} {h₀ : ExceptHandler} {hds : List ExceptHandler} {cs : List Cl1} {pos : Pos} {tb : AS}
theorem s_try (tk : Takes X W) (hb : ∀ (W' : WX) (pn : List (Addr × Obj)) (xe : Value → Shared → Prop), Takes (X.tr pn xe) W' → PassesOwn (model X.prog X.w) X.A X.env xe → PBD (X.tr pn xe) W' body tb)
    (hh : HdsD X (h₀ :: hds) cs) (hs : X.stack = X.env :: X.outer := by rfl) (hf : X.env.frame = some X.env.locals := by rfl) : PSD X W (.Try body (h₀ :: hds) [] [] pos) (sTry tb cs) := by
  obtain ⟨l, hl, hx⟩ := hdsA_of (W := W) hh
  refine imS (ps_try_manyA (tb := fun W' => TSD X.K W' tb) hs hf tk (fun W' pn xe tk' po => hb W' pn xe tk' po) hl) fun D σ H ⟨δ, r, A, o, h, f⟩ => ?_
  refine ⟨δ, r, { A with xr := sHds A cs }, ⟨o.b, hx D A r H o.x f⟩, h, ?_⟩
  have ok : ∀ {r' : Rs} {δ' : Dl} {σ' : L2.St} {H' : Hp} {W' : WX} {XR : XT}, Ok X.K W' XR r' δ' σ' H' → Kp X.K r H r' H' → Ok X.K W A.xr r' δ' σ' H' := fun o' k => ⟨o'.b, o.x.step k⟩
  exact ⟨fun δ' r' σ' H' a o' k => f.nx _ _ _ _ a (ok o' k) k, f.rt, fun δ' r' σ' H' a o' k => f.bk _ _ _ _ a (ok o' k) k, fun δ' r' σ' H' a o' k => f.ct _ _ _ _ a (ok o' k) k⟩
end
end G
namespace G
open PySem PySem.Spec L2
open PyProof.Rows (envOfC)
def ixF : List Str → Str → Option Nat
  | [], _ => none
  | f :: fs, g => if f = g then some 0 else (ixF fs g).map (· + 1)
theorem ixF_mem : ∀ {fs : List Str} {g : Str} {i : Nat}, ixF fs g = some i → g ∈ fs
  | f :: fs, g, i, h => by
    unfold ixF at h
    split at h
    · rename_i e
      subst e
      exact List.mem_cons_self
    · obtain ⟨j, hj, _⟩ := Option.map_eq_some_iff.mp h
      exact List.mem_cons_of_mem _ (ixF_mem hj)
theorem ixF_get : ∀ {kvs : List (Str × V)} {fs : List Str} {g : Str} {i : Nat} {v : V}, kvs.map Prod.fst = fs → ixF fs g = some i → (kvs.map Prod.snd)[i]? = some v → kvs.lookup g = some v
  | [], _, g, i, v, e, h, hv => by simp at hv
  | (f, x) :: kvs, _, g, i, v, e, h, hv => by
    subst e
    unfold List.map ixF at h
    by_cases q : f = g
    · rw [if_pos q] at h
      cases h
      subst q
      have : x = v := by simpa using hv
      rw [← this]
      simp [List.lookup]
    · rw [if_neg q] at h
      obtain ⟨j, hj, rfl⟩ := Option.map_eq_some_iff.mp h
      have hb : (g == f) = false := beq_eq_false_iff_ne.mpr fun e => q e.symm
      rw [List.lookup, hb]
      exact ixF_get rfl hj (by simpa using hv)
theorem ixF_put : ∀ {kvs : List (Str × V)} {g : Str} {i : Nat} {v : V}, ixF (kvs.map Prod.fst) g = some i → (putF g v kvs).map Prod.fst = kvs.map Prod.fst ∧ (putF g v kvs).map Prod.snd = (kvs.map Prod.snd).set i v
  | [], g, i, v, h => by cases h
  | (f, x) :: kvs, g, i, v, h => by
    unfold List.map ixF at h
    unfold putF
    by_cases q : f = g
    · rw [if_pos q] at h ⊢
      cases h
      exact ⟨rfl, rfl⟩
    · rw [if_neg q] at h ⊢
      obtain ⟨j, hj, rfl⟩ := Option.map_eq_some_iff.mp h
      obtain ⟨h1, h2⟩ := ixF_put (v := v) hj
      exact ⟨by rw [List.map_cons, List.map_cons, h1], by rw [List.map_cons, List.map_cons, h2] <;> rfl⟩
theorem ixF_new : ∀ {kvs : List (Str × V)} {g : Str} {v : V}, ixF (kvs.map Prod.fst) g = none → (putF g v kvs).map Prod.fst = kvs.map Prod.fst ++ [g] ∧ (putF g v kvs).map Prod.snd = kvs.map Prod.snd ++ [v]
  | [], g, v, h => ⟨rfl, rfl⟩
  | (f, x) :: kvs, g, v, h => by
    unfold List.map ixF at h
    unfold putF
    by_cases q : f = g
    · rw [if_pos q] at h
      cases h
    · rw [if_neg q] at h ⊢
      have hj := Option.map_eq_none_iff.mp h
      obtain ⟨h1, h2⟩ := ixF_new (v := v) hj
      exact ⟨by rw [List.map_cons, List.map_cons, h1] <;> rfl, by rw [List.map_cons, List.map_cons, h2] <;> rfl⟩
section
variable {K : PySem.W.Frag} {r pre post : Rs} {H : Hp} {l : Addr} {t t' : At} {u u' : HO}
theorem mid_R (h : Rok K (pre ++ t :: post) H) : t.R K (mem (pre ++ t :: post)) H := (hold_append.mp h).2.1.1
theorem mid_mem {a : Addr} (h : t.M a) : mem (pre ++ t :: post) a := mem_append.mpr (.inr (.inl h))
theorem mid_put (hm : t.M = fun b => b = l) (hm' : t'.M = fun b => b = l) (hu : H l = some u) (nt : ∀ xs, u ≠ .tup xs ∧ ∀ o : Obj, u ≠ .frz o (.tup xs)) (h : Rok K (pre ++ t :: post) H)
    (ht : (∀ w e, Is K (mem (pre ++ t :: post)) H w e → Is K (mem (pre ++ t' :: post)) (upd H l u') w e) → t'.R K (mem (pre ++ t' :: post)) (upd H l u')) :
    Rok K (pre ++ t' :: post) (upd H l u') ∧ Kp K (pre ++ t :: post) H (pre ++ t' :: post) (upd H l u') := by
  obtain ⟨h1, ⟨h2, h3, h4⟩, h5⟩ := hold_append.mp h
  have me : mem (pre ++ t :: post) = mem (pre ++ t' :: post) := mem_mid (by rw [hm, hm'])
  have tl : t.M l := by rw [hm]
  have go : ∀ w e, Is K (mem (pre ++ t :: post)) H w e → Is K (mem (pre ++ t :: post)) (upd H l u') w e := fun w e q => is_otherO (mid_mem tl) hu nt q
  refine ⟨hold_append.mpr ⟨?_, ⟨ht fun w e q => me ▸ go w e q, ?_, ?_⟩, ?_⟩, fun w e q => me ▸ go w e q⟩
  · rw [← me]
    exact hold_loc (fun b o m q => by rw [upd_ne (fun e => h5 b m (.inl (by rw [hm]; exact e)))]; exact q) go h1
  · intro a z
    exact h3 a (by rw [hm]; rw [hm'] at z; exact z)
  · rw [← me]
    exact hold_loc (fun b o m q => by rw [upd_ne (fun e => h3 b (by rw [hm]; exact e) m)]; exact q) go h4
  · intro a m z
    refine h5 a m (z.elim (fun z => .inl ?_) .inr)
    rw [hm]; rw [hm'] at z; exact z
theorem mid_anti {a : Addr} (z : mem (pre ++ post) a) : mem (pre ++ t :: post) a := (mem_append.mp z).elim (fun z => mem_append.mpr (.inl z)) fun z => mem_append.mpr (.inr (.inr z))
theorem mid_drop (h : Rok K (pre ++ t :: post) H) : Rok K (pre ++ post) H ∧ Kp K (pre ++ t :: post) H (pre ++ post) H ∧ ∀ a, t.M a → ¬ mem (pre ++ post) a := by
  obtain ⟨h1, ⟨h2, h3, h4⟩, h5⟩ := hold_append.mp h
  refine ⟨hold_append.mpr ⟨hold_anti (fun _ => mid_anti) h1, hold_anti (fun _ => mid_anti) h4, fun a m z => h5 a m (.inr z)⟩, fun _ _ => is_anti fun _ => mid_anti, fun a m z => ?_⟩
  rcases mem_append.mp z with z | z
  · exact h5 a z (.inl m)
  · exact h3 a m z
theorem mid_new {p : Addr} {H' : Hp} (hm : t.M = fun b => b = p) (h : Rok K r H) (hp : H p = none) (e : Ext H H') (ht : (∀ w d, Is K (mem r) H w d → Is K (mem (r ++ [t])) H' w d) → t.R K (mem (r ++ [t])) H') : Rok K (r ++ [t]) H' ∧ Kp K r H (r ++ [t]) H' := by
  have an : ∀ a, mem (r ++ [t]) a → mem r a ∨ a = p := fun a z => (mem_append.mp z).elim .inl fun z => z.elim (fun z => .inr (by rw [hm] at z; exact z)) False.elim
  have go : Kp K r H (r ++ [t]) H' := fun v d q => is_anti an (is_ext e _ _ (is_grow hp q))
  refine ⟨hold_append.mpr ⟨hold_anti an (hold_ext e (hold_grow hp h)), ⟨ht go, fun _ _ z => z, True.intro⟩, fun a m z => ?_⟩, go⟩
  have : a = p := z.elim (fun z => by rw [hm] at z; exact z) False.elim
  subst this
  exact not_al h hp m
end
/-- an instance of our own at a -/
def insA (a C : Addr) (fs : List Str) (ds : List D) : At where
  M := fun b => b = a
  R := fun K N H => Good K C fs ∧ ∃ (dx : Addr) (kvs : List (Str × V)), H a = some (.ins C dx kvs) ∧ kvs.map Prod.fst = fs ∧ IsAll K N H (kvs.map Prod.snd) ds
  loc := fun f g ⟨q, dx, vs, h, e, i⟩ => ⟨q, dx, vs, f _ _ rfl h, e, all_of g i⟩
  anti := fun q ⟨z, dx, vs, h, e, i⟩ => ⟨z, dx, vs, h, e, all_of (fun _ _ => is_anti q) i⟩
  grow := fun hp ⟨z, dx, vs, h, e, i⟩ => ⟨z, dx, vs, h, e, all_of (fun _ _ => is_growD hp) i⟩
  al := fun ⟨z, dx, vs, h, _⟩ b e => ⟨.ins C dx vs, by rw [show b = a from e]; exact h⟩
section
variable {K : PySem.W.Frag} {r pre post : Rs} {H : Hp} {a C : Addr} {fs : List Str} {ds : List D}
theorem ins_drop (h : Rok K (pre ++ insA a C fs ds :: post) H) : Rok K (pre ++ post) H ∧ Is K (mem (pre ++ post)) H (.ref a) (.ins C fs ds) ∧ Kp K (pre ++ insA a C fs ds :: post) H (pre ++ post) H := by
  obtain ⟨h1, h2, h3⟩ := mid_drop h
  obtain ⟨g, dx, kvs, e1, e2, e3⟩ := mid_R h
  exact ⟨h1, .ins (h3 a rfl) e1 e2 g (all_of h2 e3), h2⟩
theorem ins_new {dx : Addr} (h : Rok K r H) (g : Plain K C) (ha : H a = none) (hd : H dx = none) (ne : dx ≠ a) : Ext H (upd (upd H dx (.own a)) a (.ins C dx [])) ∧ Rok K (r ++ [insA a C [] []]) (upd (upd H dx (.own a)) a (.ins C dx [])) ∧ Kp K r H (r ++ [insA a C [] []]) (upd (upd H dx (.own a)) a (.ins C dx [])) := by
  have e : Ext H (upd (upd H dx (.own a)) a (.ins C dx [])) := fun b o q => by
    rw [upd_ne (ne_of_none q ha), upd_ne (ne_of_none q hd)]
    exact q
  exact ⟨e, mid_new rfl h ha e fun _ => ⟨⟨g, fun f z => by cases z⟩, dx, [], upd_same, rfl, .nil⟩⟩
end
inductive oFld (f : Str) : D → Rs → PK1 → Prop
  | fro {C : Addr} {fs : List Str} {ds : List D} {r : Rs} {P : PK1} (i : Nat) (y : D) (h : ixF fs f = some i) (hy : ds[i]? = some y) (p : P y r) : oFld f (.ins C fs ds) r P
  | own {a C : Addr} {fs : List Str} {ds : List D} {r : Rs} {P : PK1} (pre post : Rs) (i : Nat) (y : D) (e : r = pre ++ insA a C fs ds :: post) (h : ixF fs f = some i) (hy : ds[i]? = some y) (p : P y r) : oFld f (.adr a) r P
def aFld (f : Str) (te : AT) : AT := fun x δ r P => te x δ r fun d r1 => oFld f d r1 P
section
variable {X : Cx} {W : WX} {e o value : Expr} {f : Str} {pos pos' : Pos} {te to tv : AT}
theorem d_fld (he : PD X W e te) (hb : attributeBase e f X.env (eval e X.env) = eval e X.env := by rfl) : PD X W (.Attribute e f pos) (aFld f te) := imE (pe_fld he hb) fun σ H Q q => by
  obtain ⟨XR, δ, r, P, ok, h, k⟩ := q
  refine td_bind ok h fun d r1 v H1 h1 o1 k1 i1 => ?_
  cases h1 with
  | @fro C fs ds _ _ i y h hy p =>
    cases i1 with
    | ins n s e2 g a =>
      obtain ⟨v, hv, iv⟩ := a.getD hy
      exact ⟨_, _, _, _, v, rfl, s, g.cls, g.no _ (ixF_mem h), ixF_get e2 h hv, k _ _ _ _ p o1 k1 iv⟩
  | @own a C fs ds _ _ pre post i y e2 h hy p =>
    cases i1
    subst e2
    obtain ⟨g, dx, kvs, s, e3, a⟩ := mid_R o1.r
    obtain ⟨v, hv, iv⟩ := a.getD hy
    exact ⟨_, _, _, _, v, rfl, s, g.cls, g.no _ (ixF_mem h), ixF_get e3 h hv, k _ _ _ _ p o1 k1 iv⟩
/-- o.f = value -/
inductive oPut (C : Addr) (f : Str) (y : D) : D → Rs → (Rs → Prop) → Prop
  | new {a : Addr} {fs : List Str} {ds : List D} {r : Rs} {k : Rs → Prop} (pre post : Rs) (e : r = pre ++ insA a C fs ds :: post) (h : ixF fs f = none) (z : fs.length < 1000) (p : k (pre ++ insA a C (fs ++ [f]) (ds ++ [y]) :: post)) : oPut C f y (.adr a) r k
  | old {a : Addr} {fs : List Str} {ds : List D} {r : Rs} {k : Rs → Prop} (pre post : Rs) (i : Nat) (e : r = pre ++ insA a C fs ds :: post) (h : ixF fs f = some i) (z : fs.length < 1000) (p : k (pre ++ insA a C fs (ds.set i y) :: post)) : oPut C f y (.adr a) r k
def sPut (C : Addr) (f : Str) (to tv : AT) : AS := fun A δ r => tv A.xr δ r fun y r1 => to A.xr δ r1 fun d r2 => oPut C f y d r2 fun r3 => A.nx δ r3
theorem s_put {C : Addr} (n : NoAttr X.K C f) (ho : PD X W o to) (hv : PD X W value tv) (hs : swapsWith value (some (.Attribute o f pos')) pos.line X.env = pure false := by rfl) : PSD X W (.Assign [.Attribute o f pos'] value pos) (sPut C f to tv) :=
  imS (ps_fld ho hv hs) fun Dd σ H ⟨δ, r, A, ok, h, ff⟩ => td_bind ok h fun y r1 v H1 h1 o1 k1 i1 => td_bind o1 h1 fun d r2 v2 H2 h2 o2 k2 i2 => by
    cases h2 with
    | @new a fs ds _ _ pre post e h z p =>
      cases i2
      subst e
      obtain ⟨g, dx, kvs, s, e3, i⟩ := mid_R o2.r
      subst e3
      obtain ⟨q1, q2⟩ := ixF_new (v := v) h
      obtain ⟨z1, z2⟩ := mid_put (t := insA a C _ ds) (t' := insA a C (kvs.map Prod.fst ++ [f]) (ds ++ [y])) (u' := .ins C dx (putF f v kvs)) rfl rfl s (fun xs => ⟨(fun e => by cases e), fun o e => by cases e⟩) o2.r
        (fun go => ⟨⟨g.p, fun x hx => (List.mem_append.mp hx).elim (g.no x) fun hx => by rw [List.mem_singleton.mp hx]; exact n⟩, dx, putF f v kvs, upd_same, q1, by rw [q2]; exact (all_of go i).append (.cons (go _ _ (k2 _ _ i1)) .nil)⟩)
      exact ⟨a, C, dx, kvs, rfl, s, g.cls, n, by rw [List.length_map] at z; exact z, ff.nx _ _ _ _ p (o2.step z2 z1) ((k1.trans k2).trans z2)⟩
    | @old a fs ds _ _ pre post i e h z p =>
      cases i2
      subst e
      obtain ⟨g, dx, kvs, s, e3, i2⟩ := mid_R o2.r
      subst e3
      obtain ⟨q1, q2⟩ := ixF_put (v := v) h
      obtain ⟨z1, z2⟩ := mid_put (t := insA a C _ ds) (t' := insA a C (kvs.map Prod.fst) (ds.set i y)) (u' := .ins C dx (putF f v kvs)) rfl rfl s (fun xs => ⟨(fun e => by cases e), fun o e => by cases e⟩) o2.r
        (fun go => ⟨g, dx, putF f v kvs, upd_same, q1, by rw [q2]; exact set_all (go _ _ (k2 _ _ i1)) i (all_of go i2)⟩)
      exact ⟨a, C, dx, kvs, rfl, s, g.cls, n, by rw [List.length_map] at z; exact z, ff.nx _ _ _ _ p (o2.step z2 z1) ((k1.trans k2).trans z2)⟩
/-- an own instance handed on as data -/
def aFrz (te : AT) : AT := fun x δ r P => te x δ r fun d r1 => ∃ a C fs ds pre post, d = .adr a ∧ r1 = pre ++ insA a C fs ds :: post ∧ P (.ins C fs ds) (pre ++ post)
theorem d_frz (h : PD X W e te) : PD X W e (aFrz te) := imE h fun σ H Q q => by
  obtain ⟨XR, δ, r, P, o, h, k⟩ := q
  refine td_bind o h fun d r1 v H1 h1 o1 k1 i1 => ?_
  obtain ⟨a, C, fs, ds, pre, post, rfl, rfl, h1⟩ := h1
  cases i1
  obtain ⟨q1, q2, q3⟩ := ins_drop o1.r
  exact k _ _ _ _ h1 (o1.step q3 q1) (k1.trans q3) q2
end
def aNew (C : Addr) (sd : SpX) (l : AL) : AT := fun x δ r P => l x δ r fun ds r1 => ∀ a, sd (.adr a :: ds) (r1 ++ [insA a C [] []]) (fun d r2 => d = .non ∧ P (.adr a) r2) fun E fs es r' => x E fs es δ r'
section
variable {X : Cx} {W : WX} {k : Nat} {f C : Addr} {sd : SpX} {x : Str} {p pos : Pos} {e : Expr} {es : List Expr} {l : AL}
theorem run_mk {sp : Sp} {E : XK} {pins : List (Addr × Obj)} {σ : L2.St} {H : Hp} {s : Shared} {Q : VK} {us : List Value} {vs : List V} (M : Mk X.K C f) (F : FnR X.prog X.w X.K X.mg X.base (L2.CX X.prog X.w) k f sp) (hr : Room (k + 1) X.A) (hx : PassesAt (L2.CX X.prog X.w) X σ E) (I : L2.Inv X pins σ H s) (r : Vals vs us)
    (h : ∀ x dx, H x = Option.none → H dx = Option.none → dx ≠ x → sp (V.ref x :: vs) (upd (upd H dx (.own x)) x (.ins C dx [])) (fun v H2 => v = .non ∧ Q (.ref x) H2) E) :
    wpAny (model X.prog X.w) X.A (call (.ref C) us) (EP X pins σ Q) X.xe s := by
  have hq := h (s.heap.objs.size + 1) s.heap.objs.size (I.hok.fresh (Nat.le_succ _)) (I.hok.fresh (Nat.le_refl _)) (Nat.ne_of_lt (Nat.lt_succ_self _))
  have I2 := Inv.made (C := C) I
  have r2 : Vals (V.ref (s.heap.objs.size + 1) :: vs) (Value.ref (s.heap.objs.size + 1) :: us) := .cons rfl r
  refine wpAny_call (make_map (f := f) I.kIn M.makes M.init (beq_iff_eq.mp M.fn) (codeAny_mono (F _ X.stack _ _ (Value.ref (s.heap.objs.size + 1) :: us) _ _ E (hr.make C us []) (I2.env0.make C us []) r2 hq) fun r s' hq' => ?_))
  cases r with
  | error e => exact hx pins _ _ e s' I2 hq'
  | ok fl =>
    cases fl with
    | ret u =>
      obtain ⟨v, H', I3, rv, ev, q3⟩ := I2.after hq'
      subst ev
      exact ⟨rv, ⟨V.ref (s.heap.objs.size + 1), H', I3, rfl, q3⟩⟩
    | next => exact False.elim hq'
    | brk => exact False.elim hq'
    | cont => exact False.elim hq'
theorem d_new (M : Mk X.K C f) (g : Plain X.K C) (F : FR X.prog X.w X.K X.mg X.base k f sd) (tk : Takes X W) (hr : Room (k + 1) X.A) (hm : X.mg x = some (.ref C)) (ha : PDL X W (e :: es) l)
    (hg : Gl X x := by rfl) (hdb : (x == ("__debug__" : Str)) = false := by decide) (he : starEach (e :: es) X.env = (false, eval e X.env) :: starEach es X.env := by rfl) (hpl : (backTo pos (starEach es X.env)).any (·.1) = false := by rfl) :
    PD X W (.Call (.Name x p) (e :: es) [] pos) (aNew C sd l) := by
  refine ⟨fun pins s σ H Q I h => ?_⟩
  refine wpAny_Call_Name_kw (ld_glob I hg hm ?_ hdb)
  obtain ⟨XR, δ, r, P, ok, h, kk⟩ := h
  refine PySem.W.callWith_K (h₀ := X.base) I.ok.mod.kin M.kp (thn (ha.run pos pins s σ H _ I (tdl_bind (Q := fun vs H1 => ∀ x dx, H1 x = Option.none → H1 dx = Option.none → dx ≠ x → lift X.K sd (V.ref x :: vs) (upd (upd H1 dx (.own x)) x (.ins C dx [])) (fun v H2 => v = .non ∧ Q (.ref x) H2) (WE W σ)) ok h fun ds r1 vs H1 h1 o1 k1 i1 x dx hx hd ne => ?_)) fun us s1 ⟨vs, H1, I1, r, q⟩ => ⟨I1.kIn, ?_⟩) he hpl
  · obtain ⟨e1, q1, q2⟩ := ins_new o1.r g hx hd ne
    refine ⟨r1 ++ [insA x C [] []], .adr x :: ds, _, _, q1, .cons (.adr x) (q2.all i1), h1 x, fun d r' v H' ⟨a, b⟩ rr c i => ?_, fun C' fs es r' a H' z ro kk e => ?_⟩
    · subst a
      cases i
      exact ⟨rfl, kk _ r' _ H' b (o1.step (q2.trans c) rr) (k1.trans (q2.trans c)) (.adr x)⟩
    · exact o1.x C' fs es δ r' σ a H' z (o1.b.step (q2.trans kk) ro) (q2.trans kk) e
  · exact run_mk M F hr (passAt tk _) I1 r q
theorem d_new0 (M : Mk X.K C f) (g : Plain X.K C) (F : FR X.prog X.w X.K X.mg X.base k f sd) (tk : Takes X W) (hr : Room (k + 1) X.A) (hm : X.mg x = some (.ref C)) (hg : Gl X x := by rfl) (hdb : (x == ("__debug__" : Str)) = false := by decide) :
    PD X W (.Call (.Name x p) [] [] pos) (aNew C sd aNil) := by
  refine ⟨fun pins s σ H Q I h => ?_⟩
  refine wpAny_Call_Name_kw (ld_glob I hg hm ?_ hdb)
  obtain ⟨XR, δ, r, P, ok, h, kk⟩ := h
  refine PySem.W.callWith_K0 I.kIn M.kp (run_mk (us := []) (vs := []) M F hr (passAt tk _) I .nil fun x dx hx hd ne => ?_)
  obtain ⟨e1, q1, q2⟩ := ins_new ok.r g hx hd ne
  refine ⟨r ++ [insA x C [] []], [.adr x], _, _, q1, .cons (.adr x) .nil, h x, fun d r' v H' ⟨a, b⟩ rr c i => ?_, fun C' fs es r' a H' z ro kk e => ?_⟩
  · subst a
    cases i
    exact ⟨rfl, kk _ r' _ H' b (ok.step (q2.trans c) rr) (q2.trans c) (.adr x)⟩
  · exact ok.x C' fs es δ r' σ a H' z (ok.b.step (q2.trans kk) ro) (q2.trans kk) e
end
inductive isC (C : Addr) : D → Rs → Prop
  | fro {fs : List Str} {ds : List D} {r : Rs} : isC C (.ins C fs ds) r
  | own {a : Addr} {fs : List Str} {ds : List D} {r : Rs} (pre post : Rs) (e : r = pre ++ insA a C fs ds :: post) : isC C (.adr a) r
theorem isC_at {K : PySem.W.Frag} {C : Addr} {d : D} {r : Rs} {v : V} {H : Hp} (h : isC C d r) (ro : Rok K r H) (i : Is K (mem r) H v d) : ∃ a dx kvs, v = .ref a ∧ H a = some (.ins C dx kvs) ∧ Good K C (kvs.map Prod.fst) := by
  cases h with
  | fro =>
    cases i with
    | ins n s e g a => exact ⟨_, _, _, rfl, s, by rw [show List.map Prod.fst _ = _ from e]; exact g⟩
  | own pre post e =>
    cases i
    subst e
    obtain ⟨g, dx, kvs, s, e3, a⟩ := mid_R ro
    exact ⟨_, _, _, rfl, s, by rw [e3]; exact g⟩
theorem lookup_none : ∀ {kvs : List (Str × V)} {m : Str}, m ∉ kvs.map Prod.fst → kvs.lookup m = none
  | [], _, _ => rfl
  | (f, x) :: kvs, m, h => by
    have hb : (m == f) = false := beq_eq_false_iff_ne.mpr fun e => h (by rw [e]; exact List.mem_cons_self)
    rw [List.lookup, hb]
    exact lookup_none fun z => h (List.mem_cons_of_mem _ z)
theorem Meth.free {K : PySem.W.Frag} {C g : Addr} {m : Str} {kvs : List (Str × V)} (k : Meth K C m g) (q : Good K C (kvs.map Prod.fst)) : kvs.lookup m = none := lookup_none fun z => by
  have := (q.no m z).symm.trans k.at_
  cases this
def aMeth (C : Addr) (sd : SpX) (to : AT) (l : AL) : AT := fun x δ r P => to x δ r fun d r1 => isC C d r1 ∧ l x δ r1 fun ds r2 => sd (d :: ds) r2 P fun E fs es r' => x E fs es δ r'
section
variable {X : Cx} {W : WX} {k : Nat} {f C : Addr} {sd : SpX} {m : Str} {apos pos : Pos} {o e : Expr} {es : List Expr} {to : AT} {l : AL} {pl : Sem Bool}
theorem d_meth (hm : Meth X.K C m f) (F : FR X.prog X.w X.K X.mg X.base k f sd) (tk : Takes X W) (hr : Room k X.A) (ho : PD X W o to) (ha : PDL X W (e :: es) l)
    (hst : starEach (e :: es) X.env = (false, eval e X.env) :: starEach es X.env := by rfl) (hpl : (backTo pos (starEach es X.env)).any (·.1) = false := by rfl)
    (ht : eval (.Call (.Attribute o m apos) (e :: es) [] pos) X.env = (do
      let ov ← eval o X.env
      standAt apos.atName
      let (f, first) ← holding [ov] (getMethod ov m pl)
      callWith pos f first (backTo pos (starEach (e :: es) X.env)) (backToKw pos (keywordEach [] X.env))) := by rfl) :
    PD X W (.Call (.Attribute o m apos) (e :: es) [] pos) (aMeth C sd to l) := by
  refine ⟨fun pins s σ H Q I h => ?_⟩
  obtain ⟨XR, δ, r, P, ok, h, kk⟩ := h
  refine PySem.W.methodCall_KW (pl := pl) (thn (ho.run pins s σ H (fun x H1 => ∃ a dx fs, x = V.ref a ∧ H1 a = some (.ins C dx fs) ∧ Cls X.K C ∧ fs.lookup m = none ∧ TDL X.K W l σ H1 fun vs H2 => lift X.K sd (x :: vs) H2 Q (WE W σ)) I (td_bind ok h fun d r1 v H1 ⟨hc, h1⟩ o1 k1 i1 => ?_)) fun u s1 ⟨x, H1, I1, rx, a, dx, fs, ex, ea, c, lk, q⟩ => ?_) ht
  · obtain ⟨a, dx, kvs, rfl, s, g⟩ := isC_at hc o1.r i1
    refine ⟨a, dx, kvs, rfl, s, g.cls, Meth.free hm g, tdl_bind o1 h1 fun ds r2 vs H2 h2 o2 k2 i2 => lift_at o2 (.cons (k2 _ _ i1) i2) h2 fun d' r' v' H' p o3 k3 i3 => kk d' r' v' H' p o3 ((k1.trans k2).trans k3) i3⟩
  · subst ex
    obtain rfl : u = Value.ref a := rx
    refine getmeth_ok I1 ea c hm lk ?_
    refine PySem.W.callWith_K (first := [.ref a]) (h₀ := X.base) I.ok.mod.kin hm.kp (thn (ha.run pos pins s1 σ H1 _ I1 q) fun us s2 ⟨vs, H2, I2, r, q2⟩ => ⟨I2.kIn, ?_⟩) hst hpl
    exact call_P (us := .ref a :: us) (vs := .ref a :: vs) F hr (passAt tk _) I2 (.cons rfl r) q2
end
end G
namespace PySem.W
open Sem (wp)
end PySem.W
namespace G
open PySem PySem.Spec L2
open PyProof.Rows (envOfC)
theorem tyC {K : PySem.W.Frag} {C : Addr} {d : D} {r : Rs} {v : V} {H : Hp} (h : isC C d r) (ro : Rok K r H) (i : Is K (mem r) H v d) : TyX K H v (.ref C) := by
  obtain ⟨a, dx, kvs, rfl, s, g⟩ := isC_at h ro i
  exact .base (.ins s g.cls g.p.kls g.p.get g.p.tak g.p.mro)
/-- what isinstance(.., C) finds at plain data -/
structure IsK (K : PySem.W.Frag) (C : Addr) : Prop where
  ic : PySem.W.isClsIn K C = true
  ty : PySem.W.typeIn K (.ref C) = some (.type "type")
  sub : ∀ n ∈ ks6, PySem.W.subIn K (.type n) (.ref C) = some false
theorem IsK.of {K : PySem.W.Frag} {C : Addr} (k : IsK K C) {t : Value} {b : Bool} (h : PySem.W.subIn K t (.ref C) = some b) (ne : t ≠ .ref C) : PySem.W.kitOne K t (.ref C) = some b := by
  unfold PySem.W.kitOne
  rw [if_neg (fun e => ne (beq_iff_eq.mp e))]
  have e : ((PySem.W.clsIn K C).isSome && PySem.W.typeIn K (.ref C) == some (.type "type")) = true := by
    have := k.ic
    unfold PySem.W.isClsIn at this
    rw [this, k.ty] <;> rfl
  show (if ((PySem.W.clsIn K C).isSome && PySem.W.typeIn K (.ref C) == some (.type "type")) = true then PySem.W.subIn K t (.ref C) else none) = some b
  rw [if_pos e]
  exact h
theorem IsK.no {K : PySem.W.Frag} {C : Addr} (k : IsK K C) : ∀ n ∈ ks6, PySem.W.kitOne K (.type n) (.ref C) = some false := fun n hn => k.of (k.sub n hn) (fun e => by cases e)
theorem IsK.nf {K : PySem.W.Frag} {C : Addr} (k : IsK K C) : ∀ n ∈ ks6, PySem.W.notFirst K C (.type n) = true := fun n hn => by
  unfold PySem.W.notFirst
  rw [k.sub n hn]
  exact Bool.or_true _
theorem kit_self {K : PySem.W.Frag} {C : Addr} : PySem.W.kitOne K (.ref C) (.ref C) = some true := by
  unfold PySem.W.kitOne
  rw [if_pos (beq_self_eq_true _)]
theorem tyD_mem {d : D} (n : nad d = true) : tyD d ∈ ks6 := by
  cases d <;> first | (cases n; done) | simp [tyD, ks6]
inductive oIsC (C : Addr) : D → Rs → PK1 → Prop
  | yes {d : D} {r : Rs} {P : PK1} (h : isC C d r) (p : P (.bl true) r) : oIsC C d r P
  | no {d : D} {r : Rs} {P : PK1} (h : nad d = true) (p : P (.bl false) r) : oIsC C d r P
def aIsC (C : Addr) (t : AT) : AT := fun x δ r P => t x δ r fun d r1 => oIsC C d r1 P
section
variable {X : Cx} {W : WX} {C : Addr} {a b : Expr} {ta tb : AT} {p pos : Pos}
/-- isinstance(x, C) -/
theorem d_isC {q : Pos} {y : Str} (k : IsK X.K C) (hg : Gl X "isinstance") (hm : X.mg "isinstance" = none) (ha : PD X W a ta) (my : X.mg y = some (.ref C)) (gy : Gl X y := by rfl) (hdy : (y == ("__debug__" : Str)) = false := by decide)
    (he : starEach [a, .Name y q] X.env = (false, eval a X.env) :: starEach [.Name y q] X.env := by rfl) (hpl : (backTo pos (starEach [.Name y q] X.env)).any (·.1) = false := by rfl) (he2 : starEach [.Name y q] X.env = (false, eval (.Name y q) X.env) :: starEach [] X.env := by rfl) :
    PD X W (.Call (.Name "isinstance" p) [a, .Name y q] [] pos) (aIsC C ta) := imE (pe_callB call_isi hg hm (by decide +kernel) (pa_cons ha (pa_cons (pe_glob (v := .ref C) gy my rfl hdy) pa_nil he2) he) (by decide) (by decide) he hpl) fun σ H Q q => by
  obtain ⟨XR, δ, r, P, ok, h, k'⟩ := q
  refine td_bind ok h fun d r1 v H1 h1 o1 k1 i1 => ?_
  cases h1 with
  | yes hc p => exact ⟨v, .ref C, _, _, _, rfl, .own C, tyC hc o1.r i1, kit_self, k' _ r1 _ H1 p o1 k1 (.bl _)⟩
  | no n p => exact ⟨v, .ref C, _, _, _, rfl, .own C, tyX i1 n, k.no _ (tyD_mem n), k' _ r1 _ H1 p o1 k1 (.bl _)⟩
end
structure EqK (K : PySem.W.Frag) (C g : Addr) : Prop where
  at_ : PySem.W.findIn K (.ref C) "__eq__" = some (some (.ref g))
  fn : PySem.W.isFn K (.ref g) = true
  nf : ∀ n ∈ ks6, PySem.W.notFirst K C (.type n) = true
  ne : PySem.W.findIn K (.ref C) "__ne__" = some (some (.builtin "object.__ne__"))
structure SMet (K : PySem.W.Frag) (C : Addr) (mc : Value) (m : Str) (p g : Addr) : Prop where
  rd : ClX.CRead K C mc
  at_ : PySem.W.findCls K (.ref C) mc m = some (.get (.builtin "staticmethod.__get__") (.ref p) .none (.ref C))
  rc : ∃ rest, PySem.W.recIn K p "staticmethod" = some (.ref g :: rest)
  kp : PySem.W.keepIn K (.ref g) = true
section
variable {X : Cx} {W : WX} {k : Nat} {C p g : Addr} {mc : Value} {m y : Str} {sd : SpX} {q apos pos : Pos} {e : Expr} {es : List Expr} {l : AL} {pl : Sem Bool}
theorem d_stat (k1 : SMet X.K C mc m p g) (F : FR X.prog X.w X.K X.mg X.base k g sd) (tk : Takes X W) (hr : Room k X.A) (my : X.mg y = some (.ref C)) (ha : PDL X W (e :: es) l) (gy : Gl X y := by rfl) (hdy : (y == ("__debug__" : Str)) = false := by decide)
    (hst : starEach (e :: es) X.env = (false, eval e X.env) :: starEach es X.env := by rfl) (hpl : (backTo pos (starEach es X.env)).any (·.1) = false := by rfl)
    (ht : eval (.Call (.Attribute (.Name y q) m apos) (e :: es) [] pos) X.env = (do
      let ov ← eval (.Name y q) X.env
      standAt apos.atName
      let (f, first) ← holding [ov] (getMethod ov m pl)
      callWith pos f first (backTo pos (starEach (e :: es) X.env)) (backToKw pos (keywordEach [] X.env))) := by rfl) :
    PD X W (.Call (.Attribute (.Name y q) m apos) (e :: es) [] pos) (aCall sd l) := by
  refine ⟨fun pins s σ H Q I h => ?_⟩
  obtain ⟨XR, δ, r, P, ok, h, kk⟩ := h
  refine PySem.W.methodCall_KW (pl := pl) (ld_glob I gy my ?_ hdy) ht
  obtain ⟨rest, hp⟩ := k1.rc
  refine PySem.W.method_cls I.kIn k1.rd.ga (PySem.W.cls_bind I.kIn k1.rd.rd k1.at_ (wpAny_call (PySem.W.sm_get (s := { s with toks := s.toks + 1 }) I.kIn hp (PySem.W.handed_on rfl ?_))))
  refine PySem.W.callWith_K (first := []) (h₀ := X.base) I.ok.mod.kin k1.kp (thn (ha.run pos pins _ σ H _ (I.tok _) (tdl_bind ok h fun ds r1 vs H1 h1 o1 kk1 i1 => lift_at o1 i1 h1 fun d' r' v' H' p o3 k3 i3 => kk d' r' v' H' p o3 (kk1.trans k3) i3)) fun us s1 ⟨vs, H1, I1, r, q1⟩ => ⟨I1.kIn, ?_⟩) hst hpl
  exact call_P (us := us) (vs := vs) F hr (passAt tk _) I1 r q1
end
def aXf (a : Addr) (cls : Value) (d : Option Addr) (Cs : List Addr) (f : Str) (te : AT) : AT := fun x δ r P => te x δ r fun v r1 => v = .adr a ∧ ∃ C dx fs ds i y pre post, C ∈ Cs ∧ cls = .ref C ∧ d = some dx ∧ r1 = pre ++ xdA dx fs ds :: post ∧ ixF fs f = some i ∧ ds[i]? = some y ∧ P y r1
section
theorem d_xf {X : Cx} {W : WX} {a : Addr} {oe : Obj} {cls : Value} {d : Option Addr} {pn : List (Addr × Obj)} {Cs : List Addr} {e : Expr} {te : AT} {pos : Pos} {f : Str} (T : ∀ C ∈ Cs, XfC X.K C ∧ PySem.W.findIn X.K (.ref C) f = some none)
    (hz : Zc cls d oe) (hf : ∃ vs, oe.data = .fields vs) (he : PD (X.suite a ((a, oe) :: pn)) W e te) (hb : attributeBase e f X.env (eval e X.env) = eval e X.env := by rfl) : PD (X.suite a ((a, oe) :: pn)) W (.Attribute e f pos) (aXf a cls d Cs f te) := by
  refine ⟨fun pins s σ H Q I h => ?_⟩
  obtain ⟨XR, δ, r, P, ok, h, kk⟩ := h
  refine attr_of hb (thn (he.run pins s σ H (fun x H1 => x = V.ref a ∧ ∃ C ∈ Cs, cls = .ref C ∧ ∃ (dd : Addr) (fs : List (Str × V)) (v : V), d = some dd ∧ H1 dd = some (.xd fs) ∧ fs.lookup f = some v ∧ Q v H1) I (td_bind ok h fun dv r1 v H1 h1 o1 k1 i1 => ?_)) fun u s1 hh => ?_)
  · obtain ⟨rfl, C, dx, fs, ds, i, y, pre, post, hC, ec, ed, er, hi, hy, p⟩ := h1
    cases i1
    subst er
    obtain ⟨kvs, e1, e2, e3⟩ := mid_R o1.r
    obtain ⟨v, hv, iv⟩ := e3.getD hy
    exact ⟨rfl, C, hC, ec, dx, kvs, v, ed, e1, ixF_get e2 hi hv, kk _ _ _ _ p o1 k1 iv⟩
  · obtain ⟨x, H1, I1, rx, ex, C, hC, ec, dd, fs, v, ed, ea, l, q⟩ := hh
    subst ex
    obtain rfl : u = Value.ref a := rx
    subst ec
    subst ed
    obtain ⟨T1, hno⟩ := T C hC
    obtain ⟨ha, _⟩ := I1.pin (a, oe) (List.mem_append_left _ List.mem_cons_self)
    obtain ⟨vs, hd⟩ := hf
    have hx : ObjOk X.prog X.w H1 s1.heap dd (.xd fs) := I1.hok dd _ ea
    obtain ⟨mA, hns, hr⟩ := hx
    obtain ⟨od, ho, hl⟩ := lookIn_ns hns
    obtain ⟨u, hu, ru⟩ := RelO.some_of (v := v) (o := mA f) (by rw [← l]; exact hr f)
    have J : PySem.W.InstAt s1.heap a oe C (some od) := ⟨ha, hz.1, by unfold PySem.W.notCls; rw [hd] <;> rfl, by rw [hz.2]; exact ho⟩
    exact HandSPX.exc_get I1.kIn J T1.ga T1.gg T1.exC (PySem.W.findObj_own T1.hdC hno rfl (by rw [hl, hu])) (handed_of ru) ⟨v, H1, I1.tok _, ru, q⟩
end
end G
namespace G
open PySem PySem.Spec L2
open PyProof.Rows (envOfC)
/-- a def as it stands behind the top, whatever its defaults are -/
structure FunA (K : PySem.W.Frag) (x qual : Str) (st : Stmt) (f : Addr) (fd : FuncData) : Prop where
  ex : ∃ (oc : Value) (od : Option Addr) (dV kV doc pm : Value) (an : Option Addr) (cdv ct : Value) (osl : Array (Option Value)),
    fd = PySem.W.fnOf x qual (defArgs st) (defBody st) (defScope st) dV kV doc pm an cdv ct ∧ K.lookup f = some ⟨oc, od, .func fd, osl⟩ ∧ PySem.W.codeIn K cdv qual = true
section
variable {P : Program} {w : World} {K : PySem.W.Frag} {mg : Str → Option Value} {base : Heap}
/-- THE RULE for such a def -/
theorem fnA_d {x qual : Str} {st : Stmt} {f : Addr} {fd : FuncData} {N ps : List Str} {k : Nat} {sd : SpX} (F : FunA K x qual st f fd) (S : FnScope N ps (defScope st)) (len : ∀ ds r P' XR, sd ds r P' XR → ds.length = ps.length)
    (hbody : ∀ (cdv : Value) (A : Around) (outer : List Env) (s : Shared) (H : Hp) (E : XK), Room k (A.deeper (envOfC qual (defScope st) s.heap.objs.size f cdv)) → Takes (cxOf (L2.CX P w) P w K mg base N qual (defScope st) f cdv A outer s H E) (WK E) →
      PassesOwn (model P w) (cxOf (L2.CX P w) P w K mg base N qual (defScope st) f cdv A outer s H E).A (cxOf (L2.CX P w) P w K mg base N qual (defScope st) f cdv A outer s H E).env (cxOf (L2.CX P w) P w K mg base N qual (defScope st) f cdv A outer s H E).xe →
      ∃ t : AS, PBD (cxOf (L2.CX P w) P w K mg base N qual (defScope st) f cdv A outer s H E) (WK E) (defBody st) t ∧
      ∀ ds r P' XR, sd ds r P' XR → t { nx := fun _ r' => fit P' .non r', rt := fit P', xr := fitX XR } (startD N ds) r) : FO P w K mg base (k + 1) f fd ps sd := by
  obtain ⟨oc, od, dV, kV, doc, pm, an, cdv, ct, osl, rfl, lk, hcd⟩ := F.ex
  refine fn_of lk hcd S (fun vs H Q E h => ?_) fun A outer s H vs Q E hr h => ?_
  · obtain ⟨r, ds, P', XR, hr, hi, hs, _, _⟩ := h
    rw [hi.length]
    exact len _ _ _ _ hs
  · obtain ⟨r, ds, P', XR, ro, hi, hs, hq, hx⟩ := h
    obtain ⟨t, ht, hread⟩ := hbody cdv A outer s H E hr (takes_of rfl rfl rfl rfl) (passes_of rfl)
    refine ⟨_, ht, startD N ds, r, { nx := fun _ r' => fit P' .non r', rt := fit P', xr := fitX XR }, start_ok ro hi ?_, hread ds r P' XR hs, ⟨fun δ' r' σ' H' a o k => ?_, fun d r' v H' a o k i => ?_, fun _ _ _ _ z => z.elim, fun _ _ _ _ z => z.elim⟩⟩
    · rintro C fs es δ' r' σ' a H' ⟨r0, l, q⟩ o k e
      exact hx C fs es r0 a H' q (l.r _ _ o.r) (k.trans l.kp) (e.anti l.m)
    · obtain ⟨r0, l, a⟩ := a
      exact hq _ r0 _ H' a (l.r _ _ o.r) (k.trans l.kp) .non
    · obtain ⟨r0, l, a⟩ := a
      exact hq _ r0 _ H' a (l.r _ _ o) (k.trans l.kp) (is_anti l.m i)
end
/-- what a body must give -/
def Bod (P : Program) (w : World) (K : PySem.W.Frag) (mg : Str → Option Value) (base : Heap) (qual : Str) (st : Stmt) (N : List Str) (k : Nat) (sd : SpX) : Prop :=
  ∀ (f : Addr) (cdv : Value) (A : Around) (outer : List Env) (s : Shared) (H : Hp) (E : XK), Room k (A.deeper (envOfC qual (defScope st) s.heap.objs.size f cdv)) → Takes (cxOf (L2.CX P w) P w K mg base N qual (defScope st) f cdv A outer s H E) (WK E) →
      PassesOwn (model P w) (cxOf (L2.CX P w) P w K mg base N qual (defScope st) f cdv A outer s H E).A (cxOf (L2.CX P w) P w K mg base N qual (defScope st) f cdv A outer s H E).env (cxOf (L2.CX P w) P w K mg base N qual (defScope st) f cdv A outer s H E).xe →
      ∃ t : AS, PBD (cxOf (L2.CX P w) P w K mg base N qual (defScope st) f cdv A outer s H E) (WK E) (defBody st) t ∧
      ∀ ds r P' XR, sd ds r P' XR → t { nx := fun _ r' => fit P' .non r', rt := fit P', xr := fitX XR } (startD N ds) r
/-- an own class: where it stands, how it answers -/
structure KCls (K : PySem.W.Frag) (mg : Str → Option Value) (x : Str) (C : Addr) (fs : List Str) : Prop where
  g : mg x = some (.ref C)
  p : Plain K C
  no : ∀ f ∈ fs, NoAttr K C f
  isk : IsK K C
theorem fm_nil {α : Type} {p : α → Prop} : ∀ x ∈ ([] : List α), p x := fun _ h => by cases h
theorem fm_cons {α : Type} {p : α → Prop} {a : α} {l : List α} (h : p a) (t : ∀ x ∈ l, p x) : ∀ x ∈ a :: l, p x := fun x hx => by
  rcases List.mem_cons.mp hx with e | hx
  · rw [e]; exact h
  · exact t x hx
/-- methods, static methods, makers: where their defs stand -/
def DfM (K : PySem.W.Frag) (C : Addr) (m qual : Str) (st : Stmt) (ps : List Str) : Prop := ∃ f fd, FunA K m qual st f fd ∧ Meth K C m f ∧ Binds K fd ps []
def DfS (K : PySem.W.Frag) (C : Addr) (m qual : Str) (st : Stmt) (ps : List Str) : Prop := ∃ mc p f fd, FunA K m qual st f fd ∧ SMet K C mc m p f ∧ Binds K fd ps []
/-- dd: the defaults -/
def DfN (K : PySem.W.Frag) (C : Addr) (qual : Str) (st : Stmt) (ps : List Str) (dd : List D) : Prop := ∃ f fd, FunA K "__init__" qual st f fd ∧ Mk K C f ∧ ∀ j, j ≤ dd.length → ∃ dus dvs, Binds K fd ps dus ∧ Vals dvs dus ∧ ∀ M H, IsAll K M H dvs (dd.drop j)
def DfE (K : PySem.W.Frag) (C : Addr) (qual : Str) (st : Stmt) (ps : List Str) : Prop := ∃ f fd, FunA K "__eq__" qual st f fd ∧ EqK K C f ∧ Binds K fd ps []
/-- .. and what they promise -/
def ClM (P : Program) (w : World) (K : PySem.W.Frag) (mg : Str → Option Value) (base : Heap) (k : Nat) (C : Addr) (m : Str) (sd : SpX) : Prop := ∃ f, Meth K C m f ∧ FR P w K mg base k f sd
def ClS (P : Program) (w : World) (K : PySem.W.Frag) (mg : Str → Option Value) (base : Heap) (k : Nat) (C : Addr) (m : Str) (sd : SpX) : Prop := ∃ mc p f, SMet K C mc m p f ∧ FR P w K mg base k f sd
def ClN (P : Program) (w : World) (K : PySem.W.Frag) (mg : Str → Option Value) (base : Heap) (k : Nat) (C : Addr) (dd : List D) (sd : SpX) : Prop := ∃ f, Mk K C f ∧ ∀ j, j ≤ dd.length → FR P w K mg base k f (fun ds r P XR => sd (ds ++ dd.drop j) r P XR)
def ClE (P : Program) (w : World) (K : PySem.W.Frag) (mg : Str → Option Value) (base : Heap) (k : Nat) (C : Addr) (sd : SpX) : Prop := ∃ f, EqK K C f ∧ FR P w K mg base k f sd
section
variable {P : Program} {w : World} {K : PySem.W.Frag} {mg : Str → Option Value} {base : Heap} {C : Addr} {m qual : Str} {st : Stmt} {N ps : List Str} {dd : List D} {k j : Nat} {sd sd' : SpX}
theorem clm_of (d : DfM K C m qual st ps) (S : FnScope N ps (defScope st)) (len : ∀ ds r P' XR, sd ds r P' XR → ds.length = ps.length) (h : Bod P w K mg base qual st N k sd) : ClM P w K mg base (k + 1) C m sd := by
  obtain ⟨f, fd, F, M, b⟩ := d
  exact ⟨f, M, fr_of (fnA_d F S len (h f)) b⟩
theorem cls_of (d : DfS K C m qual st ps) (S : FnScope N ps (defScope st)) (len : ∀ ds r P' XR, sd ds r P' XR → ds.length = ps.length) (h : Bod P w K mg base qual st N k sd) : ClS P w K mg base (k + 1) C m sd := by
  obtain ⟨mc, p, f, fd, F, M, b⟩ := d
  exact ⟨mc, p, f, M, fr_of (fnA_d F S len (h f)) b⟩
theorem cln_of (d : DfN K C qual st ps dd) (S : FnScope N ps (defScope st)) (len : ∀ ds r P' XR, sd ds r P' XR → ds.length = ps.length) (h : Bod P w K mg base qual st N k sd) : ClN P w K mg base (k + 1) C dd sd := by
  obtain ⟨f, fd, F, M, b⟩ := d
  refine ⟨f, M, fun j hj => ?_⟩
  obtain ⟨dus, dvs, b1, b2, b3⟩ := b j hj
  exact fr_dfl (fnA_d F S len (h f)) b1 b2 b3
theorem cle_of (d : DfE K C qual st ps) (S : FnScope N ps (defScope st)) (len : ∀ ds r P' XR, sd ds r P' XR → ds.length = ps.length) (h : Bod P w K mg base qual st N k sd) : ClE P w K mg base (k + 1) C sd := by
  obtain ⟨f, fd, F, M, b⟩ := d
  exact ⟨f, M, fr_of (fnA_d F S len (h f)) b⟩
end
section
variable {X : Cx} {W : WX} {k j : Nat} {C : Addr} {sd : SpX} {dd : List D} {x y m : Str} {fs : List Str} {p q apos pos : Pos} {e o a b : Expr} {es : List Expr} {l : AL} {to ta tb : AT} {pl : Sem Bool}
theorem d_mt (M : ClM X.prog X.w X.K X.mg X.base k C m sd) (tk : Takes X W) (hr : Room j X.A) (ho : PD X W o to) (ha : PDL X W (e :: es) l) (hj : k ≤ j := by first | decide | exact Nat.le_refl _ | omega)
    (hst : starEach (e :: es) X.env = (false, eval e X.env) :: starEach es X.env := by rfl) (hpl : (backTo pos (starEach es X.env)).any (·.1) = false := by rfl)
    (ht : eval (.Call (.Attribute o m apos) (e :: es) [] pos) X.env = (do
      let ov ← eval o X.env
      standAt apos.atName
      let (f, first) ← holding [ov] (getMethod ov m pl)
      callWith pos f first (backTo pos (starEach (e :: es) X.env)) (backToKw pos (keywordEach [] X.env))) := by rfl) :
    PD X W (.Call (.Attribute o m apos) (e :: es) [] pos) (aMeth C sd to l) := by
  obtain ⟨f, M, F⟩ := M
  exact d_meth M F tk (hr.mono hj) ho ha hst hpl ht
theorem d_st (M : ClS X.prog X.w X.K X.mg X.base k C m sd) (kc : KCls X.K X.mg y C fs) (tk : Takes X W) (hr : Room j X.A) (ha : PDL X W (e :: es) l) (hj : k ≤ j := by first | decide | exact Nat.le_refl _ | omega) (gy : Gl X y := by rfl) (hdy : (y == ("__debug__" : Str)) = false := by decide)
    (hst : starEach (e :: es) X.env = (false, eval e X.env) :: starEach es X.env := by rfl) (hpl : (backTo pos (starEach es X.env)).any (·.1) = false := by rfl)
    (ht : eval (.Call (.Attribute (.Name y q) m apos) (e :: es) [] pos) X.env = (do
      let ov ← eval (.Name y q) X.env
      standAt apos.atName
      let (f, first) ← holding [ov] (getMethod ov m pl)
      callWith pos f first (backTo pos (starEach (e :: es) X.env)) (backToKw pos (keywordEach [] X.env))) := by rfl) :
    PD X W (.Call (.Attribute (.Name y q) m apos) (e :: es) [] pos) (aCall sd l) := by
  obtain ⟨mc, p, f, M, F⟩ := M
  exact d_stat M F tk (hr.mono hj) kc.g ha gy hdy hst hpl ht
/-- C(..), the defaults behind the first i used -/
theorem d_mk (i : Nat) (M : ClN X.prog X.w X.K X.mg X.base k C dd sd) (kc : KCls X.K X.mg x C fs) (tk : Takes X W) (hr : Room j X.A) (ha : PDL X W (e :: es) l) (hi : i ≤ dd.length := by first | decide | exact Nat.le_refl _) (hj : k + 1 ≤ j := by first | decide | exact Nat.le_refl _ | omega)
    (hg : Gl X x := by rfl) (hdb : (x == ("__debug__" : Str)) = false := by decide) (he : starEach (e :: es) X.env = (false, eval e X.env) :: starEach es X.env := by rfl) (hpl : (backTo pos (starEach es X.env)).any (·.1) = false := by rfl) :
    PD X W (.Call (.Name x p) (e :: es) [] pos) (aNew C (fun ds r P XR => sd (ds ++ dd.drop i) r P XR) l) := by
  obtain ⟨f, M, F⟩ := M
  exact d_new M kc.p (F i hi) tk (hr.mono hj) kc.g ha hg hdb he hpl
end
end G
namespace G
open PySem PySem.Spec PySem.W L2 PyProof.Rows
theorem lookup_mem : ∀ {α : Type} {l : List (Str × α)} {x : Str} {k : α}, l.lookup x = some k → (x, k) ∈ l
  | _, [], x, k, h => by cases h
  | _, (y, j) :: l, x, k, h => by
    rw [List.lookup] at h
    split at h
    · rename_i e
      cases h
      rw [beq_iff_eq.mp e]
      exact List.mem_cons_self
    · exact List.mem_cons_of_mem _ (lookup_mem h)
def freeOk (q : Str × NameKind) : Bool := match q.2 with
  | .cell => false
  | .free => q.1 == "__class__"
  | _ => true
theorem free_of {l : List (Str × NameKind)} (h : l.all freeOk = true) : (∀ x, l.lookup x = some .cell ∨ l.lookup x = some .free → x = "__class__") ∧ ∀ x ∈ l, x.2 ≠ .cell := by
  refine ⟨fun x e => ?_, fun x hx e => ?_⟩
  · rcases e with e | e
    · have := List.all_eq_true.mp h _ (lookup_mem e)
      cases this
    · have := List.all_eq_true.mp h _ (lookup_mem e)
      exact beq_iff_eq.mp this
  · have := List.all_eq_true.mp h x hx
    unfold freeOk at this
    rw [e] at this
    cases this
/-- what an except clause and a read of the field ask, too -/
structure ErrX (P : Program) (w : World) (K : PySem.W.Frag) (mg : Str → Option Value) (base : Heap) (x : Str) (C : Addr) (fld : Str) : Prop where
  c : ErrC P w K mg base x C fld
  xf : XfC K C
  no : findIn K (.ref C) fld = some none
  hd : hasDictIn K C = true
  se : subIn K (.ref C) (.ref C) = some true
theorem ErrX.exm {P : Program} {w : World} {K : PySem.W.Frag} {mg : Str → Option Value} {base : Heap} {x fld : Str} {C C' : Addr} {b : Bool} (e : ErrX P w K mg base x C fld) (h : subIn K (.ref C') (.ref C) = some b) : exmOne K (.ref C') (.ref C) = some b :=
  exm_ref e.c.cls.exC e.hd e.c.cls.tyC h
theorem errX_mk {P : Program} {w : World} {K : PySem.W.Frag} {h : Heap} {mg : Str → Option Value} {base : Heap} (X : K.In h) (G : h.Ns mainGlobals mg) {x fld prm qual : Str} {C fI cc cda N : Addr} {st : Stmt} {dV kV doc pm ct oc ccl cl : Value} {an od cdd cld : Option Addr} {osl ccs csl : Array (Option Value)} {vs0 : Array Value} {file : Str} {tf : Tok}
    {p0 p1 p2 p3 p4 p5 p6 p7 p8 p9 : Pos} {txt : Str} {jj : _} {nm q : Str} {bs bm : List Value} {sn : List Str} {sub : List Value} {ab : Bool} {col : Option Bool} {dd : Option Addr} {k0 k1 k2 k3 k5 : Option Value}
    (cg : nsIn K mainGlobals x = some (some (.ref C))) (xL : K.lookup C = some (excClassObj nm q C N bs bm true sn sub ab col dd k0 k1 k2 k3 k5 "ValueError.__new__"))
    (sa : findIn K (.ref C) "__setattr__" = some (some (.builtin "object.__setattr__"))) (exC : subIn K (.ref C) (.type "BaseException") = some true) (tyC : typeIn K (.ref C) = some (.type "type")) (kC : keepIn K (.ref C) = true)
    (i1 : findIn K (.ref C) "__init__" = some (some (.ref fI))) (i2 : typeIn K (.ref fI) = some (.type "function"))
    (mro : mroIn K C (.ref C) = some true) (sve : subIn K (.ref C) (.type "ValueError") = some true) (sup : ks_superIn K C C "__init__" = some (some (.builtin "ValueError.__init__"))) (opq : nsIn K cStatics "thirdparty.any" = some none) (zs : nsIn K mainGlobals "super" = some none)
    (lk : K.lookup fI = some ⟨oc, od, .func (ksFn "__init__" qual (defArgs st) (defBody st) (defScope st) dV kV doc pm an (.ref cda) ct cc), osl⟩)
    (hcd : codeIn K (.ref cda) qual = true) (hno : findIn K (.ref C) fld = some none)
    (hcode : K.lookup cda = some ⟨ccl, cdd, .fields vs0, ccs⟩) (hcell : K.lookup cc = some ⟨cl, cld, .cell (some (.ref C)), csl⟩)
    (ga : findIn K (.ref C) "__getattribute__" = some (some (.builtin "BaseException.__getattribute__"))) (gg : findIn K (.ref C) "__getattr__" = some none) (hd : hasDictIn K C = true) (se : subIn K (.ref C) (.ref C) = some true)
    (hbm : PySem.HandSPX.refsVE bm = true) (hvs : vs0[2]? = some (.str file tf)) (hfile : ((P.main.file : Str) == file) = true) (top : (P.main.scope.names.lookup ("super" : Str)).isSome = false)
    (hbody : defBody st = [.Expr (.Call (.Attribute (.Call (.Name "super" p0) [] [] p1) "__init__" p2) [.Constant (.str txt) jj p3] [] p4) p5, .Assign [.Attribute (.Name "self" p6) fld p7] (.Name prm p8) p9])
    (hp : ∃ ar : Arg, ((defArgs st).posonlyargs ++ (defArgs st).args).head? = some ar ∧ ar.arg = "self")
    (hnm : (defScope st).names.lookup ("self" : Str) = some .local ∧ (defScope st).names.lookup prm = some .local ∧ (defScope st).names.lookup ("super" : Str) = some .globalImplicit ∧ (defScope st).names.lookup ("__class__" : Str) = some .free)
    (hfree : (defScope st).names.all freeOk = true) (hsc : (defScope st).isCoroutine = false ∧ (defScope st).isGenerator = false ∧ (defScope st).kind = .function) (hps : ("self" : Str) ≠ prm) (hcdbg : (prm == ("__debug__" : Str)) = false ∧ (prm == ("__classdict__" : Str)) = false)
    (hin : ∀ L, interactive (ksEnv qual (defScope st) L fI (.ref cda) cc) = false)
    (hpl1 : ∀ L, swapsWith (.Call (.Attribute (.Call (.Name "super" p0) [] [] p1) "__init__" p2) [.Constant (.str txt) jj p3] [] p4) none p5.line (ksEnv qual (defScope st) L fI (.ref cda) cc) = pure false)
    (hev : ∀ L, ∃ pl : Sem Bool, eval (.Call (.Attribute (.Call (.Name "super" p0) [] [] p1) "__init__" p2) [.Constant (.str txt) jj p3] [] p4) (ksEnv qual (defScope st) L fI (.ref cda) cc) = (do
      let ov ← attributeBase (.Call (.Name "super" p0) [] [] p1) "__init__" (ksEnv qual (defScope st) L fI (.ref cda) cc) (eval (.Call (.Name "super" p0) [] [] p1) (ksEnv qual (defScope st) L fI (.ref cda) cc))
      standAt p2.atName
      let (f, first) ← holding [ov] (getMethod ov "__init__" pl)
      callWith p4 f first (backTo p4 (starEach [.Constant (.str txt) jj p3] (ksEnv qual (defScope st) L fI (.ref cda) cc))) []))
    (hpl2 : ∀ L, swapsWith (.Name prm p8) (some (.Attribute (.Name "self" p6) fld p7)) p9.line (ksEnv qual (defScope st) L fI (.ref cda) cc) = pure false)
    (bnd : ∀ us : List Value, us.length = 2 → bindArgs (ksFn "__init__" qual (defArgs st) (defBody st) (defScope st) dV kV doc pm an (.ref cda) ct cc) ⟨us, []⟩ = pure ((["self", prm] : List Str).zip us)) : ErrX P w K mg base x C fld := by
  have oc : OexC K C := ⟨⟨_, _, _, _, _, _, _, _, _, _, _, _, _, _, _, xL, hbm⟩, sa, exC, tyC, kC⟩
  have T : ErrK P K mg C := ⟨oc, mro, sve, sup, opq, mg_none_of X G zs, top⟩
  obtain ⟨f1, f2⟩ := free_of hfree
  obtain ⟨cd0, hD, _⟩ := any_some hd
  refine ⟨⟨mg_of X G cg, oc, fI, _, prm, i1, i2, ?_, .all bnd⟩, ⟨ga, gg, exC, hd⟩, hno, hd, se⟩
  rw [hbody] at lk ⊢
  exact exinit (j := 0) (cdv := .none) T lk hcd hD hno hcode hvs hfile hcell hp hnm f1 f2 hsc hps hcdbg hin hpl1 hev hpl2
theorem dflt_one {K : Frag} {x qual : Str} {params : Arguments} {body : List Stmt} {scope : Scope} {ps : List Str} {T : Addr} {to_ : Option Addr} {ti : Array Value} {tn : Nat} {tsl : Array (Option Value)} {kV doc pm cdv ct : Value} {an : Option Addr} {us0 : List Value} {dvs : List V} {dd : List D}
    (lT : K.lookup T = some ⟨.type "tuple", to_, .seq ti tn, tsl⟩) (e : ti.toList = us0) (rv : Vals dvs us0) (hi : ∀ M H, IsAll K M H dvs dd) (j : Nat)
    (h : ∀ us its : List Value, us.length = ps.length - (us0.length - j) → its.length = us0.length → ∃ k, bindArgs (fnOf x qual params body scope (.ref T) kV doc pm an cdv ct) ⟨us, []⟩ = seqItems? (.ref T) >>= k ∧ k (some its.toArray) = pure (ps.zip (us ++ its.drop j)))
    : ∃ dus dvs', Binds K (fnOf x qual params body scope (.ref T) kV doc pm an cdv ct) ps dus ∧ Vals dvs' dus ∧ ∀ M H, IsAll K M H dvs' (dd.drop j) := by
  refine ⟨us0.drop j, dvs.drop j, fun s us X hlen => ?_, rv.drop j, fun M H => (hi M H).drop j⟩
  have l2 : us.length = ps.length - (us0.length - j) := by
    rw [List.length_append, List.length_drop] at hlen
    omega
  obtain ⟨k, e1, e2⟩ := h us us0 l2 rfl
  refine BindsTo.of_looks fun M => ?_
  rw [e1]
  refine looks_items X lT rfl (.of_pure ?_)
  rw [← e2, ← e, Array.toArray_toList]
end G
namespace G
open PySem PySem.Spec L2
def melt (i : Nat) (t : AS) : AS := fun A δ r => ∃ q ds pre post, lk δ i = some (.adr q) ∧ r = pre ++ lstA q ds :: post ∧ t A (δ.set i (some (.lst ds))) (pre ++ post)
theorem Okb.name {K : PySem.W.Frag} {r : Rs} {δ : Dl} {σ : L2.St} {H : Hp} (o : Okb K r δ σ H) {i : Nat} {d d' : D} (hi : δ[i]? = some (some d)) (h : ∀ v, Is K (mem r) H v d → Is K (mem r) H v d') : Okb K r (δ.set i (some d')) σ H := by
  refine ⟨fun j e he => ?_, o.r, by rw [List.length_set]; exact o.len⟩
  by_cases hj : j = i
  · subst hj
    have hl : j < δ.length := by
      have := (List.getElem?_eq_some_iff.mp he).1
      rwa [List.length_set] at this
    rw [List.getElem?_set_self hl] at he
    cases he
    obtain ⟨v, h1, h2⟩ := o.env j d hi
    exact ⟨v, h1, h v h2⟩
  · rw [List.getElem?_set_ne (Ne.symm hj)] at he
    exact o.env j e he
theorem tsd_melt {K : PySem.W.Frag} {W : WX} {t : AS} {i : Nat} {D : Ends} {σ : L2.St} {H : Hp} (h : TSD K W (melt i t) D σ H) : TSD K W t D σ H := by
  obtain ⟨δ, r, A, o, ⟨q, ds, pre, post, hl, rfl, h⟩, f⟩ := h
  obtain ⟨h1, h2, h3⟩ := own_drop o.r
  refine ⟨_, _, A, ⟨(o.b.step h3 h1).name (lk_get hl) (fun v z => by cases z; exact h2), o.x.step h3⟩, h, ⟨fun δ' r' σ' H' a o' k => f.nx _ _ _ _ a o' (h3.trans k), fun d r' v H' a o' k i => f.rt _ _ _ _ a o' (h3.trans k) i, fun δ' r' σ' H' a o' k => f.bk _ _ _ _ a o' (h3.trans k), fun δ' r' σ' H' a o' k => f.ct _ _ _ _ a o' (h3.trans k)⟩⟩
section
variable {X : Cx} {W : WX} {st : Stmt} {t : AS}
theorem s_melt (i : Nat) (h : PSD X W st t) : PSD X W st (melt i t) := imS h fun D σ H q => tsd_melt q
end
theorem hc0 {K : PySem.W.Frag} {c : Value} : ∀ p ∈ ([] : List (Addr × Bool)), PySem.W.exmOne K (.ref p.1) c = some p.2 := fm_nil
theorem hcc {K : PySem.W.Frag} {c : Value} {C : Addr} {b : Bool} {l : List (Addr × Bool)} (h : PySem.W.exmOne K (.ref C) c = some b) (t : ∀ p ∈ l, PySem.W.exmOne K (.ref p.1) c = some p.2) : ∀ p ∈ (C, b) :: l, PySem.W.exmOne K (.ref p.1) c = some p.2 := fm_cons h t
def sCut (t : AS) : AS := fun A δ r => ∃ I : Dl → Rs → Prop, t { A with nx := I } δ r ∧ ∀ δ' r', I δ' r' → A.nx δ' r'
section
variable {X : Cx} {W : WX} {st : Stmt} {e : Expr} {t : AT} {u : AS}
theorem s_cut (h : PSD X W st u) : PSD X W st (sCut u) := imS h fun D σ H ⟨δ, r, A, o, ⟨I, h, hI⟩, f⟩ => ⟨δ, r, { A with nx := I }, o, h, ⟨fun δ' r' σ' H' a => f.nx δ' r' σ' H' (hI δ' r' a), f.rt, f.bk, f.ct⟩⟩
end
end G
namespace G
open PySem PySem.Spec L2
open PyProof.Rows (envOfC)
section
variable {X : Cx} {W : WX} {a b : Expr} {ta tb : AT} {pos : Pos}
structure oInO (neg : Bool) (r : Rs) (x y : D) (k : D → Prop) : Prop where
  ex : ∃ l xs, y = .adr l ∧ Own r l xs ∧ oIn neg x (.lst xs) fun d => ∃ b, d = .bl b ∧ k d
theorem inO_go {neg : Bool} {f : Value → Value → Sem Value} (hp : OpR X f (rD X.K (oIn neg))) : OpR X f (rD2 X.K (oInO neg)) := by
  rintro pins s σ H x y v u Q I rx ry ⟨r, d1, d2, P, hr, i1, i2, ⟨l, xs, rfl, ⟨pre, post, rfl⟩, ho⟩, k⟩
  cases i2
  obtain ⟨q1, q2, q3⟩ := own_drop hr
  exact hp pins s σ H _ _ v u Q I rx ry ⟨pre ++ post, d1, .lst xs, _, q1, q3 _ _ i1, q2, ho, fun d v H' ⟨b, e, p⟩ ex i => by
    subst e
    cases i
    exact k _ _ H' p ex (.bl _)⟩
theorem p_inO (hu : X.A.units + 65 < cLine) : OpR X (compareOp .In) (rD2 X.K (oInO false)) := inO_go (p_in hu)
theorem b_cmpO {op : CmpOp} {o : Rs → O2} (ho : OpR X (compareOp op) (rD2 X.K o)) (ha : PD X W a ta) (hb : PD X W b tb) (hm : behindInMarks op b = false := by first | exact nomark _ | with_unfolding_all rfl) : PDB X W (.Compare a [op] [b] pos) (aTest (aOp2 o ta tb)) :=
  imT (pt_cmpR ho ha hb hm) fun _ _ _ q => tdb_test (fun _ q => td_op2 q) q
end
theorem all_split {K : PySem.W.Frag} {M : Addr → Prop} {H : Hp} : ∀ {a rest : List D} {vs : List V}, IsAll K M H vs (a ++ rest) → ∃ ws us, vs = ws ++ us ∧ IsAll K M H ws a ∧ IsAll K M H us rest
  | [], rest, vs, h => ⟨[], vs, rfl, .nil, h⟩
  | d :: a, rest, _, .cons h t => by
    obtain ⟨ws, us, e, h1, h2⟩ := all_split (a := a) t
    exact ⟨_ :: ws, us, by rw [e]; rfl, .cons h h1, h2⟩
/-- the promise of a def with *args, told of its arguments one by one -/
def starP (n : Nat) (sd : SpX) : SpX := fun ds r P XR => ∃ a rest, ds = a ++ rest ∧ a.length = n ∧ rest.length ≤ 1000000 ∧ sd (a ++ [.tup rest]) r P XR
section
variable {P : Program} {w : World} {K : PySem.W.Frag} {mg : Str → Option Value} {base : Heap}
theorem fnS_d {x qual pv : Str} {st : Stmt} {f : Addr} {fd : FuncData} {N ps : List Str} {k : Nat} {sd : SpX} (F : FunA K x qual st f fd) (S : FnScope N (ps ++ [pv]) (defScope st))
    (hb : ∀ us rest : List Value, us.length = ps.length → bindArgs fd ⟨us ++ rest, []⟩ = (newTuple rest >>= fun t => pure (ps.zip us ++ [(pv, t)])))
    (hbody : Bod P w K mg base qual st N k sd) : FR P w K mg base (k + 1) f (starP ps.length sd) := by
  obtain ⟨oc, od, dV, kV, doc, pm, an, cdv, ct, osl, rfl, lk, hcd⟩ := F.ex
  refine FnR.imp (StX.fn_star (CX := L2.CX P w) (sp := lift K sd) lk hcd S StX.cxUp hb (fun A outer s H vs Q E hr h => ?_)) fun vs H Q E h => ?_
  · obtain ⟨r, ds, P', XR, ro, hi, hs, hq, hx⟩ := h
    obtain ⟨t, ht, hread⟩ := hbody f cdv A outer s H E hr (takes_of rfl rfl rfl rfl) (passes_of rfl)
    refine ⟨_, ht, startD N ds, r, { nx := fun _ r' => fit P' .non r', rt := fit P', xr := fitX XR }, start_ok ro hi ?_, hread ds r P' XR hs, ⟨fun δ' r' σ' H' a o k => ?_, fun d r' v H' a o k i => ?_, fun _ _ _ _ z => z.elim, fun _ _ _ _ z => z.elim⟩⟩
    · rintro C fs es δ' r' σ' a H' ⟨r0, l, q⟩ o k e
      exact hx C fs es r0 a H' q (l.r _ _ o.r) (k.trans l.kp) (e.anti l.m)
    · obtain ⟨r0, l, a⟩ := a
      exact hq _ r0 _ H' a (l.r _ _ o.r) (k.trans l.kp) .non
    · obtain ⟨r0, l, a⟩ := a
      exact hq _ r0 _ H' a (l.r _ _ o) (k.trans l.kp) (is_anti l.m i)
  · obtain ⟨r, ds, P', XR, ro, hi, ⟨a, rest, rfl, hl, hz, hs⟩, hq, hx⟩ := h
    obtain ⟨ws, us, rfl, h1, h2⟩ := all_split hi
    refine ⟨ws, us, rfl, by rw [h1.length, hl], by rw [h2.length]; rw [sizeLine_eq]; omega, fun p hp => ?_⟩
    have e := Ext.new (o := .tup us) hp
    refine ⟨r, a ++ [.tup rest], P', XR, ro.ext e, (Kp.all (Kp.ext e) h1).append (.cons (new_tup hp h2) .nil), hs, fun d r' v H' q ro' kk i => hq d r' v H' q ro' ((Kp.ext e).trans kk) i, fun C fs es r' a H' q ro' kk ea => hx C fs es r' a H' q ro' ((Kp.ext e).trans kk) ea⟩
end
/-- a static method with *args -/
def DfSS (K : PySem.W.Frag) (C : Addr) (m qual : Str) (st : Stmt) (ps : List Str) (pv : Str) : Prop := ∃ mc p f fd, FunA K m qual st f fd ∧ SMet K C mc m p f ∧ ∀ us rest : List Value, us.length = ps.length → bindArgs fd ⟨us ++ rest, []⟩ = (newTuple rest >>= fun t => pure (ps.zip us ++ [(pv, t)]))
theorem clss_of {P : Program} {w : World} {K : PySem.W.Frag} {mg : Str → Option Value} {base : Heap} {C : Addr} {m qual pv : Str} {st : Stmt} {N ps : List Str} {k : Nat} {sd : SpX} (d : DfSS K C m qual st ps pv) (S : FnScope N (ps ++ [pv]) (defScope st)) (h : Bod P w K mg base qual st N k sd) : ClS P w K mg base (k + 1) C m (starP ps.length sd) := by
  obtain ⟨mc, p, f, fd, F, M, b⟩ := d
  exact ⟨mc, p, f, M, fnS_d F S b h⟩
end G
namespace G
open PySem PySem.Spec L2
open PyProof.Rows (envOfC)
end G
namespace G
open PySem PySem.Spec L2
open PyProof.Rows (envOfC)
inductive IsKV (K : PySem.W.Frag) (M : Addr → Prop) (H : Hp) : List (Key × V) → List (Key × D) → Prop
  | nil : IsKV K M H [] []
  | cons {k : Key} {v : V} {d : D} {xs : List (Key × V)} {es : List (Key × D)} : Is K M H v d → IsKV K M H xs es → IsKV K M H ((k, v) :: xs) ((k, d) :: es)
def dGet (kvs : List (Key × D)) (k : Key) : Option D := (kvs.find? fun kv => decide (kv.1 = k)).map (·.2)
def dPut (kvs : List (Key × D)) (k : Key) (d : D) : List (Key × D) :=
  if (kvs.any fun kv => decide (kv.1 = k)) = true then kvs.map (fun kv => if kv.1 = k then (kv.1, d) else kv) else kvs ++ [(k, d)]
def dDrop (kvs : List (Key × D)) (k : Key) : List (Key × D) := kvs.filter fun kv => decide (kv.1 ≠ k)
def keyD : D → Option Key | .int i => some (.inl i) | .str z => some (.inr z) | _ => none
theorem dGet_pos {k : Key} {d : D} {r : List (Key × D)} : dGet ((k, d) :: r) k = some d := by simp [dGet]
theorem dGet_neg {k j : Key} {d : D} {r : List (Key × D)} (h : j ≠ k) : dGet ((j, d) :: r) k = dGet r k := by simp [dGet, List.find?_cons, h]
section
variable {K : PySem.W.Frag} {N N' : Addr → Prop} {H H' : Hp}
theorem IsKV.go (f : ∀ v d, Is K N H v d → Is K N' H' v d) : ∀ {xs : List (Key × V)} {es : List (Key × D)}, IsKV K N H xs es → IsKV K N' H' xs es
  | _, _, .nil => .nil
  | _, _, .cons h t => .cons (f _ _ h) (IsKV.go f t)
theorem IsKV.length : ∀ {xs : List (Key × V)} {es : List (Key × D)}, IsKV K N H xs es → xs.length = es.length
  | _, _, .nil => rfl
  | _, _, .cons _ t => by rw [List.length_cons, List.length_cons, IsKV.length t]
theorem IsKV.any (k : Key) : ∀ {xs : List (Key × V)} {es : List (Key × D)}, IsKV K N H xs es → (xs.any fun kv => decide (kv.1 = k)) = es.any fun kv => decide (kv.1 = k)
  | _, _, .nil => rfl
  | _, _, .cons _ t => by rw [List.any_cons, List.any_cons, IsKV.any k t]
theorem IsKV.get (k : Key) : ∀ {xs : List (Key × V)} {es : List (Key × D)}, IsKV K N H xs es → match dGet es k with | some d => ∃ v, valV xs k = some v ∧ Is K N H v d | none => valV xs k = none
  | _, _, .nil => rfl
  | _, _, .cons (k := j) (v := v) (d := d) h t => by
    by_cases e : j = k
    · subst e
      rw [dGet_pos]
      exact ⟨v, valV_pos rfl, h⟩
    · rw [dGet_neg e, valV_neg e]
      exact IsKV.get k t
theorem IsKV.snoc {k : Key} {v : V} {d : D} (i : Is K N H v d) : ∀ {xs : List (Key × V)} {es : List (Key × D)}, IsKV K N H xs es → IsKV K N H (xs ++ [(k, v)]) (es ++ [(k, d)])
  | _, _, .nil => .cons i .nil
  | _, _, .cons h t => .cons h (IsKV.snoc i t)
theorem IsKV.repl {k : Key} {v : V} {d : D} (i : Is K N H v d) : ∀ {xs : List (Key × V)} {es : List (Key × D)}, IsKV K N H xs es → IsKV K N H (xs.map fun kv => if kv.1 = k then (kv.1, v) else kv) (es.map fun kv => if kv.1 = k then (kv.1, d) else kv)
  | _, _, .nil => .nil
  | _, _, .cons (k := j) h t => by
    rw [List.map_cons, List.map_cons]
    by_cases e : j = k
    · rw [if_pos e, if_pos e]
      exact .cons i (IsKV.repl i t)
    · rw [if_neg e, if_neg e]
      exact .cons h (IsKV.repl i t)
theorem IsKV.put {k : Key} {v : V} {d : D} {xs : List (Key × V)} {es : List (Key × D)} (h : IsKV K N H xs es) (i : Is K N H v d) : IsKV K N H (putK xs k v) (dPut es k d) := by
  unfold putK dPut
  rw [h.any k]
  split
  · exact h.repl i
  · exact h.snoc i
theorem IsKV.drop (k : Key) : ∀ {xs : List (Key × V)} {es : List (Key × D)}, IsKV K N H xs es → IsKV K N H (dropK xs k) (dDrop es k)
  | _, _, .nil => .nil
  | _, _, .cons (k := j) h t => by
    unfold dropK dDrop
    rw [List.filter_cons, List.filter_cons]
    have ih := IsKV.drop k t
    unfold dropK dDrop at ih
    by_cases e : j = k
    · rw [if_neg (by simp [e]), if_neg (by simp [e])]
      exact ih
    · rw [if_pos (by simp [e]), if_pos (by simp [e])]
      exact .cons h ih
theorem IsKV.of_zip : ∀ {xs : List (Key × V)} {ds : List D}, IsAll K N H (xs.map (·.2)) ds → IsKV K N H xs ((xs.map (·.1)).zip ds)
  | [], ds, h => by cases h; exact .nil
  | (k, v) :: xs, _, .cons h t => .cons h (IsKV.of_zip t)
theorem IsKV.unzip : ∀ {xs : List (Key × V)} {es : List (Key × D)}, IsKV K N H xs es → xs.map (·.1) = es.map (·.1) ∧ IsAll K N H (xs.map (·.2)) (es.map (·.2))
  | _, _, .nil => ⟨rfl, .nil⟩
  | _, _, .cons h t => ⟨by rw [List.map_cons, List.map_cons, (IsKV.unzip t).1], .cons h (IsKV.unzip t).2⟩
theorem key_val {v : V} {y : D} {key : Key} (hk : keyD y = some key) (i : Is K N H v y) : v = kV key := by
  cases i <;> simp [keyD] at hk <;> subst hk <;> rfl
end
def dctA (a : Addr) (kvs : List (Key × D)) : At where
  M := fun b => b = a
  R := fun K N H => ∃ xs : List (Key × V), H a = some (.dK xs) ∧ IsKV K N H xs kvs
  loc := fun f g ⟨xs, h, i⟩ => ⟨xs, f _ _ rfl h, i.go g⟩
  anti := fun e ⟨xs, h, i⟩ => ⟨xs, h, i.go fun _ _ => is_anti e⟩
  grow := fun hp ⟨xs, h, i⟩ => ⟨xs, h, i.go fun _ _ => is_growD hp⟩
  al := fun ⟨xs, h, _⟩ b z => ⟨.dK xs, by rw [show b = a from z]; exact h⟩
/-- a dict of our own that is locked while something walks over it -/
def lckA (a : Addr) (od : Obj) (xs : List (Key × V)) (kvs : List (Key × D)) : At where
  M := fun b => b = a
  R := fun K N H => H a = some (.frz od (.dK xs)) ∧ IsKV K N H xs kvs
  loc := fun f g ⟨h, i⟩ => ⟨f _ _ rfl h, i.go g⟩
  anti := fun e ⟨h, i⟩ => ⟨h, i.go fun _ _ => is_anti e⟩
  grow := fun hp ⟨h, i⟩ => ⟨h, i.go fun _ _ => is_growD hp⟩
  al := fun ⟨h, _⟩ b z => ⟨.frz od (.dK xs), by rw [show b = a from z]; exact h⟩
def OwnLk (r : Rs) (a : Addr) (kvs : List (Key × D)) : Prop := ∃ pre post od xs, r = pre ++ lckA a od xs kvs :: post
def OwnD (r : Rs) (a : Addr) (kvs : List (Key × D)) : Prop := ∃ pre post, r = pre ++ dctA a kvs :: post
section
variable {K : PySem.W.Frag} {r pre post : Rs} {H : Hp} {a p : Addr} {kvs es : List (Key × D)} {xs ys : List (Key × V)}
theorem dct_at (h : Rok K r H) (o : OwnD r a kvs) : ∃ xs, H a = some (.dK xs) ∧ IsKV K (mem r) H xs kvs := by
  obtain ⟨pre, post, rfl⟩ := o
  exact mid_R h
theorem lck_at (h : Rok K r H) (o : OwnLk r a kvs) : ∃ xs, Rd H a (.dK xs) ∧ IsKV K (mem r) H xs kvs := by
  obtain ⟨pre, post, od, xs, rfl⟩ := o
  obtain ⟨e, i⟩ := mid_R h
  exact ⟨xs, .inr ⟨od, e⟩, i⟩
theorem dct_put (h : Rok K (pre ++ dctA a kvs :: post) H) (i : IsKV K (mem (pre ++ dctA a kvs :: post)) H ys es) : Rok K (pre ++ dctA a es :: post) (upd H a (.dK ys)) ∧ Kp K (pre ++ dctA a kvs :: post) H (pre ++ dctA a es :: post) (upd H a (.dK ys)) := by
  obtain ⟨xs, e1, _⟩ := dct_at h ⟨pre, post, rfl⟩
  exact mid_put rfl rfl e1 (fun xs => ⟨(fun e => by cases e), fun o e => by cases e⟩) h fun go => ⟨ys, upd_same, i.go go⟩
theorem dct_drop (h : Rok K (pre ++ dctA a kvs :: post) H) : Rok K (pre ++ post) H ∧ Is K (mem (pre ++ post)) H (.ref a) (.dct (kvs.map (·.1)) (kvs.map (·.2))) ∧ Kp K (pre ++ dctA a kvs :: post) H (pre ++ post) H := by
  obtain ⟨h1, h2, h3⟩ := mid_drop h
  obtain ⟨xs, e1, e2⟩ := mid_R h
  obtain ⟨q1, q2⟩ := (e2.go h2).unzip
  exact ⟨h1, .dct (h3 a rfl) e1 q1 q2, h2⟩
end
inductive oDGet (r : Rs) : D → D → (Option D → Prop) → Prop
  | own {a : Addr} {kvs : List (Key × D)} {y : D} {key : Key} {k : Option D → Prop} (ow : OwnD r a kvs) (hk : keyD y = some key) (p : k (dGet kvs key)) : oDGet r (.adr a) y k
  | lck {a : Addr} {kvs : List (Key × D)} {y : D} {key : Key} {k : Option D → Prop} (ow : OwnLk r a kvs) (hk : keyD y = some key) (p : k (dGet kvs key)) : oDGet r (.adr a) y k
  | fro {ks : List Key} {ds : List D} {y : D} {key : Key} {k : Option D → Prop} (hk : keyD y = some key) (p : k (dGet (ks.zip ds) key)) : oDGet r (.dct ks ds) y k
theorem oDGet.imp {r : Rs} {d y : D} {k k' : Option D → Prop} (h : oDGet r d y k) (f : ∀ o, k o → k' o) : oDGet r d y k' := by
  cases h with
  | own ow hk p => exact .own ow hk (f _ p)
  | lck ow hk p => exact .lck ow hk (f _ p)
  | fro hk p => exact .fro hk (f _ p)
theorem dgets {K : PySem.W.Frag} {r : Rs} {H : Hp} {d y : D} {vd vy : V} {k : Option D → Prop} (h : oDGet r d y k) (ro : Rok K r H) (i1 : Is K (mem r) H vd d) (i2 : Is K (mem r) H vy y) :
    ∃ a xs o, vd = .ref a ∧ Rd H a (.dK xs) ∧ k o ∧ (match o with | some d => ∃ v, DGet H a vy (some v) ∧ Is K (mem r) H v d | none => DGet H a vy none) := by
  cases h with
  | @own a kvs _ key _ ow hk p =>
    cases i1
    obtain ⟨xs, e1, e2⟩ := dct_at ro ow
    have g := e2.get key
    refine ⟨a, xs, _, rfl, .inl e1, p, ?_⟩
    have hv := key_val hk i2
    subst hv
    cases q : dGet kvs key with
    | none =>
      rw [q] at g
      exact .inl ⟨xs, key, .inl e1, rfl, g.symm⟩
    | some d =>
      rw [q] at g
      obtain ⟨v, g1, g2⟩ := g
      exact ⟨v, .inl ⟨xs, key, .inl e1, rfl, g1.symm⟩, g2⟩
  | @lck a kvs _ key _ ow hk p =>
    cases i1
    obtain ⟨xs, e1, e2⟩ := lck_at ro ow
    have g := e2.get key
    refine ⟨a, xs, _, rfl, e1, p, ?_⟩
    have hv := key_val hk i2
    subst hv
    cases q : dGet kvs key with
    | none =>
      rw [q] at g
      exact .inl ⟨xs, key, e1, rfl, g.symm⟩
    | some d =>
      rw [q] at g
      obtain ⟨v, g1, g2⟩ := g
      exact ⟨v, .inl ⟨xs, key, e1, rfl, g1.symm⟩, g2⟩
  | @fro ks ds _ key _ hk p =>
    cases i1 with
    | @dct a xs _ _ n s e al =>
      have kv := IsKV.of_zip al
      rw [e] at kv
      have g := kv.get key
      refine ⟨a, xs, _, rfl, .inl s, p, ?_⟩
      have hv := key_val hk i2
      subst hv
      cases q : dGet (ks.zip ds) key with
      | none =>
        rw [q] at g
        exact .inl ⟨xs, key, .inl s, rfl, g.symm⟩
      | some d =>
        rw [q] at g
        obtain ⟨v, g1, g2⟩ := g
        exact ⟨v, .inl ⟨xs, key, .inl s, rfl, g1.symm⟩, g2⟩
def aDNew : AT := fun x δ r P => ∀ p, P (.adr p) (r ++ [dctA p []])
def aDIx (td ty : AT) : AT := fun x δ r P => td x δ r fun d r1 => ty x δ r1 fun y r2 => oDGet r2 d y fun o => ∃ z, o = some z ∧ P z r2
inductive oDPut (r : Rs) (y z : D) : D → (Rs → Prop) → Prop
  | mk {a : Addr} {k : Rs → Prop} (pre post : Rs) (kvs : List (Key × D)) (key : Key) (e : r = pre ++ dctA a kvs :: post) (hk : keyD y = some key) (sz : small (kvs.length + 1)) (p : k (pre ++ dctA a (dPut kvs key z) :: post)) : oDPut r y z (.adr a) k
def sDPutA (td ty tv : AT) : AS := fun A δ r => tv A.xr δ r fun z r1 => td A.xr δ r1 fun d r2 => ty A.xr δ r2 fun y r3 => oDPut r3 y z d fun r4 => A.nx δ r4
structure oDIn (neg : Bool) (r : Rs) (x y : D) (k : D → Prop) : Prop where
  ex : oDGet r y x fun o => k (.bl (cond neg (!o.isSome) o.isSome))
section
variable {X : Cx} {W : WX} {o i e f value : Expr} {pos pos' apos cpos : Pos} {td ty tv tx : AT}
theorem d_dnew : PD X W (.Dict [] [] pos) aDNew := imE pe_dnewK fun σ H Q q => by
  obtain ⟨XR, δ, r, P, o, h, k⟩ := q
  intro p hp
  obtain ⟨q1, q2⟩ := mid_new (t := dctA p []) rfl o.r hp (Ext.new hp) fun _ => ⟨[], upd_same, .nil⟩
  exact k _ _ _ _ (h p) (o.step q2 q1) q2 (.adr p)
theorem d_dix (hu : X.A.units + 65 < cLine) (ho : PD X W o td) (hi : PD X W i ty) (hs : NoSl i := by exact fun _ _ => rfl) : PD X W (.Subscript o i pos) (aDIx td ty) := imE (pe_dget (by omega) ho hi hs) fun σ H Q q => by
  obtain ⟨XR, δ, r, P, ok, h, k⟩ := q
  refine td_bind ok h fun d r1 v1 H1 h1 o1 k1 i1 => td_bind o1 h1 fun y r2 v2 H2 h2 o2 k2 i2 => ?_
  obtain ⟨a, xs, oo, rfl, e1, ⟨z, rfl, p⟩, g⟩ := dgets h2 o2.r (k2 _ _ i1) i2
  obtain ⟨v, g1, g2⟩ := g
  exact ⟨a, v, rfl, g1, k _ _ _ _ p o2 (k1.trans k2) g2⟩
theorem s_dput (hu : X.A.units + 65 < cLine) (ho : PD X W o td) (hi : PD X W i ty) (hv : PD X W value tv) (hs : swapsWith value (some (.Subscript o i pos')) pos.line X.env = pure false := by rfl) : PSD X W (.Assign [.Subscript o i pos'] value pos) (sDPutA td ty tv) :=
  imS (ps_dput (by omega) ho hi hv hs) fun Dd σ H ⟨δ, r, A, ok, h, ff⟩ => td_bind ok h fun z r1 v H1 h1 o1 k1 i1 => td_bind o1 h1 fun d r2 v2 H2 h2 o2 k2 i2 => td_bind o2 h2 fun y r3 v3 H3 h3 o3 k3 i3 => by
    cases h3 with
    | @mk a _ pre post kvs key e hk sz p =>
      cases i2
      subst e
      obtain ⟨xs, e1, e2⟩ := dct_at o3.r ⟨pre, post, rfl⟩
      have hv := key_val hk i3
      subst hv
      obtain ⟨q1, q2⟩ := dct_put o3.r (e2.put (k := key) (k3 _ _ (k2 _ _ i1)))
      exact ⟨a, _, rfl, .inl ⟨xs, key, e1, rfl, by rw [e2.length]; exact Nat.lt_of_lt_of_le (Nat.lt_succ_self _) sz.sz, rfl⟩, ff.nx _ _ _ _ p (o3.step q2 q1) (((k1.trans k2).trans k3).trans q2)⟩
theorem p_din (hu : X.A.units + 65 < cLine) : OpR X (compareOp .In) (rD2 X.K (oDIn false)) := by
  rintro pins s σ H x y v u Q I rx ry ⟨r, d1, d2, P, hr, i1, i2, ⟨ho⟩, k⟩
  obtain ⟨a, xs, oo, rfl, e1, p, g⟩ := dgets ho hr i2 i1
  obtain rfl : u = Value.ref a := ry
  cases oo with
  | none => exact d_in (by omega) I g rx fun s' I' => ⟨.bl _, H, I', rfl, k _ _ H p (Ext.refl H) (.bl _)⟩
  | some d =>
    obtain ⟨w, g1, g2⟩ := g
    exact d_in (by omega) I g1 rx fun s' I' => ⟨.bl _, H, I', rfl, k _ _ H p (Ext.refl H) (.bl _)⟩
/-- is a dict -/
def isDc (d : D) (r : Rs) : Prop := (∃ a kvs, d = .adr a ∧ (OwnD r a kvs ∨ OwnLk r a kvs)) ∨ ∃ ks ds, d = .dct ks ds
theorem isDc_at {K : PySem.W.Frag} {r : Rs} {H : Hp} {d : D} {v : V} (h : isDc d r) (ro : Rok K r H) (i : Is K (mem r) H v d) : ∃ a xs, v = .ref a ∧ Rd H a (.dK xs) := by
  rcases h with ⟨a, kvs, rfl, ow | ow⟩ | ⟨ks, ds, rfl⟩
  · cases i
    obtain ⟨xs, e, _⟩ := dct_at ro ow
    exact ⟨a, xs, rfl, .inl e⟩
  · cases i
    obtain ⟨xs, e, _⟩ := lck_at ro ow
    exact ⟨a, xs, rfl, e⟩
  · cases i with
    | dct n s e al => exact ⟨_, _, rfl, .inl s⟩
def aDGt2 (td ty tx : AT) : AT := fun x δ r P => td x δ r fun d r1 => isDc d r1 ∧ ty x δ r1 fun y r2 => tx x δ r2 fun z r3 => oDGet r3 d y fun o => P (o.getD z) r3
theorem d_dgt2 (hu : X.A.units + 65 < cLine) (ho : PD X W o td) (he : PD X W e ty) (hf : PD X W f tx) (m : M2 X o "get" apos e f cpos) : PD X W (.Call (.Attribute o "get" apos) [e, f] [] cpos) (aDGt2 td ty tx) := imE (pe_dget2 (by omega) ho he hf m) fun σ H Q q => by
  obtain ⟨XR, δ, r, P, ok, h, k⟩ := q
  refine td_bind ok h fun d r1 v1 H1 ⟨hd, h1⟩ o1 k1 i1 => ?_
  obtain ⟨a, xs, rfl, e1⟩ := isDc_at hd o1.r i1
  refine ⟨a, rfl, .inl ⟨xs, e1⟩, td_bind o1 h1 fun y r2 v2 H2 h2 o2 k2 i2 => td_bind o2 h2 fun z r3 v3 H3 h3 o3 k3 i3 => ?_⟩
  obtain ⟨a', xs', oo, ea, e2, p, g⟩ := dgets h3 o3.r (k3 _ _ (k2 _ _ i1)) (k3 _ _ i2)
  cases ea
  cases oo with
  | none => exact ⟨none, g, k _ _ _ _ p o3 ((k1.trans k2).trans k3) i3⟩
  | some d =>
    obtain ⟨w, g1, g2⟩ := g
    exact ⟨some w, g1, k _ _ _ _ p o3 ((k1.trans k2).trans k3) g2⟩
end
structure aDcK (x : XT) (g : AG) (tt : AB) (tk te : AT) (δw : Dl) (ds : List D) (r1 : Rs) (P : PK1) : Prop where
  ex : ∃ I : Nat → List (Key × D) → Rs → Prop, I 0 [] r1 ∧
  (∀ (p : Addr) i d acc r', ds[i]? = some d → I i acc r' → g d δw fun δ2 => tt x δ2 (r' ++ [dctA p acc]) fun b r2 =>
    (b = true → tk x δ2 r2 fun y r3 => te x δ2 r3 fun z r4 => ∃ key, keyD y = some key ∧ small (acc.length + 1) ∧ ∃ r5, r4 = r5 ++ [dctA p acc] ∧ I (i + 1) (dPut acc key z) r5) ∧ (b = false → ∃ r4, r2 = r4 ++ [dctA p acc] ∧ I (i + 1) acc r4)) ∧
  ∀ (p : Addr) acc r', I ds.length acc r' → P (.adr p) (r' ++ [dctA p acc])
def aDc (ti : AI) (g : AG) (tt : AB) (tk te : AT) (vs : List Nat) : AT := fun x δ r P => ti x δ r fun ds r1 => aDcK x g tt tk te (wipeD δ vs) ds r1 P
theorem td_dc {K : PySem.W.Frag} {W : WX} {ti : AI} {g : AG} {tt : AB} {tk te : AT} {vs js : List Nat} (hj : ∀ j ∈ js, j ∈ vs) {σ : L2.St} {H : Hp} {Q : VK} (q : TD K W (aDc ti g tt tk te vs) σ H Q) : tDc (TDI K W ti) (TDG K js g) (TDB K W tt) (TD K W tk) (TD K W te) vs σ H Q := by
  obtain ⟨XR, δ, r, P, o, h, k⟩ := q
  refine ⟨XR, δ, r, _, o, h, fun ds r1 J H1 ⟨⟨I, h0, hst, hd⟩⟩ o1 k1 w p hp => ?_⟩
  obtain ⟨s1, s2⟩ := mid_new (t := dctA p []) rfl o1.r hp (Ext.new hp) fun _ => ⟨[], upd_same, .nil⟩
  refine ⟨fun i m H' => m = ds.length - i ∧ i ≤ ds.length ∧ ∃ acc r', I i acc r' ∧ Rok K (r' ++ [dctA p acc]) H' ∧ Kp K r1 H1 (r' ++ [dctA p acc]) H', ⟨ds.length, by simp, Nat.zero_le _, [], r1, h0, s1, s2⟩, ?_⟩
  rintro i m H' ⟨rfl, hi, acc, r', hI, ro, kp⟩
  by_cases hlt : i < ds.length
  · obtain ⟨hgo, hy⟩ := (w i _ H' kp ro).1 hlt
    refine .inr ⟨hgo, fun H2 => ∃ acc r2, I (i + 1) acc r2 ∧ Rok K (r2 ++ [dctA p acc]) H2 ∧ Kp K r1 H1 (r2 ++ [dctA p acc]) H2, fun H2 ⟨acc, r2, q1, q2, q3⟩ => ⟨ds.length - (i + 1), by omega, rfl, hlt, acc, r2, q1, q2, q3⟩, fun x H2 y => ?_⟩
    obtain ⟨ex, d, hd', ix⟩ := hy x H2 y
    have k2 := kp.trans (Kp.ext ex)
    have o2 : Ok K W XR (r' ++ [dctA p acc]) (wipeD δ vs) (wipe σ vs) H2 := (o1.step k2 (ro.ext ex)).wipe vs
    refine ⟨W, XR, wipeD δ vs, _, d, _, o2, ix, hst p i d acc r' hd' hI, fun δ2 σ2 q o3 ag => ⟨wipe_agree ag hj, XR, δ2, _, _, o3, q, fun b r3 H3 q3 o4 k4 => ?_⟩⟩
    cases b with
    | true =>
      show TD K W tk σ2 H3 _
      refine td_bind o4 (q3.1 rfl) fun y r5 v H5 h5 o5 k5 i5 => td_bind o5 h5 fun z r6 v6 H6 ⟨key, hk, sz, r7, e7, h7⟩ o6 k6 i6 => ?_
      subst e7
      obtain ⟨xs, e1, e2⟩ := dct_at o6.r ⟨r7, [], rfl⟩
      obtain ⟨q1, q2⟩ := dct_put o6.r (e2.put (k := key) i6)
      exact ⟨xs, key, key_val hk (k6 _ _ i5), e1, by rw [e2.length]; exact Nat.lt_of_lt_of_le (Nat.lt_succ_self _) sz.sz, _, r7, h7, q1, ((((k2.trans k4).trans k5).trans k6).trans q2)⟩
    | false =>
      show ∃ acc r2, _
      obtain ⟨r6, e6, h5⟩ := q3.2 rfl
      subst e6
      exact ⟨acc, r6, h5, o4.r, k2.trans k4⟩
  · have e : i = ds.length := by omega
    exact .inl ⟨(w i _ H' kp ro).2 e, k _ _ _ _ (hd p acc r' (e ▸ hI)) (o1.step kp ro) (k1.trans kp) (.adr p)⟩
theorem d_dc {X : Cx} {W : WX} {kx vx tg iter : Expr} {ifs : List Expr} {scope : Scope} {own : List (Str × Nat)} {pos : Pos} {js : List Nat} {wi : AI} {g : AG} {tt : AB} {tk te : AT} (hN : X.N.Nodup) (hi : PDI X W tg iter wi) (ok : BlkOk X.N X.env.scope scope own)
    (hg : ∀ (s : Shared) (H : Hp) (C : Addr) (cl : List (Str × Addr)) (fp : List Addr), PDG (X.blk s H scope (compEnvC scope cl C X.env) fp) tg js g) (ht : ∀ (s : Shared) (H : Hp) (C : Addr) (cl : List (Str × Addr)) (fp : List Addr), PTs (X.blk s H scope (compEnvC scope cl C X.env) fp) ifs (TDB X.K W tt))
    (hk : ∀ (s : Shared) (H : Hp) (C : Addr) (cl : List (Str × Addr)) (fp : List Addr), PD (X.blk s H scope (compEnvC scope cl C X.env) fp) W kx tk)
    (he : ∀ (s : Shared) (H : Hp) (C : Addr) (cl : List (Str × Addr)) (fp : List Addr), PD (X.blk s H scope (compEnvC scope cl C X.env) fp) W vx te) (hj : ∀ j ∈ js, j ∈ own.map (·.2) := by decide) (hc : X.calm = true := by rfl) (hs : ∀ x, foldedSetIterable iter X.env x = pure x := by intro _; rfl) :
    PD X W (.DictComp kx vx [⟨tg, iter, ifs, 0⟩] scope pos) (aDc wi g tt tk te (own.map (·.2))) :=
  imE (pe_dc (g := TDG X.K js g) (tt := TDB X.K W tt) (tk := TD X.K W tk) (tv := TD X.K W te) hc hN hi ok hg ht hk he hs) fun _ _ _ q => td_dc hj q
end G
namespace G
open PySem PySem.Spec L2
open PyProof.Rows (envOfC Call_ Subscript_)
structure GiK (K : PySem.W.Frag) (C f : Addr) (m : Str) : Prop where
  at_ : PySem.W.findIn K (.ref C) m = some (some (.ref f))
  fnI : PySem.W.fnIn K f = true
  fn : PySem.W.isFn K (.ref f) = true
/-- d op y by the class's own def, nothing changed in what the name of the def is -/
def aDun (C : Addr) (sd : SpX) (ta tb : AT) : AT := fun x δ r P => ta x δ r fun d r1 => tb x δ r1 fun y r2 => isC C d r2 ∧ sd [d, y] r2 P fun E fs es r' => x E fs es δ r'
def rDun (C : Addr) (sp : Sp) (E : XK) : V → V → Hp → VK → Prop := fun x y H Q => ∃ a dx kvs, x = .ref a ∧ H a = some (.ins C dx kvs) ∧ sp [x, y] H Q E
section
variable {X : Cx} {W : WX} {k : Nat} {C f : Addr} {sd : SpX} {ta tb : AT} {a b : Expr} {pos : Pos}
theorem td_dun {σ : L2.St} {H : Hp} {Q : VK} (q : TD X.K W (aDun C sd ta tb) σ H Q) : tOp (rDun C (lift X.K sd) (WE W σ)) (TD X.K W ta) (TD X.K W tb) σ H Q := by
  obtain ⟨XR, δ, r, P, ok, h, kk⟩ := q
  refine td_bind ok h fun d1 r1 v1 H1 h1 o1 k1 i1 => td_bind o1 h1 fun d2 r2 v2 H2 h2 o2 k2 i2 => ?_
  obtain ⟨hc, h2⟩ := h2
  obtain ⟨a, dx, kvs, rfl, s, gd⟩ := isC_at hc o2.r (k2 _ _ i1)
  exact ⟨a, dx, kvs, rfl, s, lift_at o2 (.cons (k2 _ _ i1) (.cons i2 .nil)) h2 fun d r' v H' p o3 k3 i3 => kk _ r' _ H' p o3 ((k1.trans k2).trans k3) i3⟩
theorem call_in1 {sp : Sp} {E : XK} {Q : VK} {pins : List (Addr × Obj)} {σ : L2.St} {H : Hp} {s : Shared} {us : List Value} {vs : List V} (F : FnR X.prog X.w X.K X.mg X.base (L2.CX X.prog X.w) k f sp) (hr : Room (k + 1) X.A) (hx : PassesAt (L2.CX X.prog X.w) X σ E) (I : L2.Inv X pins σ H s) (r : Vals vs us) (h : sp vs H Q E) :
    wpAny (model X.prog X.w) X.A.in1 (call (.ref f) us) (EP X pins σ Q) X.xe s := by
  refine wpAny_call (codeAny_mono (F X.A.in1 X.stack s H us vs Q E hr.in1 I.env0.in1 r h) fun r s' hq => ?_)
  cases r with
  | error e => exact hx pins H s e s' I hq
  | ok fl =>
    cases fl with
    | ret u => exact I.after hq
    | next => exact False.elim hq
    | brk => exact False.elim hq
    | cont => exact False.elim hq
/-- o[i] by __getitem__ -/
theorem d_gi (e : GiK X.K C f "__getitem__") (F : FR X.prog X.w X.K X.mg X.base k f sd) (tk : Takes X W) (hr : Room (k + 1) X.A) (ha : PD X W a ta) (hb : PD X W b tb)
    (hsl : ∀ x i, subscripted b true x i = runValue (.builtin "lifetime.subscript" ⟨[x, i], []⟩) := by intros; with_unfolding_all rfl) : PD X W (.Subscript a b pos) (aDun C sd ta tb) := by
  refine ⟨fun pins s σ H Q I h => ?_⟩
  have h2 := td_dun h
  refine Subscript_ (binT ha hb I h2 fun v u s2 x y H2 I2 rx ry ⟨p, dx, kvs, ex, hp, q⟩ => ?_)
  subst ex
  obtain rfl : v = Value.ref p := rx
  obtain ⟨mA, O, _⟩ := ins_get I2.hok hp
  obtain ⟨od, J, _⟩ := O.look
  obtain ⟨m, hF⟩ := I2.fr
  exact PySem.W.sub_K hF I2.ok.mod.kin J e.at_ e.fnI e.fn (call_in1 (us := [.ref p, u]) (vs := [.ref p, y]) F hr (passAt tk _) I2 (.cons rfl (.cons ry .nil)) q) (hsl _ _)
end
/-- x in o, x not in o by __contains__ -/
structure InK (K : PySem.W.Frag) (C f : Addr) : Prop where
  at_ : PySem.W.findIn K (.ref C) "__contains__" = some (some (.ref f))
  fn : PySem.W.isFn K (.ref f) = true
def aInI (C : Addr) (sd : SpX) (neg : Bool) (ta tb : AT) : AT := fun x δ r P => ta x δ r fun y r1 => tb x δ r1 fun d r2 => isC C d r2 ∧ sd [d, y] r2 (fun d r3 => ∃ b, d = .bl b ∧ P (.bl (cond neg (!b) b)) r3) noX
def rInI (C : Addr) (sp : Sp) (neg : Bool) : R2 := fun y x H Q => ∃ a dx kvs, x = .ref a ∧ H a = some (.ins C dx kvs) ∧ sp [x, y] H (fun v H' => ∃ b : Bool, v = .bl b ∧ Q (.bl (cond neg (!b) b)) H') E0
section
variable {X : Cx} {W : WX} {k : Nat} {C g : Addr} {sp : Sp} {sd : SpX} {ta tb : AT} {a b : Expr} {pos : Pos}
theorem op_inI (e : InK X.K C g) (F : FnR X.prog X.w X.K X.mg X.base (L2.CX X.prog X.w) k g sp) (hr : Room k X.A) : OpR X (compareOp .In) (rInI C sp false) := by
  intro pins s σ H y x v u Q I ry rx h
  obtain ⟨a, dx, kvs, rfl, ha, q⟩ := h
  cases (show u = Value.ref a from rx)
  obtain ⟨mA, O, _⟩ := ins_get I.hok ha
  obtain ⟨od, J, _⟩ := O.look
  obtain ⟨m, hF⟩ := I.fr
  refine PySem.W.in_K hF I.ok.mod.kin J e.at_ e.fn ?_
  refine thn (call_P (us := [.ref a, v]) (vs := [.ref a, y]) F hr passE I (.cons rfl (.cons ry .nil)) q) fun w s' z => ?_
  obtain ⟨z', H', I', rz, b, eb, qz⟩ := z
  subst eb
  obtain rfl : w = Value.bool b := rz
  exact wpAny_pure ⟨.bl _, H', I', rfl, qz⟩
theorem op_ninI (e : InK X.K C g) (F : FnR X.prog X.w X.K X.mg X.base (L2.CX X.prog X.w) k g sp) (hr : Room k X.A) : OpR X (compareOp .NotIn) (rInI C sp true) := by
  intro pins s σ H y x v u Q I ry rx h
  obtain ⟨a, dx, kvs, rfl, ha, q⟩ := h
  cases (show u = Value.ref a from rx)
  obtain ⟨mA, O, _⟩ := ins_get I.hok ha
  obtain ⟨od, J, _⟩ := O.look
  obtain ⟨m, hF⟩ := I.fr
  refine PySem.W.notIn_K hF I.ok.mod.kin J e.at_ e.fn ?_
  refine thn (call_P (us := [.ref a, v]) (vs := [.ref a, y]) F hr passE I (.cons rfl (.cons ry .nil)) q) fun w s' z => ?_
  obtain ⟨z', H', I', rz, b, eb, qz⟩ := z
  subst eb
  obtain rfl : w = Value.bool b := rz
  exact wpAny_pure ⟨.bl _, H', I', rfl, qz⟩
theorem td_inI {neg : Bool} {σ : L2.St} {H : Hp} {Q : VK} (q : TD X.K W (aInI C sd neg ta tb) σ H Q) : tOp (rInI C (lift X.K sd) neg) (TD X.K W ta) (TD X.K W tb) σ H Q := by
  obtain ⟨XR, δ, r, P, ok, h, kk⟩ := q
  refine td_bind ok h fun d1 r1 v1 H1 h1 o1 k1 i1 => td_bind o1 h1 fun d2 r2 v2 H2 h2 o2 k2 i2 => ?_
  obtain ⟨hc, h2⟩ := h2
  obtain ⟨a, dx, kvs, rfl, s, gd⟩ := isC_at hc o2.r i2
  refine ⟨a, dx, kvs, rfl, s, lift_n o2 (.cons i2 (.cons (k2 _ _ i1) .nil)) h2 fun d r' v H' p o3 k3 i3 => ?_⟩
  obtain ⟨b, rfl, p⟩ := p
  cases i3
  exact ⟨b, rfl, kk _ r' _ H' p o3 ((k1.trans k2).trans k3) (.bl _)⟩
theorem d_inI (e : InK X.K C g) (F : FR X.prog X.w X.K X.mg X.base k g sd) (hr : Room k X.A) (ha : PD X W a ta) (hb : PD X W b tb) (hm : behindInMarks .In b = false := by with_unfolding_all rfl) : PD X W (.Compare a [.In] [b] pos) (aInI C sd false ta tb) := imE (pe_cmpR (op_inI e F hr) ha hb hm) fun _ _ _ q => td_inI q
theorem b_ninI (e : InK X.K C g) (F : FR X.prog X.w X.K X.mg X.base k g sd) (hr : Room k X.A) (ha : PD X W a ta) (hb : PD X W b tb) (hm : behindInMarks .NotIn b = false := by with_unfolding_all rfl) : PDB X W (.Compare a [.NotIn] [b] pos) (aTest (aInI C sd true ta tb)) := imT (pt_cmpR (op_ninI e F hr) ha hb hm) fun _ _ _ q => tdb_test (fun _ q => td_inI q) q
end
end G
namespace G
open PySem PySem.Spec L2
open PyProof.Rows (envOfC)
def DfG (K : PySem.W.Frag) (C : Addr) (m qual : Str) (st : Stmt) (ps : List Str) : Prop := ∃ f fd, FunA K m qual st f fd ∧ GiK K C f m ∧ Binds K fd ps []
def DfI (K : PySem.W.Frag) (C : Addr) (qual : Str) (st : Stmt) (ps : List Str) : Prop := ∃ f fd, FunA K "__contains__" qual st f fd ∧ InK K C f ∧ Binds K fd ps []
def DfNS (K : PySem.W.Frag) (C : Addr) (qual : Str) (st : Stmt) (ps : List Str) (pv : Str) : Prop := ∃ f fd, FunA K "__init__" qual st f fd ∧ Mk K C f ∧ ∀ us rest : List Value, us.length = ps.length → bindArgs fd ⟨us ++ rest, []⟩ = (newTuple rest >>= fun t => pure (ps.zip us ++ [(pv, t)]))
def ClG (P : Program) (w : World) (K : PySem.W.Frag) (mg : Str → Option Value) (base : Heap) (k : Nat) (C : Addr) (m : Str) (sd : SpX) : Prop := ∃ f, GiK K C f m ∧ FR P w K mg base k f sd
def ClI (P : Program) (w : World) (K : PySem.W.Frag) (mg : Str → Option Value) (base : Heap) (k : Nat) (C : Addr) (sd : SpX) : Prop := ∃ f, InK K C f ∧ FR P w K mg base k f sd
section
variable {P : Program} {w : World} {K : PySem.W.Frag} {mg : Str → Option Value} {base : Heap} {C : Addr} {m qual pv : Str} {st : Stmt} {N ps : List Str} {k j : Nat} {sd sd' : SpX}
theorem clg_of (d : DfG K C m qual st ps) (S : FnScope N ps (defScope st)) (len : ∀ ds r P' XR, sd ds r P' XR → ds.length = ps.length) (h : Bod P w K mg base qual st N k sd) : ClG P w K mg base (k + 1) C m sd := by
  obtain ⟨f, fd, F, M, b⟩ := d
  exact ⟨f, M, fr_of (fnA_d F S len (h f)) b⟩
theorem cli_of (d : DfI K C qual st ps) (S : FnScope N ps (defScope st)) (len : ∀ ds r P' XR, sd ds r P' XR → ds.length = ps.length) (h : Bod P w K mg base qual st N k sd) : ClI P w K mg base (k + 1) C sd := by
  obtain ⟨f, fd, F, M, b⟩ := d
  exact ⟨f, M, fr_of (fnA_d F S len (h f)) b⟩
theorem clns_of (d : DfNS K C qual st ps pv) (S : FnScope N (ps ++ [pv]) (defScope st)) (h : Bod P w K mg base qual st N k sd) : ClN P w K mg base (k + 1) C [] (starP ps.length sd) := by
  obtain ⟨f, fd, F, M, b⟩ := d
  refine ⟨f, M, fun j hj => ?_⟩
  have e : j = 0 := Nat.le_zero.mp hj
  subst e
  have q := fnS_d F S b h
  exact q.imp fun vs H Q E h => by
    obtain ⟨r, ds, P', XR, h1, h2, h3, h4⟩ := h
    exact ⟨r, ds, P', XR, h1, h2, by simpa using h3, h4⟩
end
section
variable {X : Cx} {W : WX} {k j : Nat} {C : Addr} {sd : SpX} {pos : Pos} {a b : Expr} {ta tb : AT}
theorem d_gix (M : ClG X.prog X.w X.K X.mg X.base k C "__getitem__" sd) (tk : Takes X W) (hr : Room j X.A) (ha : PD X W a ta) (hb : PD X W b tb) (hj : k + 1 ≤ j := by first | decide | exact Nat.le_refl _ | omega)
    (hsl : ∀ x i, subscripted b true x i = runValue (.builtin "lifetime.subscript" ⟨[x, i], []⟩) := by intros; with_unfolding_all rfl) : PD X W (.Subscript a b pos) (aDun C sd ta tb) := by
  obtain ⟨f, M, F⟩ := M
  exact d_gi M F tk (hr.mono hj) ha hb hsl
theorem d_ini (M : ClI X.prog X.w X.K X.mg X.base k C sd) (hr : Room j X.A) (ha : PD X W a ta) (hb : PD X W b tb) (hj : k ≤ j := by first | decide | exact Nat.le_refl _ | omega) (hm : behindInMarks .In b = false := by with_unfolding_all rfl) : PD X W (.Compare a [.In] [b] pos) (aInI C sd false ta tb) := by
  obtain ⟨f, M, F⟩ := M
  exact d_inI M F (hr.mono hj) ha hb hm
theorem b_nini (M : ClI X.prog X.w X.K X.mg X.base k C sd) (hr : Room j X.A) (ha : PD X W a ta) (hb : PD X W b tb) (hj : k ≤ j := by first | decide | exact Nat.le_refl _ | omega) (hm : behindInMarks .NotIn b = false := by with_unfolding_all rfl) : PDB X W (.Compare a [.NotIn] [b] pos) (aTest (aInI C sd true ta tb)) := by
  obtain ⟨f, M, F⟩ := M
  exact b_ninI M F (hr.mono hj) ha hb hm
end
/-- a dict by names -/
def nk (l : List (Str × D)) : List (Key × D) := l.map fun e => (Sum.inr e.1, e.2)
def aPut (l : List (Str × D)) (k : Str) (d : D) : List (Str × D) := if (l.any fun e => decide (e.1 = k)) = true then l.map (fun e => if e.1 = k then (e.1, d) else e) else l ++ [(k, d)]
def aGet (l : List (Str × D)) (k : Str) : Option D := (l.find? fun e => decide (e.1 = k)).map (·.2)
theorem nk_any (k : Str) : ∀ l : List (Str × D), ((nk l).any fun e => decide (e.1 = (Sum.inr k : Key))) = l.any fun e => decide (e.1 = k)
  | [] => rfl
  | e :: l => by
    have ih := nk_any k l
    unfold nk at ih ⊢
    rw [List.map_cons, List.any_cons, List.any_cons, ih]
    congr 1
    by_cases h : e.1 = k
    · rw [decide_eq_true h, decide_eq_true (by rw [h])]
    · rw [decide_eq_false h, decide_eq_false (fun z => h (Sum.inr.inj z))]
theorem nk_put {l : List (Str × D)} {k : Str} {d : D} : dPut (nk l) (.inr k) d = nk (aPut l k d) := by
  unfold dPut aPut
  rw [nk_any]
  split
  · unfold nk
    rw [List.map_map, List.map_map]
    refine List.map_congr_left fun e _ => ?_
    show (if (Sum.inr e.1 : Key) = .inr k then _ else _) = _
    by_cases h : e.1 = k
    · rw [if_pos (by rw [h])]
      show _ = (fun e : Str × D => ((Sum.inr e.1 : Key), e.2)) (if e.1 = k then (e.1, d) else e)
      rw [if_pos h]
    · rw [if_neg (fun z => h (Sum.inr.inj z))]
      show _ = (fun e : Str × D => ((Sum.inr e.1 : Key), e.2)) (if e.1 = k then (e.1, d) else e)
      rw [if_neg h]
  · unfold nk
    rw [List.map_append]
    rfl
theorem nk_get (k : Str) : ∀ l : List (Str × D), dGet (nk l) (.inr k) = aGet l k
  | [] => rfl
  | (j, d) :: l => by
    have ih := nk_get k l
    show dGet ((.inr j, d) :: nk l) (.inr k) = _
    by_cases h : j = k
    · subst h
      rw [dGet_pos]
      unfold aGet
      simp
    · rw [dGet_neg (fun z => h (Sum.inr.inj z)), ih]
      unfold aGet
      rw [List.find?_cons, decide_eq_false (show ¬ (j, d).1 = k from h)]
theorem nk_len (l : List (Str × D)) : (nk l).length = l.length := by unfold nk; rw [List.length_map]
theorem aGet_put (l : List (Str × D)) (k j : Str) (d : D) : aGet (aPut l k d) j = if j = k then some d else aGet l j := by
  have any_get : ∀ l : List (Str × D), (l.any fun e => decide (e.1 = k)) = (aGet l k).isSome := fun l => by
    induction l with
    | nil => rfl
    | cons e l ih =>
      unfold aGet at ih ⊢
      rw [List.any_cons, List.find?_cons]
      by_cases h : e.1 = k
      · rw [decide_eq_true h]; rfl
      · rw [decide_eq_false h, Bool.false_or]; exact ih
  unfold aPut
  split
  · rename_i hs
    clear any_get
    induction l with
    | nil => simp at hs
    | cons e l ih =>
      unfold aGet at ih ⊢
      rw [List.map_cons, List.find?_cons, List.find?_cons]
      by_cases h : e.1 = k
      · rw [if_pos h]
        by_cases q : e.1 = j
        · rw [decide_eq_true q, if_pos (q.symm.trans h)]; rfl
        · rw [decide_eq_false q]
          have jk : j ≠ k := fun z => q (h.trans z.symm)
          rw [if_neg jk]
          by_cases hs2 : (l.any fun e => decide (e.1 = k)) = true
          · have := ih hs2
            rw [if_neg jk] at this
            exact this
          · show Option.map _ (List.find? _ (l.map _)) = _
            have e2 : l.map (fun e => if e.1 = k then (e.1, d) else e) = l := by
              refine (List.map_congr_left fun e he => ?_).trans (List.map_id _)
              refine if_neg fun z => hs2 ?_
              exact List.any_eq_true.mpr ⟨e, he, decide_eq_true z⟩
            rw [e2]
      · rw [if_neg h]
        have hs2 : (l.any fun e => decide (e.1 = k)) = true := by
          rw [List.any_cons, decide_eq_false h, Bool.false_or] at hs
          exact hs
        by_cases q : e.1 = j
        · rw [decide_eq_true q, if_neg (fun z => h (q.trans z))]
        · rw [decide_eq_false q]; exact ih hs2
  · rename_i hs
    rw [any_get] at hs
    have hn : aGet l k = none := by
      cases q : aGet l k with
      | none => rfl
      | some _ => rw [q] at hs; exact (hs rfl).elim
    unfold aGet at hn ⊢
    rw [List.find?_append]
    have hk := Option.map_eq_none_iff.mp hn
    by_cases q : j = k
    · subst q
      rw [hk, if_pos rfl]
      simp
    · rw [if_neg q]
      cases hj : l.find? fun e => decide (e.1 = j) with
      | some _ => rfl
      | none =>
        have kj : ¬ k = j := fun z => q z.symm
        simp [kj]
end G
namespace G
open PySem PySem.Spec L2
open PyProof.Rows (envOfC)
end G
namespace G
open PySem PySem.Spec L2
open PyProof.Rows (envOfC)
def iAnyR (K : PySem.W.Frag) (tl : TE) : TI := fun σ H R => tl σ H fun x H1 => ∃ a, x = .ref a ∧ (((∃ xs, SqL K H1 a xs) ∧ R (Itl K a) H1) ∨ ((∃ xs, SqT K H1 a xs) ∧ R (Itt K a) H1))
theorem pi_any {X : Cx} {tg l : Expr} {tl : TE} (hl : PE X l tl) : PI X tg l (iAnyR X.K tl) := by
  refine ⟨fun pins s σ H R I h => ?_⟩
  refine thn (hl.run pins s σ H _ I h) fun v s1 ⟨x, H1, I1, r1, q1⟩ => ?_
  obtain ⟨a, e, q1⟩ := q1
  subst e
  cases r1
  rcases q1 with ⟨⟨xs, hq⟩, q⟩ | ⟨⟨xs, hq⟩, q⟩
  · obtain ⟨its, rv, p, hz⟩ := I1.list hq
    refine wpAny_pyIter_list p.isList ?_
    refine ⟨s1.heap.objs.size, [s1.heap.objs.size], _, _, H1, rfl, I1.kept (t' := s1.toks) fun b o e => Heap.get?_push_of_some _ e, turn_list a _, ⟨_, Heap.get?_push_size _ rfl, rfl, rfl⟩, fun b hb => ?_, q⟩
    have e : b = s1.heap.objs.size := by simpa using hb
    subst e
    exact I1.fpOk (Nat.le_refl _) (I1.hok.fresh (Nat.le_refl _))
  · obtain ⟨its, rv, p, hz⟩ := I1.tuple hq
    refine wpAny_pyIter_tuple (show s1.heap.IsTuple a its.toArray from p) ?_
    refine ⟨s1.heap.objs.size, [s1.heap.objs.size], _, _, H1, rfl, I1.kept (t' := s1.toks) fun b o e => Heap.get?_push_of_some _ e, turn_tuple a _, ⟨_, Heap.get?_push_size _ rfl, rfl, rfl⟩, fun b hb => ?_, q⟩
    have e : b = s1.heap.objs.size := by simpa using hb
    subst e
    exact I1.fpOk (Nat.le_refl _) (I1.hok.fresh (Nat.le_refl _))
def seqD : D → Option (List D) | .lst ds => some ds | .tup ds => some ds | _ => none
def iSeqA (t : AT) : AI := fun x δ r P => t x δ r fun d r1 => ∃ ds, seqD d = some ds ∧ P ds r1
theorem i_any {X : Cx} {W : WX} {tg e : Expr} {te : AT} (h : PD X W e te) : PDI X W tg e (iSeqA te) := imI (pi_any h) fun σ H Q ⟨XR, δ, r, P, o, q, k⟩ => td_bind o q fun d r1 v H1 h1 o1 k1 i1 => by
  obtain ⟨ds, e, h1⟩ := h1
  cases i1 with
  | lst n s al => cases e; exact ⟨_, rfl, .inl ⟨⟨_, SqL.of s⟩, k _ _ _ _ h1 o1 k1 (walks_l (.lst n s al))⟩⟩
  | tup s al => cases e; exact ⟨_, rfl, .inr ⟨⟨_, s⟩, k _ _ _ _ h1 o1 k1 (walks_t (.tup s al))⟩⟩
  | _ => cases e
end G
namespace G
open PySem PySem.Spec L2
open PyProof.Rows (envOfC)
end G
namespace G
open PySem PySem.Spec L2
end G
namespace G
open PySem PySem.Spec L2
def aPrs : List (AT × AT) → XT → Dl → Rs → (List (D × D) → Rs → Prop) → Prop
  | [], _, _, r, P => P [] r
  | (tk, tv) :: l, x, δ, r, P => tk x δ r fun dk r1 => tv x δ r1 fun dv r2 => aPrs l x δ r2 fun ps r3 => P ((dk, dv) :: ps) r3
def IsPP (K : PySem.W.Frag) (N : Addr → Prop) (H : Hp) (vs : List (V × V)) (ds : List (D × D)) : Prop := IsAll K N H (vs.map (·.1)) (ds.map (·.1)) ∧ IsAll K N H (vs.map (·.2)) (ds.map (·.2))
theorem prs_go {K : PySem.W.Frag} {W : WX} {XR : XT} {σ : St} {δ : Dl} : ∀ {trs : List (AT × AT)} {H : Hp} {r : Rs} {P : List (D × D) → Rs → Prop} {Q : List (V × V) → Hp → Prop}, Ok K W XR r δ σ H → aPrs trs XR δ r P → (∀ ds r' vs H', P ds r' → Ok K W XR r' δ σ H' → Kp K r H r' H' → IsPP K (mem r') H' vs ds → Q vs H') → tPairs (trs.map fun t => (TD K W t.1, TD K W t.2)) σ H Q
  | [], H, r, P, Q, o, h, k => k [] r [] H h o (fun _ _ i => i) ⟨.nil, .nil⟩
  | (tk, tv) :: l, H, r, P, Q, o, h, k => by
    show TD K W tk σ H fun x H1 => TD K W tv σ H1 fun y H2 => tPairs (l.map fun t => (TD K W t.1, TD K W t.2)) σ H2 fun ps H3 => Q ((x, y) :: ps) H3
    refine td_bind o h fun dk r1 v H1 h1 o1 k1 i1 => td_bind o1 h1 fun dv r2 v2 H2 h2 o2 k2 i2 => prs_go o2 h2 fun ds r3 vs H3 h3 o3 k3 i3 => ?_
    exact k _ r3 _ H3 h3 o3 ((k1.trans k2).trans k3) ⟨.cons (k3 _ _ (k2 _ _ i1)) i3.1, .cons (k3 _ _ i2) i3.2⟩
def PDP (X : Cx) (W : WX) (pos : Pos) (keys : List (Option Expr)) (values : List Expr) (trs : List (AT × AT)) : Prop := PPs X pos keys values (trs.map fun t => (TD X.K W t.1, TD X.K W t.2))
section
variable {X : Cx} {W : WX} {pos : Pos}
theorem dp_nil : PDP X W pos [] [] [] := pps_nil
theorem dp_cons {k v : Expr} {ks : List (Option Expr)} {vs : List Expr} {tk tv : AT} {trs : List (AT × AT)} (hk : PD X W k tk) (hv : PD X W v tv) (hr : PDP X W pos ks vs trs) : PDP X W pos (some k :: ks) (v :: vs) ((tk, tv) :: trs) := pps_cons hk hv hr
end
def keysD : List (D × D) → Option (List (Key × D))
  | [] => some []
  | (k, v) :: l => match keyD k, keysD l with | some k, some l => some ((k, v) :: l) | _, _ => none
def mrg (es : List (Key × D)) (acc : List (Key × D)) : List (Key × D) := es.foldl (fun acc e => dPut acc e.1 e.2) acc
theorem keys_go {K : PySem.W.Frag} {N : Addr → Prop} {H : Hp} : ∀ {ds : List (D × D)} {vs : List (V × V)} {es : List (Key × D)}, IsPP K N H vs ds → keysD ds = some es → ∃ kvs : List (Key × V), vs = kvs.map (fun kv => (kV kv.1, kv.2)) ∧ kvs.length = es.length ∧ IsKV K N H kvs es
  | [], vs, es, ⟨h1, h2⟩, hk => by
    cases hk
    match vs, h1 with
    | [], _ => exact ⟨[], rfl, rfl, .nil⟩
  | (dk, dv) :: ds, vs, es, ⟨h1, h2⟩, hk => by
    match vs, h1, h2 with
    | (a, b) :: vs, .cons i1 t1, .cons i2 t2 =>
      unfold keysD at hk
      cases q : keyD dk with
      | none => rw [q] at hk; cases hk
      | some key =>
        cases q2 : keysD ds with
        | none => rw [q, q2] at hk; cases hk
        | some es2 =>
          rw [q, q2] at hk
          cases hk
          obtain ⟨kvs, e1, e2, e3⟩ := keys_go (vs := vs) ⟨t1, t2⟩ q2
          have := key_val q i1
          subst this
          exact ⟨(key, b) :: kvs, by rw [e1]; rfl, by simp [e2], .cons i2 e3⟩
theorem mrg_go {K : PySem.W.Frag} {N : Addr → Prop} {H : Hp} : ∀ {kvs : List (Key × V)} {es : List (Key × D)} {xs : List (Key × V)} {acc : List (Key × D)}, IsKV K N H kvs es → IsKV K N H xs acc → IsKV K N H (mergeK xs kvs) (mrg es acc)
  | [], _, _, _, hk, h => by cases hk; exact h
  | (k, v) :: kvs, _, xs, acc, hk, h => by
    cases hk with
    | @cons _ _ d _ es i t => exact (mrg_go (kvs := kvs) (es := es) (xs := putK xs k v) (acc := dPut acc k d) t (h.put i) : IsKV K N H (mergeK (putK xs k v) kvs) (mrg es (dPut acc k d)))
def aDispF (trs : List (AT × AT)) : AT := fun x δ r P => ∀ p, aPrs trs x δ (r ++ [dctA p []]) fun ps r2 => ∃ pre es, r2 = pre ++ [dctA p []] ∧ keysD ps = some es ∧ es.length ≤ 15 ∧ P (.dct ((mrg es []).map (·.1)) ((mrg es []).map (·.2))) pre
section
variable {X : Cx} {W : WX} {pos : Pos} {keys : List (Option Expr)} {values : List Expr} {trs : List (AT × AT)}
theorem d_dispF (h : PDP X W pos keys values trs) (hall : keys.all (·.isSome) = true := by rfl) (hl : keys.length = values.length := by rfl) (h0 : keys ≠ [] := by exact fun e => by cases e) (h15 : keys.length ≤ 15 := by decide) : PD X W (.Dict keys values pos) (aDispF trs) := imE (pe_disp h hall hl h0 h15) fun σ H Q q => by
  obtain ⟨XR, δ, r, P, o, h, k⟩ := q
  intro p hp
  obtain ⟨q1, q2⟩ := mid_new (t := dctA p []) rfl o.r hp (Ext.new hp) fun _ => ⟨[], upd_same, .nil⟩
  refine prs_go (o.step q2 q1) (h p) ?_
  rintro ds _ vs H2 ⟨pre, es, rfl, hk, he, hP⟩ o2 k2 i2
  obtain ⟨xs, e1, e2⟩ := dct_at o2.r ⟨pre, [], rfl⟩
  cases e2
  obtain ⟨kvs, g1, g2, g3⟩ := keys_go i2 hk
  obtain ⟨z1, z2⟩ := dct_put o2.r (mrg_go g3 .nil)
  obtain ⟨d1, d2, d3⟩ := dct_drop (post := []) z1
  rw [List.append_nil] at d1 d2 d3
  exact ⟨e1, kvs, g1, by rw [g2]; exact he, k _ _ _ _ hP (o2.step (z2.trans d3) d1) ((q2.trans k2).trans (z2.trans d3)) d2⟩
end
end G
namespace G
open PySem PySem.Spec L2
end G
namespace G
open PySem PySem.Spec L2
structure aLcOK (x : XT) (g : AG) (tt : AB) (te : AT) (δw : Dl) (a : Addr) (xs : List D) (r1 : Rs) (P : PK1) : Prop where
  ex : ∃ I : Nat → List D → Rs → Prop, I 0 [] r1 ∧ (∀ i acc r', I i acc r' → Own r' a xs) ∧
  (∀ (p : Addr) i d acc r', xs[i]? = some d → I i acc r' → g d δw fun δ2 => tt x δ2 (r' ++ [lstA p acc]) fun b r2 =>
    (b = true → te x δ2 r2 fun y r3 => small (acc.length + 1) ∧ ∃ r4, le r3 (r4 ++ [lstA p acc]) ∧ I (i + 1) (acc ++ [y]) r4) ∧ (b = false → ∃ r4, le r2 (r4 ++ [lstA p acc]) ∧ I (i + 1) acc r4)) ∧
  ∀ acc r', I xs.length acc r' → P (.lst acc) r'
def aLcOwn (ta : AT) (g : AG) (tt : AB) (te : AT) (vs : List Nat) : AT := fun x δ r P => ta x δ r fun d r1 => ∃ a xs, d = .adr a ∧ aLcOK x g tt te (wipeD δ vs) a xs r1 P
theorem own_more {r t : Rs} {a : Addr} {xs : List D} (h : Own r a xs) : Own (r ++ t) a xs := by
  obtain ⟨pre, post, rfl⟩ := h
  exact ⟨pre, post ++ t, by rw [List.append_assoc]; rfl⟩
variable {K : PySem.W.Frag}
theorem td_lcO {W : WX} {ta : AT} {g : AG} {tt : AB} {te : AT} {vs js : List Nat} (hj : ∀ j ∈ js, j ∈ vs) {σ : L2.St} {H : Hp} {Q : VK} (q : TD K W (aLcOwn ta g tt te vs) σ H Q) : tLc (iList K (TD K W ta)) (TDG K js g) (TDB K W tt) (TD K W te) vs σ H Q := by
  obtain ⟨XR, δ, r, P, o, h, k⟩ := q
  refine td_bind o h fun d r1 v H1 hh o1 k1 i1 => ?_
  obtain ⟨a, xs, rfl, ⟨I, h0, how, hst, hd⟩⟩ := hh
  cases i1
  obtain ⟨ws0, e1, _⟩ := own_get o1.r (how _ _ _ h0)
  refine ⟨a, rfl, ⟨ws0, SqL.of e1⟩, fun p hp => ?_⟩
  obtain ⟨s1, s2⟩ := rok_plus o1.r hp
  refine ⟨fun i m H' => m = xs.length - i ∧ i ≤ xs.length ∧ ∃ acc r', I i acc r' ∧ Rok K (r' ++ [lstA p acc]) H' ∧ Kp K r1 H1 (r' ++ [lstA p acc]) H', ⟨xs.length, by simp, Nat.zero_le _, [], r1, h0, s1, s2⟩, ?_⟩
  rintro i m H' ⟨rfl, hi, acc, r', hI, ro, kp⟩
  obtain ⟨ws, w1, w2⟩ := own_get ro (own_more (how _ _ _ hI))
  by_cases hlt : i < xs.length
  · refine .inr ⟨⟨ws, ws[i]'(by rw [w2.length]; exact hlt), SqL.of w1, by simp⟩, fun H2 => ∃ acc r2, I (i + 1) acc r2 ∧ Rok K (r2 ++ [lstA p acc]) H2 ∧ Kp K r1 H1 (r2 ++ [lstA p acc]) H2, fun H2 ⟨acc, r2, q1, q2, q3⟩ => ⟨xs.length - (i + 1), by omega, rfl, hlt, acc, r2, q1, q2, q3⟩, fun x H2 y => ?_⟩
    obtain ⟨rfl, hx⟩ := y
    obtain ⟨d, hd', ix⟩ := w2.get (hx ws (SqL.of w1))
    have o2 : Ok K W XR (r' ++ [lstA p acc]) (wipeD δ vs) (wipe σ vs) H2 := (o1.step kp ro).wipe vs
    refine ⟨W, XR, wipeD δ vs, _, d, _, o2, ix, hst p i d acc r' hd' hI, fun δ2 σ2 q o3 ag => ⟨wipe_agree ag hj, XR, δ2, _, _, o3, q, fun b r3 H3 q3 o4 k4 => ?_⟩⟩
    cases b with
    | true =>
      show TD K W te σ2 H3 _
      refine td_bind o4 (q3.1 rfl) fun y r5 v H5 ⟨sz, r6, l6, h5⟩ o5 k5 i5 => ?_
      obtain ⟨ws, e1, e2, e3, e4⟩ := rok_more (le_rok l6 o5.r) (is_anti l6.m i5)
      refine ⟨ws, e1, by rw [e2]; exact Nat.lt_of_lt_of_le (Nat.lt_succ_self _) sz.sz, acc ++ [y], r6, h5, e3, fun v' d' z => e4 _ _ (is_anti l6.m (k5 _ _ (k4 _ _ (kp _ _ z))))⟩
    | false =>
      show ∃ acc r2, _
      obtain ⟨r6, l6, h5⟩ := q3.2 rfl
      exact ⟨acc, r6, h5, le_rok l6 o4.r, fun v' d' z => is_anti l6.m (k4 _ _ (kp _ _ z))⟩
  · have e : i = xs.length := by omega
    obtain ⟨d1, d2, d3⟩ := rok_done ro
    exact .inl ⟨⟨ws, SqL.of w1, by rw [w2.length, e] <;> exact Nat.le_refl _⟩, k _ r' _ H' (hd acc r' (e ▸ hI)) (o1.step (kp.trans d3) d1) ((k1.trans kp).trans d3) d2⟩
theorem s_setLcO {X : Cx} {W : WX} {i : Nat} {y : Str} {py : Pos} {elt tg iter : Expr} {ifs : List Expr} {scope : Scope} {own : List (Str × Nat)} {pos spos : Pos} {js : List Nat} {ta : AT} {g : AG} {tt : AB} {te : AT} (hN : X.N.Nodup) (hi : PD X W iter ta) (ok : BlkOk X.N X.env.scope scope own)
    (hg : ∀ (s : Shared) (H : Hp) (C : Addr) (cl : List (Str × Addr)) (fp : List Addr), PDG (X.blk s H scope (compEnvC scope cl C X.env) fp) tg js g) (ht : ∀ (s : Shared) (H : Hp) (C : Addr) (cl : List (Str × Addr)) (fp : List Addr), PTs (X.blk s H scope (compEnvC scope cl C X.env) fp) ifs (TDB X.K W tt))
    (he : ∀ (s : Shared) (H : Hp) (C : Addr) (cl : List (Str × Addr)) (fp : List Addr), PD (X.blk s H scope (compEnvC scope cl C X.env) fp) W elt te) (hsw : swapsWith (.ListComp elt [⟨tg, iter, ifs, 0⟩] scope pos) (some (.Name y py)) spos.line X.env = pure true) (hj : ∀ j ∈ js, j ∈ own.map (·.2) := by decide)
    (hc : X.calm = true := by rfl) (hy : X.N[i]? = some y := by rfl) (hyl : X.env.scope.names.lookup y = some .local := by rfl) (hs : ∀ x, foldedSetIterable iter X.env x = pure x := by intro _; rfl) :
    PSD X W (.Assign [.Name y py] (.ListComp elt [⟨tg, iter, ifs, 0⟩] scope pos) spos) (sAsg i (aLcOwn ta g tt te (own.map (·.2)))) :=
  imS (ps_setLc (g := TDG X.K js g) (tt := TDB X.K W tt) (te := TD X.K W te) hc hN hy hyl hsw (pi_list hi) ok hg ht he hs) fun D σ H ⟨δ, r, A, o, h, f⟩ => td_lcO hj (td_bind o h fun d r1 v H1 h1 o1 k1 i1 => f.nx _ _ _ _ h1 (o1.set i1) k1)
end G
namespace G
open PySem
end G
namespace G
open PySem PySem.Spec L2
open PyProof.Rows (envOfC)
inductive Pt where | n (i : Nat) | t (is : List Nat)
def gP2 : List Pt → List D → Dl → (Dl → Prop) → Prop
  | [], ds, δ, Q => ds = [] ∧ Q δ
  | .n i :: ps, ds, δ, Q => (match ds with | d :: ds => gP2 ps ds (δ.set i (some d)) Q | [] => False)
  | .t is :: ps, ds, δ, Q => (match ds with | .tup es :: ds => es.length = is.length ∧ gP2 ps ds (setAll δ is es) Q | _ => False)
def gM (ps : List Pt) : AG := fun d δ Q => match d with | .tup ds => ds.length = ps.length ∧ gP2 ps ds δ Q | _ => False
end G
namespace G
open PySem PySem.Spec L2
open PyProof.Rows (envOfC)
structure aLcNK (x : XT) (g : AG) (tt : AB) (te : AT) (δw : Dl) (ds : List D) (r1 : Rs) (P : PK1) : Prop where
  ex : ∃ I : Nat → List D → Rs → Prop, I 0 [] r1 ∧
  (∀ (p : Addr) i d acc r', ds[i]? = some d → I i acc r' → g d δw fun δ2 => tt x δ2 (r' ++ [lstA p acc]) fun b r2 =>
    (b = true → te x δ2 r2 fun y r3 => small (acc.length + 1) ∧ ∃ r4, le r3 (r4 ++ [lstA p acc]) ∧ I (i + 1) (acc ++ [y]) r4) ∧ (b = false → ∃ r4, le r2 (r4 ++ [lstA p acc]) ∧ I (i + 1) acc r4)) ∧
  ∀ p acc r', I ds.length acc r' → P (.adr p) (r' ++ [lstA p acc])
def aLcN (ti : AI) (g : AG) (tt : AB) (te : AT) (vs : List Nat) : AT := fun x δ r P => ti x δ r fun ds r1 => aLcNK x g tt te (wipeD δ vs) ds r1 P
theorem td_lcN {K : PySem.W.Frag} {W : WX} {ti : AI} {g : AG} {tt : AB} {te : AT} {vs js : List Nat} (hj : ∀ j ∈ js, j ∈ vs) {σ : L2.St} {H : Hp} {Q : VK} (q : TD K W (aLcN ti g tt te vs) σ H Q) : tLc (TDI K W ti) (TDG K js g) (TDB K W tt) (TD K W te) vs σ H Q := by
  obtain ⟨XR, δ, r, P, o, h, k⟩ := q
  refine ⟨XR, δ, r, _, o, h, fun ds r1 J H1 ⟨⟨I, h0, hst, hd⟩⟩ o1 k1 w p hp => ?_⟩
  obtain ⟨s1, s2⟩ := rok_plus o1.r hp
  refine ⟨fun i m H' => m = ds.length - i ∧ i ≤ ds.length ∧ ∃ acc r', I i acc r' ∧ Rok K (r' ++ [lstA p acc]) H' ∧ Kp K r1 H1 (r' ++ [lstA p acc]) H', ⟨ds.length, by simp, Nat.zero_le _, [], r1, h0, s1, s2⟩, ?_⟩
  rintro i m H' ⟨rfl, hi, acc, r', hI, ro, kp⟩
  by_cases hlt : i < ds.length
  · obtain ⟨hgo, hy⟩ := (w i _ H' kp ro).1 hlt
    refine .inr ⟨hgo, fun H2 => ∃ acc r2, I (i + 1) acc r2 ∧ Rok K (r2 ++ [lstA p acc]) H2 ∧ Kp K r1 H1 (r2 ++ [lstA p acc]) H2, fun H2 ⟨acc, r2, q1, q2, q3⟩ => ⟨ds.length - (i + 1), by omega, rfl, hlt, acc, r2, q1, q2, q3⟩, fun x H2 y => ?_⟩
    obtain ⟨ex, d, hd', ix⟩ := hy x H2 y
    have k2 := kp.trans (Kp.ext ex)
    have o2 : Ok K W XR (r' ++ [lstA p acc]) (wipeD δ vs) (wipe σ vs) H2 := (o1.step k2 (ro.ext ex)).wipe vs
    refine ⟨W, XR, wipeD δ vs, _, d, _, o2, ix, hst p i d acc r' hd' hI, fun δ2 σ2 q o3 ag => ⟨wipe_agree ag hj, XR, δ2, _, _, o3, q, fun b r3 H3 q3 o4 k4 => ?_⟩⟩
    cases b with
    | true =>
      show TD K W te σ2 H3 _
      refine td_bind o4 (q3.1 rfl) fun y r5 v H5 ⟨sz, r6, l6, h5⟩ o5 k5 i5 => ?_
      obtain ⟨ws, e1, e2, e3, e4⟩ := rok_more (le_rok l6 o5.r) (is_anti l6.m i5)
      refine ⟨ws, e1, by rw [e2]; exact Nat.lt_of_lt_of_le (Nat.lt_succ_self _) sz.sz, acc ++ [y], r6, h5, e3, fun v' d' z => e4 _ _ (is_anti l6.m (k5 _ _ (k4 _ _ (k2 _ _ z))))⟩
    | false =>
      show ∃ acc r2, _
      obtain ⟨r6, l6, h5⟩ := q3.2 rfl
      exact ⟨acc, r6, h5, le_rok l6 o4.r, fun v' d' z => is_anti l6.m (k4 _ _ (k2 _ _ z))⟩
  · have e : i = ds.length := by omega
    exact .inl ⟨(w i _ H' kp ro).2 e, k _ _ _ H' (hd p acc r' (e ▸ hI)) (o1.step kp ro) (k1.trans kp) (.adr p)⟩
theorem s_setLcN {X : Cx} {W : WX} {i : Nat} {y : Str} {py : Pos} {elt tg iter : Expr} {ifs : List Expr} {scope : Scope} {own : List (Str × Nat)} {pos spos : Pos} {js : List Nat} {wi : AI} {g : AG} {tt : AB} {te : AT} (hN : X.N.Nodup) (hi : PDI X W tg iter wi) (ok : BlkOk X.N X.env.scope scope own)
    (hg : ∀ (s : Shared) (H : Hp) (C : Addr) (cl : List (Str × Addr)) (fp : List Addr), PDG (X.blk s H scope (compEnvC scope cl C X.env) fp) tg js g) (ht : ∀ (s : Shared) (H : Hp) (C : Addr) (cl : List (Str × Addr)) (fp : List Addr), PTs (X.blk s H scope (compEnvC scope cl C X.env) fp) ifs (TDB X.K W tt))
    (he : ∀ (s : Shared) (H : Hp) (C : Addr) (cl : List (Str × Addr)) (fp : List Addr), PD (X.blk s H scope (compEnvC scope cl C X.env) fp) W elt te) (hsw : swapsWith (.ListComp elt [⟨tg, iter, ifs, 0⟩] scope pos) (some (.Name y py)) spos.line X.env = pure true) (hj : ∀ j ∈ js, j ∈ own.map (·.2) := by decide)
    (hc : X.calm = true := by rfl) (hy : X.N[i]? = some y := by rfl) (hyl : X.env.scope.names.lookup y = some .local := by rfl) (hs : ∀ x, foldedSetIterable iter X.env x = pure x := by intro _; rfl) :
    PSD X W (.Assign [.Name y py] (.ListComp elt [⟨tg, iter, ifs, 0⟩] scope pos) spos) (sAsg i (aLcN wi g tt te (own.map (·.2)))) :=
  imS (ps_setLc (g := TDG X.K js g) (tt := TDB X.K W tt) (te := TD X.K W te) hc hN hy hyl hsw hi ok hg ht he hs) fun D σ H ⟨δ, r, A, o, h, f⟩ => td_lcN hj (td_bind o h fun d r1 v H1 h1 o1 k1 i1 => f.nx _ _ _ _ h1 (o1.set i1) k1)
section
variable {x : XT} {g g1 : AG} {te : AT} {ti1 : AI} {vs1 : List Nat} {δw : Dl} {ds : List D} {r1 : Rs} {P : PK1}
theorem lcN_map (f : D → D) (hz : small ds.length) (he : ∀ d ∈ ds, ∀ (r' : Rs) (P' : PK1), P' (f d) r' → g d δw fun δ2 => te x δ2 r' P') (hP : ∀ p, P (.adr p) (r1 ++ [lstA p (ds.map f)])) : aLcNK x g bYes te δw ds r1 P := by
  refine ⟨fun i acc r' => acc = (ds.take i).map f ∧ r' = r1, ⟨rfl, rfl⟩, ?_, ?_⟩
  · rintro p i d acc r' hd ⟨rfl, rfl⟩
    have hi := (List.getElem?_eq_some_iff.mp hd).1
    refine Eq.mp ?_ (he d (List.mem_of_getElem? hd) (r' ++ [lstA p ((ds.take i).map f)]) (fun y r3 => small (((ds.take i).map f).length + 1) ∧ ∃ r4, le r3 (r4 ++ [lstA p ((ds.take i).map f)]) ∧ ((ds.take i).map f ++ [y] = (ds.take (i + 1)).map f ∧ r4 = r')) ?_)
    · congr 1
      funext δ2
      unfold bYes
      simp
    · refine ⟨?_, r', le.refl, ?_, rfl⟩
      · rw [List.length_map, List.length_take]
        have : small ds.length := hz
        unfold small at *
        omega
      · rw [List.take_add_one, hd, List.map_append]
        rfl
  · rintro p acc r' ⟨rfl, rfl⟩
    rw [List.take_length]
    exact hP p
end
end G
namespace G
open PySem PySem.Spec L2
open PyProof.Rows (envOfC)
end G
namespace G
open PySem PySem.Spec L2
open PyProof.Rows (envOfC)
end G
namespace G
open PySem PySem.Spec L2
open PyProof.Rows (envOfC)
end G
namespace G
open PySem PySem.Spec L2
open PyProof.Rows (envOfC)
end G
namespace G
open PySem PySem.Spec L2
open PyProof.Rows (envOfC)
end G
namespace G
open PySem PySem.Spec L2
open PyProof.Rows (envOfC)
end G
namespace G
open PySem PySem.Spec L2
open PyProof.Rows (envOfC)
end G
namespace G
open PySem PySem.Spec L2
open PyProof.Rows (envOfC)
end G
namespace G
open PySem PySem.Spec L2
open PyProof.Rows (envOfC)
def LoopK (X : Cx) (pins : List (Addr × Obj)) (σ : L2.St) (r : Rs) (H : Hp) (s' : Shared) : Prop := ∃ H', L2.Inv X pins σ H' s' ∧ Rok X.K r H' ∧ Kp X.K r H r H'
/-- an instance that equals itself by its class's own def -/
def SelfEq (C : Addr) (sd : SpX) (r : Rs) (d : D) : Prop := (∃ fs es, d = .ins C fs es) ∧ sd [d, d] r (fun d' r' => d' = .bl true ∧ r' = r) noX
theorem turnK {X : Cx} {k : Nat} {C g : Addr} {sd : SpX} (e : EqK X.K C g) (F : FR X.prog X.w X.K X.mg X.base k g sd) {A : Around} (sb : Sub X k A) {pins : List (Addr × Obj)} {σ : L2.St} {r : Rs} {H : Hp} {s : Shared} {d : D} {x y : V} {u v : Value} (sf : SelfEq C sd r d)
    (I : L2.Inv X pins σ H s) (ro : Rok X.K r H) (i1 : Is X.K (mem r) H x d) (i2 : Is X.K (mem r) H y d) (rx : RelV x u) (ry : RelV y v) : wpAny (model X.prog X.w) A (eqBool u v) (fun b s' => b = true ∧ LoopK X pins σ r H s') X.xe s := by
  obtain ⟨⟨fs, es, rfl⟩, hs⟩ := sf
  cases i1 with
  | @ins a _ dx kvs _ _ n1 s1 e1 gd1 a1 =>
    cases i2 with
    | @ins b _ dy kvs2 _ _ n2 s2 e2 gd2 a2 =>
      cases (show u = Value.ref a from rx)
      cases (show v = Value.ref b from ry)
      by_cases hab : a = b
      · subst hab
        exact SeqAt.EqAt.same (A := A) (s := s) (.ref a) X.prog X.w X.xe _ ⟨rfl, H, I, ro, Kp.refl⟩
      · refine GQ.eqBool_refG hab ?_
        obtain ⟨mA, J, _⟩ := ins_get I.hok s1
        obtain ⟨mB, J', _⟩ := ins_get I.hok s2
        obtain ⟨od, J, _⟩ := J.look
        obtain ⟨od', J', _⟩ := J'.look
        obtain ⟨m, hF⟩ := I.fr
        refine PySem.W.cmp_K (op := .Eq) (tb := .ref C) sb.room.units0 hF I.ok.mod.kin J J'.type (by simp [PySem.W.notFirst]) e.at_ e.fn ?_
        have e0 : Env0 X.prog X.w X.K X.mg X.base A X.stack s H := by
          have e := I.env0
          exact ⟨by rw [sb.fr]; exact e.frames, e.mod, e.bs, e.bsz, e.funs, e.frf, e.hok, e.bare⟩
        have hq : lift X.K sd [.ref a, .ref b] H (fun v H' => v = .bl true ∧ Rok X.K r H' ∧ Kp X.K r H r H') E0 :=
          ⟨r, _, _, _, ro, .cons (.ins n1 s1 e1 gd1 a1) (.cons (.ins n2 s2 e2 gd2 a2) .nil), hs, fun d r' v H' ⟨p1, p2⟩ ro' kp i => by
            subst p1
            subst p2
            cases i
            exact ⟨rfl, ro', kp⟩, fun _ _ _ _ _ _ z => z.elim⟩
        refine wpAny_call (codeAny_mono (F A X.stack s H [.ref a, .ref b] [.ref a, .ref b] _ E0 sb.room e0 (.cons rfl (.cons rfl .nil)) hq) fun r2 s' hq2 => ?_)
        cases r2 with
        | error e => exact (passE (σ := σ) pins H s e s' I hq2)
        | ok fl =>
          cases fl with
          | ret w =>
            obtain ⟨z, H', I', rz, ez, ro', kp⟩ := I.after hq2
            subst ez
            cases rz
            exact ⟨true, rfl, rfl, H', I', ro', kp⟩
          | next => exact False.elim hq2
          | brk => exact False.elim hq2
          | cont => exact False.elim hq2
end G
namespace G
open PySem PySem.Spec L2
open PyProof.Rows (envOfC)
end G
namespace G
open PySem PySem.Spec L2
open PyProof.Rows (envOfC)
end G
namespace G
open PySem PySem.Spec L2 PyProof.Rows
end G
namespace G
open PySem PySem.Spec L2 PyProof.Rows
end G
namespace G
open PySem PySem.Spec L2
open PyProof.Rows (envOfC)
end G
namespace G
open PySem PySem.Spec L2 PyProof.Rows
end G
namespace G
open PySem PySem.Spec L2
def DctV (r : Rs) (d : D) (kvs : List (Key × D)) : Prop := (∃ a, d = .adr a ∧ (OwnD r a kvs ∨ OwnLk r a kvs)) ∨ d = .dct (kvs.map (·.1)) (kvs.map (·.2))
theorem zip_unz : ∀ (kvs : List (Key × D)), (kvs.map (·.1)).zip (kvs.map (·.2)) = kvs
  | [] => rfl
  | (a, b) :: l => by rw [List.map_cons, List.map_cons, List.zip_cons_cons, zip_unz l]
theorem oDGet.of {r : Rs} {d y : D} {kvs : List (Key × D)} {key : Key} {k : Option D → Prop} (h : DctV r d kvs) (hk : keyD y = some key) (p : k (dGet kvs key)) : oDGet r d y k := by
  rcases h with ⟨a, rfl, ow | ow⟩ | rfl
  · exact .own ow hk p
  · exact .lck ow hk p
  · exact .fro hk (by rw [zip_unz]; exact p)
theorem DctV.at_ {K : PySem.W.Frag} {r : Rs} {H : Hp} {d : D} {v : V} {kvs : List (Key × D)} (h : DctV r d kvs) (ro : Rok K r H) (i : Is K (mem r) H v d) : ∃ a xs, v = .ref a ∧ Rd H a (.dK xs) ∧ IsKV K (mem r) H xs kvs := by
  rcases h with ⟨a, rfl, ow | ow⟩ | rfl
  · cases i
    obtain ⟨xs, e1, e2⟩ := dct_at ro ow
    exact ⟨a, xs, rfl, .inl e1, e2⟩
  · cases i
    obtain ⟨xs, e1, e2⟩ := lck_at ro ow
    exact ⟨a, xs, rfl, e1, e2⟩
  · cases i with
    | dct n h e a =>
      have := IsKV.of_zip a
      rw [e, zip_unz] at this
      exact ⟨_, _, rfl, .inl h, this⟩
end G
namespace GB
open PySem PySem.Spec PySem.W PyProof.Rows
/-- t looks the names up in the dict at D, one behind another, and goes on as r -/
def KwTo {α : Type} (D : Addr) : List (Str × Value) → Sem α → Sem α → Prop
  | [], t, r => t = r
  | q :: l, t, r => ∃ (β γ : Type) (k1 : Option Value → Sem β) (k2 : β → Sem γ) (k3 : γ → Sem α) (a : β), t = ((nsGet D q.1 >>= k1) >>= k2) >>= k3 ∧ k1 (some q.2) = pure a ∧ KwTo D l (k2 a >>= k3) r
theorem KwTo.run {α : Type} {K : Frag} {M : Model} {A : Around} {D : Addr} {E : Value → Shared → Prop} {s : Shared} {Q : α → Shared → Prop} (X : K.In s.heap) : ∀ {l : List (Str × Value)} {t r : Sem α}, (∀ q ∈ l, nsIn K D q.1 = some (some q.2)) → KwTo D l t r → wpAny M A r Q E s → wpAny M A t Q E s
  | [], t, r, _, e, h => by rw [show t = r from e]; exact h
  | q :: l, t, r, hl, e, h => by
    obtain ⟨β, γ, k1, k2, k3, a, e1, e2, e3⟩ := e
    have ih := KwTo.run X (fun p hp => hl p (List.mem_cons_of_mem _ hp)) e3 h
    have L : Looks M s.heap (nsGet D q.1 >>= k1) a := (looks_nsIn X (hl q List.mem_cons_self)).andThen (Looks.of_pure e2)
    rw [e1, bind_assoc]
    exact wpAny_bind (L.here ih)
end GB
namespace G
open PySem PySem.Spec L2
open PyProof.Rows (envOfC)
/-- the promise of such a def: what stands ahead, the keyword's value, the rest -/
def kwP (n : Nat) (sd : SpX) : SpX := fun ds r P XR => ∃ a rest z, ds = a ++ (rest ++ [z]) ∧ a.length = n ∧ rest.length ≤ 1000000 ∧ sd (a ++ [z, .tup rest]) r P XR
/-- the same called without the keyword: z is the default -/
def kw0P (n : Nat) (z : D) (sd : SpX) : SpX := starP n fun ds r P XR => ∃ a t, ds = a ++ [t] ∧ a.length = n ∧ sd (a ++ [z, t]) r P XR
/-- called with one keyword, its value behind the others -/
def FRK (P : Program) (w : World) (K : PySem.W.Frag) (mg : Str → Option Value) (base : Heap) (k : Nat) (f : Addr) (ks : Str) (sd : SpX) : Prop :=
  ∀ (A : Around) (outer : List Env) (s : Shared) (H : Hp) (us : List Value) (w1 : Value) (vs : List V) (z : V) (Q : VK) (E : XK), Room k A → Env0 P w K mg base A outer s H → Vals vs us → RelV z w1 → lift K sd (vs ++ [z]) H Q E →
    codeAny (model P w) A (.call (.ref f) ⟨us, [(ks, w1)]⟩) (CR (L2.CX P w) outer P w H s Q E) s
end G
namespace G
open PySem PySem.Spec L2
open PyProof.Rows (envOfC)
def ClNK (P : Program) (w : World) (K : PySem.W.Frag) (mg : Str → Option Value) (base : Heap) (k : Nat) (C : Addr) (pk : Str) (z : D) (sd : SpX) : Prop := ∃ f, Mk K C f ∧ FR P w K mg base k f (kw0P 1 z sd) ∧ FRK P w K mg base k f pk (kwP 1 sd)
section
variable {P : Program} {w : World} {K : PySem.W.Frag} {mg : Str → Option Value} {base : Heap}
theorem ClNK.n {C : Addr} {pk : Str} {z : D} {k : Nat} {sd : SpX} (h : ClNK P w K mg base k C pk z sd) : ClN P w K mg base k C [] (kw0P 1 z sd) := by
  obtain ⟨f, M, F, _⟩ := h
  refine ⟨f, M, fun j hj => ?_⟩
  have e : (fun (ds : List D) (r : Rs) (P : PK1) (XR : XD) => kw0P 1 z sd (ds ++ ([] : List D).drop j) r P XR) = kw0P 1 z sd := by
    funext ds r P XR
    rw [List.drop_nil, List.append_nil]
  rw [e]
  exact F
end
section
variable {X : Cx} {W : WX} {k j : Nat} {C f : Addr} {sd : SpX} {x pk : Str} {p pos p1 kpos : Pos} {e e1 : Expr} {es : List Expr} {l : AL} {t te : AT} {fs : List Str} {z : D}
theorem d_mk0 (M : ClN X.prog X.w X.K X.mg X.base k C [] sd) (kc : KCls X.K X.mg x C fs) (tk : Takes X W) (hr : Room j X.A) (hj : k + 1 ≤ j := by first | decide | exact Nat.le_refl _ | omega) (hg : Gl X x := by rfl) (hdb : (x == ("__debug__" : Str)) = false := by decide) :
    PD X W (.Call (.Name x p) [] [] pos) (aNew C (fun ds r P XR => sd (ds ++ []) r P XR) aNil) := by
  obtain ⟨f, M, F⟩ := M
  exact d_new0 M kc.p (F 0 (Nat.le_refl _)) tk (hr.mono hj) kc.g hg hdb
end
end G
namespace G
open PySem PySem.Spec L2 PyProof.Rows
end G
namespace G
open PySem PySem.Spec L2
def sm (l : List (Str × Str)) : List (Key × D) := l.map fun e => (.inr e.1, .str e.2)
def sGet (l : List (Str × Str)) (z : Str) : Option Str := (l.find? fun e => decide (e.1 = z)).map (·.2)
theorem sm_get (z : Str) : ∀ l : List (Str × Str), dGet (sm l) (.inr z) = (sGet l z).map D.str
  | [] => rfl
  | e :: l => by
    have ih := sm_get z l
    unfold sGet at ih ⊢
    unfold dGet at ih ⊢
    show Option.map _ (List.find? _ ((Sum.inr e.1, D.str e.2) :: sm l)) = _
    rw [List.find?_cons, List.find?_cons]
    by_cases h : e.1 = z
    · rw [show decide ((Sum.inr e.1 : Key) = Sum.inr z) = true from decide_eq_true (by rw [h]), show decide (e.1 = z) = true from decide_eq_true h]
      rfl
    · rw [show decide ((Sum.inr e.1 : Key) = Sum.inr z) = false from decide_eq_false fun q => h (Sum.inr.inj q), show decide (e.1 = z) = false from decide_eq_false h]
      exact ih
inductive SeqV (r : Rs) : D → List D → Prop
  | lst (xs : List D) : SeqV r (.lst xs) xs
  | tup (xs : List D) : SeqV r (.tup xs) xs
  | own {l : Addr} {xs : List D} (h : Own r l xs) : SeqV r (.adr l) xs
theorem SeqV.at_ {K : PySem.W.Frag} {r : Rs} {H : Hp} {d : D} {v : V} {xs : List D} (h : SeqV r d xs) (ro : Rok K r H) (i : Is K (mem r) H v d) : ∃ a vs, v = .ref a ∧ (SqT K H a vs ∨ SqL K H a vs) ∧ IsAll K (mem r) H vs xs := by
  cases h with
  | lst => cases i with | lst n s al => exact ⟨_, _, rfl, .inr (SqL.of s), al⟩
  | tup => cases i with | tup s al => exact ⟨_, _, rfl, .inl s, al⟩
  | own ow =>
    cases i
    obtain ⟨vs, h, al⟩ := own_get ro ow
    exact ⟨_, vs, rfl, .inr (SqL.of h), al⟩
end G
namespace G
open PySem PySem.Spec L2
end G
namespace G
open PySem PySem.Spec L2
theorem app_mem {α : Type} {x : α} {l : List α} (h : x ∈ l) : ∃ pre post, l = pre ++ x :: post := List.append_of_mem h
end G
namespace G
open PySem PySem.Spec L2
theorem DctV.mono {r r' : Rs} {d : D} {kvs : List (Key × D)} (h : DctV r d kvs) (m : ∀ t, t ∈ r → t ∈ r') : DctV r' d kvs := by
  rcases h with ⟨a, e, ⟨pre, post, er⟩ | ⟨pre, post, od, xs, er⟩⟩ | e
  · obtain ⟨p2, q2, e2⟩ := app_mem (m _ (by rw [er]; exact List.mem_append.mpr (.inr List.mem_cons_self)))
    exact .inl ⟨a, e, .inl ⟨p2, q2, e2⟩⟩
  · obtain ⟨p2, q2, e2⟩ := app_mem (m _ (by rw [er]; exact List.mem_append.mpr (.inr List.mem_cons_self)))
    exact .inl ⟨a, e, .inr ⟨p2, q2, od, xs, e2⟩⟩
  · exact .inr e
theorem DctV.own {r : Rs} {a : Addr} {kvs : List (Key × D)} (h : dctA a kvs ∈ r) : DctV r (.adr a) kvs := by
  obtain ⟨p2, q2, e2⟩ := app_mem h
  exact .inl ⟨a, rfl, .inl ⟨p2, q2, e2⟩⟩
inductive SetV (F : Str) (CS : Addr) (r : Rs) : D → List (Str × Str) → Prop
  | fro (l : List (Str × Str)) : SetV F CS r (.ins CS [F] [.dct ((sm l).map (·.1)) ((sm l).map (·.2))]) l
  | own {a c : Addr} {l : List (Str × Str)} (h1 : insA a CS [F] [.adr c] ∈ r) (h2 : dctA c (sm l) ∈ r) : SetV F CS r (.adr a) l
section
variable {F : Str} {CS : Addr} {r r' : Rs} {d : D} {l : List (Str × Str)} {P : PK1}
theorem SetV.mono (h : SetV F CS r d l) (m : ∀ t, t ∈ r → t ∈ r') : SetV F CS r' d l := by
  cases h with
  | fro => exact .fro l
  | own h1 h2 => exact .own (m _ h1) (m _ h2)
end
end G
namespace G
open PySem PySem.Spec L2
end G
namespace G
open PySem PySem.Spec L2
end G
namespace G
open PySem PySem.Spec L2
end G
namespace G
open PySem PySem.Spec L2
end G
namespace G
open PySem PySem.Spec L2
end G
namespace G
open PySem PySem.Spec L2
end G
namespace G
open PySem PySem.Spec L2
end G
namespace G
open PySem PySem.Spec L2
end G
namespace G
open PySem PySem.Spec L2
end G
namespace G
open PySem PySem.Spec L2
open PyProof.Rows (envOfC)
end G
namespace G
open PySem PySem.Spec L2
end G
namespace G
open PySem PySem.Spec L2
open PyProof.Rows (envOfC)
def ClMD (P : Program) (w : World) (K : PySem.W.Frag) (mg : Str → Option Value) (base : Heap) (k : Nat) (C : Addr) (m : Str) (dd : List D) (sd : SpX) : Prop := ∃ f, Meth K C m f ∧ ∀ j, j ≤ dd.length → FR P w K mg base k f (fun ds r P XR => sd (ds ++ dd.drop j) r P XR)
section
variable {P : Program} {w : World} {K : PySem.W.Frag} {mg : Str → Option Value} {base : Heap} {C : Addr} {m qual : Str} {st : Stmt} {N ps : List Str} {dd : List D} {k j : Nat} {sd : SpX}
/-- called with all but the last dd.length - j values -/
theorem ClMD.at_ (h : ClMD P w K mg base k C m dd sd) (j : Nat) (hj : j ≤ dd.length) : ClM P w K mg base k C m (fun ds r P XR => sd (ds ++ dd.drop j) r P XR) := by
  obtain ⟨f, M, F⟩ := h
  exact ⟨f, M, F j hj⟩
end
end G
namespace G
open PySem PySem.Spec L2
open PyProof.Rows (envOfC)
def DfP (K : PySem.W.Frag) (C : Addr) (m qual : Str) (st : Stmt) (ps : List Str) : Prop := ∃ f fd p, FunA K m qual st f fd ∧ PropOf K C m p f ∧ Binds K fd ps []
def ClP (P : Program) (w : World) (K : PySem.W.Frag) (mg : Str → Option Value) (base : Heap) (k : Nat) (C : Addr) (m : Str) (sd : SpX) : Prop := ∃ p f, PropOf K C m p f ∧ FR P w K mg base k f sd
section
variable {P : Program} {w : World} {K : PySem.W.Frag} {mg : Str → Option Value} {base : Heap} {C : Addr} {m qual : Str} {st : Stmt} {N ps : List Str} {k : Nat} {sd : SpX}
theorem clp_of (d : DfP K C m qual st ps) (S : FnScope N ps (defScope st)) (len : ∀ ds r P' XR, sd ds r P' XR → ds.length = ps.length) (h : Bod P w K mg base qual st N k sd) : ClP P w K mg base (k + 1) C m sd := by
  obtain ⟨f, fd, p, F, M, b⟩ := d
  exact ⟨p, f, M, fr_of (fnA_d F S len (h f)) b⟩
end
section
variable {X : Cx} {W : WX} {k j : Nat} {C p g a dx : Addr} {fs : List (Str × V)} {f : Str} {sp : Sp} {sd : SpX} {e : Expr} {pos : Pos} {te : AT}
theorem getprop_r {pins : List (Addr × Obj)} {σ : L2.St} {H : Hp} {s : Shared} {Q : VK} {b : Bool} {E' : Value → Shared → Prop} (I : L2.Inv X pins σ H s) (ea : H a = some (.ins C dx fs)) (c : Cls X.K C) (hp : PropOf X.K C f p g)
    (F : FnR X.prog X.w X.K X.mg X.base (L2.CX X.prog X.w) k g sp) (hr : Room (k + 1) X.A) (h : sp [.ref a] H Q E0) : wpAny (model X.prog X.w) X.A (getAttr (.ref a) f b) (EP X pins σ Q) E' s := by
  obtain ⟨mA, O, _, _, _, _⟩ := ins_get I.hok ea
  obtain ⟨od, J, _⟩ := O.look
  obtain ⟨rest, hrec⟩ := hp.rec_
  have I1 := I.tok (s.toks + 1)
  have hc : (PySem.W.clsIn X.K C).isSome = true := by
    obtain ⟨cd, hc, _⟩ := PySem.W.any_some c.hd
    rw [hc]
    rfl
  refine PySem.W.get_bind I.kIn J (PySem.W.plainGet_of (c.get f)).1 (PySem.W.findObj_data hc hp.at_ hp.get hp.tak) (PySem.W.plainGet_of (c.get f)).2 (wpAny_call (PySem.W.prop_get (s := { s with toks := s.toks + 1 }) I.kIn hrec ?_))
  refine codeAny_mono (F X.A.in1 X.stack { s with toks := s.toks + 1 } H [.ref a] [.ref a] Q E0 hr.in1 I1.env0.in1 (.cons rfl .nil) h) fun r s' hq => ?_
  cases r with
  | error er => exact False.elim (passE (X := X.nox) (σ := σ) pins H { s with toks := s.toks + 1 } er s' (I1.wish _) hq)
  | ok fl =>
    cases fl with
    | ret u =>
      obtain ⟨v, H', I3, rv, q3⟩ := I1.after hq
      show wpAny _ _ (handedOut u) _ _ _
      rw [PySem.W.handedOut_of (handed_of rv)]
      exact wpAny_pure ⟨v, H', I3, rv, q3⟩
    | next => exact False.elim hq
    | brk => exact False.elim hq
    | cont => exact False.elim hq
def tPropR (C : Addr) (sp : Sp) (ta : TE) : TE := fun σ H Q => ta σ H fun x H1 => ∃ a dx fs, x = .ref a ∧ H1 a = some (.ins C dx fs) ∧ sp [.ref a] H1 Q E0
theorem pe_propR {ta : TE} (he : PE X e ta) (c : Cls X.K C) (hp : PropOf X.K C f p g) (F : FnR X.prog X.w X.K X.mg X.base (L2.CX X.prog X.w) k g sp) (hr : Room (k + 1) X.A) (hab : attributeBase e f X.env (eval e X.env) = eval e X.env) : PE X (.Attribute e f pos) (tPropR C sp ta) := by
  refine ⟨fun pins s σ H Q I h => ?_⟩
  refine attr_of hab (thn (he.run pins s σ H _ I h) fun u s1 ⟨x, H1, I1, rx, a, dx, fs, ex, ea, q⟩ => ?_)
  subst ex
  obtain rfl : u = Value.ref a := rx
  exact getprop_r I1 ea c hp F hr q
def aProp (C : Addr) (sd : SpX) (te : AT) : AT := fun x δ r P => te x δ r fun d r1 => isC C d r1 ∧ sd [d] r1 P noX
theorem d_prop (M : ClP X.prog X.w X.K X.mg X.base k C f sd) (kp : Plain X.K C) (hr : Room j X.A) (he : PD X W e te) (hj : k + 1 ≤ j := by first | decide | exact Nat.le_refl _ | omega) (hb : attributeBase e f X.env (eval e X.env) = eval e X.env := by rfl) : PD X W (.Attribute e f pos) (aProp C sd te) := by
  obtain ⟨p, g, M, F⟩ := M
  refine imE (pe_propR (f := f) (pos := pos) he kp.cls M F (hr.mono hj) hb) fun σ H Q q => ?_
  obtain ⟨XR, δ, r, P, ok, h, kk⟩ := q
  refine td_bind ok h fun d r1 v H1 ⟨hc, h1⟩ o1 k1 i1 => ?_
  obtain ⟨a, dx, kvs, rfl, s, gd⟩ := isC_at hc o1.r i1
  exact ⟨a, dx, kvs, rfl, s, lift_n o1 (.cons i1 .nil) h1 fun d' r' v H' p o3 k3 i3 => kk _ r' _ H' p o3 (k1.trans k3) i3⟩
end
end G
namespace GN
open PySem PySem.Spec PyProof.Rows PySem.SeqAt L2 GQ
open AutoSeq1 (wpAny_loadPart')
open MeetsSeq MeetsSeq2 MeetsSeq3 SeqRoads2
section
variable {prog : Program} {w : World} {A : Around} {E : Value → Shared → Prop} {R : Result → Shared → Prop}
theorem ne_loopG (l b : Addr) (N : Nat) (I : Nat → Shared → Prop) (hl : ListI prog w A (fun e s' => R (.error e) s') l b N I)
    (fin : ∀ s, I N s → R (.ok (.ret (.bool false))) s) (k : Nat) :
    ∀ i : Nat, N - i = k → i ≤ N → ∀ s, I i s →
      wpAny (model prog w) A.in1 (Builtin.«list.__eq__.loop» ⟨[.ref l, .ref b, rawInt i, rawInt 3], []⟩) (FinOf prog w A R) (fun e s' => R (.error e) s') s := by
  induction k with
  | zero =>
    intro i hk hi s h
    obtain ⟨items, items2, n, n2, hl1, hb1, hs1, hs2, _⟩ := hl _ _ h
    have hi' : i = N := by omega
    have hR : R (.ok (.ret (.bool false))) s := fin s (hi' ▸ h)
    obtain ⟨hp, g, d, tk, os⟩ := s
    wp_walk using wpAny_loadPart' hl1, wpAny_loadPart' hb1
    have hi1 : items[((i : Nat) : Int).toNat]? = none := by simp; omega
    have hi2 : items2[((i : Nat) : Int).toNat]? = none := by simp; omega
    rw [hi1, hi2]
    wp_walk using wpAny_loadPart' hl1, wpAny_loadPart' hb1
    show R (.ok (.ret (.bool (items.size != items2.size)))) _
    rw [hs1, hs2]
    simpa using hR
  | succ k ih =>
    intro i hk hi s h
    obtain ⟨items, items2, n, n2, hl1, hb1, hs1, hs2, turn⟩ := hl _ _ h
    have hlt : i < items.size := by omega
    have hlt2 : i < items2.size := by omega
    have ht := turn hlt hlt2
    obtain ⟨hp, g, d, tk, os⟩ := s
    wp_walk using wpAny_loadPart' hl1, wpAny_loadPart' hb1
    have hi1 : items[((i : Nat) : Int).toNat]? = some items[i] := by simp [hlt]
    have hi2 : items2[((i : Nat) : Int).toNat]? = some items2[i] := by simp [hlt2]
    have hc : ((i : Int) + 1) = ((i + 1 : Nat) : Int) := by omega
    rw [hi1, hi2]
    refine wpAny_bind (wpAny_mono ht (fun r s2 h2 => ?_) fun _ _ x => x)
    obtain ⟨hr, h2⟩ := h2
    subst hr
    have hrec := ih (i + 1) (by omega) (by omega) s2 h2
    obtain ⟨hp2, g2, d2, tk2, os2⟩ := s2
    wp_walk
    rw [hc]
    exact ⟨plainId_quiet plain_eq_loop _, codeAny_builtin entry_eq_loop (by
      rw [Around.under_plainId plain_eq_loop _]
      exact hrec)⟩
theorem list_neG (l b : Addr) (N : Nat) (I : Nat → Shared → Prop) (hl : ListI prog w A (fun e s' => R (.error e) s') l b N I)
    (fin : ∀ s, I N s → R (.ok (.ret (.bool false))) s) {s : Shared} (h : I 0 s) :
    wpAny (model prog w) A.in1 (Builtin.«list.__ne__» ⟨[.ref l, .ref b], []⟩) (FinOf prog w A R) (fun e s' => R (.error e) s') s := by
  obtain ⟨items, items2, n, n2, hl1, hb1, hs1, hs2, _⟩ := hl _ _ h
  have hrec := ne_loopG (A := A) (R := R) l b N I hl fin _ 0 rfl (Nat.zero_le _) s h
  obtain ⟨hp, g, d, tk, os⟩ := s
  have f3 := AutoSeq1.sub_list_list
  have hne : ¬ (items.size != items2.size) = true := by simp [hs1, hs2]
  wp_walk using wpAny_loadPart' hl1, wpAny_loadPart' hb1
  exact ⟨plainId_quiet plain_eq_loop _, codeAny_builtin entry_eq_loop (by
    rw [Around.under_plainId plain_eq_loop _]
    exact hrec)⟩
theorem rc_listN {s : Shared} {l b : Addr} {N : Nat} {Q : Value → Shared → Prop} (hu : A.units < cLine) (I : Nat → Shared → Prop) (hl : ListI prog w A E l b N I)
    (fin : ∀ s, I N s → Q (.bool false) s) (h : I 0 s) : wpAny (model prog w) A (richCompare .NotEq (.ref l) (.ref b)) Q E s := by
  obtain ⟨items, items2, n, n2, hl1, hb1, _, _, _⟩ := hl _ _ h
  refine wpAny_richCompare_same_room (op := .NotEq) ⟨_, hl1, rfl⟩ ⟨_, hb1, rfl⟩ F.slot_list_ne (GQ.call_here F.slot_list_ne ⟨_, hl1, rfl⟩ F.entry_list_ne (F.args_list_ne_2 _ _) ?_) hu
  exact list_neG (R := wants (fun v s' => v ≠ .notImplemented ∧ Q v s') E) l b N I hl (fun s' q => ⟨(fun x => nomatch x), fin s' q⟩) h
end
end GN
namespace G
open PySem PySem.Spec L2
open PyProof.Rows (envOfC)
def rNeL (K : PySem.W.Frag) (C : Addr) (sd : SpX) : R2 := fun x y H Q => ∃ (r : Rs) (ds : List D), Rok K r H ∧ Is K (mem r) H x (.lst ds) ∧ Is K (mem r) H y (.lst ds) ∧ (∀ d ∈ ds, SelfEq C sd r d) ∧ ∀ H', Rok K r H' → Kp K r H r H' → Q (.bl false) H'
theorem op_neL {X : Cx} {k : Nat} {C g : Addr} {sd : SpX} (e : EqK X.K C g) (F : FR X.prog X.w X.K X.mg X.base k g sd) (hr : Room (k + 1) X.A) : OpR X (compareOp .NotEq) (rNeL X.K C sd) := by
  intro pins s σ H x y v u Q I rx ry ⟨r, ds, ro, i1, i2, hs, q⟩
  show wpAny (model X.prog X.w) X.A (richCompare .NotEq v u) (EP X pins σ Q) X.xe s
  have sb : Sub X (k + 1) X.A := ⟨hr, rfl⟩
  have j1 := i1
  have j2 := i2
  cases i1 with
  | @lst a xs _ n1 s1 a1 =>
    cases i2 with
    | @lst b ys _ n2 s2 a2 =>
      cases (show v = Value.ref a from rx)
      cases (show u = Value.ref b from ry)
      refine GN.rc_listN (N := ds.length) sb.room.units0 (fun _ s' => LoopK X pins σ r H s') (fun i s' l => ?_) (fun s' l => ?_) ⟨H, I, ro, Kp.refl⟩
      · obtain ⟨H1, I1, ro1, k1⟩ := l
        cases k1 _ _ j1 with
        | @lst _ xs1 _ m1 t1 b1 =>
          cases k1 _ _ j2 with
          | @lst _ ys1 _ m2 t2 b2 =>
            obtain ⟨z, its, kk, rv, e1⟩ := I1.hok a _ t1
            obtain ⟨z2, its2, kk2, rv2, e2⟩ := I1.hok b _ t2
            refine ⟨its.toArray, its2.toArray, kk, kk2, e1, e2, by rw [List.size_toArray, ← rv.length, b1.length], by rw [List.size_toArray, ← rv2.length, b2.length], fun h1 h2 => ?_⟩
            have g1 : its[i]? = some its.toArray[i] := by
              have h1' : i < its.length := by simpa using h1
              rw [List.getElem?_eq_getElem h1'] <;> simp
            have g2 : its2[i]? = some its2.toArray[i] := by
              have h2' : i < its2.length := by simpa using h2
              rw [List.getElem?_eq_getElem h2'] <;> simp
            have l1 : i < xs1.length := by rw [rv.length]; simpa using h1
            have l2 : i < ys1.length := by rw [rv2.length]; simpa using h2
            obtain ⟨u1, hu1, ru1⟩ := rv.get (List.getElem?_eq_getElem l1)
            obtain ⟨v1, hv1, rv1⟩ := rv2.get (List.getElem?_eq_getElem l2)
            rw [g1] at hu1
            rw [g2] at hv1
            obtain ⟨d, hd, id1⟩ := b1.get (List.getElem?_eq_getElem l1)
            obtain ⟨d', hd', id2⟩ := b2.get (List.getElem?_eq_getElem l2)
            rw [hd] at hd'
            cases hd'
            rw [Option.some.inj hu1, Option.some.inj hv1]
            refine wpAny_mono (turnK e F sb.in1 (hs d (List.mem_of_getElem? hd)) I1 ro1 id1 id2 ru1 rv1) (fun b s2 q2 => ?_) fun _ _ x => x
            obtain ⟨hb, H2, I2, ro2, k2⟩ := q2
            exact ⟨hb, H2, I2, ro2, k1.trans k2⟩
      · obtain ⟨H', I', ro', k'⟩ := l
        exact ⟨.bl false, H', I', rfl, q H' ro' k'⟩
def aNeL (C : Addr) (sd : SpX) (ta tb : AT) : AT := fun x δ r P => ta x δ r fun d1 r1 => tb x δ r1 fun d2 r2 => ∃ ds, d1 = .lst ds ∧ d2 = .lst ds ∧ (∀ d ∈ ds, SelfEq C sd r2 d) ∧ P (.bl false) r2
section
variable {X : Cx} {W : WX} {k j : Nat} {C : Addr} {sd : SpX} {ta tb : AT} {a b : Expr} {pos : Pos}
theorem td_neL {σ : L2.St} {H : Hp} {Q : VK} (q : TD X.K W (aNeL C sd ta tb) σ H Q) : tOp (rNeL X.K C sd) (TD X.K W ta) (TD X.K W tb) σ H Q := by
  obtain ⟨XR, δ, r, P, ok, h, kk⟩ := q
  refine td_bind ok h fun d1 r1 v1 H1 h1 o1 k1 i1 => td_bind o1 h1 fun d2 r2 v2 H2 h2 o2 k2 i2 => ?_
  obtain ⟨ds, rfl, rfl, hs, p⟩ := h2
  exact ⟨r2, ds, o2.r, k2 _ _ i1, i2, hs, fun H' ro' kp => kk _ r2 _ H' p (o2.step kp ro') ((k1.trans k2).trans kp) (.bl _)⟩
theorem b_nel (M : ClE X.prog X.w X.K X.mg X.base k C sd) (hr : Room j X.A) (ha : PD X W a ta) (hb : PD X W b tb) (hj : k + 1 ≤ j := by first | decide | exact Nat.le_refl _ | omega) : PDB X W (.Compare a [.NotEq] [b] pos) (aTest (aNeL C sd ta tb)) := by
  obtain ⟨f, M, F⟩ := M
  exact imT (pt_cmpR (op_neL M F (hr.mono hj)) ha hb (nomark _)) fun _ _ _ q => tdb_test (fun _ q => td_neL q) q
end
end G
namespace Q
open PySem PySem.Spec L2 G
open PyProof.Rows (envOfC)
def top (i : Nat) : Stmt := PySem.Challenge.pw_quietprobes_k06_worlds_made.main.body.getD i (.Pass ⟨0, 0, 0, 0⟩)
abbrev s__wall : Stmt := top 0
abbrev s_BadName___init__ : Stmt := inClass (top 3) 0
abbrev s_NoThing___init__ : Stmt := inClass (top 4) 0
abbrev s_Twice___init__ : Stmt := inClass (top 5) 0
abbrev s_TooMany___init__ : Stmt := inClass (top 6) 0
abbrev s_is_name : Stmt := top 12
abbrev s_need_names : Stmt := top 13
abbrev s_need_unlike : Stmt := top 14
abbrev s_Thing___init__ : Stmt := inClass (top 15) 1
abbrev s_Thing___eq__ : Stmt := inClass (top 15) 2
abbrev s_Thing___str__ : Stmt := inClass (top 15) 3
abbrev s_Thing_feed : Stmt := inClass (top 15) 4
abbrev s_Thing_dice : Stmt := inClass (top 15) 5
abbrev s_Thing_source : Stmt := inClass (top 15) 6
abbrev s_Thing_flag : Stmt := inClass (top 15) 7
abbrev s_Thing_slot : Stmt := inClass (top 15) 8
abbrev s_Thing_field : Stmt := inClass (top 15) 9
abbrev s_Thing_table : Stmt := inClass (top 15) 10
abbrev s_need_things : Stmt := top 16
abbrev s_Stock___init__ : Stmt := inClass (top 18) 0
abbrev s_Stock_duplicate : Stmt := inClass (top 18) 1
abbrev s_Stock_content_of : Stmt := inClass (top 18) 2
abbrev s_Stock_counted : Stmt := inClass (top 18) 3
abbrev s_Stock_done : Stmt := inClass (top 18) 4
abbrev s_Stock_feed_done : Stmt := inClass (top 18) 5
abbrev s_Stock_dice_done : Stmt := inClass (top 18) 6
abbrev s_Stock_table_done : Stmt := inClass (top 18) 7
abbrev s_Stock_entry_done : Stmt := inClass (top 18) 8
abbrev s_Stock_field_done : Stmt := inClass (top 18) 9
abbrev s_Stock_flag_done : Stmt := inClass (top 18) 10
abbrev s_Stock_slot_done : Stmt := inClass (top 18) 11
abbrev s_World___init__ : Stmt := inClass (top 20) 0
abbrev s_World_is_watched : Stmt := inClass (top 20) 1
abbrev s_World_do : Stmt := inClass (top 20) 2
abbrev s_World_duplicate : Stmt := inClass (top 20) 3
abbrev s_World___getitem__ : Stmt := inClass (top 20) 4
abbrev s_World___iter__ : Stmt := inClass (top 20) 5
abbrev s_World___contains__ : Stmt := inClass (top 20) 6
abbrev s_World___xor__ : Stmt := inClass (top 20) 7
abbrev s_World___eq__ : Stmt := inClass (top 20) 8
abbrev s__law_draw : Stmt := top 22
abbrev s__law_names : Stmt := top 23
abbrev s__law_word : Stmt := top 24
abbrev s__law_pool : Stmt := top 25
abbrev s__law_thing : Stmt := top 26
abbrev s__law_same : Stmt := top 27
abbrev s__law_object : Stmt := top 28
abbrev s__law_maybe : Stmt := top 29
abbrev s__law_is_name : Stmt := top 30
abbrev s__law_make : Stmt := top 31
abbrev s__law_try : Stmt := top 32
abbrev s__law_due : Stmt := top 33
abbrev s__law_item : Stmt := top 34
abbrev s__law_things_of : Stmt := top 35
abbrev s_law : Stmt := top 36
section
variable {P : Program} {w : World} {K : PySem.W.Frag} {mg : Str → Option Value} {base : Heap}
abbrev N__law_draw : List Str := ["_law_pool_here", "_law_many", "_law_cell", "_law_code", "_law_digit", "_law_far", "_law_mixed"]
theorem sc__law_draw : FnScope N__law_draw ["_law_pool_here", "_law_many"] (defScope s__law_draw) := ⟨rfl, rfl, rfl, by decide +kernel, rfl, by decide +kernel, by decide +kernel⟩
theorem emod_lt' {a m : Int} (h : 0 < m) : 0 ≤ a % m ∧ a % m < m := ⟨Int.emod_nonneg a (by omega), Int.emod_lt_of_pos a h⟩
theorem c__law_draw (B : Bl mg) (Dx : Dfn K mg "_law_draw" s__law_draw ["_law_pool_here", "_law_many"]) : Cl P w K mg base 1 "_law_draw" ["_law_pool_here", "_law_many"] spDraw := by
  obtain ⟨f, fd, F, g, b⟩ := Dx
  refine cl_cx0 (f := f) (fd := fd) ?_ g F.kp b
  have sc := sc__law_draw
  refine F.ok sc (fun vs H Q E h => ?_) (fun cdv A outer s H vs Q E hr h => ?_)
  · obtain ⟨r, ds, P', XR, ro, hi, ⟨p, a, m, N, X, rfl, _⟩, _, _⟩ := h
    exact hi.length
  · obtain ⟨r, ds, P', XR, ro, hi, ⟨p, a, m, N, X, rfl, rfl, ⟨hm, hm2⟩, hN, hP⟩, hQ, _⟩ := h
    obtain ⟨rfl⟩ : vs = [.ref p, .int m] := by
      match vs, hi with
      | [_, _], .cons (.adr _) (.cons (.int _) .nil) => rfl
    have fin : ∀ (k : Int) (H' : Hp), 0 ≤ k → k < m → (∀ b o, b ≠ p → b ≠ a → H b = some o → H' b = some o) → (poolA p a (N + 1)).R K (mem (poolA p a (N + 1) :: X)) H' → Q (.int k) H' := fun k H' h0 h1 hk ht =>
      let ⟨q1, q2⟩ := pool_step ro hk ht
      hQ _ _ _ _ (hP k h0 h1) q1 q2 (.int k)
    obtain ⟨⟨ne, ns, c1, c2, c3, h1, h2, g1, g2, g2', g3, g3', gn⟩, _, _⟩ := ro
    have ix : ∀ {X : Cx} {a b : Expr} {ta tb : TE} {pos : Pos}, PE X a ta → PE X b tb → PlainIx b → PE X (.Subscript a b pos) (tOp (rIxL X.K) ta tb) := fun ha hb hs => pe_ix ix_list ha hb hs
    refine ⟨_, pss_cons (ps_augS (pv 0) pe_int pget_list pe_int ip_add set_list)
      (Evl.pss_cut (ps_if (PW.pt (pw_and (pt_cmpR op_eq (ix (pv 0) pe_int (fun _ _ => rfl)) pe_int (nomark _)) (pw_and1 (pt_truth (ix (pv 0) pe_int (fun _ _ => rfl)) (by intro _; rfl)))))
        (pss_cons (ps_set (i := 2) sc.nd rfl (.inl rfl) (pe_callTy call_int1 (by rfl) B.int (by decide +kernel) (pa_cons (pe_bm PySem.F.plainAttrs_list PySem.F.slot_list_pop PySem.F.type_list_pop mt_popAt (ix (pv 0) pe_int (fun _ _ => rfl)) (pa_cons pe_int pa_nil)) pa_nil)))
        (pss_cons (ps_set (i := 3) sc.nd rfl (.inl rfl) (pe_ifExp (pt_cmpR op_ge (pv 2) pe_int (nomark _)) (pe_op op_mul pe_int (pv 2)) (pe_op op_sub (pe_un un_neg pe_int) (pe_op op_mul pe_int (pv 2)))))
        (pss_one (ps_if (pt_cmpR op_ge (pv 3) (pe_op op_pow pe_int pe_int) (nomark _))
          (pss_one (ps_asg (pv 3) (pg_sub (pv 0) pe_int set_list)))
          (pss_one (ps_asg (pe_op op_mod (pe_callTy call_int1 (by rfl) B.int (by decide +kernel) (pa_cons (pe_op op_add (pe_op op_add (pe_op op_mul (ix (pv 0) pe_int (fun _ _ => rfl)) pe_int) (pe_op op_mul (pv 3) pe_int)) pe_int) pa_nil)) pe_int) (pg_sub (pv 0) pe_int set_list)))))))
        pss_nil)
      (pss_cons (ps_if (pt_cmpR op_gt (ix (pv 0) pe_int (fun _ _ => rfl)) pe_int (nomark _))
        (pss_cons (ps_set (i := 4) sc.nd rfl (.inl rfl) (pe_op op_mod (pe_callTy call_int1 (by rfl) B.int (by decide +kernel) (pa_cons (ix (pv 0) pe_int (fun _ _ => rfl)) pa_nil)) (pv 1)))
        (pss_cons (ps_asg (pe_op op_fdivW (ix (pv 0) pe_int (fun _ _ => rfl)) (pv 1)) (pg_sub (pv 0) pe_int set_list))
        (pss_one (ps_ret (pv 4))))) pss_nil)
      (pss_cons (ps_if (pt_cmpR op_eq (ix (pv 0) pe_int (fun _ _ => rfl)) pe_int (nomark _)) (pss_one (ps_ret pe_int)) pss_nil)
      (pss_cons (ps_set (i := 5) sc.nd rfl (.inl rfl) (pe_op op_add (pe_op op_mul (ix (pv 0) pe_int (fun _ _ => rfl)) pe_int) (pe_op op_mul (pe_op op_mul (ix (pv 0) pe_int (fun _ _ => rfl)) (ix (pv 0) pe_int (fun _ _ => rfl))) pe_int)))
      (pss_cons (ps_set (i := 6) sc.nd rfl (.inl rfl) (pe_op op_mod (pe_callTy call_int1 (by rfl) B.int (by decide +kernel) (pa_cons (pe_op op_add (pe_op op_mul (ix (pv 0) pe_int (fun _ _ => rfl)) pe_int) (pv 5)) pa_nil)) pe_int))
      (pss_one (ps_ret (pe_op op_mod (pe_op op_mod (pe_callTy call_int1 (by rfl) B.int (by decide +kernel) (pa_cons (pe_op op_fdivW (pe_op op_mul (pv 6) pe_int) pe_int) pa_nil)) pe_int) (pv 1))))))))), ?_⟩
    -- _law_pool_here[2] += 1
    refine ⟨_, rfl, p, _, 2, .int c2, rfl, rfl, by decide, SqL.of h1, rfl, c2, 1, rfl, rfl, p, _, 2, 2, rfl, rfl, h1, rfl, ?_⟩
    let c2' := c2 + 1
    have k1 : (upd H p (.lst ([V.ref a, .int c1, .int c2, .int c3].set 2 (.int (c2 + 1))))) p = some (.lst [.ref a, .int c1, .int (c2 + 1), .int c3]) := upd_same
    have k2 : (upd H p (.lst ([V.ref a, .int c1, .int c2, .int c3].set 2 (.int (c2 + 1))))) a = some (.lst (ns.map V.int)) := by rw [upd_ne (Ne.symm ne)]; exact h2
    have k3 : ∀ b o, b ≠ p → b ≠ a → H b = some o → (upd H p (.lst ([V.ref a, .int c1, .int c2, .int c3].set 2 (.int (c2 + 1))))) b = some o := fun b o n1 _ e => by rw [upd_ne n1]; exact e
    generalize upd H p (.lst ([V.ref a, .int c1, .int c2, .int c3].set 2 (.int (c2 + 1)))) = H1 at k1 k2 k3
    refine ⟨fun σ' H' => ∃ (x y : Option V) (ns' : List Int) (d1 d3 : Int), σ' = [some (.ref p), some (.int m), x, y, none, none, none] ∧ H' p = some (.lst [.ref a, .int d1, .int (c2 + 1), .int d3]) ∧ H' a = some (.lst (ns'.map V.int)) ∧ 0 ≤ d1 ∧ 0 ≤ d3 ∧ d3 < 2147483629 ∧ ns'.length ≤ 63 ∧
      ∀ b o, b ≠ p → b ≠ a → H b = some o → H' b = some o, ?_, ?_⟩
    · -- the pool takes one more of the script
      refine ⟨_, rfl, p, _, 1, .int c1, rfl, rfl, SqL.of k1, rfl, rfl, _, rfl, ?_⟩
      refine ite2 (fun hc => ?_) (fun hc => ?_)
      · refine ⟨_, rfl, p, _, 0, .ref a, rfl, rfl, SqL.of k1, rfl, _, .inl ⟨_, SqL.of k2, rfl⟩, ?_⟩
        refine ite2 (fun he => ?_) (fun he => ?_)
        · cases ns with
          | nil => cases he
          | cons n0 ns =>
            refine ⟨_, rfl, p, _, 0, .ref a, rfl, rfl, SqL.of k1, rfl, .inl ⟨rfl, _, SqL.of k2⟩, a, _, 0, 0, .int n0, rfl, rfl, k2, by decide, by decide, PySem.StrLaws.seqIndex_nonneg (Int.le_refl 0) (by rw [List.length_map, List.length_cons]; omega), rfl, .inl ⟨n0, rfl, ?_⟩⟩
            have k1' : (upd H1 a (.lst ((List.map V.int (n0 :: ns)).eraseIdx 0))) p = some (.lst [.ref a, .int c1, .int (c2 + 1), .int c3]) := by rw [upd_ne ne]; exact k1
            have k2' : (upd H1 a (.lst ((List.map V.int (n0 :: ns)).eraseIdx 0))) a = some (.lst (ns.map V.int)) := upd_same
            have k3' : ∀ b o, b ≠ p → b ≠ a → H b = some o → (upd H1 a (.lst ((List.map V.int (n0 :: ns)).eraseIdx 0))) b = some o := fun b o n1 n2 e => by rw [upd_ne n2]; exact k3 b o n1 n2 e
            generalize upd H1 a (.lst ((List.map V.int (n0 :: ns)).eraseIdx 0)) = H2 at k1' k2' k3'
            have gl : ns.length ≤ 63 := Nat.le_trans (Nat.le_succ _) gn
            -- code
            refine ⟨_, rfl, _, _, rfl, rfl, _, rfl, ?_⟩
            refine ite2 (fun h => ?_) (fun h => ?_)
            refine ⟨_, rfl, 2, n0, rfl, rfl, .inl ⟨by decide, by decide⟩, ?_⟩
            have hcd : 0 ≤ 2 * n0 := by
              have := of_decide_eq_true h
              omega
            show gName 3 (.int (2 * n0)) _ _ _
            generalize 2 * n0 = cd at hcd ⊢
            rotate_left
            refine ⟨1, rfl, _, rfl, 2, n0, rfl, rfl, .inl ⟨by decide, by decide⟩, -1, 2 * n0, rfl, rfl, ?_⟩
            have hcd : 0 ≤ -1 - 2 * n0 := by
              have : ¬ (0 ≤ n0) := fun z => h (decide_eq_true z)
              omega
            show gName 3 (.int (-1 - 2 * n0)) _ _ _
            generalize -1 - 2 * n0 = cd at hcd ⊢
            all_goals
              refine ⟨_, rfl, 10, 18, rfl, rfl, ⟨by decide, by decide, by decide⟩, _, _, rfl, rfl, _, rfl, ?_⟩
              refine ite2 (fun h => ?_) (fun h => ?_)
              · refine ⟨_, rfl, _, rfl, p, _, 1, 1, rfl, rfl, k1', rfl, ?_⟩
                exact ⟨_, _, ns, cd, c3, rfl, upd_same, by rw [upd_ne (Ne.symm ne)]; exact k2', hcd, g3, g3', gl, fun b o n1 n2 e => by rw [upd_ne n1]; exact k3' b o n1 n2 e⟩
              · refine ⟨_, rfl, p, _, 3, .int c3, rfl, rfl, SqL.of k1', rfl, c3, 48271, rfl, rfl, .inr ⟨by decide, by decide⟩, _, rfl, cd, 69621, rfl, rfl, .inr ⟨by decide, by decide⟩, _, _, rfl, rfl, _, _, rfl, rfl, .inl ⟨_, rfl, _, _, rfl, rfl, (by decide : (0 : Int) < 2147483629), ?_⟩⟩
                refine ⟨_, rfl, p, _, 3, 3, rfl, rfl, k1', rfl, ?_⟩
                exact ⟨_, _, ns, c1, _, rfl, upd_same, by rw [upd_ne (Ne.symm ne)]; exact k2', g1, (emod_lt' (by decide)).1, (emod_lt' (by decide)).2, gl, fun b o n1 n2 e => by rw [upd_ne n1]; exact k3' b o n1 n2 e⟩
        · exact ⟨_, _, ns, c1, c3, rfl, k1, k2, g1, g3, g3', gn, k3⟩
      · exact ⟨_, _, ns, c1, c3, rfl, k1, k2, g1, g3, g3', gn, k3⟩
    · -- the digit
      rintro σ' H' ⟨x, y, ns', d1, d3, rfl, k1, k2, e1, e3, e3', en, k3⟩
      have ok : ∀ d, 0 ≤ d → ∀ H'', H'' p = some (.lst [.ref a, .int d, .int (c2 + 1), .int d3]) → H'' a = some (.lst (ns'.map V.int)) → (poolA p a (N + 1)).R K (mem (poolA p a (N + 1) :: X)) H'' := fun d hd H'' q1 q2 => ⟨ne, ns', d, c2 + 1, d3, q1, q2, hd, by omega, by omega, e3, e3', en⟩
      refine ⟨_, rfl, p, _, 1, .int d1, rfl, rfl, SqL.of k1, rfl, _, _, rfl, rfl, _, rfl, ?_⟩
      refine ite2 (fun h => ?_) (fun h => ?_)
      · have hd : 0 < d1 := of_decide_eq_true h
        refine ⟨_, rfl, p, _, 1, .int d1, rfl, rfl, SqL.of k1, rfl, .inl ⟨_, rfl, _, rfl, _, _, rfl, rfl, hm, ?_⟩⟩
        refine ⟨_, rfl, p, _, 1, .int d1, rfl, rfl, SqL.of k1, rfl, _, rfl, d1, m, rfl, rfl, wide_div hm (b := 200) (by omega) (by decide) (by decide), ?_⟩
        refine ⟨_, rfl, p, _, 1, 1, rfl, rfl, k1, rfl, ?_⟩
        refine ⟨_, rfl, fin _ _ (emod_lt' hm).1 (emod_lt' hm).2 (fun b o n1 n2 e => by rw [upd_ne n1]; exact k3 b o n1 n2 e) (ok (d1 / m) (Int.ediv_nonneg (by omega) (by omega)) _ upd_same (by rw [upd_ne (Ne.symm ne)]; exact k2))⟩
      · refine ⟨_, rfl, p, _, 3, .int d3, rfl, rfl, SqL.of k1, rfl, rfl, _, rfl, ?_⟩
        refine ite2 (fun h => ?_) (fun h => ?_)
        · exact fin 0 _ (Int.le_refl _) hm k3 (ok d1 e1 _ k1 k2)
        · have b2 : CMul (c2 + 1) (c2 + 1) := .inl ⟨by omega, by omega⟩
          refine ⟨_, rfl, p, _, 2, .int (c2 + 1), rfl, rfl, SqL.of k1, rfl, _, 40692, rfl, rfl, .inr ⟨by decide, by decide⟩, _, rfl, p, _, 2, .int (c2 + 1), rfl, rfl, SqL.of k1, rfl, _, rfl, p, _, 2, .int (c2 + 1), rfl, rfl, SqL.of k1, rfl, _, _, rfl, rfl, b2, _, 3, rfl, rfl, .inr ⟨by decide, by decide⟩, _, _, rfl, rfl, ?_⟩
          refine ⟨_, rfl, p, _, 3, .int d3, rfl, rfl, SqL.of k1, rfl, _, 16807, rfl, rfl, .inr ⟨by decide, by decide⟩, _, rfl, _, _, rfl, rfl, .inl ⟨_, rfl, _, _, rfl, rfl, (by decide : (0 : Int) < 2147483647), ?_⟩⟩
          refine ⟨_, rfl, _, 48271, rfl, rfl, .inr ⟨by decide, by decide⟩, _, 7, rfl, rfl, wide_div (by decide) (b := 10) (by decide) (by decide) (by decide), .inl ⟨_, rfl, _, _, rfl, rfl, (by decide : (0 : Int) < 2147483629), _, rfl, _, _, rfl, rfl, hm, ?_⟩⟩
          exact fin _ _ (emod_lt' hm).1 (emod_lt' hm).2 k3 (ok d1 e1 _ k1 k2)
abbrev N__law_pool : List Str := ["_law_script"]
theorem sc__law_pool : FnScope N__law_pool ["_law_script"] (defScope s__law_pool) := ⟨rfl, rfl, rfl, by decide +kernel, rfl, by decide +kernel, by decide +kernel⟩
theorem cut_map {α : Type} (f : α → V) (xs : List α) (lo hi : Option Int) : ∃ ys : List α, cutV (xs.map f) lo hi = ys.map f ∧ ys.length ≤ xs.length := by
  unfold cutV
  refine ⟨(xs.drop (HT.sIx (xs.map f).length 0 lo)).take (HT.sIx (xs.map f).length (xs.map f).length hi - HT.sIx (xs.map f).length 0 lo), by rw [List.map_take, List.map_drop], ?_⟩
  rw [List.length_take, List.length_drop]
  omega
theorem c__law_pool (B : Bl mg) (Dx : Dfn K mg "_law_pool" s__law_pool ["_law_script"]) : ∃ f fd, FnOk P w K mg base CX0 1 f fd ["_law_script"] (spPool K) ∧ mg "_law_pool" = some (.ref f) ∧ PySem.W.keepIn K (.ref f) = true ∧ Binds K fd ["_law_script"] [] := by
  obtain ⟨f, fd, F, g, b⟩ := Dx
  refine ⟨f, fd, ?_, g, F.kp, b⟩
  have sc := sc__law_pool
  refine F.ok sc (fun vs H Q E h => ?_) (fun cdv A outer s H vs Q E hr h => ?_)
  · obtain ⟨a, ns, rfl, _⟩ := h
    rfl
  · obtain ⟨a, ns, rfl, hS, hl, hQ⟩ := h
    refine ⟨_, pss_one (ps_ret (pe_lst (pa_cons (pe_callTy call_list_of (by rfl) B.list (by decide +kernel) (pa_cons (pe_slice sl_list (pv 0) po_none (po_some pe_int)) pa_nil)) (pa_cons pe_int (pa_cons pe_int (pa_cons pe_int pa_nil)))))), ?_⟩
    obtain ⟨ms, e, hm⟩ := cut_map V.int ns none (some 63)
    refine ⟨_, rfl, _, rfl, a, _, rfl, hS, fun q hq => ?_⟩
    rw [e]
    refine ⟨q, _, rfl, .inl (SqL.of upd_same), fun l hl2 => ⟨(by decide : 4 ≤ sizeLine), fun p hp => ?_⟩⟩
    have hlp : l ≠ p := ne_of_none (H := upd (upd H q (.lst (ms.map V.int))) l (.lst (ms.map V.int))) upd_same hp
    refine hQ p l _ ⟨⟨Ne.symm hlp, ms, 0, 0, 0, upd_same, ?_, by decide, by decide, by decide, by decide, by decide, by omega⟩, fun _ _ z => z, True.intro⟩
    rw [upd_ne hlp, upd_same]
abbrev N__law_word : List Str := ["_law_pool_here", "_law_letters", "_law_k"]
theorem sc__law_word : FnScope N__law_word ["_law_pool_here"] (defScope s__law_word) := ⟨rfl, rfl, rfl, by decide +kernel, rfl, by decide +kernel, by decide +kernel⟩
theorem c__law_word (B : Bl mg) (C__law_draw : Cl P w K mg base 1 "_law_draw" ["_law_pool_here", "_law_many"] spDraw) (Dx : Dfn K mg "_law_word" s__law_word ["_law_pool_here"]) : Cl P w K mg base 2 "_law_word" ["_law_pool_here"] spWord := by
  have sc := sc__law_word
  refine cl_of Dx sc (fun ds r P' XR ⟨p, a, N, X, e, _⟩ => by rw [e]; rfl) (fun f cdv A outer s H E hr tk po => ⟨_, (ss_cons (s_set (i := 1) sc.nd d_str)
  (ss_one (s_ret (d_join d_str (d_lc (js := [2]) (own := [("_law_k", 2)]) sc.nd (i_r1 (by rfl) B.range (dl_cons (d_bin p_add d_int (d_fn C__law_draw tk hr (dl_cons (dv 0) (dl_cons d_int dl_nil)))) dl_nil)) (blkOk_by (own := [("_law_k", 2)]) (N := N__law_word) (sc := defScope s__law_word) (by decide +kernel)) (fun _ _ _ _ _ => (g_name (i := 2) sc.nd)) (fun _ _ _ _ _ => pts_no) (fun _ _ _ _ _ => (d_ix (dv 1) (d_fnN C__law_draw hr (dl_cons (dv 0) (dl_cons d_int dl_nil)))))))))), fun ds r P' XR h => ?_⟩)
  obtain ⟨p, a, N, X, rfl, rfl, hN, hP⟩ := h
  refine ⟨p, a, 8, N, X, rfl, rfl, ⟨by decide, by decide⟩, by omega, fun k h0 h1 => ⟨⟨by omega, by omega⟩, ?_⟩⟩
  refine ⟨fun i acc r' => ∃ cs : List Nat, acc = cs.map (fun c => D.str (sg c)) ∧ cs.length = i ∧ (∀ c ∈ cs, isLet c = true) ∧ r' = poolA p a (N + 1 + i) :: X, ⟨[], rfl, rfl, fun _ h => (by cases h), rfl⟩, ?_, ?_⟩
  · rintro q i d acc r' hd ⟨cs, rfl, hc, hl, rfl⟩
    have hi : i < 8 := by
      have := (List.getElem?_eq_some_iff.mp hd).1
      rw [List.length_map, List.length_range] at this
      omega
    refine brT ?_
    refine ⟨p, a, 26, N + 1 + i, X ++ [lstA q _], rfl, rfl, ⟨by decide, by decide⟩, by omega, fun j j0 j1 => ?_⟩
    obtain ⟨c, hat, hc2⟩ := abc_at j0 j1
    refine ix_s hat ⟨?_, poolA p a (N + 1 + i + 1) :: X, le.refl, cs ++ [c], by rw [List.map_append]; rfl, by rw [List.length_append, hc]; rfl, fun x hx => (List.mem_append.mp hx).elim (hl x) fun h => (List.mem_singleton.mp h) ▸ hc2, rfl⟩
    rw [List.length_map, hc]
    unfold small
    omega
  · rintro acc r' ⟨cs, rfl, hc, hl, rfl⟩
    rw [List.length_map, List.length_range] at hc
    have e8 : cs.length ≤ 8 := by omega
    have e1 : 1 ≤ cs.length := by omega
    refine join_l (strL_sg cs) ?_ ⟨poolA p a (N + 9) :: X, pool_mono (by rw [List.length_map, List.length_range]; omega), hP _ (nm_signs e1 e8 hl)⟩
    rw [sum_ones, List.length_map]
    show cs.length + cs.length * 0 ≤ 1000000
    omega
abbrev N__law_same : List Str := ["_law_actual", "_law_due_here", "_law_k"]
theorem sc__law_same : FnScope N__law_same ["_law_actual", "_law_due_here"] (defScope s__law_same) := ⟨rfl, rfl, rfl, by decide +kernel, rfl, by decide +kernel, by decide +kernel⟩
theorem c__law_same (B : Bl mg) (Dx : Dfn K mg "_law_same" s__law_same ["_law_actual", "_law_due_here"]) : ∀ n : Nat, Cl P w K mg base n "_law_same" ["_law_actual", "_law_due_here"] (spSame n)
  | 0 => cl_never Dx fun ds r P' XR ⟨a, b, _, _, _, _, z, _⟩ => by omega
  | n + 1 => by
    have sc := sc__law_same
    have C__law_same := c__law_same B Dx n
    refine cl_of Dx sc (fun ds r P' XR ⟨a, b, e, _⟩ => by rw [e]; rfl) (fun f cdv A outer s H E hr tk po => ?_)
    have hu := hr.units
    refine ⟨_, (ss_cons (s_if (b_cmp p_is (dv 1) d_non)
  (ss_one (s_ret (d_cmp p_is (dv 0) d_non)))
  ss_nil)
  (ss_cons (s_if (b_w (w_or (b_tru (d_isi .bool (by rfl) B.isi (dv 1) (by rfl) B.bool)) (w_or1 (b_tru (d_isi .str (by rfl) B.isi (dv 1) (by rfl) B.str)))))
  (ss_cons (s_if (b_w (w_or (b_cmp (p_ne hu) (d_isi .bool (by rfl) B.isi (dv 0) (by rfl) B.bool) (d_isi .bool (by rfl) B.isi (dv 1) (by rfl) B.bool)) (w_or1 (b_cmp (p_ne hu) (d_isi .str (by rfl) B.isi (dv 0) (by rfl) B.str) (d_isi .str (by rfl) B.isi (dv 1) (by rfl) B.str)))))
  (ss_one (s_ret d_bl))
  ss_nil)
  (ss_one (s_ret (d_cmp (p_eq hu) (dv 0) (dv 1)))))
  ss_nil)
  (ss_cons (s_if (b_tru (d_isi .int (by rfl) B.isi (dv 1) (by rfl) B.int))
  (ss_one (s_ret (d_and (d_isi .int (by rfl) B.isi (dv 0) (by rfl) B.int) (d_and (d_not (d_isi .bool (by rfl) B.isi (dv 0) (by rfl) B.bool)) (d_one (d_cmp (p_eq hu) (dv 0) (dv 1)))))))
  ss_nil)
  (ss_cons (s_if (b_w (w_and (b_tru (d_isi .list (by rfl) B.isi (dv 1) (by rfl) B.list)) (w_and1 (b_not (b_tru (d_isi .list (by rfl) B.isi (dv 0) (by rfl) B.list))))))
  (ss_one (s_ret d_bl))
  ss_nil)
  (ss_cons (s_if (b_w (w_and (b_tru (d_isi .tuple (by rfl) B.isi (dv 1) (by rfl) B.tuple)) (w_and1 (b_not (b_tru (d_isi .tuple (by rfl) B.isi (dv 0) (by rfl) B.tuple))))))
  (ss_one (s_ret d_bl))
  ss_nil)
  (ss_cons (s_if (b_cmp (p_ne hu) (d_blt c_len (by rfl) B.len (dl_cons (dv 0) dl_nil)) (d_blt c_len (by rfl) B.len (dl_cons (dv 1) dl_nil)))
  (ss_one (s_ret d_bl))
  ss_nil)
  (ss_cons (s_for (i_r1 (by rfl) B.range (dl_cons (d_blt c_len (by rfl) B.len (dl_cons (dv 1) dl_nil)) dl_nil)) (g_name (i := 2) sc.nd)
  (ss_one (s_if (b_not (b_tru (d_fn C__law_same tk hr (dl_cons (d_ix (dv 0) (dv 2)) (dl_cons (d_ix (dv 1) (dv 2)) dl_nil)))))
  (ss_one (s_ret d_bl))
  ss_nil)) po)
  (ss_one (s_ret d_bl))))))))), fun ds r P' XR h => ?_⟩
    obtain ⟨a, b, rfl, pa, pb, da, db, h⟩ := h
    replace h := fit.of h
    cases b with
    | adr x => cases pb
    | ins _ _ _ => cases pb
    | dct _ _ => cases pb
    | non =>
      refine brT ?_
      cases a <;> exact h
    | bl x =>
      refine brF (brT (brT ?_))
      cases a <;> first | (cases pa; done) | skip
      case bl y => cases x <;> cases y <;> exact ⟨Nat.zero_le _, Nat.zero_le _, brF ⟨Nat.zero_le _, Nat.zero_le _, brF ⟨Nat.zero_le _, Nat.zero_le _, h⟩⟩⟩
      all_goals exact ⟨Nat.zero_le _, Nat.zero_le _, brT (brT h)⟩
    | str x =>
      refine brF (brF (brT ?_))
      cases a <;> first | (cases pa; done) | skip
      case str y => exact ⟨Nat.zero_le _, Nat.zero_le _, brF ⟨Nat.zero_le _, Nat.zero_le _, brF ⟨Nat.zero_le _, Nat.zero_le _, h⟩⟩⟩
      case bl y => exact ⟨Nat.zero_le _, Nat.zero_le _, brT (brT h)⟩
      all_goals exact ⟨Nat.zero_le _, Nat.zero_le _, brF ⟨Nat.zero_le _, Nat.zero_le _, brT h⟩⟩
    | int x =>
      refine brF (brF (brF (brT ?_)))
      cases a <;> first | (cases pa; done) | skip
      case int y => exact brT (brT ⟨Nat.zero_le _, Nat.zero_le _, h⟩)
      case bl y => exact brT (brF h)
      all_goals exact brF h
    | lst ys =>
      refine brF (brF (brF (brF (brT ?_))))
      cases a <;> first | (cases pa; done) | skip
      case lst xs =>
        refine brF (brF (brF ?_))
        refine fun ly lx => ⟨Nat.zero_le _, Nat.zero_le _, ?_⟩
        by_cases hl : xs.length = ys.length
        rotate_left
        · refine brt (ne_len hl) ?_
          have : sames xs ys = false := by
            cases q : sames xs ys with
            | false => rfl
            | true => exact absurd (sames_len q) hl
          simp only [G.same, this] at h
          exact h
        · refine brf (eq_len hl) ?_
          replace pa := (plain_lst pa).2
          replace pb := (plain_lst pb).2
          simp only [dep] at da db
          simp only [G.same] at h
          rw [sizeLine_eq] at ly
          refine fun _ => ⟨⟨by omega, by omega⟩, fun i δ' r' => (∃ k, δ' = [some (.lst xs), some (.lst ys), k]) ∧ r' = r ∧ ∀ (j : Nat) (x y : D), j < i → xs[j]? = some x → ys[j]? = some y → same x y = true, ⟨⟨none, rfl⟩, rfl, fun _ _ _ z => by omega⟩, ?_, ?_⟩
          · rintro i d δ' r' hd ⟨⟨k, rfl⟩, rfl, hI⟩
            have hi : i < ys.length := by
              have := (List.getElem?_eq_some_iff.mp hd).1
              simpa using this
            rw [List.getElem?_map, List.getElem?_range (by simpa using hi)] at hd
            cases hd
            obtain ⟨y, ey⟩ : ∃ y, ys[i]? = some y := ⟨ys[i], by simp⟩
            obtain ⟨x, ex⟩ := same_sides hl ey
            refine ix_l (atI_nat ex) (ix_l (atI_nat ey) ⟨x, y, rfl, plains_at pa ex, plains_at pb ey, by have := deps_at ex; omega, by have := deps_at ey; omega, ?_⟩)
            cases q : same x y with
            | false =>
              refine brT ?_
              have : sames xs ys = false := by
                cases q2 : sames xs ys with
                | false => rfl
                | true => rw [sames_at q2 ex ey] at q; cases q
              rw [this] at h
              exact h
            | true =>
              refine brF ⟨⟨_, rfl⟩, rfl, fun j x' y' hj ex' ey' => ?_⟩
              by_cases hji : j = i
              · subst hji
                rw [ex] at ex'
                rw [ey] at ey'
                cases ex'
                cases ey'
                exact q
              · exact hI j x' y' (by omega) ex' ey'
          · rintro δ' r' ⟨⟨k, rfl⟩, rfl, hI⟩
            have : sames xs ys = true := sames_of hl fun j x y ex ey => hI j x y (by have := (List.getElem?_eq_some_iff.mp ey).1; simpa using this) ex ey
            rw [this] at h
            exact h
      all_goals exact brT h
    | tup ys =>
      refine brF (brF (brF (brF (brF (brF (brT ?_))))))
      cases a <;> first | (cases pa; done) | skip
      case tup xs =>
        refine brF ?_
        refine fun ly lx => ⟨Nat.zero_le _, Nat.zero_le _, ?_⟩
        by_cases hl : xs.length = ys.length
        rotate_left
        · refine brt (ne_len hl) ?_
          have : sames xs ys = false := by
            cases q : sames xs ys with
            | false => rfl
            | true => exact absurd (sames_len q) hl
          simp only [G.same, this] at h
          exact h
        · refine brf (eq_len hl) ?_
          replace pa := (plain_tup pa).2
          replace pb := (plain_tup pb).2
          simp only [dep] at da db
          simp only [G.same] at h
          rw [sizeLine_eq] at ly
          refine fun _ => ⟨⟨by omega, by omega⟩, fun i δ' r' => (∃ k, δ' = [some (.tup xs), some (.tup ys), k]) ∧ r' = r ∧ ∀ (j : Nat) (x y : D), j < i → xs[j]? = some x → ys[j]? = some y → same x y = true, ⟨⟨none, rfl⟩, rfl, fun _ _ _ z => by omega⟩, ?_, ?_⟩
          · rintro i d δ' r' hd ⟨⟨k, rfl⟩, rfl, hI⟩
            have hi : i < ys.length := by
              have := (List.getElem?_eq_some_iff.mp hd).1
              simpa using this
            rw [List.getElem?_map, List.getElem?_range (by simpa using hi)] at hd
            cases hd
            obtain ⟨y, ey⟩ : ∃ y, ys[i]? = some y := ⟨ys[i], by simp⟩
            obtain ⟨x, ex⟩ := same_sides hl ey
            refine ix_t (atI_nat ex) (ix_t (atI_nat ey) ⟨x, y, rfl, plains_at pa ex, plains_at pb ey, by have := deps_at ex; omega, by have := deps_at ey; omega, ?_⟩)
            cases q : same x y with
            | false =>
              refine brT ?_
              have : sames xs ys = false := by
                cases q2 : sames xs ys with
                | false => rfl
                | true => rw [sames_at q2 ex ey] at q; cases q
              rw [this] at h
              exact h
            | true =>
              refine brF ⟨⟨_, rfl⟩, rfl, fun j x' y' hj ex' ey' => ?_⟩
              by_cases hji : j = i
              · subst hji
                rw [ex] at ex'
                rw [ey] at ey'
                cases ex'
                cases ey'
                exact q
              · exact hI j x' y' (by omega) ex' ey'
          · rintro δ' r' ⟨⟨k, rfl⟩, rfl, hI⟩
            have : sames xs ys = true := sames_of hl fun j x y ex ey => hI j x y (by have := (List.getElem?_eq_some_iff.mp ey).1; simpa using this) ex ey
            rw [this] at h
            exact h
      all_goals exact brT h
abbrev N_is_name : List Str := ["value", "letter"]
theorem sc_is_name : FnScope N_is_name ["value"] (defScope s_is_name) := ⟨rfl, rfl, rfl, by decide +kernel, rfl, by decide +kernel, by decide +kernel⟩
theorem c_is_name (B : Bl mg) (gL : GS mg "LETTERS" abc) (gM : GI mg "MOST_LETTERS" 8) (Dx : Dfn K mg "is_name" s_is_name ["value"]) : Cl P w K mg base 1 "is_name" ["value"] spIsName := by
  have sc := sc_is_name
  refine cl_of Dx sc (fun ds r P' XR ⟨d, e, _⟩ => by rw [e]; rfl) (fun f cdv A outer s H E hr tk po => ?_)
  have hi := u65 hr
  refine ⟨_, (ss_cons (s_if (b_w (w_or (b_not (b_tru (d_isi .str (by rfl) B.isi (dv 0) (by rfl) B.str))) (w_or1 (b_not (b_chain p_le p_le d_int (d_blt c_len (by rfl) B.len (dl_cons (dv 0) dl_nil)) (d_gI gM))))))
  (ss_one (s_ret d_bl))
  ss_nil)
  (ss_one (s_ret (d_blt c_all (by rfl) B.all (dl_cons (d_lc (js := [1]) (own := [("letter", 1)]) sc.nd (i_str (dv 0)) (blkOk_by (own := [("letter", 1)]) (N := N_is_name) (sc := defScope s_is_name) (by decide +kernel)) (fun _ _ _ _ _ => (g_name (i := 1) sc.nd)) (fun _ _ _ _ _ => pts_no) (fun _ _ _ _ _ => (d_cmp (p_in hi) (dv 1) (d_gS gL)))) dl_nil))))), fun ds r P' XR h => ?_⟩
  obtain ⟨d, rfl, pd, h⟩ := h
  replace h := fit.of h
  cases d with
  | adr => cases pd
  | ins => cases pd
  | dct => cases pd
  | str z =>
    refine brF ?_
    have hb : ∀ b, isNm z = b → fit P' (.bl b) r := fun b e => e ▸ h
    refine ⟨fun (h1 : decide ((1 : Int) ≤ ((z.length : Nat) : Int)) = true) => ⟨fun (h2 : (!decide (((z.length : Nat) : Int) ≤ 8)) = true) => ?_, fun (h2 : (!decide (((z.length : Nat) : Int) ≤ 8)) = false) => ?_⟩, fun (h1 : decide ((1 : Int) ≤ ((z.length : Nat) : Int)) = false) => brT ?_⟩
    · refine hb _ ?_
      have : ¬ z.length ≤ 8 := fun q => by
        have q2 : ((z.length : Nat) : Int) ≤ 8 := by omega
        rw [decide_eq_true q2] at h2
        cases h2
      unfold isNm
      rw [decide_eq_false this, Bool.and_false, Bool.false_and]
    · have l8 : z.length ≤ 8 := by
        have : ((z.length : Nat) : Int) ≤ 8 := by
          cases q : decide (((z.length : Nat) : Int) ≤ 8) with
          | true => exact of_decide_eq_true q
          | false => rw [q] at h2; cases h2
        omega
      have l1 : 1 ≤ z.length := by
        have : (1 : Int) ≤ ((z.length : Nat) : Int) := of_decide_eq_true h1
        omega
      refine lc_map (fun d => .bl (match d with | .str w => (match sub1 w with | some c => decide (c ∈ tl abc) | none => false) | _ => false)) ?_ ?_ ?_
      · rw [List.length_map]
        show (tl z).length ≤ 1000000
        rw [← len_tl]
        omega
      · intro d hd r' P'' q
        obtain ⟨c, hc, rfl⟩ := List.mem_map.mp hd
        exact ⟨q⟩
      · have e : (List.map (fun c => D.str ⟨#[c]⟩) (tl z)).map (fun d => D.bl (match d with | .str w => (match sub1 w with | some c => decide (c ∈ tl abc) | none => false) | _ => false)) = (tl z).map fun c => D.bl (isLet c) := by
          rw [List.map_map]
          congr 1
          funext c
          show D.bl (decide (c ∈ tl abc)) = _
          rw [isLet_abc]
        rw [e]
        refine oAll_of (f := fun bs => bs.all id) (k := fun d => fit P' d r) (bls_of isLet (tl z)) ?_
        refine hb _ ?_
        unfold isNm
        rw [decide_eq_true l1, decide_eq_true l8, List.all_map]
        rfl
    · refine hb _ ?_
      have : ¬ 1 ≤ z.length := fun q => by
        have q2 : (1 : Int) ≤ ((z.length : Nat) : Int) := by omega
        rw [decide_eq_true q2] at h1
        cases h1
      unfold isNm
      rw [decide_eq_false this, Bool.false_and, Bool.false_and]
  | _ => exact brT (brT h)
abbrev thF : List Str := ["kind", "name", "parts"]
def spNeed (CB : Addr) : SpX := fun ds r P XR => ∃ xs, ds = [.lst xs] ∧ xs.length ≤ 1000 ∧ (∀ x ∈ xs, plain x = true) ∧ (xs.all isNameD = true → P .non r) ∧ (∀ d, xs.find? (fun d => !isNameD d) = some d → XR CB ["name"] [d] r)
abbrev N_need_names : List Str := ["values", "value"]
theorem sc_need_names : FnScope N_need_names ["values"] (defScope s_need_names) := ⟨rfl, rfl, rfl, by decide +kernel, rfl, by decide +kernel, by decide +kernel⟩
theorem find_at {α : Type} {p : α → Bool} {xs : List α} {i : Nat} {d : α} (h0 : ∀ x ∈ xs.take i, p x = false) (h : xs[i]? = some d) (hd : p d = true) : xs.find? p = some d := by
  have e : xs = xs.take i ++ d :: xs.drop (i + 1) := by
    have hi := (List.getElem?_eq_some_iff.mp h).1
    have e2 : xs[i] = d := (List.getElem?_eq_some_iff.mp h).2
    rw [← e2]
    exact (by rw [List.getElem_cons_drop, List.take_append_drop] : xs = xs.take i ++ xs[i] :: xs.drop (i + 1))
  rw [e, List.find?_append, List.find?_eq_none.mpr (fun x hx => by rw [h0 x hx]; decide), Option.none_or, List.find?_cons, hd]
theorem c_need_names {CB : Addr} (X_BadName : ErrX P w K mg base "BadName" CB "name") (C_is_name : Cl P w K mg base 1 "is_name" ["value"] spIsName) (Dx : Dfn K mg "need_names" s_need_names ["values"]) : Cl P w K mg base 4 "need_names" ["values"] (spNeed CB) := by
  have sc := sc_need_names
  refine cl_of Dx sc (fun ds r P' XR ⟨xs, e, _⟩ => by rw [e]; rfl) (fun f cdv A outer s H E hr tk po => ?_)
  refine ⟨_, (ss_one (s_for (i_list (dv 0)) (g_name (i := 1) sc.nd)
  (ss_one (s_if (b_not (b_tru (d_fn C_is_name tk hr (dl_cons (dv 1) dl_nil))))
  (ss_one (s_raise X_BadName.c tk hr (dl_cons (dv 1) dl_nil)))
  ss_nil)) po)), fun ds r P' XR h => ?_⟩
  obtain ⟨xs, rfl, hl, hp, hP, hX⟩ := h
  refine ⟨fun i δ r' => (∃ d1, δ = [some (.lst xs), d1]) ∧ r' = r ∧ ∀ x ∈ xs.take i, isNameD x = true, ⟨⟨_, rfl⟩, rfl, fun x hx => by cases hx⟩, ?_, ?_⟩
  · rintro i d δ r' hd ⟨⟨d1, rfl⟩, rfl, ht⟩
    refine ⟨d, rfl, hp d (List.mem_of_getElem? hd), ?_⟩
    cases e : isNameD d with
    | true =>
      refine brF ⟨⟨_, rfl⟩, rfl, fun x hx => ?_⟩
      rw [List.take_add_one, hd] at hx
      rcases List.mem_append.mp hx with hx | hx
      · exact ht x hx
      · rw [List.mem_singleton.mp hx]; exact e
    | false =>
      exact brT ⟨d, rfl, _, le.refl, (hX d (find_at (fun x hx => by rw [ht x hx]; rfl) hd (by rw [e]; rfl)))⟩
  · rintro δ r' ⟨⟨d1, rfl⟩, rfl, ht⟩
    rw [List.take_length] at ht
    exact fit.of (hP (List.all_eq_true.mpr ht))
def spThing (C : Addr) : SpX := fun ds r P _ => ∃ a pre post k n ps, ds = [.adr a, k, n, ps] ∧ r = pre ++ insA a C [] [] :: post ∧ P .non (pre ++ insA a C thF [k, n, ps] :: post)
abbrev N_Thing___init__ : List Str := ["self", "kind", "name", "parts"]
theorem sc_Thing___init__ : FnScope N_Thing___init__ ["self", "kind", "name", "parts"] (defScope s_Thing___init__) := ⟨rfl, rfl, rfl, by decide +kernel, rfl, by decide +kernel, by decide +kernel⟩
theorem c_Thing_init {CT : Addr} (K_Thing : KCls K mg "Thing" CT thF) (Dx : DfN K CT "Thing.__init__" s_Thing___init__ ["self", "kind", "name", "parts"] [.tup []]) : ClN P w K mg base 1 CT [.tup []] (spThing CT) := by
  have sc := sc_Thing___init__
  refine cln_of Dx sc (fun ds r P' XR ⟨_, _, _, _, _, _, e, _⟩ => by rw [e]; rfl) (fun f cdv A outer s H E hr tk po => ?_)
  refine ⟨_, (ss_cons (s_put (K_Thing.no "kind" (by decide)) (dv 0) (dv 1))
  (ss_cons (s_put (K_Thing.no "name" (by decide)) (dv 0) (dv 2))
  (ss_one (s_put (K_Thing.no "parts" (by decide)) (dv 0) (dv 3))))), fun ds r P' XR h => ?_⟩
  obtain ⟨a, pre, post, k, n, ps, rfl, rfl, h⟩ := h
  exact .new pre post rfl rfl (by decide) (.new pre post rfl (by decide) (by decide) (.new pre post rfl (by decide) (by decide) (fit.of h)))
/-- the answer of the own == -/
def thEq (C : Addr) : D → D → Bool
  | .ins _ _ [k, n, p], .ins C' _ [k', n', p'] => C' == C && (eqD k k' && (eqD n n' && eqD p p'))
  | _, _ => false
def isTh (C : Addr) : D → Bool
  | .ins C' fs [k, n, p] => C' == C && (fs == thF && (decide (dep k ≤ 64) && (decide (dep n ≤ 64) && decide (dep p ≤ 64))))
  | _ => false
theorem isTh_ex {C : Addr} {d : D} (h : isTh C d = true) : ∃ k n p, d = .ins C thF [k, n, p] ∧ dep k ≤ 64 ∧ dep n ≤ 64 ∧ dep p ≤ 64 := by
  unfold isTh at h
  split at h
  · rename_i C' fs k n p
    simp only [Bool.and_eq_true, beq_iff_eq, decide_eq_true_eq] at h
    obtain ⟨rfl, rfl, h1, h2, h3⟩ := h
    exact ⟨k, n, p, rfl, h1, h2, h3⟩
  · cases h
def spThEq (C : Addr) : SpX := fun ds r P _ => ∃ a b, ds = [a, b] ∧ isTh C a = true ∧ (nad b = true ∨ isTh C b = true) ∧ P (.bl (thEq C a b)) r
abbrev N_Thing___eq__ : List Str := ["self", "other"]
theorem sc_Thing___eq__ : FnScope N_Thing___eq__ ["self", "other"] (defScope s_Thing___eq__) := ⟨rfl, rfl, rfl, by decide +kernel, rfl, by decide +kernel, by decide +kernel⟩
theorem c_Thing_eq {CT : Addr} (B : Bl mg) (K_Thing : KCls K mg "Thing" CT thF) (Dx : DfE K CT "Thing.__eq__" s_Thing___eq__ ["self", "other"]) : ClE P w K mg base 1 CT (spThEq CT) := by
  have sc := sc_Thing___eq__
  refine cle_of Dx sc (fun ds r P' XR ⟨_, _, e, _⟩ => by rw [e]; rfl) (fun f cdv A outer s H E hr tk po => ?_)
  have hu := hr.units
  refine ⟨_, (ss_one (s_ret (d_and (d_isC K_Thing.isk (by rfl) B.isi (dv 1) K_Thing.g) (d_and (d_cmp (p_eq hu) (d_fld (dv 0)) (d_fld (dv 1))) (d_and (d_cmp (p_eq hu) (d_fld (dv 0)) (d_fld (dv 1))) (d_one (d_cmp (p_eq hu) (d_fld (dv 0)) (d_fld (dv 1))))))))), fun ds r P' XR h => ?_⟩
  obtain ⟨a, b, rfl, ha, hb, h⟩ := h
  replace h := fit.of h
  obtain ⟨k, n, p, rfl, d1, d2, d3⟩ := isTh_ex ha
  rcases hb with hb | hb
  · refine .no hb (brF ?_)
    have : thEq CT (.ins CT thF [k, n, p]) b = false := by cases b <;> first | rfl | cases hb
    rw [this] at h
    exact h
  · obtain ⟨k', n', p', rfl, e1, e2, e3⟩ := isTh_ex hb
    refine .yes .fro (brT ?_)
    have e : thEq CT (.ins CT thF [k, n, p]) (.ins CT thF [k', n', p']) = (eqD k k' && (eqD n n' && eqD p p')) := by
      show (CT == CT && _) = _
      rw [beq_self_eq_true, Bool.true_and]
    rw [e] at h
    refine .fro 0 k (by decide) rfl (.fro 0 k' (by decide) rfl ⟨d1, e1, ?_⟩)
    cases q : eqD k k' with
    | false => rw [q] at h; exact brF h
    | true =>
      rw [q] at h
      refine brT (.fro 1 n (by decide) rfl (.fro 1 n' (by decide) rfl ⟨d2, e2, ?_⟩))
      cases q2 : eqD n n' with
      | false => rw [q2] at h; exact brF h
      | true =>
        rw [q2] at h
        refine brT (.fro 2 p (by decide) rfl (.fro 2 p' (by decide) rfl ⟨d3, e3, ?_⟩))
        exact h
def spKind (CT CB : Addr) (kd : Str) : SpX := fun ds r P XR => ∃ d, ds = [d] ∧ plain d = true ∧ (isNameD d = true → P (.ins CT thF [.str kd, d, .tup []]) r) ∧ (isNameD d = false → XR CB ["name"] [d] r)
abbrev N_Thing_feed : List Str := ["name"]
theorem sc_Thing_feed : FnScope N_Thing_feed ["name"] (defScope s_Thing_feed) := ⟨rfl, rfl, rfl, by decide +kernel, rfl, by decide +kernel, by decide +kernel⟩
theorem c_Thing_feed {CT CB : Addr} (K_Thing : KCls K mg "Thing" CT thF) (C_need_names : Cl P w K mg base 4 "need_names" ["values"] (spNeed CB)) (N_Thing : ClN P w K mg base 1 CT [.tup []] (spThing CT)) (Dx : DfS K CT "feed" "Thing.feed" s_Thing_feed ["name"]) : ClS P w K mg base 5 CT "feed" (spKind CT CB "feed") := by
  have sc := sc_Thing_feed
  refine cls_of Dx sc (fun ds r P' XR ⟨_, e, _⟩ => by rw [e]; rfl) (fun f cdv A outer s H E hr tk po => ?_)
  refine ⟨_, (ss_cons (s_expr (d_fn C_need_names tk hr (dl_cons (d_lst (dl_cons (dv 0) dl_nil)) dl_nil)))
  (ss_one (s_ret (d_frz (d_mk 0 N_Thing K_Thing tk hr (dl_cons d_str (dl_cons (dv 0) dl_nil))))))), fun ds r P' XR h => ?_⟩
  obtain ⟨d, rfl, pd, h1, h2⟩ := h
  refine ⟨Nat.le_of_ble_eq_true rfl, [d], rfl, Nat.le_of_ble_eq_true rfl, fun x hx => by rw [List.mem_singleton.mp hx]; exact pd, fun q => fun a => ⟨a, r, [], _, _, _, rfl, rfl, rfl, a, CT, _, _, r, [], rfl, rfl, r, le.drop, h1 ?_⟩, fun e he => ?_⟩
  · simpa using q
  · have hd : isNameD d = false ∧ d = e := by
      rw [List.find?_cons] at he
      cases q : isNameD d with
      | true => rw [q] at he; cases he
      | false => rw [q] at he; exact ⟨rfl, Option.some.inj he⟩
    obtain ⟨hd, rfl⟩ := hd
    exact ⟨_, le.refl, h2 hd⟩
abbrev N_Thing_dice : List Str := ["name"]
theorem sc_Thing_dice : FnScope N_Thing_dice ["name"] (defScope s_Thing_dice) := ⟨rfl, rfl, rfl, by decide +kernel, rfl, by decide +kernel, by decide +kernel⟩
theorem c_Thing_dice {CT CB : Addr} (K_Thing : KCls K mg "Thing" CT thF) (C_need_names : Cl P w K mg base 4 "need_names" ["values"] (spNeed CB)) (N_Thing : ClN P w K mg base 1 CT [.tup []] (spThing CT)) (Dx : DfS K CT "dice" "Thing.dice" s_Thing_dice ["name"]) : ClS P w K mg base 5 CT "dice" (spKind CT CB "dice") := by
  have sc := sc_Thing_dice
  refine cls_of Dx sc (fun ds r P' XR ⟨_, e, _⟩ => by rw [e]; rfl) (fun f cdv A outer s H E hr tk po => ?_)
  refine ⟨_, (ss_cons (s_expr (d_fn C_need_names tk hr (dl_cons (d_lst (dl_cons (dv 0) dl_nil)) dl_nil)))
  (ss_one (s_ret (d_frz (d_mk 0 N_Thing K_Thing tk hr (dl_cons d_str (dl_cons (dv 0) dl_nil))))))), fun ds r P' XR h => ?_⟩
  obtain ⟨d, rfl, pd, h1, h2⟩ := h
  refine ⟨Nat.le_of_ble_eq_true rfl, [d], rfl, Nat.le_of_ble_eq_true rfl, fun x hx => by rw [List.mem_singleton.mp hx]; exact pd, fun q => fun a => ⟨a, r, [], _, _, _, rfl, rfl, rfl, a, CT, _, _, r, [], rfl, rfl, r, le.drop, h1 ?_⟩, fun e he => ?_⟩
  · simpa using q
  · have hd : isNameD d = false ∧ d = e := by
      rw [List.find?_cons] at he
      cases q : isNameD d with
      | true => rw [q] at he; cases he
      | false => rw [q] at he; exact ⟨rfl, Option.some.inj he⟩
    obtain ⟨hd, rfl⟩ := hd
    exact ⟨_, le.refl, h2 hd⟩
abbrev N_Thing_source : List Str := ["name"]
theorem sc_Thing_source : FnScope N_Thing_source ["name"] (defScope s_Thing_source) := ⟨rfl, rfl, rfl, by decide +kernel, rfl, by decide +kernel, by decide +kernel⟩
theorem c_Thing_source {CT CB : Addr} (K_Thing : KCls K mg "Thing" CT thF) (C_need_names : Cl P w K mg base 4 "need_names" ["values"] (spNeed CB)) (N_Thing : ClN P w K mg base 1 CT [.tup []] (spThing CT)) (Dx : DfS K CT "source" "Thing.source" s_Thing_source ["name"]) : ClS P w K mg base 5 CT "source" (spKind CT CB "source") := by
  have sc := sc_Thing_source
  refine cls_of Dx sc (fun ds r P' XR ⟨_, e, _⟩ => by rw [e]; rfl) (fun f cdv A outer s H E hr tk po => ?_)
  refine ⟨_, (ss_cons (s_expr (d_fn C_need_names tk hr (dl_cons (d_lst (dl_cons (dv 0) dl_nil)) dl_nil)))
  (ss_one (s_ret (d_frz (d_mk 0 N_Thing K_Thing tk hr (dl_cons d_str (dl_cons (dv 0) dl_nil))))))), fun ds r P' XR h => ?_⟩
  obtain ⟨d, rfl, pd, h1, h2⟩ := h
  refine ⟨Nat.le_of_ble_eq_true rfl, [d], rfl, Nat.le_of_ble_eq_true rfl, fun x hx => by rw [List.mem_singleton.mp hx]; exact pd, fun q => fun a => ⟨a, r, [], _, _, _, rfl, rfl, rfl, a, CT, _, _, r, [], rfl, rfl, r, le.drop, h1 ?_⟩, fun e he => ?_⟩
  · simpa using q
  · have hd : isNameD d = false ∧ d = e := by
      rw [List.find?_cons] at he
      cases q : isNameD d with
      | true => rw [q] at he; cases he
      | false => rw [q] at he; exact ⟨rfl, Option.some.inj he⟩
    obtain ⟨hd, rfl⟩ := hd
    exact ⟨_, le.refl, h2 hd⟩
abbrev N_Thing_flag : List Str := ["name"]
theorem sc_Thing_flag : FnScope N_Thing_flag ["name"] (defScope s_Thing_flag) := ⟨rfl, rfl, rfl, by decide +kernel, rfl, by decide +kernel, by decide +kernel⟩
theorem c_Thing_flag {CT CB : Addr} (K_Thing : KCls K mg "Thing" CT thF) (C_need_names : Cl P w K mg base 4 "need_names" ["values"] (spNeed CB)) (N_Thing : ClN P w K mg base 1 CT [.tup []] (spThing CT)) (Dx : DfS K CT "flag" "Thing.flag" s_Thing_flag ["name"]) : ClS P w K mg base 5 CT "flag" (spKind CT CB "flag") := by
  have sc := sc_Thing_flag
  refine cls_of Dx sc (fun ds r P' XR ⟨_, e, _⟩ => by rw [e]; rfl) (fun f cdv A outer s H E hr tk po => ?_)
  refine ⟨_, (ss_cons (s_expr (d_fn C_need_names tk hr (dl_cons (d_lst (dl_cons (dv 0) dl_nil)) dl_nil)))
  (ss_one (s_ret (d_frz (d_mk 0 N_Thing K_Thing tk hr (dl_cons d_str (dl_cons (dv 0) dl_nil))))))), fun ds r P' XR h => ?_⟩
  obtain ⟨d, rfl, pd, h1, h2⟩ := h
  refine ⟨Nat.le_of_ble_eq_true rfl, [d], rfl, Nat.le_of_ble_eq_true rfl, fun x hx => by rw [List.mem_singleton.mp hx]; exact pd, fun q => fun a => ⟨a, r, [], _, _, _, rfl, rfl, rfl, a, CT, _, _, r, [], rfl, rfl, r, le.drop, h1 ?_⟩, fun e he => ?_⟩
  · simpa using q
  · have hd : isNameD d = false ∧ d = e := by
      rw [List.find?_cons] at he
      cases q : isNameD d with
      | true => rw [q] at he; cases he
      | false => rw [q] at he; exact ⟨rfl, Option.some.inj he⟩
    obtain ⟨hd, rfl⟩ := hd
    exact ⟨_, le.refl, h2 hd⟩
abbrev N_Thing_slot : List Str := ["name"]
theorem sc_Thing_slot : FnScope N_Thing_slot ["name"] (defScope s_Thing_slot) := ⟨rfl, rfl, rfl, by decide +kernel, rfl, by decide +kernel, by decide +kernel⟩
theorem c_Thing_slot {CT CB : Addr} (K_Thing : KCls K mg "Thing" CT thF) (C_need_names : Cl P w K mg base 4 "need_names" ["values"] (spNeed CB)) (N_Thing : ClN P w K mg base 1 CT [.tup []] (spThing CT)) (Dx : DfS K CT "slot" "Thing.slot" s_Thing_slot ["name"]) : ClS P w K mg base 5 CT "slot" (spKind CT CB "slot") := by
  have sc := sc_Thing_slot
  refine cls_of Dx sc (fun ds r P' XR ⟨_, e, _⟩ => by rw [e]; rfl) (fun f cdv A outer s H E hr tk po => ?_)
  refine ⟨_, (ss_cons (s_expr (d_fn C_need_names tk hr (dl_cons (d_lst (dl_cons (dv 0) dl_nil)) dl_nil)))
  (ss_one (s_ret (d_frz (d_mk 0 N_Thing K_Thing tk hr (dl_cons d_str (dl_cons (dv 0) dl_nil))))))), fun ds r P' XR h => ?_⟩
  obtain ⟨d, rfl, pd, h1, h2⟩ := h
  refine ⟨Nat.le_of_ble_eq_true rfl, [d], rfl, Nat.le_of_ble_eq_true rfl, fun x hx => by rw [List.mem_singleton.mp hx]; exact pd, fun q => fun a => ⟨a, r, [], _, _, _, rfl, rfl, rfl, a, CT, _, _, r, [], rfl, rfl, r, le.drop, h1 ?_⟩, fun e he => ?_⟩
  · simpa using q
  · have hd : isNameD d = false ∧ d = e := by
      rw [List.find?_cons] at he
      cases q : isNameD d with
      | true => rw [q] at he; cases he
      | false => rw [q] at he; exact ⟨rfl, Option.some.inj he⟩
    obtain ⟨hd, rfl⟩ := hd
    exact ⟨_, le.refl, h2 hd⟩
def spField (CT CB : Addr) : SpX := fun ds r P XR => ∃ d e, ds = [d, e] ∧ plain d = true ∧ plain e = true ∧ (isNameD d = true → isNameD e = true → P (.ins CT thF [.str "field", d, .tup [e]]) r) ∧ (∀ x, [d, e].find? (fun d => !isNameD d) = some x → XR CB ["name"] [x] r)
abbrev N_Thing_field : List Str := ["name", "over"]
theorem sc_Thing_field : FnScope N_Thing_field ["name", "over"] (defScope s_Thing_field) := ⟨rfl, rfl, rfl, by decide +kernel, rfl, by decide +kernel, by decide +kernel⟩
theorem c_Thing_field {CT CB : Addr} (K_Thing : KCls K mg "Thing" CT thF) (C_need_names : Cl P w K mg base 4 "need_names" ["values"] (spNeed CB)) (N_Thing : ClN P w K mg base 1 CT [.tup []] (spThing CT)) (Dx : DfS K CT "field" "Thing.field" s_Thing_field ["name", "over"]) : ClS P w K mg base 5 CT "field" (spField CT CB) := by
  have sc := sc_Thing_field
  refine cls_of Dx sc (fun ds r P' XR ⟨_, _, e, _⟩ => by rw [e]; rfl) (fun f cdv A outer s H E hr tk po => ?_)
  refine ⟨_, (ss_cons (s_expr (d_fn C_need_names tk hr (dl_cons (d_lst (dl_cons (dv 0) (dl_cons (dv 1) dl_nil))) dl_nil)))
  (ss_one (s_ret (d_frz (d_mk 1 N_Thing K_Thing tk hr (dl_cons d_str (dl_cons (dv 0) (dl_cons (d_tup (dl_cons (dv 1) dl_nil)) dl_nil)))))))), fun ds r P' XR h => ?_⟩
  obtain ⟨d, e, rfl, pd, pe, h1, h2⟩ := h
  refine ⟨Nat.le_of_ble_eq_true rfl, [d, e], rfl, Nat.le_of_ble_eq_true rfl, fun x hx => ?_, fun q => ⟨Nat.le_of_ble_eq_true rfl, fun a => ⟨a, r, [], _, _, _, rfl, rfl, rfl, a, CT, _, _, r, [], rfl, rfl, r, le.drop, h1 ?_ ?_⟩⟩, fun e he => ⟨_, le.refl, h2 _ he⟩⟩
  · rcases List.mem_cons.mp hx with rfl | hx
    · exact pd
    · rw [List.mem_singleton.mp hx]; exact pe
  · rw [List.all_cons, Bool.and_eq_true] at q
    exact q.1
  · rw [List.all_cons, Bool.and_eq_true] at q
    simpa using q.2
/-- the first that equals an earlier one -/
def twice : List D → List D → Option D
  | _, [] => none
  | s, x :: xs => if memD x s = true then some x else twice (s ++ [x]) xs
theorem twice_step {xs : List D} {i : Nat} {d : D} (h0 : twice (xs.take i) (xs.drop i) = twice [] xs) (h : xs[i]? = some d) : (memD d (xs.take i) = true → twice [] xs = some d) ∧ (memD d (xs.take i) = false → twice (xs.take (i + 1)) (xs.drop (i + 1)) = twice [] xs) := by
  have hi := (List.getElem?_eq_some_iff.mp h).1
  have e : xs.drop i = d :: xs.drop (i + 1) := by
    rw [← (List.getElem?_eq_some_iff.mp h).2]
    exact (List.getElem_cons_drop hi).symm
  rw [e, show twice (xs.take i) (d :: xs.drop (i + 1)) = if memD d (xs.take i) = true then some d else twice (xs.take i ++ [d]) (xs.drop (i + 1)) from rfl] at h0
  refine ⟨fun q => ?_, fun q => ?_⟩
  · rw [if_pos q] at h0
    exact h0.symm
  · rw [if_neg (by rw [q]; decide)] at h0
    rw [List.take_add_one, h]
    exact h0
def spUnlike (CT2 : Addr) : SpX := fun ds r P XR => ∃ d xs, ds = [d] ∧ seqD d = some xs ∧ xs.length ≤ 1000 ∧ (∀ x ∈ xs, dep x ≤ 60) ∧ (twice [] xs = none → P .non r) ∧ (∀ d, twice [] xs = some d → XR CT2 ["name"] [d] r)
theorem deps_le {n : Nat} : ∀ {xs : List D}, (∀ x ∈ xs, dep x ≤ n) → deps xs ≤ n
  | [], _ => Nat.zero_le _
  | x :: xs, h => by
    show max (dep x) (deps xs) ≤ n
    have h1 := h x List.mem_cons_self
    have h2 := deps_le (n := n) (xs := xs) fun y hy => h y (List.mem_cons_of_mem _ hy)
    omega
abbrev N_need_unlike : List Str := ["names", "seen", "name"]
theorem sc_need_unlike : FnScope N_need_unlike ["names"] (defScope s_need_unlike) := ⟨rfl, rfl, rfl, by decide +kernel, rfl, by decide +kernel, by decide +kernel⟩
theorem c_need_unlike {CT2 : Addr} (X_Twice : ErrX P w K mg base "Twice" CT2 "name") (Dx : Dfn K mg "need_unlike" s_need_unlike ["names"]) : Cl P w K mg base 3 "need_unlike" ["names"] (spUnlike CT2) := by
  have sc := sc_need_unlike
  refine cl_of Dx sc (fun ds r P' XR ⟨_, xs, e, _⟩ => by rw [e]; rfl) (fun f cdv A outer s H E hr tk po => ?_)
  have hi := u65 hr
  refine ⟨_, (ss_cons (s_set (i := 1) sc.nd (d_lstO dl_nil))
  (ss_one (s_for (i_any (dv 0)) (g_name (i := 2) sc.nd)
  (ss_cons (s_if (b_cmpO (p_inO hi) (dv 2) (dv 1))
  (ss_one (s_raise X_Twice.c tk hr (dl_cons (dv 2) dl_nil)))
  ss_nil)
  (ss_one (s_expr (d_app (dv 1) (dl_cons (dv 2) dl_nil))))) po))), fun ds r P' XR h => ?_⟩
  obtain ⟨ld, xs, rfl, hsq, hl, hd, hP, hX⟩ := h
  refine ⟨Nat.le_of_ble_eq_true rfl, fun q => ⟨xs, hsq, ?_⟩⟩
  refine ⟨fun i δ r' => (∃ d2, δ = [some ld, some (.adr q), d2]) ∧ r' = r ++ [lstA q (xs.take i)] ∧ i ≤ xs.length ∧ twice (xs.take i) (xs.drop i) = twice [] xs, ⟨⟨_, rfl⟩, rfl, Nat.zero_le _, rfl⟩, ?_, ?_⟩
  · rintro i d δ r' hi2 ⟨⟨d2, rfl⟩, rfl, hil, ht⟩
    have hlt := (List.getElem?_eq_some_iff.mp hi2).1
    obtain ⟨t1, t2⟩ := twice_step ht hi2
    refine ⟨q, xs.take i, rfl, ⟨r, [], rfl⟩, ⟨by have := hd d (List.mem_of_getElem? hi2); omega, by have := deps_le (n := 60) (xs := xs.take i) fun x hx => hd x (List.mem_of_mem_take hx); omega, _, rfl, ?_⟩⟩
    cases e : memD d (xs.take i) with
    | true => exact brT ⟨d, rfl, _, le.drop, hX d (t1 e)⟩
    | false =>
      refine brF ⟨q, xs.take i, rfl, ⟨r, [], rfl⟩, ⟨r, _, [], d, rfl, rfl, by unfold small; rw [List.length_take]; omega, ⟨_, rfl⟩, ?_, by omega, t2 e⟩⟩
      rw [List.take_add_one, hi2]
      rfl
  · rintro δ r' ⟨⟨d2, rfl⟩, rfl, hil, ht⟩
    rw [List.take_length, List.drop_length] at ht
    exact ⟨_, le.drop, hP ht.symm⟩
/-- Thing.table of a name and its keys -/
def spTable (CT CB CT2 CTM : Addr) : SpX := fun ds r P XR => ∃ d ks, ds = [d, .tup ks] ∧ ks.length ≤ 900 ∧ plain d = true ∧ (∀ x ∈ ks, plain x = true) ∧ (∀ x, (d :: ks).find? (fun d => !isNameD d) = some x → XR CB ["name"] [x] r) ∧
  ((d :: ks).all isNameD = true → (∀ x, twice [] ks = some x → XR CT2 ["name"] [x] r) ∧ (twice [] ks = none → (4 < ks.length → XR CTM ["limit"] [.int 4] r) ∧ (ks.length ≤ 4 → P (.ins CT thF [.str "table", d, .tup ks]) r)))
theorem name_dep {d : D} (h : isNameD d = true) : dep d ≤ 60 := by
  cases d <;> first | (cases h; done) | exact Nat.zero_le _
abbrev N_Thing_table : List Str := ["name", "keys"]
theorem sc_Thing_table : FnScope N_Thing_table ["name", "keys"] (defScope s_Thing_table) := ⟨rfl, rfl, rfl, by decide +kernel, rfl, by decide +kernel, by decide +kernel⟩
theorem c_Thing_table {CT CB CT2 CTM : Addr} (B : Bl mg) (gM : GI mg "MOST_KEYS" 4) (X_TooMany : ErrX P w K mg base "TooMany" CTM "limit") (K_Thing : KCls K mg "Thing" CT thF) (C_need_names : Cl P w K mg base 4 "need_names" ["values"] (spNeed CB)) (C_need_unlike : Cl P w K mg base 3 "need_unlike" ["names"] (spUnlike CT2)) (N_Thing : ClN P w K mg base 1 CT [.tup []] (spThing CT))
    (Dx : DfSS K CT "table" "Thing.table" s_Thing_table ["name"] "keys") : ClS P w K mg base 7 CT "table" (starP 1 (spTable CT CB CT2 CTM)) := by
  have sc := sc_Thing_table
  refine clss_of (N := N_Thing_table) (ps := ["name"]) Dx sc (fun f cdv A outer s H E hr tk po => ?_)
  have hu := hr.units
  refine ⟨_, (ss_cons (s_expr (d_fn C_need_names tk hr (dl_cons (d_lst (dl_cons (dv 0) (dl_star (dv 1) dl_nil))) dl_nil)))
  (ss_cons (s_expr (d_fn C_need_unlike tk hr (dl_cons (dv 1) dl_nil)))
  (ss_cons (s_if (b_cmp p_gt (d_blt c_len (by rfl) B.len (dl_cons (dv 1) dl_nil)) (d_gI gM))
  (ss_one (s_raise X_TooMany.c tk hr (dl_cons (d_gI gM) dl_nil)))
  ss_nil)
  (ss_one (s_ret (d_frz (d_mk 1 N_Thing K_Thing tk hr (dl_cons d_str (dl_cons (dv 0) (dl_cons (dv 1) dl_nil)))))))))), fun ds r P' XR h => ?_⟩
  obtain ⟨d, ks, rfl, hl, pd, pk, hX, hR⟩ := h
  refine ⟨by show (d :: (ks ++ [])).length ≤ 1000000; rw [List.append_nil, List.length_cons]; omega, d :: (ks ++ []), rfl, by rw [List.append_nil, List.length_cons]; omega, fun x hx => ?_, fun q => ?_, fun x hx => ?_⟩
  · rw [List.append_nil] at hx
    rcases List.mem_cons.mp hx with rfl | hx
    · exact pd
    · exact pk x hx
  · rw [List.append_nil] at q
    obtain ⟨h1, h2⟩ := hR q
    refine ⟨.tup ks, ks, rfl, rfl, by omega, fun x hx => name_dep (List.all_eq_true.mp q x (List.mem_cons_of_mem _ hx)), fun e => ?_, fun x hx => ⟨_, le.refl, h1 x hx⟩⟩
    obtain ⟨h3, h4⟩ := h2 e
    refine fun _ => ⟨fun z => ⟨.int 4, rfl, _, le.refl, h3 ?_⟩, fun z => ?_⟩
    · have : (4 : Int) < ((ks.length : Nat) : Int) := of_decide_eq_true z
      omega
    · have : ¬ (4 : Int) < ((ks.length : Nat) : Int) := of_decide_eq_false z
      exact fun a => ⟨a, r, [], _, _, _, rfl, rfl, rfl, a, CT, _, _, r, [], rfl, rfl, r, le.drop, h4 (by omega)⟩
  · rw [List.append_nil] at hx
    exact ⟨_, le.refl, hX x hx⟩
abbrev stF : List Str := ["things", "held", "spools", "bindings", "counts"]
structure Th where
  kd : Str
  nm : Str
  ps : List Str
def thD (CT : Addr) (t : Th) : D := .ins CT thF [.str t.kd, .str t.nm, .tup (t.ps.map .str)]
/-- a row of items: its fetching, how many were taken, its length -/
structure Sp3 where
  f : Int
  t : Int
  l : Int
def Sp3.d (x : Sp3) : D := .tup [.int x.f, .int x.t, .int x.l]
structure Stk where
  th : List Th
  held : List (Str × D)
  sp : List Sp3
  bd : List (Str × Nat)
  c0 : Int
  c1 : Int
  c2 : Int
structure SA where
  s : Addr
  td : Addr
  hd : Addr
  sl : Addr
  bd : Addr
def Stk.cnt (S : Stk) : D := .tup [.int S.c0, .int S.c1, .int S.c2]
def thE (CT : Addr) (th : List Th) : List (Str × D) := th.map fun t => (t.nm, thD CT t)
def bdE (l : List (Str × Nat)) : List (Str × D) := l.map fun e => (e.1, .int (e.2 : Nat))
def stk (CT CS : Addr) (A : SA) (S : Stk) (post : Rs) : Rs := insA A.s CS stF [.adr A.td, .adr A.hd, .adr A.sl, .adr A.bd, S.cnt] :: dctA A.td (nk (thE CT S.th)) :: dctA A.hd (nk S.held) :: lstA A.sl (S.sp.map Sp3.d) :: dctA A.bd (nk (bdE S.bd)) :: post
def bdAt (l : List (Str × Nat)) (z : Str) : Option Nat := (l.find? fun e => decide (e.1 = z)).map (·.2)
def bdPut (l : List (Str × Nat)) (k : Str) (n : Nat) : List (Str × Nat) := if (l.any fun e => decide (e.1 = k)) = true then l.map (fun e => if e.1 = k then (e.1, n) else e) else l ++ [(k, n)]
theorem bdE_at (z : Str) : ∀ l : List (Str × Nat), aGet (bdE l) z = (bdAt l z).map fun n => .int (n : Nat)
  | [] => rfl
  | e :: l => by
    have ih := bdE_at z l
    unfold aGet bdE bdAt at ih ⊢
    rw [List.map_cons, List.find?_cons, List.find?_cons]
    by_cases h : e.1 = z
    · rw [decide_eq_true h]; rfl
    · rw [decide_eq_false h]; exact ih
theorem bdE_put (l : List (Str × Nat)) (k : Str) (n : Nat) : aPut (bdE l) k (.int (n : Nat)) = bdE (bdPut l k n) := by
  have any : ((bdE l).any fun e => decide (e.1 = k)) = l.any fun e => decide (e.1 = k) := by
    unfold bdE
    rw [List.any_map]
    rfl
  unfold aPut bdPut
  rw [any]
  split
  · unfold bdE
    rw [List.map_map, List.map_map]
    refine List.map_congr_left fun e _ => ?_
    by_cases h : e.1 = k
    · show (if e.1 = k then _ else _) = (fun e : Str × Nat => (e.1, D.int (e.2 : Nat))) (if e.1 = k then (e.1, n) else e)
      rw [if_pos h, if_pos h]
    · show (if e.1 = k then _ else _) = (fun e : Str × Nat => (e.1, D.int (e.2 : Nat))) (if e.1 = k then (e.1, n) else e)
      rw [if_neg h, if_neg h]
  · unfold bdE
    rw [List.map_append]
    rfl
theorem bdAt_put (l : List (Str × Nat)) (k j : Str) (n : Nat) : bdAt (bdPut l k n) j = if j = k then some n else bdAt l j := by
  have h := aGet_put (bdE l) k j (.int (n : Nat))
  rw [bdE_put, bdE_at, bdE_at] at h
  by_cases q : j = k
  · rw [if_pos q] at h ⊢
    cases e : bdAt (bdPut l k n) j with
    | none => rw [e] at h; cases h
    | some m =>
      rw [e] at h
      have h : D.int (m : Nat) = D.int (n : Nat) := Option.some.inj h
      injection h with h
      rw [Int.ofNat_inj.mp h]
  · rw [if_neg q] at h ⊢
    cases e : bdAt (bdPut l k n) j with
    | none => rw [e] at h; cases e2 : bdAt l j with
      | none => rfl
      | some _ => rw [e2] at h; cases h
    | some m =>
      rw [e] at h
      cases e2 : bdAt l j with
      | none => rw [e2] at h; cases h
      | some m' =>
        rw [e2] at h
        have h : D.int (m : Nat) = D.int (m' : Nat) := Option.some.inj h
        injection h with h
        rw [Int.ofNat_inj.mp h]
section
variable {CT CS : Addr} {A : SA} {S : Stk} {pre post t : Rs} {z : Str} {d y : D}
theorem sk_held {P : PK1} (p : P (.adr A.hd) (pre ++ stk CT CS A S post)) : oFld "held" (.adr A.s) (pre ++ stk CT CS A S post) P := .own pre _ 1 _ rfl (by decide) rfl p
theorem sk_spools {P : PK1} (p : P (.adr A.sl) (pre ++ stk CT CS A S post)) : oFld "spools" (.adr A.s) (pre ++ stk CT CS A S post) P := .own pre _ 2 _ rfl (by decide) rfl p
theorem sk_bindings {P : PK1} (p : P (.adr A.bd) (pre ++ stk CT CS A S post)) : oFld "bindings" (.adr A.s) (pre ++ stk CT CS A S post) P := .own pre _ 3 _ rfl (by decide) rfl p
theorem sk_isC : isC CS (.adr A.s) (pre ++ stk CT CS A S post) := .own pre _ rfl
theorem sk_t2 : pre ++ stk CT CS A S post = (pre ++ [insA A.s CS stF [.adr A.td, .adr A.hd, .adr A.sl, .adr A.bd, S.cnt], dctA A.td (nk (thE CT S.th))]) ++ dctA A.hd (nk S.held) :: lstA A.sl (S.sp.map Sp3.d) :: dctA A.bd (nk (bdE S.bd)) :: post := by unfold stk; simp
theorem sk_t3 : pre ++ stk CT CS A S post = (pre ++ [insA A.s CS stF [.adr A.td, .adr A.hd, .adr A.sl, .adr A.bd, S.cnt], dctA A.td (nk (thE CT S.th)), dctA A.hd (nk S.held)]) ++ lstA A.sl (S.sp.map Sp3.d) :: dctA A.bd (nk (bdE S.bd)) :: post := by unfold stk; simp
theorem sk_t4 : pre ++ stk CT CS A S post = (pre ++ [insA A.s CS stF [.adr A.td, .adr A.hd, .adr A.sl, .adr A.bd, S.cnt], dctA A.td (nk (thE CT S.th)), dctA A.hd (nk S.held), lstA A.sl (S.sp.map Sp3.d)]) ++ dctA A.bd (nk (bdE S.bd)) :: post := by unfold stk; simp
theorem sk_hget {k : Option D → Prop} (p : k (aGet S.held z)) : oDGet (pre ++ stk CT CS A S post) (.adr A.hd) (.str z) k := .own ⟨_, _, sk_t2⟩ rfl (by rw [nk_get]; exact p)
theorem sk_bget {k : Option D → Prop} (p : k ((bdAt S.bd z).map fun n => .int (n : Nat))) : oDGet (pre ++ stk CT CS A S post) (.adr A.bd) (.str z) k := .own ⟨_, _, sk_t4⟩ rfl (by rw [nk_get, bdE_at]; exact p)
theorem sk_hput {k : Rs → Prop} (sz : S.held.length ≤ 1000) (p : k (pre ++ stk CT CS A { S with held := aPut S.held z d } post)) : oDPut (pre ++ stk CT CS A S post) (.str z) d (.adr A.hd) k :=
  .mk _ _ (nk S.held) (.inr z) sk_t2 rfl (by rw [nk_len]; unfold small; omega) (by rw [nk_put]; rw [sk_t2] at p; exact p)
theorem sk_bput {k : Rs → Prop} {n : Nat} (sz : S.bd.length ≤ 1000) (p : k (pre ++ stk CT CS A { S with bd := bdPut S.bd z n } post)) : oDPut (pre ++ stk CT CS A S post) (.str z) (.int (n : Nat)) (.adr A.bd) k :=
  .mk _ _ (nk (bdE S.bd)) (.inr z) sk_t4 rfl (by rw [nk_len]; unfold small bdE; rw [List.length_map]; omega) (by rw [nk_put, bdE_put]; rw [sk_t4] at p; exact p)
theorem sk_own : Own (pre ++ stk CT CS A S post) A.sl (S.sp.map Sp3.d) := ⟨_, _, sk_t3⟩
theorem sk_apps {P : D → Rs → Prop} {x : Sp3} (sz : S.sp.length ≤ 100000) (p : P .non (pre ++ stk CT CS A { S with sp := S.sp ++ [x] } post)) : oApp (pre ++ stk CT CS A S post) A.sl [x.d] P :=
  ⟨_, _, _, _, rfl, sk_t3, by rw [List.length_map]; unfold small; omega, by
    rw [sk_t3] at p
    have e : (S.sp ++ [x]).map Sp3.d = S.sp.map Sp3.d ++ [x.d] := by rw [List.map_append]; rfl
    rw [show ({ S with sp := S.sp ++ [x] } : Stk).sp = S.sp ++ [x] from rfl, e] at p
    exact p⟩
end
theorem aPut_le (l : List (Str × D)) (k : Str) (d : D) : (aPut l k d).length ≤ l.length + 1 := by
  unfold aPut
  split
  · rw [List.length_map]; omega
  · rw [List.length_append, List.length_singleton]; omega
def uniq (ths : List Th) : Prop := (ths.map (·.nm)).Nodup
theorem thE_put {CT : Addr} {ths : List Th} {i : Nat} {t : Th} (hu : uniq ths) (ht : ths[i]? = some t) : dPut (nk (thE CT (ths.take i))) (.inr t.nm) (thD CT t) = nk (thE CT (ths.take (i + 1))) := by
  rw [nk_put]
  unfold aPut
  have hn : ((thE CT (ths.take i)).any fun e => decide (e.1 = t.nm)) = false := by
    rw [Bool.eq_false_iff]
    intro h
    obtain ⟨e, he, hz⟩ := List.any_eq_true.mp h
    obtain ⟨t', ht', rfl⟩ := List.mem_map.mp he
    obtain ⟨j, hj⟩ := List.mem_iff_getElem?.mp ht'
    have hji : j < i := by
      have := (List.getElem?_eq_some_iff.mp hj).1
      rw [List.length_take] at this
      omega
    have hj2 : ths[j]? = some t' := by rw [List.getElem?_take_of_lt hji] at hj; exact hj
    have e : t'.nm = t.nm := of_decide_eq_true hz
    have n := List.pairwise_iff_getElem.mp hu j i (by rw [List.length_map]; have := (List.getElem?_eq_some_iff.mp hj2).1; exact this) (by rw [List.length_map]; exact (List.getElem?_eq_some_iff.mp ht).1) hji
    rw [List.getElem_map, List.getElem_map, (List.getElem?_eq_some_iff.mp hj2).2, (List.getElem?_eq_some_iff.mp ht).2] at n
    exact n e
  rw [if_neg (by rw [hn]; decide), List.take_add_one, ht]
  unfold thE
  rw [List.map_append]
  rfl
def hasS (l : List Str) (z : Str) : Bool := l.any fun y => y == z
theorem at3 {α : Type} {a b c d : α} {l : List α} : atI (a :: b :: c :: d :: l) 3 = some d := L2.atI_nat (j := 3) rfl
theorem at4 {α : Type} {a b c d e : α} {l : List α} : atI (a :: b :: c :: d :: e :: l) 4 = some e := L2.atI_nat (j := 4) rfl
theorem cutD_to (n : Nat) (xs : List D) : cutD xs none (some (n : Int)) = xs.take n := by
  unfold cutD
  have e : HT.sIx xs.length xs.length (some (n : Int)) = min n xs.length := HT.sIx_nat xs.length xs.length n
  rw [e, HT.sIx_none, List.drop_zero, Nat.sub_zero]
  rcases Nat.le_total n xs.length with h | h
  · rw [Nat.min_eq_left h]
  · rw [Nat.min_eq_right h, List.take_of_length_le (Nat.le_refl _), List.take_of_length_le h]
/-- what a thing holds -/
def Stk.con (S : Stk) (z : Str) : Option D := match bdAt S.bd z with | some n => (S.sp[n]?).map Sp3.d | none => aGet S.held z
def spConOf (CT CS : Addr) : SpX := fun ds r P _ => ∃ A S pre post z d, ds = [.adr A.s, .str z] ∧ r = pre ++ stk CT CS A S post ∧ S.con z = some d ∧ P d (pre ++ stk CT CS A S post)
abbrev N_Stock_content_of : List Str := ["self", "name"]
theorem sc_Stock_content_of : FnScope N_Stock_content_of ["self", "name"] (defScope s_Stock_content_of) := ⟨rfl, rfl, rfl, by decide +kernel, rfl, by decide +kernel, by decide +kernel⟩
theorem c_Stock_content_of {CT CS : Addr} (K_Stock : KCls K mg "Stock" CS stF) (Dx : DfM K CS "content_of" "Stock.content_of" s_Stock_content_of ["self", "name"]) : ClM P w K mg base 1 CS "content_of" (spConOf CT CS) := by
  have sc := sc_Stock_content_of
  refine clm_of Dx sc (fun ds r P' XR ⟨_, _, _, _, _, _, e, _⟩ => by rw [e]; rfl) (fun f cdv A outer s H E hr tk po => ?_)
  have hi := u65 hr
  refine ⟨_, (ss_cons (s_if (b_cmpO (p_din hi) (dv 1) (d_fld (dv 0)))
  (ss_one (s_ret (d_ixO (d_fld (dv 0)) (d_dix hi (d_fld (dv 0)) (dv 1)))))
  ss_nil)
  (ss_one (s_ret (d_dix hi (d_fld (dv 0)) (dv 1))))), fun ds r P' XR h => ?_⟩
  obtain ⟨A, S, pre, post, z, d, rfl, rfl, hd, h⟩ := h
  refine sk_bindings ⟨sk_bget ?_⟩
  unfold Stk.con at hd
  cases q : bdAt S.bd z with
  | none =>
    rw [q] at hd
    refine brF (sk_held (sk_hget ⟨d, hd, fit.of h⟩))
  | some n =>
    rw [q] at hd
    refine brT (sk_spools (sk_bindings (sk_bget ⟨.int (n : Nat), by rw [q]; rfl, ?_⟩)))
    obtain ⟨x, hx, rfl⟩ := Option.map_eq_some_iff.mp hd
    exact ⟨A.sl, _, n, x.d, rfl, rfl, sk_own, L2.atI_nat (by rw [List.getElem?_map, hx]; rfl), fit.of h⟩
def Stk.put (S : Stk) (z : Str) (d : D) : Stk := { S with held := aPut S.held z d }
def con0 (kd : Str) : D := if kd == "dice" then .tup [.int 0, .int 0] else if kd == "table" then .tup [] else if kd == "source" then .int 0 else if kd == "flag" then .bl false else .non
/-- one thing more -/
def Stk.add (S : Stk) (t : Th) : Stk := if t.kd == "feed" then { S with bd := bdPut S.bd t.nm S.sp.length, sp := S.sp ++ [⟨0, 0, 0⟩] } else S.put t.nm (con0 t.kd)
/-- things by their names, as a dict keeps them -/
def stkT (ths : List Th) (n : Nat) : Stk := (ths.take n).foldl Stk.add ⟨ths, [], [], [], 0, 0, 0⟩
def stk0 (ths : List Th) : Stk := ths.foldl Stk.add ⟨ths, [], [], [], 0, 0, 0⟩
def spStock (CT CS : Addr) : SpX := fun ds r P _ => ∃ a pre ths, ds = [.adr a, .tup (ths.map (thD CT))] ∧ ths.length ≤ 100 ∧ uniq ths ∧ r = pre ++ [insA a CS [] []] ∧ ∀ A : SA, A.s = a → P .non (pre ++ stk CT CS A (stk0 ths) [])
theorem add_th (S : Stk) (t : Th) : (S.add t).th = S.th ∧ (S.add t).c0 = S.c0 ∧ (S.add t).c1 = S.c1 ∧ (S.add t).c2 = S.c2 ∧ (S.add t).held.length ≤ S.held.length + 1 ∧ (S.add t).bd.length ≤ S.bd.length + 1 ∧ (S.add t).sp.length ≤ S.sp.length + 1 := by
  unfold Stk.add
  split
  · refine ⟨rfl, rfl, rfl, rfl, Nat.le_succ _, ?_, ?_⟩
    · show (bdPut _ _ _).length ≤ _
      unfold bdPut
      split
      · rw [List.length_map]; omega
      · rw [List.length_append, List.length_singleton]; omega
    · show (_ ++ [_]).length ≤ _
      rw [List.length_append, List.length_singleton]; omega
  · exact ⟨rfl, rfl, rfl, rfl, aPut_le _ _ _, Nat.le_succ _, Nat.le_succ _⟩
theorem stkT_add {ths : List Th} {i : Nat} {t : Th} (ht : ths[i]? = some t) : stkT ths (i + 1) = (stkT ths i).add t := by
  unfold stkT
  rw [List.take_add_one, ht, List.foldl_append]
  rfl
theorem stkT_len (ths : List Th) : ∀ i, (stkT ths i).th = ths ∧ (stkT ths i).held.length ≤ i ∧ (stkT ths i).bd.length ≤ i ∧ (stkT ths i).sp.length ≤ i
  | 0 => ⟨rfl, Nat.le_refl _, Nat.le_refl _, Nat.le_refl _⟩
  | i + 1 => by
    obtain ⟨h0, h1, h2, h3⟩ := stkT_len ths i
    cases q : ths[i]? with
    | none =>
      have e : stkT ths (i + 1) = stkT ths i := by
        unfold stkT
        rw [List.take_add_one, q]
        simp
      rw [e]
      exact ⟨h0, by omega, by omega, by omega⟩
    | some t =>
      rw [stkT_add q]
      obtain ⟨q0, _, _, _, q1, q2, q3⟩ := add_th (stkT ths i) t
      exact ⟨by rw [q0]; exact h0, by omega, by omega, by omega⟩
abbrev N_Stock___init__ : List Str := ["self", "things", "thing"]
theorem sc_Stock___init__ : FnScope N_Stock___init__ ["self", "things"] (defScope s_Stock___init__) := ⟨rfl, rfl, rfl, by decide +kernel, rfl, by decide +kernel, by decide +kernel⟩
theorem c_Stock_init {CT CS : Addr} (B : Bl mg) (K_Thing : KCls K mg "Thing" CT thF) (K_Stock : KCls K mg "Stock" CS stF) (Dx : DfN K CS "Stock.__init__" s_Stock___init__ ["self", "things"] []) : ClN P w K mg base 1 CS [] (spStock CT CS) := by
  have sc := sc_Stock___init__
  refine cln_of Dx sc (fun ds r P' XR ⟨_, _, _, e, _⟩ => by rw [e]; rfl) (fun f cdv A outer s H E hr tk po => ?_)
  have hu := hr.units
  have hi := u65 hr
  refine ⟨_, (ss_cons (s_put (K_Stock.no "things" (by decide)) (dv 0) (d_dc (js := [2]) (own := [("thing", 2)]) sc.nd (i_tup (dv 1)) (blkOk_by (own := [("thing", 2)]) (N := N_Stock___init__) (sc := defScope s_Stock___init__) (by decide +kernel)) (fun _ _ _ _ _ => (g_name (i := 2) sc.nd)) (fun _ _ _ _ _ => pts_no) (fun _ _ _ _ _ => (d_fld (dv 2))) (fun _ _ _ _ _ => (dv 2))))
  (ss_cons (s_put (K_Stock.no "held" (by decide)) (dv 0) d_dnew)
  (ss_cons (s_put (K_Stock.no "spools" (by decide)) (dv 0) (d_lstO dl_nil))
  (ss_cons (s_put (K_Stock.no "bindings" (by decide)) (dv 0) d_dnew)
  (ss_cons (s_put (K_Stock.no "counts" (by decide)) (dv 0) (d_tup (dl_cons d_int (dl_cons d_int (dl_cons d_int dl_nil)))))
  (ss_one (s_for (i_tup (dv 1)) (g_name (i := 2) sc.nd)
  (ss_one (s_match (d_fld (dv 2)) (pc_cons (pm_v hu)
  (ss_cons (s_dput hi (d_fld (dv 0)) (d_fld (dv 2)) (d_blt2 c_lenO (by rfl) B.len (dl_cons (d_fld (dv 0)) dl_nil)))
  (ss_one (s_expr (d_app (d_fld (dv 0)) (dl_cons (d_tup (dl_cons d_int (dl_cons d_int (dl_cons d_int dl_nil)))) dl_nil)))))
  (pc_cons (pm_v hu)
  (ss_one (s_dput hi (d_fld (dv 0)) (d_fld (dv 2)) (d_tup (dl_cons d_int (dl_cons d_int dl_nil)))))
  (pc_cons (pm_v hu)
  (ss_one (s_dput hi (d_fld (dv 0)) (d_fld (dv 2)) (d_tup dl_nil)))
  (pc_cons (pm_v hu)
  (ss_one (s_dput hi (d_fld (dv 0)) (d_fld (dv 2)) d_int))
  (pc_cons (pm_v hu)
  (ss_one (s_dput hi (d_fld (dv 0)) (d_fld (dv 2)) d_bl))
  (pc_cons pm_any
  (ss_one (s_dput hi (d_fld (dv 0)) (d_fld (dv 2)) d_non))
  pc_nil)))))))) po))))))), fun ds r P' XR h => ?_⟩
  obtain ⟨a, pre, ths, rfl, hz, hun, rfl, h⟩ := h
  have hlen : (ths.map (thD CT)).length = ths.length := List.length_map _
  -- things
  refine ⟨fun i acc r' => acc = nk (thE CT (ths.take i)) ∧ r' = pre ++ [insA a CS [] []], ⟨rfl, rfl⟩, ?_, ?_⟩
  · rintro p i d acc r' hd ⟨rfl, rfl⟩
    rw [List.getElem?_map] at hd
    obtain ⟨t, ht, rfl⟩ := Option.map_eq_some_iff.mp hd
    refine brT (.fro 1 _ (by decide) rfl ⟨.inr t.nm, rfl, ?_, _, rfl, thE_put hun ht, rfl⟩)
    rw [nk_len]
    unfold thE
    rw [List.length_map, List.length_take]
    unfold small
    omega
  rintro td acc _ ⟨rfl, rfl⟩
  rw [hlen, List.take_length]
  rw [show (pre ++ [insA a CS [] []]) ++ [dctA td (nk (thE CT ths))] = pre ++ insA a CS [] [] :: [dctA td (nk (thE CT ths))] by simp]
  refine .new pre _ rfl (by decide) (by decide) fun hd => ?_
  refine .new (fs := ["things"]) (ds := [.adr td]) pre [dctA td (nk (thE CT ths)), dctA hd []] (by simp) (by decide) (by decide) ⟨Nat.zero_le _, fun sl => ?_⟩
  refine .new (fs := ["things", "held"]) (ds := [.adr td, .adr hd]) pre [dctA td (nk (thE CT ths)), dctA hd [], lstA sl []] (by simp) (by decide) (by decide) fun bd => ?_
  refine .new (fs := ["things", "held", "spools"]) (ds := [.adr td, .adr hd, .adr sl]) pre [dctA td (nk (thE CT ths)), dctA hd [], lstA sl [], dctA bd []] (by simp) (by decide) (by decide) ⟨Nat.le_of_ble_eq_true rfl, ?_⟩
  refine .new (fs := ["things", "held", "spools", "bindings"]) (ds := [.adr td, .adr hd, .adr sl, .adr bd]) pre [dctA td (nk (thE CT ths)), dctA hd [], lstA sl [], dctA bd []] (by simp) (by decide) (by decide) ?_
  let A : SA := ⟨a, td, hd, sl, bd⟩
  have h := h A rfl
  refine ⟨fun i δ r' => (∃ x, δ = [some (.adr a), some (.tup (ths.map (thD CT))), x]) ∧ r' = pre ++ stk CT CS A (stkT ths i) [], ⟨⟨_, rfl⟩, rfl⟩, ?_, ?_⟩
  · rintro i d δ r' hd ⟨⟨x, rfl⟩, rfl⟩
    rw [List.getElem?_map] at hd
    obtain ⟨t, ht, rfl⟩ := Option.map_eq_some_iff.mp hd
    have hlt := (List.getElem?_eq_some_iff.mp ht).1
    obtain ⟨_, l1, l2, l3⟩ := stkT_len ths i
    have e := stkT_add ht
    have put : ∀ (d : D), con0 t.kd = d → (t.kd == "feed") = false → oFld "name" (thD CT t) (pre ++ stk CT CS A (stkT ths i) []) fun y r3 => oDPut r3 y d (.adr A.hd) fun r4 => (∃ x, [some (D.adr a), some (.tup (ths.map (thD CT))), some (thD CT t)] = [some (.adr a), some (.tup (ths.map (thD CT))), x]) ∧ r4 = pre ++ stk CT CS A (stkT ths (i + 1)) [] := fun d hd hf => by
      refine .fro 1 _ (by decide) rfl (sk_hput (A := A) (by omega) ⟨⟨_, rfl⟩, ?_⟩)
      rw [e]
      unfold Stk.add
      rw [hf, if_neg (by decide), hd]
      rfl
    refine .fro 0 _ (by decide) rfl ?_
    cases k1 : t.kd == "feed" with
    | true =>
      refine brt k1 (sk_spools (A := A) ⟨A.sl, _, rfl, sk_own, fun _ => ?_⟩)
      rw [List.length_map]
      refine sk_bindings (A := A) (.fro 1 _ (by decide) rfl (sk_bput (A := A) (n := (stkT ths i).sp.length) (by omega) (sk_spools (A := A) ⟨A.sl, _, rfl, sk_own, Nat.le_of_ble_eq_true rfl, sk_apps (x := ⟨0, 0, 0⟩) ?_ ⟨⟨_, rfl⟩, ?_⟩⟩)))
      · show (stkT ths i).sp.length ≤ 100000
        omega
      · rw [e]
        unfold Stk.add
        rw [k1, if_pos rfl]
    | false =>
    refine brf k1 ?_
    cases k2 : t.kd == "dice" with
    | true => exact brt k2 ⟨Nat.le_of_ble_eq_true rfl, sk_held (A := A) (put (.tup [.int 0, .int 0]) (by unfold con0; rw [k2]; rfl) k1)⟩
    | false =>
    refine brf k2 ?_
    cases k3 : t.kd == "table" with
    | true => exact brt k3 ⟨Nat.zero_le _, sk_held (A := A) (put (.tup []) (by unfold con0; rw [k2, k3]; rfl) k1)⟩
    | false =>
    refine brf k3 ?_
    cases k4 : t.kd == "source" with
    | true => exact brt k4 (sk_held (A := A) (put (.int 0) (by unfold con0; rw [k2, k3, k4]; rfl) k1))
    | false =>
    refine brf k4 ?_
    cases k5 : t.kd == "flag" with
    | true => exact brt k5 (sk_held (A := A) (put (.bl false) (by unfold con0; rw [k2, k3, k4, k5]; rfl) k1))
    | false => exact brf k5 (brT (sk_held (A := A) (put .non (by unfold con0; rw [k2, k3, k4, k5]; rfl) k1)))
  · rintro δ r' ⟨⟨x, rfl⟩, rfl⟩
    rw [hlen]
    have e : stkT ths ths.length = stk0 ths := by unfold stkT stk0; rw [List.take_length]
    rw [e]
    exact fit.of h
def knE (ths : List Th) : List (Str × D) := ths.foldl (fun l t => aPut l t.nm (.str t.kd)) []
def overOk (pre : List Th) (o : Str) : Bool := match aGet (knE pre) o with | some (.str z) => hasS ["source", "field"] z | _ => false
def badF : List Th → List Th → Option Str
  | _, [] => none
  | pre, t :: ts => if t.kd == "field" && !overOk pre (t.ps.headD "") then some (t.ps.headD "") else badF (pre ++ [t]) ts
def spNeedTh (CT CT2 CTN CTM : Addr) : SpX := fun ds r P XR => ∃ (d : D) (ths : List Th), ds = [d] ∧ seqD d = some (ths.map (thD CT)) ∧ ths.length ≤ 100 ∧ (∀ t ∈ ths, t.kd = ("field" : Str) → t.ps ≠ []) ∧ (∀ x, twice [] (ths.map fun t : Th => D.str t.nm) = some x → XR CT2 ["name"] [x] r) ∧
  (twice [] (ths.map fun t : Th => D.str t.nm) = none → (∀ o, badF [] ths = some o → XR CTN ["name"] [.str o] r) ∧ (badF [] ths = none → (8 < ths.length → XR CTM ["limit"] [.int 8] r) ∧ (ths.length ≤ 8 → P .non r)))
theorem knE_snoc (ths : List Th) (t : Th) : knE (ths ++ [t]) = aPut (knE ths) t.nm (.str t.kd) := by
  unfold knE
  rw [List.foldl_append]
  rfl
theorem knE_len (ths : List Th) : ∀ i, (knE (ths.take i)).length ≤ i
  | 0 => Nat.le_refl _
  | i + 1 => by
    have ih := knE_len ths i
    rw [List.take_add_one]
    cases q : ths[i]? with
    | none =>
      show (knE (ths.take i ++ [])).length ≤ _
      rw [List.append_nil]; omega
    | some t =>
      show (knE (ths.take i ++ [t])).length ≤ _
      rw [knE_snoc]
      have := aPut_le (knE (ths.take i)) t.nm (.str t.kd)
      omega
theorem knE_str (ths : List Th) (z : Str) : ∀ d, aGet (knE ths) z = some d → ∃ k, d = .str k := by
  have go : ∀ (l : List (Str × D)) (ths : List Th), (∀ z d, aGet l z = some d → ∃ k, d = .str k) → ∀ z d, aGet (ths.foldl (fun l t => aPut l t.nm (.str t.kd)) l) z = some d → ∃ k, d = .str k := fun l ths => by
    induction ths generalizing l with
    | nil => exact fun h => h
    | cons t ths ih =>
      intro h
      refine ih (aPut l t.nm (.str t.kd)) fun z d hd => ?_
      rw [aGet_put] at hd
      split at hd
      · cases hd; exact ⟨_, rfl⟩
      · exact h z d hd
  exact go [] ths (fun z d h => by cases h) z
abbrev N_need_things : List Str := ["things", "thing", "known"]
theorem sc_need_things : FnScope N_need_things ["things"] (defScope s_need_things) := ⟨rfl, rfl, rfl, by decide +kernel, rfl, by decide +kernel, by decide +kernel⟩
theorem c_need_things {CT CT2 CTN CTM : Addr} (B : Bl mg) (gM : GI mg "MOST_THINGS" 8) (X_NoThing : ErrX P w K mg base "NoThing" CTN "name") (X_TooMany : ErrX P w K mg base "TooMany" CTM "limit") (K_Thing : KCls K mg "Thing" CT thF) (C_need_unlike : Cl P w K mg base 3 "need_unlike" ["names"] (spUnlike CT2))
    (Dx : Dfn K mg "need_things" s_need_things ["things"]) : Cl P w K mg base 4 "need_things" ["things"] (spNeedTh CT CT2 CTN CTM) := by
  have sc := sc_need_things
  refine cl_of Dx sc (fun ds r P' XR ⟨_, _, e, _⟩ => by rw [e]; rfl) (fun f cdv A outer s H E hr tk po => ?_)
  have hu := hr.units
  have hi := u65 hr
  refine ⟨_, (ss_cons (s_expr (d_fn C_need_unlike tk hr (dl_cons (d_lc (js := [1]) (own := [("thing", 1)]) sc.nd (i_any (dv 0)) (blkOk_by (own := [("thing", 1)]) (N := N_need_things) (sc := defScope s_need_things) (by decide +kernel)) (fun _ _ _ _ _ => (g_name (i := 1) sc.nd)) (fun _ _ _ _ _ => pts_no) (fun _ _ _ _ _ => (d_fld (dv 1)))) dl_nil)))
  (ss_cons (s_set (i := 2) sc.nd d_dnew)
  (ss_cons (s_for (i_any (dv 0)) (g_name (i := 1) sc.nd)
  (ss_cons (s_if (b_w (w_and (b_cmp (p_eq hu) (d_fld (dv 1)) d_str) (w_and1 (b_cmp (p_notIn hi) (d_dgt2 hi (dv 2) (d_ix (d_fld (dv 1)) d_int) d_str ⟨rfl, rfl, rfl, rfl⟩) (d_tup (dl_cons d_str (dl_cons d_str dl_nil)))))))
  (ss_one (s_raise X_NoThing.c tk hr (dl_cons (d_ix (d_fld (dv 1)) d_int) dl_nil)))
  ss_nil)
  (ss_one (s_dput hi (dv 2) (d_fld (dv 1)) (d_fld (dv 1))))) po)
  (ss_one (s_if (b_cmp p_gt (d_blt c_len (by rfl) B.len (dl_cons (dv 0) dl_nil)) (d_gI gM))
  (ss_one (s_raise X_TooMany.c tk hr (dl_cons (d_gI gM) dl_nil)))
  ss_nil))))), fun ds r P' XR h => ?_⟩
  obtain ⟨d, ths, rfl, hsq, hz, hf, h1, h2⟩ := h
  refine ⟨_, hsq, lc_map (fun d => match d with | .ins _ _ [_, n, _] => n | _ => .non) (by rw [List.length_map]; unfold small; omega) ?_ ?_⟩
  · intro e he r' P2 p
    obtain ⟨t, _, rfl⟩ := List.mem_map.mp he
    exact .fro 1 _ (by decide) rfl p
  rw [List.map_map]
  refine ⟨_, ths.map fun t => .str t.nm, rfl, rfl, by rw [List.length_map]; omega, fun x hx => ?_, fun e => ?_, fun x hx => ⟨_, le.refl, h1 x hx⟩⟩
  · obtain ⟨t, _, rfl⟩ := List.mem_map.mp hx
    exact Nat.zero_le _
  obtain ⟨h3, h4⟩ := h2 e
  intro p
  refine ⟨_, hsq, ?_⟩
  refine ⟨fun i δ r' => (∃ x, δ = [some d, x, some (.adr p)]) ∧ i ≤ ths.length ∧ r' = r ++ [dctA p (nk (knE (ths.take i)))] ∧ badF (ths.take i) (ths.drop i) = badF [] ths, ⟨⟨_, rfl⟩, Nat.zero_le _, rfl, rfl⟩, ?_, ?_⟩
  · rintro i e δ r' he ⟨⟨x, rfl⟩, hil, rfl, hb⟩
    rw [List.getElem?_map] at he
    obtain ⟨t, ht, rfl⟩ := Option.map_eq_some_iff.mp he
    have hlt := (List.getElem?_eq_some_iff.mp ht).1
    have dr : ths.drop i = t :: ths.drop (i + 1) := by
      rw [← (List.getElem?_eq_some_iff.mp ht).2]
      exact (List.getElem_cons_drop hlt).symm
    have tk1 : ths.take (i + 1) = ths.take i ++ [t] := by rw [List.take_add_one, ht]; rfl
    rw [dr, show badF (ths.take i) (t :: ths.drop (i + 1)) = if t.kd == "field" && !overOk (ths.take i) (t.ps.headD "") then some (t.ps.headD "") else badF (ths.take i ++ [t]) (ths.drop (i + 1)) from rfl] at hb
    have go : badF (ths.take i ++ [t]) (ths.drop (i + 1)) = badF [] ths → oFld "kind" (thD CT t) (r ++ [dctA p (nk (knE (ths.take i)))]) fun z r1 => oFld "name" (thD CT t) r1 fun y r3 => oDPut r3 y z (.adr p) fun r4 => (∃ x, [some d, some (thD CT t), some (.adr p)] = [some d, x, some (.adr p)]) ∧ i + 1 ≤ ths.length ∧ r4 = r ++ [dctA p (nk (knE (ths.take (i + 1))))] ∧ badF (ths.take (i + 1)) (ths.drop (i + 1)) = badF [] ths := fun hb => by
      refine .fro 0 _ (by decide) rfl (.fro 1 _ (by decide) rfl (.mk r [] _ (.inr t.nm) rfl rfl ?_ ⟨⟨_, rfl⟩, hlt, ?_, by rw [tk1]; exact hb⟩))
      · rw [nk_len]
        have := knE_len ths i
        unfold small
        omega
      · rw [nk_put, tk1, knE_snoc]
    refine .fro 0 _ (by decide) rfl ⟨Nat.zero_le _, Nat.zero_le _, ?_⟩
    cases q : t.kd == "field" with
    | false =>
      rw [q, Bool.false_and, if_neg (by decide)] at hb
      exact brf q (brF (go hb))
    | true =>
      refine brt q ?_
      obtain ⟨o, os, ho⟩ := List.exists_cons_of_ne_nil (hf t (List.mem_of_getElem? ht) (eq_of_beq q))
      rw [q, Bool.true_and, ho] at hb
      have hb : (if (!overOk (ths.take i) o) = true then some o else badF (ths.take i ++ [t]) (ths.drop (i + 1))) = badF [] ths := hb
      have hpd : (thD CT t) = .ins CT thF [.str t.kd, .str t.nm, .tup (.str o :: os.map .str)] := by unfold thD; rw [ho]; rfl
      refine ⟨.inl ⟨p, _, rfl, .inl ⟨r, [], rfl⟩⟩, ?_⟩
      rw [hpd]
      refine .fro 2 _ (by decide) rfl (ix_t at0 (.own ⟨r, [], rfl⟩ rfl ?_))
      rw [nk_get]
      have hO : overOk (ths.take i) o = hasS ["source", "field"] (match aGet (knE (ths.take i)) o with | some (.str z) => z | _ => "") := by
        unfold overOk
        cases aGet (knE (ths.take i)) o with
        | none => rfl
        | some d => cases d <;> rfl
      have hg : (aGet (knE (ths.take i)) o).getD (.str "") = .str (match aGet (knE (ths.take i)) o with | some (.str z) => z | _ => "") := by
        cases q2 : aGet (knE (ths.take i)) o with
        | none => rfl
        | some d =>
          obtain ⟨k, rfl⟩ := knE_str _ _ _ q2
          rfl
      rw [hg]
      refine ⟨Nat.le_of_ble_eq_true rfl, oNi_t (xs := ["source", "field"]) (k := fun d => (match d with | .bl b => _ | _ => False)) ?_⟩
      rw [← hpd]
      cases q3 : overOk (ths.take i) o with
      | true =>
        rw [q3, if_neg (by decide)] at hb
        rw [hO] at q3
        exact brf (by show (!hasS ["source", "field"] _) = false; rw [q3]; rfl) (go hb)
      | false =>
        rw [q3, if_pos (c := (!false) = true) rfl] at hb
        rw [hO] at q3
        refine brt (by show (!hasS ["source", "field"] _) = true; rw [q3]; rfl) ?_
        rw [hpd]
        refine .fro 2 _ (by decide) rfl (ix_t at0 ⟨.str o, rfl, _, le.drop, h3 o hb.symm⟩)
  · rintro δ r' ⟨⟨x0, rfl⟩, hil, rfl, hb⟩
    rw [List.length_map, List.drop_length] at hb
    obtain ⟨h5, h6⟩ := h4 hb.symm
    have fin : ∀ n : Nat, n = ths.length → (decide ((8 : Int) < ((n : Nat) : Int)) = true → ∃ x, [D.int 8] = [x] ∧ fitX XR CTM ["limit"] [x] [some d, x0, some (.adr p)] (r ++ [dctA p (nk (knE (ths.take (ths.map (thD CT)).length)))])) ∧ (decide ((8 : Int) < ((n : Nat) : Int)) = false → fit P' .non (r ++ [dctA p (nk (knE (ths.take (ths.map (thD CT)).length)))])) := fun n e => by
      subst e
      refine ⟨fun z => ⟨.int 8, rfl, _, le.drop, h5 ?_⟩, fun z => ⟨_, le.drop, h6 ?_⟩⟩
      · have : (8 : Int) < ((ths.length : Nat) : Int) := of_decide_eq_true z
        omega
      · have : ¬ (8 : Int) < ((ths.length : Nat) : Int) := of_decide_eq_false z
        omega
    cases d with
    | lst xs => cases hsq; exact fun _ => fin _ (List.length_map _)
    | tup xs => cases hsq; exact fun _ => fin _ (List.length_map _)
    | _ => cases hsq
abbrev wdF : List Str := ["things", "stock", "record"]
/-- a world that is not watched -/
def wld (CT CS CW : Addr) (w : Addr) (A : SA) (S : Stk) (post : Rs) : Rs := insA w CW wdF [.tup (S.th.map (thD CT)), .adr A.s, .non] :: stk CT CS A S post
section
variable {CT CS CW w : Addr} {A : SA} {S : Stk} {pre post t : Rs}
theorem wld_stk : pre ++ wld CT CS CW w A S post = (pre ++ [insA w CW wdF [.tup (S.th.map (thD CT)), .adr A.s, .non]]) ++ stk CT CS A S post := by unfold wld; simp
theorem wd_isC : isC CW (.adr w) (pre ++ wld CT CS CW w A S post) := .own pre _ rfl
theorem wd_things {P : PK1} (p : P (.tup (S.th.map (thD CT))) (pre ++ wld CT CS CW w A S post)) : oFld "things" (.adr w) (pre ++ wld CT CS CW w A S post) P := .own pre _ 0 _ rfl (by decide) rfl p
theorem wd_stock {P : PK1} (p : P (.adr A.s) (pre ++ wld CT CS CW w A S post)) : oFld "stock" (.adr w) (pre ++ wld CT CS CW w A S post) P := .own pre _ 1 _ rfl (by decide) rfl p
theorem wd_record {P : PK1} (p : P .non (pre ++ wld CT CS CW w A S post)) : oFld "record" (.adr w) (pre ++ wld CT CS CW w A S post) P := .own pre _ 2 _ rfl (by decide) rfl p
end
/-- a new world of things -/
def spWorld (CT CS CW CT2 CTN CTM : Addr) : SpX := fun ds r P XR => ∃ (w : Addr) (pre : Rs) (ths : List Th), ds = [.adr w, .tup (ths.map (thD CT))] ∧ r = pre ++ [insA w CW [] []] ∧ ths.length ≤ 100 ∧ (∀ t ∈ ths, t.kd = ("field" : Str) → t.ps ≠ []) ∧ (∀ x, twice [] (ths.map fun t : Th => D.str t.nm) = some x → XR CT2 ["name"] [x] r) ∧
  (twice [] (ths.map fun t : Th => D.str t.nm) = none → (∀ o, badF [] ths = some o → XR CTN ["name"] [.str o] r) ∧ (badF [] ths = none → (8 < ths.length → XR CTM ["limit"] [.int 8] r) ∧ (ths.length ≤ 8 → ∀ A, P .non (pre ++ wld CT CS CW w A (stk0 ths) []))))
theorem memD_strs (z : Str) (xs : List Str) : memD (.str z) (xs.map .str) = xs.any fun y => y == z := by
  unfold memD
  rw [List.any_map]
  rfl
theorem uniq_of : ∀ {ths : List Th} {s : List Str}, twice (s.map .str) (ths.map fun t : Th => D.str t.nm) = none → uniq ths ∧ ∀ t ∈ ths, t.nm ∉ s
  | [], s, _ => ⟨List.nodup_nil, fun t h => by cases h⟩
  | t :: ths, s, h => by
    have h : (if memD (.str t.nm) (s.map .str) = true then some (D.str t.nm) else twice (s.map .str ++ [.str t.nm]) (ths.map fun t : Th => D.str t.nm)) = none := h
    by_cases q : memD (.str t.nm) (s.map .str) = true
    · rw [if_pos q] at h; cases h
    · rw [if_neg q] at h
      have e : s.map D.str ++ [.str t.nm] = (s ++ [t.nm]).map .str := by rw [List.map_append]; rfl
      rw [e] at h
      obtain ⟨h1, h2⟩ := uniq_of h
      rw [memD_strs] at q
      have nq : t.nm ∉ s := fun m => q (List.any_eq_true.mpr ⟨_, m, beq_self_eq_true _⟩)
      refine ⟨List.nodup_cons.mpr ⟨fun m => ?_, h1⟩, fun t' ht' => ?_⟩
      · obtain ⟨t', ht', e'⟩ := List.mem_map.mp m
        exact h2 t' ht' (by rw [e']; exact List.mem_append.mpr (.inr List.mem_cons_self))
      · rcases List.mem_cons.mp ht' with rfl | ht'
        · exact nq
        · exact fun m => h2 t' ht' (List.mem_append.mpr (.inl m))
theorem stk0_th (ths : List Th) : (stk0 ths).th = ths := by
  have e : stkT ths ths.length = stk0 ths := by unfold stkT stk0; rw [List.take_length]
  rw [← e]
  exact (stkT_len ths _).1
abbrev N_World___init__ : List Str := ["self", "things"]
theorem sc_World___init__ : FnScope N_World___init__ ["self", "things"] (defScope s_World___init__) := ⟨rfl, rfl, rfl, by decide +kernel, rfl, by decide +kernel, by decide +kernel⟩
theorem c_World_init {CT CS CW CT2 CTN CTM : Addr} (K_Thing : KCls K mg "Thing" CT thF) (K_Stock : KCls K mg "Stock" CS stF) (K_World : KCls K mg "World" CW wdF) (C_need_things : Cl P w K mg base 4 "need_things" ["things"] (spNeedTh CT CT2 CTN CTM)) (N_Stock : ClN P w K mg base 1 CS [] (spStock CT CS))
    (Dx : DfNS K CW "World.__init__" s_World___init__ ["self"] "things") : ClN P w K mg base 5 CW [] (starP 1 (spWorld CT CS CW CT2 CTN CTM)) := by
  have sc := sc_World___init__
  refine clns_of (ps := ["self"]) Dx sc (fun f cdv A outer s H E hr tk po => ?_)
  refine ⟨_, (ss_cons (s_expr (d_fn C_need_things tk hr (dl_cons (dv 1) dl_nil)))
  (ss_cons (s_put (K_World.no "things" (by decide)) (dv 0) (dv 1))
  (ss_cons (s_put (K_World.no "stock" (by decide)) (dv 0) (d_mk 0 N_Stock K_Stock tk hr (dl_cons (dv 1) dl_nil)))
  (ss_one (s_put (K_World.no "record" (by decide)) (dv 0) d_non))))), fun ds r P' XR h => ?_⟩
  obtain ⟨w, pre, ths, rfl, rfl, hz, hf, h1, h2⟩ := h
  refine ⟨.tup (ths.map (thD CT)), ths, rfl, rfl, hz, hf, fun x hx => ⟨_, le.refl, h1 x hx⟩, fun e => ⟨fun o ho => ⟨_, le.refl, (h2 e).1 o ho⟩, fun eb => ⟨fun z => ⟨_, le.refl, ((h2 e).2 eb).1 z⟩, fun z => ?_⟩⟩⟩
  have hun := (uniq_of (s := []) e).1
  refine .new pre [] rfl (by decide) (by decide) fun s => ?_
  refine ⟨s, _, ths, rfl, hz, hun, rfl, fun A hA => ⟨rfl, ?_⟩⟩
  have e0 : (pre ++ insA w CW (([] : List Str) ++ [("things" : Str)]) ([] ++ [D.tup (ths.map (thD CT))]) :: []) ++ stk CT CS A (stk0 ths) [] = pre ++ insA w CW [("things" : Str)] [.tup (ths.map (thD CT))] :: stk CT CS A (stk0 ths) [] := by simp
  rw [e0]
  refine .new pre _ rfl (by decide) (by decide) (.new pre _ rfl (by decide) (by decide) ?_)
  have h := fit.of (((h2 e).2 eb).2 z A)
  rw [← hA]
  unfold wld at h
  rw [stk0_th] at h
  exact h
/-- the deed can be done: what it gives back, the stock behind it -/
structure spGet (CT CS CW CTN : Addr) (ds : List D) (r : Rs) (P : PK1) (XR : XD) : Prop where
  ex : ∃ (w : Addr) (A : SA) (S : Stk) (pre post : Rs) (d : D), ds = [.adr w, d] ∧ r = pre ++ wld CT CS CW w A S post ∧ S.th.length ≤ 100 ∧ dep d ≤ 60 ∧ (memD d (S.th.map fun t => .str t.nm) = false → XR CTN ["name"] [d] r) ∧ (memD d (S.th.map fun t => .str t.nm) = true → ∃ z e, d = .str z ∧ S.con z = some e ∧ P e r)
def spIn (CT CS CW : Addr) : SpX := fun ds r P _ => ∃ (w : Addr) (A : SA) (S : Stk) (pre post : Rs) (d : D), ds = [.adr w, d] ∧ r = pre ++ wld CT CS CW w A S post ∧ S.th.length ≤ 100 ∧ dep d ≤ 60 ∧ P (.bl (memD d (S.th.map fun t => .str t.nm))) r
theorem in_lst {x : D} {ds : List D} {k : D → Prop} (h1 : dep x ≤ 60) (h2 : deps ds ≤ 60) (h : k (.bl (memD x ds))) : oIn false x (.lst ds) k := ⟨⟨by omega, by omega, h⟩⟩
abbrev N_World___contains__ : List Str := ["self", "name", "thing"]
theorem sc_World___contains__ : FnScope N_World___contains__ ["self", "name"] (defScope s_World___contains__) := ⟨rfl, rfl, rfl, by decide +kernel, rfl, by decide +kernel, by decide +kernel⟩
theorem c_World_contains {CT CS CW : Addr} (K_Thing : KCls K mg "Thing" CT thF) (K_World : KCls K mg "World" CW wdF) (Dx : DfI K CW "World.__contains__" s_World___contains__ ["self", "name"]) : ClI P w K mg base 1 CW (spIn CT CS CW) := by
  have sc := sc_World___contains__
  refine cli_of Dx sc (fun ds r P' XR ⟨_, _, _, _, _, _, e, _⟩ => by rw [e]; rfl) (fun f cdv A outer s H E hr tk po => ?_)
  have hi := u65 hr
  refine ⟨_, (ss_one (s_ret (d_cmp (p_in hi) (dv 1) (d_lc (js := [2]) (own := [("thing", 2)]) sc.nd (i_tup (d_fld (dv 0))) (blkOk_by (own := [("thing", 2)]) (N := N_World___contains__) (sc := defScope s_World___contains__) (by decide +kernel)) (fun _ _ _ _ _ => (g_name (i := 2) sc.nd)) (fun _ _ _ _ _ => pts_no) (fun _ _ _ _ _ => (d_fld (dv 2))))))), fun ds r P' XR h => ?_⟩
  obtain ⟨w, A, S, pre, post, d, rfl, rfl, hz, hd, h⟩ := h
  refine wd_things (lc_map (fun d => match d with | .ins _ _ [_, n, _] => n | _ => .non) (by rw [List.length_map]; unfold small; omega) ?_ ?_)
  · intro e he r' P2 p
    obtain ⟨t, _, rfl⟩ := List.mem_map.mp he
    exact .fro 1 _ (by decide) rfl p
  · rw [List.map_map]
    refine in_lst hd ?_ (fit.of h)
    refine deps_le fun x hx => ?_
    obtain ⟨t, _, rfl⟩ := List.mem_map.mp hx
    exact Nat.zero_le _
abbrev N_World___getitem__ : List Str := ["self", "name"]
theorem sc_World___getitem__ : FnScope N_World___getitem__ ["self", "name"] (defScope s_World___getitem__) := ⟨rfl, rfl, rfl, by decide +kernel, rfl, by decide +kernel, by decide +kernel⟩
theorem c_World_getitem {CT CS CW CTN : Addr} (X_NoThing : ErrX P w K mg base "NoThing" CTN "name") (K_Thing : KCls K mg "Thing" CT thF) (K_Stock : KCls K mg "Stock" CS stF) (K_World : KCls K mg "World" CW wdF) (N_in_World : ClI P w K mg base 1 CW (spIn CT CS CW)) (M_Stock_content_of : ClM P w K mg base 1 CS "content_of" (spConOf CT CS))
    (Dx : DfG K CW "__getitem__" "World.__getitem__" s_World___getitem__ ["self", "name"]) : ClG P w K mg base 3 CW "__getitem__" (spGet CT CS CW CTN) := by
  have sc := sc_World___getitem__
  refine clg_of Dx sc (fun ds r P' XR ⟨_, _, _, _, _, _, e, _⟩ => by rw [e]; rfl) (fun f cdv A outer s H E hr tk po => ?_)
  refine ⟨_, (ss_cons (s_if (b_nini N_in_World hr (dv 1) (dv 0))
  (ss_one (s_raise X_NoThing.c tk hr (dl_cons (dv 1) dl_nil)))
  ss_nil)
  (ss_one (s_ret (d_mt M_Stock_content_of tk hr (d_fld (dv 0)) (dl_cons (dv 1) dl_nil))))), fun ds r P' XR h => ?_⟩
  obtain ⟨w, A, S, pre, post, d, rfl, rfl, hz, hd, h1, h2⟩ := h
  refine ⟨wd_isC, w, A, S, pre, post, d, rfl, rfl, hz, hd, _, rfl, ?_⟩
  cases q : memD d (S.th.map fun t => .str t.nm) with
  | false => exact brT ⟨d, rfl, _, le.refl, h1 q⟩
  | true =>
    obtain ⟨z, e, rfl, hc, hP⟩ := h2 q
    refine brF (wd_stock ?_)
    rw [wld_stk] at hP ⊢
    exact ⟨sk_isC, A, S, _, _, z, e, rfl, rfl, hc, fit.of hP⟩
def spNames : SpX := fun ds r P _ => ∃ (p a : Addr) (N : Nat) (X : Rs) (m : Nat), ds = [.adr p, .int (m : Nat)] ∧ r = poolA p a N :: X ∧ N < 1000000 ∧ m ≤ 26 ∧ ∀ zs : List Str, zs.length = m → zs.Nodup → (∀ z ∈ zs, isNm z = true) → P (.lst (zs.map .str)) (poolA p a (N + 2 + 8 * m) :: X)
theorem nm_app1 {c : Nat} {cs : List Nat} (hc : isLet c = true) (hl : cs.length ≤ 7) (h : ∀ x ∈ cs, isLet x = true) : isNm (⟨#[c]⟩ ++ tJoin "" (cs.map sg)) = true ∧ isNm (tJoin "" (cs.map sg) ++ ⟨#[c]⟩) = true ∧ tl ((⟨#[c]⟩ : Str) ++ tJoin "" (cs.map sg)) = c :: cs ∧ tl (tJoin "" (cs.map sg) ++ (⟨#[c]⟩ : Str)) = cs ++ [c] := by
  have t1 : tl ((⟨#[c]⟩ : Str) ++ tJoin "" (cs.map sg)) = c :: cs := by
    show ((#[c] : Array Nat) ++ (tJoin "" (cs.map sg)).cps).toList = _
    rw [Array.toList_append]
    show [c] ++ tl (tJoin ⟨#[]⟩ (cs.map sg)) = _
    rw [tl_signs]
    rfl
  have t2 : tl (tJoin "" (cs.map sg) ++ (⟨#[c]⟩ : Str)) = cs ++ [c] := by
    show ((tJoin "" (cs.map sg)).cps ++ (#[c] : Array Nat)).toList = _
    rw [Array.toList_append]
    show tl (tJoin ⟨#[]⟩ (cs.map sg)) ++ [c] = _
    rw [tl_signs]
  refine ⟨?_, ?_, t1, t2⟩
  · unfold isNm
    rw [len_tl, t1, List.length_cons]
    simp only [Bool.and_eq_true, decide_eq_true_eq, List.all_eq_true]
    exact ⟨⟨by omega, by omega⟩, fun x hx => (List.mem_cons.mp hx).elim (fun e => e ▸ hc) (h x)⟩
  · unfold isNm
    rw [len_tl, t2, List.length_append, List.length_singleton]
    simp only [Bool.and_eq_true, decide_eq_true_eq, List.all_eq_true]
    exact ⟨⟨by omega, by omega⟩, fun x hx => (List.mem_append.mp hx).elim (h x) fun q => (List.mem_singleton.mp q) ▸ hc⟩
theorem abc_let {i c : Nat} (h : (tl abc)[i]? = some c) : c = 97 + i ∧ isLet c = true := by
  have q : ((List.range 26).all fun n => decide ((tl abc)[n]? = some (97 + n))) = true := by decide +kernel
  have l : (tl abc).length = 26 := by decide +kernel
  have hi := (List.getElem?_eq_some_iff.mp h).1
  rw [l] at hi
  have e := of_decide_eq_true (List.all_eq_true.mp q i (List.mem_range.mpr hi))
  rw [h] at e
  have e := Option.some.inj e
  subst e
  refine ⟨rfl, ?_⟩
  unfold isLet
  rw [decide_eq_true (by omega), decide_eq_true (by omega)]
  rfl
abbrev N__law_names : List Str := ["_law_pool_here", "_law_many", "_law_letters", "_law_size", "_law_front", "_law_names_here", "_law_k", "_law_word_here", "_law_j"]
theorem sc__law_names : FnScope N__law_names ["_law_pool_here", "_law_many"] (defScope s__law_names) := ⟨rfl, rfl, rfl, by decide +kernel, rfl, by decide +kernel, by decide +kernel⟩
theorem c__law_names (B : Bl mg) (C__law_draw : Cl P w K mg base 1 "_law_draw" ["_law_pool_here", "_law_many"] spDraw) (Dx : Dfn K mg "_law_names" s__law_names ["_law_pool_here", "_law_many"]) : Cl P w K mg base 2 "_law_names" ["_law_pool_here", "_law_many"] spNames := by
  have sc := sc__law_names
  refine cl_of Dx sc (fun ds r P' XR ⟨_, _, _, _, _, e, _⟩ => by rw [e]; rfl) (fun f cdv A outer s H E hr tk po => ⟨_, (ss_cons (s_set (i := 2) sc.nd d_str)
  (ss_cons (s_set (i := 3) sc.nd (d_fn C__law_draw tk hr (dl_cons (dv 0) (dl_cons d_int dl_nil))))
  (ss_cons (s_set (i := 4) sc.nd (d_fn C__law_draw tk hr (dl_cons (dv 0) (dl_cons d_int dl_nil))))
  (ss_cons (s_set (i := 5) sc.nd (d_lstO dl_nil))
  (ss_cons (s_for (i_r1 (by rfl) B.range (dl_cons (dv 1) dl_nil)) (g_name (i := 6) sc.nd)
  (ss_cons (s_set (i := 7) sc.nd (d_join d_str (d_lc (js := [8]) (own := [("_law_j", 8)]) sc.nd (i_r1 (by rfl) B.range (dl_cons (dv 3) dl_nil)) (blkOk_by (own := [("_law_j", 8)]) (N := N__law_names) (sc := defScope s__law_names) (by decide +kernel)) (fun _ _ _ _ _ => (g_name (i := 8) sc.nd)) (fun _ _ _ _ _ => pts_no) (fun _ _ _ _ _ => (d_ix (dv 2) (d_fnN C__law_draw hr (dl_cons (dv 0) (dl_cons d_int dl_nil))))))))
  (ss_one (s_expr (d_app (dv 5) (dl_cons (d_if (b_tru (dv 4)) (d_bin p_add (d_ix (dv 2) (dv 6)) (dv 7)) (d_bin p_add (dv 7) (d_ix (dv 2) (dv 6)))) dl_nil))))) po)
  (ss_one (s_melt 5 (s_ret (dv 5))))))))), fun ds r P' XR h => ?_⟩)
  obtain ⟨p, a, N, X, m, rfl, rfl, hN, hm, hP⟩ := h
  refine ⟨p, a, 8, N, X, rfl, rfl, ⟨by decide, by decide⟩, by omega, fun sz s0 s8 => ⟨p, a, 2, N + 1, X, rfl, rfl, ⟨by decide, by decide⟩, by omega, fun fr f0 f2 => ⟨Nat.zero_le _, fun q => ⟨⟨by omega, by omega⟩, ?_⟩⟩⟩⟩
  obtain ⟨sz, rfl⟩ : ∃ n : Nat, sz = n := ⟨sz.toNat, by omega⟩
  refine ⟨fun i δ r' => (∃ e6 e7 e8, δ = [some (.adr p), some (.int (m : Nat)), some (.str abc), some (.int sz), some (.int fr), some (.adr q), e6, e7, e8]) ∧ ∃ (zs : List Str) (n : Nat), r' = poolA p a n :: (X ++ [lstA q (zs.map .str)]) ∧ n ≤ N + 2 + 8 * i ∧ zs.length = i ∧ zs.Nodup ∧ (∀ z ∈ zs, isNm z = true) ∧ ∀ j z, zs[j]? = some z → (fr ≠ 0 → (tl z).head? = some (97 + j)) ∧ (fr = 0 → (tl z).getLast? = some (97 + j)), ⟨⟨_, _, _, rfl⟩, [], _, rfl, Nat.le_refl _, rfl, List.nodup_nil, fun _ h => (by cases h), fun j z h => (by cases h)⟩, ?_, ?_⟩
  · rintro i d δ r' hd ⟨⟨e6, e7, e8, rfl⟩, zs, n, rfl, hn, hzl, hnd, hnm, hch⟩
    have hi : i < m := by
      have := (List.getElem?_eq_some_iff.mp hd).1
      rw [List.length_map, List.length_range] at this
      omega
    rw [List.getElem?_map, List.getElem?_range (by omega)] at hd
    cases hd
    refine ⟨⟨by omega, by omega⟩, ⟨fun j acc r' => ∃ cs : List Nat, acc = cs.map (fun c => D.str (sg c)) ∧ cs.length = j ∧ (∀ c ∈ cs, isLet c = true) ∧ r' = poolA p a (n + j) :: (X ++ [lstA q (zs.map .str)]), ⟨[], rfl, rfl, fun _ h => (by cases h), rfl⟩, ?_, ?_⟩⟩
    · rintro pp j d acc r' hd ⟨cs, rfl, hc, hl, rfl⟩
      have hj : j < sz := by
        have := (List.getElem?_eq_some_iff.mp hd).1
        rw [List.length_map, List.length_range] at this
        omega
      refine brT ⟨p, a, 26, _, _, rfl, rfl, ⟨by decide, by decide⟩, by omega, fun k k0 k1 => ?_⟩
      obtain ⟨c, hat, hc2⟩ := abc_at k0 k1
      refine ix_s hat ⟨?_, poolA p a (n + j + 1) :: (X ++ [lstA q (zs.map .str)]), le.refl, cs ++ [c], by rw [List.map_append]; rfl, by rw [List.length_append, hc]; rfl, fun x hx => (List.mem_append.mp hx).elim (hl x) fun h => (List.mem_singleton.mp h) ▸ hc2, rfl⟩
      rw [List.length_map, hc]
      unfold small
      omega
    · rintro acc r' ⟨cs, rfl, hc, hl, rfl⟩
      rw [List.length_map, List.length_range] at hc
      have hc : cs.length = sz := by omega
      have hc7 : cs.length ≤ 7 := by omega
      have lr : (List.map (fun i : Nat => D.int (i : Int)) (List.range ((sz : Int)).toNat)).length = sz := by rw [List.length_map, List.length_range]; omega
      refine join_l (strL_sg cs) (by rw [sum_ones, List.length_map]; show cs.length + cs.length * 0 ≤ 1000000; omega) ?_
      have l26 : (tl abc).length = 26 := by decide +kernel
      have hlt : i < (tl abc).length := by omega
      obtain ⟨c, hcat⟩ : ∃ c, (tl abc)[i]? = some c := ⟨_, List.getElem?_eq_getElem hlt⟩
      obtain ⟨ec, hlc⟩ := abc_let hcat
      obtain ⟨n1, n2, t1, t2⟩ := nm_app1 hlc hc7 hl
      have fin : ∀ z : Str, isNm z = true → (fr ≠ 0 → (tl z).head? = some (97 + i)) → (fr = 0 → (tl z).getLast? = some (97 + i)) → (zs ++ [z]).length = i + 1 ∧ (zs ++ [z]).Nodup ∧ (∀ z' ∈ zs ++ [z], isNm z' = true) ∧ ∀ j z', (zs ++ [z])[j]? = some z' → (fr ≠ 0 → (tl z').head? = some (97 + j)) ∧ (fr = 0 → (tl z').getLast? = some (97 + j)) := fun z hz h1 h2 => by
        have hch2 : ∀ j z', (zs ++ [z])[j]? = some z' → (fr ≠ 0 → (tl z').head? = some (97 + j)) ∧ (fr = 0 → (tl z').getLast? = some (97 + j)) := fun j z' hj => by
          rw [List.getElem?_append] at hj
          split at hj
          · exact hch j z' hj
          · rename_i hn
            have hj0 : j - zs.length = 0 := by
              have := (List.getElem?_eq_some_iff.mp hj).1
              rw [List.length_singleton] at this
              omega
            rw [hj0] at hj
            cases hj
            have : j = i := by omega
            subst this
            exact ⟨h1, h2⟩
        refine ⟨by rw [List.length_append, List.length_singleton, hzl], ?_, fun z' hz' => (List.mem_append.mp hz').elim (hnm z') fun h => (List.mem_singleton.mp h) ▸ hz, hch2⟩
        refine List.nodup_append.mpr ⟨hnd, by simp, fun x hx y hy e => ?_⟩
        rw [List.mem_singleton] at hy
        subst hy
        subst e
        obtain ⟨j, hj⟩ := List.mem_iff_getElem?.mp hx
        have hjl := (List.getElem?_eq_some_iff.mp hj).1
        obtain ⟨q1, q2⟩ := hch j x hj
        by_cases hf : fr = 0
        · have := (q2 hf).symm.trans (h2 hf)
          have := Option.some.inj this
          omega
        · have := (q1 hf).symm.trans (h1 hf)
          have := Option.some.inj this
          omega
      have sz8 : (tJoin "" (cs.map sg)).length ≤ 7 := by show (tJoin ⟨#[]⟩ (cs.map sg)).length ≤ 7; rw [len_tl, tl_signs]; exact hc7
      refine ⟨q, zs.map .str, rfl, ⟨_ :: X, [], rfl⟩, fun z => ?_, fun z => ?_⟩
      · have hf : fr ≠ 0 := by simpa using z
        refine ix_s (L2.atI_nat hcat) ?_
        refine ⟨by show 1 + _ ≤ _; omega, ⟨_ :: X, zs.map .str, [], .str _, rfl, rfl, by unfold small; rw [List.length_map]; omega, ⟨_, _, _, rfl⟩, zs ++ [_], _, by rw [List.map_append]; rfl, by omega, fin _ n1 (fun _ => by rw [t1, ec]; rfl) (fun e => absurd e hf)⟩⟩
      · have hf : fr = 0 := by simpa using z
        refine ix_s (L2.atI_nat hcat) ?_
        refine ⟨by show _ + 1 ≤ _; omega, ⟨_ :: X, zs.map .str, [], .str _, rfl, rfl, by unfold small; rw [List.length_map]; omega, ⟨_, _, _, rfl⟩, zs ++ [_], _, by rw [List.map_append]; rfl, by omega, fin _ n2 (fun e => absurd hf e) (fun _ => by rw [t2, ec]; simp)⟩⟩
  · rintro δ r' ⟨⟨e6, e7, e8, rfl⟩, zs, n, rfl, hn, hzl, hnd, hnm, hch⟩
    rw [List.length_map, List.length_range] at hzl hn
    have hzl : zs.length = m := by omega
    refine ⟨q, zs.map .str, _ :: X, [], rfl, rfl, ?_⟩
    rw [List.append_nil]
    exact ⟨_, pool_mono (by omega), hP zs hzl hnd hnm⟩
abbrev N__law_object : List Str := ["_law_pool_here", "_law_depth", "_law_pick", "_law_word_here", "_law_odd", "_law_at", "_law_parts", "_law_k"]
theorem sc__law_object : FnScope N__law_object ["_law_pool_here", "_law_depth"] (defScope s__law_object) := ⟨rfl, rfl, rfl, by decide +kernel, rfl, by decide +kernel, by decide +kernel⟩
theorem c__law_object (B : Bl mg) (C__law_draw : Cl P w K mg base 1 "_law_draw" ["_law_pool_here", "_law_many"] spDraw) (C__law_word : Cl P w K mg base 2 "_law_word" ["_law_pool_here"] spWord) (Dx : Dfn K mg "_law_object" s__law_object ["_law_pool_here", "_law_depth"]) : ∀ n : Nat, Cl P w K mg base (n + 3) "_law_object" ["_law_pool_here", "_law_depth"] (spObj n) := fun n => by
  have sc := sc__law_object
  have C__law_object : Cl P w K mg base (n + 2) "_law_object" ["_law_pool_here", "_law_depth"] (fun ds r P' XR => ∃ m, n = m + 1 ∧ spObj m ds r P' XR) := by
    cases n with
    | zero => exact cl_never Dx fun ds r P' XR ⟨m, e, _⟩ => by omega
    | succ m =>
      obtain ⟨f, fd, F, g, kp, b⟩ := c__law_object B C__law_draw C__law_word Dx m
      exact ⟨f, fd, F.imp fun vs H Q E ⟨r, ds, P', XR, h1, h2, ⟨m', e, h3⟩, h4, h5⟩ => by cases e; exact ⟨r, ds, P', XR, h1, h2, h3, h4, h5⟩, g, kp, b⟩
  refine cl_of Dx sc (fun ds r P' XR ⟨p, a, N, X, dp, e, _⟩ => by rw [e]; rfl) (fun f cdv A outer s H E hr tk po => ?_)
  have hu := hr.units
  refine ⟨_, (ss_cons (s_set (i := 2) sc.nd (d_fn C__law_draw tk hr (dl_cons (dv 0) (dl_cons (d_if (b_cmp p_lt (dv 1) d_int) d_int d_int) dl_nil))))
  (ss_cons (s_if (b_cmp p_lt (dv 2) d_int)
  (ss_one (s_ret (d_ix (d_lst (dl_cons d_non (dl_cons d_bl (dl_cons d_bl dl_nil)))) (dv 2))))
  ss_nil)
  (ss_cons (s_if (b_cmp p_lt (dv 2) d_int)
  (ss_one (s_ret (d_ix (d_lst (dl_cons (d_fn C__law_draw tk hr (dl_cons (dv 0) (dl_cons d_int dl_nil))) (dl_cons (d_bin p_sub (d_neg d_int) (d_fn C__law_draw tk hr (dl_cons (dv 0) (dl_cons d_int dl_nil)))) (dl_cons (d_fn C__law_draw tk hr (dl_cons (dv 0) (dl_cons (d_bin p_pow d_int d_int) dl_nil))) dl_nil)))) (d_bin p_sub (dv 2) d_int))))
  ss_nil)
  (ss_cons (s_if (b_cmp p_lt (dv 2) d_int)
  (ss_one (s_ret (d_ix (d_lst (dl_cons d_str (dl_cons (d_bin p_add (d_bin p_add (d_fn C__law_word tk hr (dl_cons (dv 0) dl_nil)) d_str) (d_fn C__law_word tk hr (dl_cons (dv 0) dl_nil))) (dl_cons (d_bin p_add (d_fn C__law_word tk hr (dl_cons (dv 0) dl_nil)) d_str) dl_nil)))) (d_bin p_sub (dv 2) d_int))))
  ss_nil)
  (ss_cons (s_if (b_cmp p_lt (dv 2) d_int)
  (ss_cons (s_set (i := 3) sc.nd (d_fn C__law_word tk hr (dl_cons (dv 0) dl_nil)))
  (ss_cons (s_set (i := 4) sc.nd (d_ix (d_lst (dl_cons d_str (dl_cons d_str (dl_cons d_str (dl_cons d_str (dl_cons d_str (dl_cons d_str (dl_cons d_str (dl_cons d_str dl_nil))))))))) (d_fn C__law_draw tk hr (dl_cons (dv 0) (dl_cons d_int dl_nil)))))
  (ss_cons (s_set (i := 5) sc.nd (d_fn C__law_draw tk hr (dl_cons (dv 0) (dl_cons (d_bin p_add (d_blt c_len (by rfl) B.len (dl_cons (dv 3) dl_nil)) d_int) dl_nil))))
  (ss_one (s_ret (d_bin p_add (d_bin p_add (d_sl (dv 3) o_no (o_some (dv 5))) (dv 4)) (d_sl (dv 3) (o_some (dv 5)) o_no)))))))
  ss_nil)
  (ss_cons (s_setLc (i := 6) (js := [7]) (own := [("_law_k", 7)]) sc.nd (i_r1 (by rfl) B.range (dl_cons (d_fn C__law_draw tk hr (dl_cons (dv 0) (dl_cons d_int dl_nil))) dl_nil)) (blkOk_by (own := [("_law_k", 7)]) (N := N__law_object) (sc := defScope s__law_object) (by decide +kernel)) (fun _ _ _ _ _ => (g_name (i := 7) sc.nd)) (fun _ _ _ _ _ => pts_no) (fun _ _ _ _ _ => (d_fnN C__law_object hr (dl_cons (dv 0) (dl_cons (d_bin p_add (dv 1) d_int) dl_nil)))) (sw_true rfl rfl rfl (by decide +kernel)))
  (ss_cons (s_if (b_cmp (p_eq hu) (dv 2) d_int)
  (ss_one (s_ret (dv 6)))
  ss_nil)
  (ss_cons (s_if (b_cmp (p_eq hu) (dv 2) d_int)
  (ss_one (s_ret (d_ty c_tuple (by rfl) B.tuple (dl_cons (dv 6) dl_nil))))
  ss_nil)
  (ss_one (s_ret (d_bin p_add (d_tup (dl_cons (d_ix (d_lst (dl_cons d_str (dl_cons d_str (dl_cons d_str (dl_cons d_str (dl_cons d_str dl_nil)))))) (d_fn C__law_draw tk hr (dl_cons (dv 0) (dl_cons d_int dl_nil)))) dl_nil)) (d_ty c_tuple (by rfl) B.tuple (dl_cons (dv 6) dl_nil))))))))))))), fun ds r P' XR h => ?_⟩
  obtain ⟨p, a, N, X, dp, rfl, rfl, hd0, hd2, hN, hn2, hP⟩ := h
  suffices key : ∀ k : Int, 0 ≤ k → k < 16 → (13 ≤ k → dp < 2) → _ from ⟨fun h => ⟨p, a, 16, N, X, rfl, rfl, ⟨by decide, by decide⟩, by omega, fun k h0 h1 => key k h0 h1 fun _ => of_decide_eq_true h⟩, fun h => ⟨p, a, 13, N, X, rfl, rfl, ⟨by decide, by decide⟩, by omega, fun k h0 h1 => key k h0 (by omega) fun q => by omega⟩⟩
  intro k k0 k16 k13
  have hB : 60 ≤ objB n := by cases n <;> simp only [objB] <;> omega
  have fin : ∀ (M : Nat) (d : D), M ≤ N + objB n → gd 8 (n + 1) d = true → fit P' d (poolA p a M :: X) := fun M d hM hd => ⟨_, pool_mono hM, hP d hd⟩
  by_cases h3 : k < 3
  · refine brt (decide_eq_true h3) ?_
    refine ⟨Nat.le_of_ble_eq_true rfl, ?_⟩
    obtain ⟨d, md, ed⟩ := pick_in (l := [.non, .bl true, .bl false]) k0 h3
    refine ix_l ed (fin _ _ (by omega) ?_)
    simp only [List.mem_cons, List.not_mem_nil, or_false] at md
    rcases md with rfl | rfl | rfl <;> rfl
  refine brf (decide_eq_false h3) ?_
  by_cases h6 : k < 6
  · refine brt (decide_eq_true h6) ?_
    refine ⟨p, a, 4, N + 1, X, rfl, rfl, ⟨by decide, by decide⟩, by omega, fun x x0 x1 => ?_⟩
    refine ⟨p, a, 9, N + 1 + 1, X, rfl, rfl, ⟨by decide, by decide⟩, by omega, fun y y0 y1 => ?_⟩
    refine ⟨⟨by decide, by decide, by decide⟩, ?_⟩
    refine ⟨p, a, _, N + 1 + 1 + 1, X, rfl, rfl, ⟨by decide, by decide⟩, by omega, fun z z0 z1 => ?_⟩
    refine ⟨Nat.le_of_ble_eq_true rfl, ?_⟩
    obtain ⟨d, md, ed⟩ := pick_in (l := [.int x, .int (-1 - y), .int z]) (k := k - 3) (by omega) (by show k - 3 < 3; omega)
    refine ix_l ed (fin _ _ (by omega) ?_)
    simp only [List.mem_cons, List.not_mem_nil, or_false] at md
    rcases md with rfl | rfl | rfl <;> exact gd_int
  refine brf (decide_eq_false h6) ?_
  by_cases h9 : k < 9
  · refine brt (decide_eq_true h9) ?_
    refine ⟨p, a, N + 1, X, rfl, rfl, by omega, fun u hu1 => ?_⟩
    have lu := isNm_len hu1
    refine ⟨by show u.length + 1 ≤ 1000000; omega, ?_⟩
    refine ⟨p, a, N + 1 + 9, X, rfl, rfl, by omega, fun v hv1 => ?_⟩
    have lv := isNm_len hv1
    refine ⟨by show (u ++ (" " : Str)).length + v.length ≤ 1000000; rw [len_app]; show u.length + 1 + v.length ≤ 1000000; omega, ?_⟩
    refine ⟨p, a, N + 1 + 9 + 9, X, rfl, rfl, by omega, fun t ht1 => ?_⟩
    have lt := isNm_len ht1
    refine ⟨by show t.length + 8 ≤ 1000000; omega, ?_⟩
    refine ⟨Nat.le_of_ble_eq_true rfl, ?_⟩
    obtain ⟨d, md, ed⟩ := pick_in (l := [.str "", .str (u ++ " " ++ v), .str (t ++ "abcdefgh")]) (k := k - 6) (by omega) (by show k - 6 < 3; omega)
    refine ix_l ed (fin _ _ (by omega) ?_)
    simp only [List.mem_cons, List.not_mem_nil, or_false] at md
    rcases md with rfl | rfl | rfl <;> exact gd_str
  refine brf (decide_eq_false h9) ?_
  by_cases h13 : k < 13
  · refine brt (decide_eq_true h13) ?_
    refine ⟨p, a, N + 1, X, rfl, rfl, by omega, fun u hu1 => ?_⟩
    have lu := isNm_len hu1
    refine ⟨Nat.le_of_ble_eq_true rfl, ?_⟩
    refine ⟨p, a, 8, N + 1 + 9, X, rfl, rfl, ⟨by decide, by decide⟩, by omega, fun j j0 j1 => ?_⟩
    obtain ⟨nn, z, rfl, hz, ez⟩ := pick_at (l := ["A", "_", "0", "\n", "-", "/", ",", "~"]) j0 j1
    have lz : z.length = 1 := by
      have q : ((["A", "_", "0", "\n", "-", "/", ",", "~"] : List Str).all fun z => decide (z.length = 1)) = true := by decide +kernel
      exact of_decide_eq_true (List.all_eq_true.mp q z (List.mem_of_getElem? hz))
    refine ix_l ez ?_
    refine ⟨p, a, (u.length : Int) + 1, N + 1 + 9 + 1, X, rfl, rfl, ⟨by omega, by omega⟩, by omega, fun q q0 q1 => ?_⟩
    refine sl_s ?_
    have l1 := cutS_length u none (some q)
    have l2 := cutS_length u (some q) none
    refine ⟨by show (cutS u none (some q)).length + z.length ≤ 1000000; omega, ?_⟩
    refine sl_s ?_
    refine ⟨by show (cutS u none (some q) ++ z).length + (cutS u (some q) none).length ≤ 1000000; rw [len_app]; omega, ?_⟩
    exact fin _ _ (by omega) gd_str
  refine brf (decide_eq_false h13) ?_
  have hdp := k13 (by omega)
  obtain ⟨m, rfl⟩ : ∃ m, n = m + 1 := ⟨n - 1, by omega⟩
  have eB : objB (m + 1) = 100 + 4 * objB m := rfl
  refine ⟨p, a, 4, N + 1, X, rfl, rfl, ⟨by decide, by decide⟩, by omega, fun c c0 c1 => ⟨⟨by omega, by omega⟩, ?_⟩⟩
  refine ⟨fun i acc r' => acc.length = i ∧ (∀ d ∈ acc, gd 8 (m + 1) d = true) ∧ r' = poolA p a (N + 2 + objB m * i) :: X, ⟨rfl, fun _ z => (by cases z), rfl⟩, ?_, ?_⟩
  · rintro q i d acc r' hd ⟨hc, hgl, rfl⟩
    have hi : i < 4 := by
      have := (List.getElem?_eq_some_iff.mp hd).1
      rw [List.length_map, List.length_range] at this
      omega
    have hob : objB m ≤ 1000 := by
      have : m = 0 ∨ m = 1 := by omega
      rcases this with rfl | rfl <;> decide
    have hmul : objB m * i ≤ 1000 * 4 := Nat.mul_le_mul hob (by omega)
    refine brT ?_
    refine ⟨m, rfl, p, a, N + 2 + objB m * i, X ++ [lstA q _], dp + 1, rfl, rfl, by omega, by omega, by omega, by omega, fun d hgd => ⟨by unfold small; omega, poolA p a (N + 2 + objB m * (i + 1)) :: X, pool_mono (by rw [Nat.mul_succ]; omega), by rw [List.length_append, hc]; rfl, fun y hy => (List.mem_append.mp hy).elim (hgl y) fun z => (List.mem_singleton.mp z) ▸ hgd, rfl⟩⟩
  · rintro ps r' ⟨hc, hg, rfl⟩
    rw [List.length_map, List.length_range] at hc ⊢
    have hl : ps.length ≤ 3 := by omega
    have hmul : objB m * c.toNat ≤ objB m * 3 := Nat.mul_le_mul (Nat.le_refl _) (by omega)
    refine ⟨Nat.zero_le _, Nat.zero_le _, ?_⟩
    cases e13 : k == 13 with
    | true => exact brt e13 (fin _ _ (by omega) (gd_lst.mpr ⟨by omega, hg⟩))
    | false =>
      refine brf e13 ⟨Nat.zero_le _, Nat.zero_le _, ?_⟩
      cases e14 : k == 14 with
      | true => exact brt e14 (fin _ _ (by omega) (gd_tup.mpr ⟨by omega, hg⟩))
      | false =>
        refine brf e14 ?_
        refine ⟨Nat.le_of_ble_eq_true rfl, ?_⟩
        refine ⟨p, a, 5, _, X, rfl, rfl, ⟨by decide, by decide⟩, ?_, fun j j0 j1 => ?_⟩
        · have hob : objB m ≤ 1000 := by
            have : m = 0 ∨ m = 1 := by omega
            rcases this with rfl | rfl <;> decide
          have := Nat.mul_le_mul hob (Nat.le_refl 3)
          omega
        obtain ⟨nn, z, rfl, hz, ez⟩ := pick_at (l := ["take", "get", "look", "probe", "say"]) j0 j1
        refine ix_l ez ⟨Nat.le_of_ble_eq_true rfl, ?_⟩
        refine ⟨by show 1 + ps.length ≤ 1000000; omega, ?_⟩
        refine fin _ _ (by omega) (gd_tup.mpr ⟨by show (D.str z :: ps).length ≤ 8; rw [List.length_cons]; omega, fun d hd => ?_⟩)
        rcases List.mem_cons.mp hd with rfl | hd
        · exact gd_str
        · exact hg d hd
def spMaybe : SpX := fun ds r P _ => ∃ p a N X ns, ds = [.adr p, .lst ns] ∧ r = poolA p a N :: X ∧ N < 10000000 ∧ ns.length ≤ 1000 ∧ (∀ x ∈ ns, ∃ z, x = .str z ∧ isNm z = true) ∧ ∀ d, gd 8 3 d = true → P d (poolA p a (N + 2000) :: X)
abbrev N__law_maybe : List Str := ["_law_pool_here", "_law_names_here", "_law_pick"]
theorem sc__law_maybe : FnScope N__law_maybe ["_law_pool_here", "_law_names_here"] (defScope s__law_maybe) := ⟨rfl, rfl, rfl, by decide +kernel, rfl, by decide +kernel, by decide +kernel⟩
theorem c__law_maybe (B : Bl mg) (C__law_draw : Cl P w K mg base 1 "_law_draw" ["_law_pool_here", "_law_many"] spDraw) (C__law_word : Cl P w K mg base 2 "_law_word" ["_law_pool_here"] spWord) (C__law_object : Cl P w K mg base 5 "_law_object" ["_law_pool_here", "_law_depth"] (spObj 2))
    (Dx : Dfn K mg "_law_maybe" s__law_maybe ["_law_pool_here", "_law_names_here"]) : Cl P w K mg base 6 "_law_maybe" ["_law_pool_here", "_law_names_here"] spMaybe := by
  have sc := sc__law_maybe
  refine cl_of Dx sc (fun ds r P' XR ⟨_, _, _, _, _, e, _⟩ => by rw [e]; rfl) (fun f cdv A outer s H E hr tk po => ?_)
  have hu := hr.units
  refine ⟨_, (ss_cons (s_set (i := 2) sc.nd (d_fn C__law_draw tk hr (dl_cons (dv 0) (dl_cons d_int dl_nil))))
  (ss_cons (s_if (b_w (w_and (b_cmp p_lt (dv 2) d_int) (w_and1 (b_tru (dv 1)))))
  (ss_one (s_ret (d_ix (dv 1) (d_fn C__law_draw tk hr (dl_cons (dv 0) (dl_cons (d_blt c_len (by rfl) B.len (dl_cons (dv 1) dl_nil)) dl_nil))))))
  ss_nil)
  (ss_cons (s_if (b_cmp (p_eq hu) (dv 2) d_int)
  (ss_one (s_ret (d_fn C__law_object tk hr (dl_cons (dv 0) (dl_cons d_int dl_nil)))))
  ss_nil)
  (ss_one (s_ret (d_fn C__law_word tk hr (dl_cons (dv 0) dl_nil))))))), fun ds r P' XR h => ?_⟩
  obtain ⟨p, a, N, X, ns, rfl, rfl, hN, hl, hns, hP⟩ := h
  have eB : objB 2 = 1460 := by decide
  have fin : ∀ (M : Nat) (d : D), M ≤ N + 2000 → gd 8 3 d = true → fit P' d (poolA p a M :: X) := fun M d hM hd => ⟨_, pool_mono hM, hP d hd⟩
  refine ⟨p, a, 6, N, X, rfl, rfl, ⟨by decide, by decide⟩, by omega, fun k k0 k1 => ?_⟩
  have rest : (eqD (.int k) (.int 5) = true → spObj 2 [.adr p, .int 0] (poolA p a (N + 1) :: X) (fit P') noX) ∧ (eqD (.int k) (.int 5) = false → spWord [.adr p] (poolA p a (N + 1) :: X) (fit P') noX) :=
    ⟨fun _ => ⟨p, a, N + 1, X, 0, rfl, rfl, by decide, by decide, by omega, by decide, fun d hd => fin _ d (by omega) hd⟩, fun _ => ⟨p, a, N + 1, X, rfl, rfl, by omega, fun z hz => fin _ _ (by omega) gd_str⟩⟩
  refine ⟨fun _ => ?_, fun _ => brF ⟨Nat.zero_le _, Nat.zero_le _, rest⟩⟩
  cases ns with
  | nil => exact brF ⟨Nat.zero_le _, Nat.zero_le _, rest⟩
  | cons x ns =>
    refine brT (fun _ => ⟨p, a, _, N + 1, X, rfl, rfl, ⟨?_, ?_⟩, by omega, fun j j0 j1 => ?_⟩)
    · rw [List.length_cons]; omega
    · have : (x :: ns).length ≤ 1000 := hl
      omega
    · obtain ⟨d, md, ed⟩ := pick_in j0 j1
      refine ix_l ed (fin _ _ (by omega) ?_)
      obtain ⟨z, rfl, hz⟩ := hns d md
      exact gd_str
abbrev N__law_is_name : List Str := ["_law_value", "_law_letter"]
theorem sc__law_is_name : FnScope N__law_is_name ["_law_value"] (defScope s__law_is_name) := ⟨rfl, rfl, rfl, by decide +kernel, rfl, by decide +kernel, by decide +kernel⟩
theorem c__law_is_name (B : Bl mg) (Dx : Dfn K mg "_law_is_name" s__law_is_name ["_law_value"]) : Cl P w K mg base 1 "_law_is_name" ["_law_value"] spIsName := by
  have sc := sc__law_is_name
  refine cl_of Dx sc (fun ds r P' XR ⟨d, e, _⟩ => by rw [e]; rfl) (fun f cdv A outer s H E hr tk po => ?_)
  have hu := hr.units
  have hi := u65 hr
  refine ⟨_, (ss_cons (s_if (b_w (w_or (b_not (b_tru (d_isi .str (by rfl) B.isi (dv 0) (by rfl) B.str))) (w_or (b_cmp p_lt (d_blt c_len (by rfl) B.len (dl_cons (dv 0) dl_nil)) d_int) (w_or1 (b_cmp p_gt (d_blt c_len (by rfl) B.len (dl_cons (dv 0) dl_nil)) d_int)))))
  (ss_one (s_ret d_bl))
  ss_nil)
  (ss_one (s_ret (d_cmp (p_eq hu) (d_lc (js := [1]) (own := [("_law_letter", 1)]) sc.nd (i_str (dv 0)) (blkOk_by (own := [("_law_letter", 1)]) (N := N__law_is_name) (sc := defScope s__law_is_name) (by decide +kernel)) (fun _ _ _ _ _ => (g_name (i := 1) sc.nd)) (fun _ _ _ _ _ => (pts_1 (b_cmp (p_notIn hi) (dv 1) d_str))) (fun _ _ _ _ _ => (dv 1))) (d_lst dl_nil))))), fun ds r P' XR h => ?_⟩
  obtain ⟨d, rfl, pd, h⟩ := h
  replace h := fit.of h
  cases d with
  | adr => cases pd
  | ins => cases pd
  | dct => cases pd
  | str z =>
    refine brF ?_
    have hb : ∀ b, isNm z = b → fit P' (.bl b) r := fun b e => e ▸ h
    unfold isNm at hb
    by_cases l1 : 1 ≤ z.length
    · refine brf (decide_eq_false (by omega)) ?_
      by_cases l8 : z.length ≤ 8
      · refine brf (decide_eq_false (by omega)) ?_
        refine lc_fm (fun d => !(match d with | .str w => (match sub1 w with | some c => decide (c ∈ tl abc) | none => false) | _ => false)) (fun d => d) ?_ ?_ ?_
        · rw [List.length_map]
          show (tl z).length ≤ 1000000
          rw [← len_tl]
          omega
        · intro d hd r' Q1 Q2 q1 q2
          obtain ⟨c, hc, rfl⟩ := List.mem_map.mp hd
          exact ⟨⟨q1, q2⟩⟩
        · rw [List.map_id']
          refine ⟨Nat.le_of_ble_eq_true rfl, ?_, Nat.le_of_ble_eq_true rfl, ?_⟩
          · show deps _ + 1 ≤ 64
            exact Nat.le_trans (Nat.succ_le_succ (deps_filter (Nat.le_of_eq (deps_chars (fun c : Nat => (⟨#[c]⟩ : Str)) (tl z))))) (by decide)
          · rw [eq_nil, filter_none]
            refine hb _ ?_
            rw [decide_eq_true l1, decide_eq_true l8, List.all_map]
            show (true && true && (tl z).all isLet) = (tl z).all fun c => decide (c ∈ tl abc)
            rw [Bool.true_and, Bool.true_and]
            congr 1
            funext c
            exact (isLet_abc c).symm
      · refine brt (decide_eq_true (by omega)) (hb _ ?_)
        rw [decide_eq_false l8, Bool.and_false, Bool.false_and]
    · refine brt (decide_eq_true (by omega)) (brT (hb _ ?_))
      rw [decide_eq_false l1, Bool.false_and, Bool.false_and]
  | _ => exact brT (brT h)
def five : List Str := ["feed", "dice", "source", "flag", "slot"]
def spLThing (CT CB : Addr) (sdT : SpX) : SpX := fun ds r P XR => ∃ (kd : Str) (d : D) (ps : List D), ds = [.tup [.str kd, d, .tup ps]] ∧ plain d = true ∧
  ((kd ∈ five ∧ ps = [] ∧ (isNameD d = true → P (.ins CT thF [.str kd, d, .tup []]) r) ∧ (isNameD d = false → XR CB ["name"] [d] r)) ∨
   (kd = "field" ∧ ∃ e, ps = [e] ∧ plain e = true ∧ (isNameD d = true → isNameD e = true → P (.ins CT thF [.str "field", d, .tup [e]]) r) ∧ (∀ x, [d, e].find? (fun d => !isNameD d) = some x → XR CB ["name"] [x] r)) ∨
   (kd = "table" ∧ ∀ (P2 : PK1) (XR2 : XD), (∀ d r, P d r → P2 d r) → (∀ C fs ds r, XR C fs ds r → XR2 C fs ds r) → (∃ e, ps = [e] ∧ sdT [d, e] r P2 XR2) ∨ (∃ e e', ps = [e, e'] ∧ sdT [d, e, e'] r P2 XR2)))
abbrev N__law_thing : List Str := ["_law_thing_here", "_law_kind", "_law_name", "_law_parts"]
theorem sc__law_thing : FnScope N__law_thing ["_law_thing_here"] (defScope s__law_thing) := ⟨rfl, rfl, rfl, by decide +kernel, rfl, by decide +kernel, by decide +kernel⟩
theorem c__law_thing {CT CB : Addr} {sdT : SpX} (B : Bl mg) (K_Thing : KCls K mg "Thing" CT thF) (S_Thing_feed : ClS P w K mg base 5 CT "feed" (spKind CT CB "feed")) (S_Thing_dice : ClS P w K mg base 5 CT "dice" (spKind CT CB "dice")) (S_Thing_source : ClS P w K mg base 5 CT "source" (spKind CT CB "source"))
    (S_Thing_flag : ClS P w K mg base 5 CT "flag" (spKind CT CB "flag")) (S_Thing_slot : ClS P w K mg base 5 CT "slot" (spKind CT CB "slot")) (S_Thing_field : ClS P w K mg base 5 CT "field" (spField CT CB)) (S_Thing_table : ClS P w K mg base 7 CT "table" sdT)
    (Dx : Dfn K mg "_law_thing" s__law_thing ["_law_thing_here"]) : Cl P w K mg base 8 "_law_thing" ["_law_thing_here"] (spLThing CT CB sdT) := by
  have sc := sc__law_thing
  refine cl_of Dx sc (fun ds r P' XR ⟨_, _, _, e, _⟩ => by rw [e]; rfl) (fun f cdv A outer s H E hr tk po => ?_)
  have hu := hr.units
  refine ⟨_, (ss_cons (s_tup (is := [1, 2, 3]) (dv 0) (pgs_n (i := 1) sc.nd (pgs_n (i := 2) sc.nd (pgs_n (i := 3) sc.nd pgs_nil))))
  (ss_cons (s_if (b_cmp (p_eq hu) (dv 1) d_str)
  (ss_one (s_ret (d_st S_Thing_feed K_Thing tk hr (dl_cons (dv 2) dl_nil))))
  ss_nil)
  (ss_cons (s_if (b_cmp (p_eq hu) (dv 1) d_str)
  (ss_one (s_ret (d_st S_Thing_dice K_Thing tk hr (dl_cons (dv 2) dl_nil))))
  ss_nil)
  (ss_cons (s_if (b_cmp (p_eq hu) (dv 1) d_str)
  (ss_one (s_ret (d_st S_Thing_source K_Thing tk hr (dl_cons (dv 2) dl_nil))))
  ss_nil)
  (ss_cons (s_if (b_cmp (p_eq hu) (dv 1) d_str)
  (ss_one (s_ret (d_st S_Thing_flag K_Thing tk hr (dl_cons (dv 2) dl_nil))))
  ss_nil)
  (ss_cons (s_if (b_cmp (p_eq hu) (dv 1) d_str)
  (ss_one (s_ret (d_st S_Thing_slot K_Thing tk hr (dl_cons (dv 2) dl_nil))))
  ss_nil)
  (ss_cons (s_if (b_cmp (p_eq hu) (dv 1) d_str)
  (ss_one (s_ret (d_st S_Thing_field K_Thing tk hr (dl_cons (dv 2) (dl_cons (d_ix (dv 3) d_int) dl_nil)))))
  ss_nil)
  (ss_cons (s_if (b_cmp (p_eq hu) (d_blt c_len (by rfl) B.len (dl_cons (dv 3) dl_nil)) d_int)
  (ss_one (s_ret (d_st S_Thing_table K_Thing tk hr (dl_cons (dv 2) (dl_cons (d_ix (dv 3) d_int) dl_nil)))))
  ss_nil)
  (ss_one (s_ret (d_st S_Thing_table K_Thing tk hr (dl_cons (dv 2) (dl_cons (d_ix (dv 3) d_int) (dl_cons (d_ix (dv 3) d_int) dl_nil)))))))))))))), fun ds r P' XR h => ?_⟩
  obtain ⟨kd, d, ps, rfl, pd, h⟩ := h
  refine ⟨rfl, ?_⟩
  have no : ∀ {a b : Str} {A B : Prop}, a ≠ b → B → ((eqD (.str a) (.str b)) = true → A) ∧ ((eqD (.str a) (.str b)) = false → B) := fun ne h => brf (by
    show ((_ : Str) == _) = false
    exact beq_eq_false_iff_ne.mpr ne) h
  have ye : ∀ {a : Str} {A B : Prop}, A → ((eqD (.str a) (.str a)) = true → A) ∧ ((eqD (.str a) (.str a)) = false → B) := fun h => brt (by
    show ((_ : Str) == _) = true
    exact beq_self_eq_true _) h
  rcases h with ⟨hk, rfl, h1, h2⟩ | ⟨rfl, e, rfl, pe, h1, h2⟩ | ⟨rfl, h⟩
  · have go : ∀ kd, kd ∈ five → (isNameD d = true → P' (.ins CT thF [.str kd, d, .tup []]) r) → spKind CT CB kd [d] r (fit P') fun C fs es r' => fitX XR C fs es [some (.tup [.str kd, d, .tup []]), some (.str kd), some d, some (.tup [])] r' := fun kd _ h1 => ⟨d, rfl, pd, fun q => fit.of (h1 q), fun q => ⟨_, le.refl, h2 q⟩⟩
    simp only [five, List.mem_cons, List.not_mem_nil, or_false] at hk
    rcases hk with rfl | rfl | rfl | rfl | rfl
    · exact ⟨Nat.zero_le _, Nat.zero_le _, ye (go _ (by decide) h1)⟩
    · exact ⟨Nat.zero_le _, Nat.zero_le _, no (by decide) ⟨Nat.zero_le _, Nat.zero_le _, ye (go _ (by decide) h1)⟩⟩
    · exact ⟨Nat.zero_le _, Nat.zero_le _, no (by decide) ⟨Nat.zero_le _, Nat.zero_le _, no (by decide) ⟨Nat.zero_le _, Nat.zero_le _, ye (go _ (by decide) h1)⟩⟩⟩
    · exact ⟨Nat.zero_le _, Nat.zero_le _, no (by decide) ⟨Nat.zero_le _, Nat.zero_le _, no (by decide) ⟨Nat.zero_le _, Nat.zero_le _, no (by decide) ⟨Nat.zero_le _, Nat.zero_le _, ye (go _ (by decide) h1)⟩⟩⟩⟩
    · exact ⟨Nat.zero_le _, Nat.zero_le _, no (by decide) ⟨Nat.zero_le _, Nat.zero_le _, no (by decide) ⟨Nat.zero_le _, Nat.zero_le _, no (by decide) ⟨Nat.zero_le _, Nat.zero_le _, no (by decide) ⟨Nat.zero_le _, Nat.zero_le _, ye (go _ (by decide) h1)⟩⟩⟩⟩⟩
  · refine ⟨Nat.zero_le _, Nat.zero_le _, no (by decide) ⟨Nat.zero_le _, Nat.zero_le _, no (by decide) ⟨Nat.zero_le _, Nat.zero_le _, no (by decide) ⟨Nat.zero_le _, Nat.zero_le _, no (by decide) ⟨Nat.zero_le _, Nat.zero_le _, no (by decide) ⟨Nat.zero_le _, Nat.zero_le _, ye ?_⟩⟩⟩⟩⟩⟩
    exact ix_t at0 ⟨d, e, rfl, pd, pe, fun q q2 => fit.of (h1 q q2), fun x q => ⟨_, le.refl, h2 x q⟩⟩
  · refine ⟨Nat.zero_le _, Nat.zero_le _, no (by decide) ⟨Nat.zero_le _, Nat.zero_le _, no (by decide) ⟨Nat.zero_le _, Nat.zero_le _, no (by decide) ⟨Nat.zero_le _, Nat.zero_le _, no (by decide) ⟨Nat.zero_le _, Nat.zero_le _, no (by decide) ⟨Nat.zero_le _, Nat.zero_le _, no (by decide) ?_⟩⟩⟩⟩⟩⟩
    rcases h (fit P') (fun C fs es r' => ∃ r0, le r' r0 ∧ XR C fs es r0) (fun d r q => fit.of q) (fun C fs ds r q => ⟨r, le.refl, q⟩) with ⟨e, rfl, hh⟩ | ⟨e, e', rfl, hh⟩
    · exact fun _ => ⟨Nat.zero_le _, Nat.zero_le _, brT (ix_t at0 hh)⟩
    · exact fun _ => ⟨Nat.zero_le _, Nat.zero_le _, brF (ix_t at0 (ix_t at1 hh))⟩
theorem ff {A : Prop} (h : false = true) : A := by cases h
theorem tf {A : Prop} (h : true = false) : A := by cases h
abbrev nmsW (ths : List Th) : List D := ths.map fun t : Th => D.str t.nm
def spMake (CT CS CW CT2 CTN CTM : Addr) : SpX := fun ds r P XR => ∃ (ths : List Th), ds = [.lst (ths.map (thD CT))] ∧ ths.length ≤ 9 ∧ (∀ t ∈ ths, t.kd = ("field" : Str) → t.ps ≠ []) ∧ (∀ x, twice [] (nmsW ths) = some x → ∀ t, XR CT2 ["name"] [x] (r ++ t)) ∧
  (twice [] (nmsW ths) = none → (∀ o, badF [] ths = some o → ∀ t, XR CTN ["name"] [.str o] (r ++ t)) ∧ (badF [] ths = none → (8 < ths.length → ∀ t, XR CTM ["limit"] [.int 8] (r ++ t)) ∧ (ths.length ≤ 8 → ∀ w A, P (.adr w) (r ++ wld CT CS CW w A (stk0 ths) []))))
abbrev N__law_make : List Str := ["_law_t"]
theorem sc__law_make : FnScope N__law_make ["_law_t"] (defScope s__law_make) := ⟨rfl, rfl, rfl, by decide +kernel, rfl, by decide +kernel, by decide +kernel⟩
set_option maxHeartbeats 2000000 in
theorem c__law_make {CT CS CW CT2 CTN CTM : Addr} (B : Bl mg) (K_World : KCls K mg "World" CW wdF) (N_World : ClN P w K mg base 5 CW [] (starP 1 (spWorld CT CS CW CT2 CTN CTM))) (Dx : Dfn K mg "_law_make" s__law_make ["_law_t"]) : Cl P w K mg base 7 "_law_make" ["_law_t"] (spMake CT CS CW CT2 CTN CTM) := by
  have sc := sc__law_make
  refine cl_of Dx sc (fun ds r P' XR ⟨_, e, _⟩ => by rw [e]; rfl) (fun f cdv A outer s H E hr tk po => ?_)
  have hu := hr.units
  have hi := u65 hr
  refine ⟨_, (ss_cons (s_if (b_cmp (p_eq hu) (d_blt c_len (by rfl) B.len (dl_cons (dv 0) dl_nil)) d_int)
  (ss_one (s_ret (d_mk0 N_World K_World tk hr)))
  ss_nil)
  (ss_cons (s_if (b_cmp (p_eq hu) (d_blt c_len (by rfl) B.len (dl_cons (dv 0) dl_nil)) d_int)
  (ss_one (s_ret (d_mk 0 N_World K_World tk hr (dl_cons (d_ix (dv 0) d_int) dl_nil))))
  ss_nil)
  (ss_cons (s_if (b_cmp (p_eq hu) (d_blt c_len (by rfl) B.len (dl_cons (dv 0) dl_nil)) d_int)
  (ss_one (s_ret (d_mk 0 N_World K_World tk hr (dl_cons (d_ix (dv 0) d_int) (dl_cons (d_ix (dv 0) d_int) dl_nil)))))
  ss_nil)
  (ss_cons (s_if (b_cmp (p_eq hu) (d_blt c_len (by rfl) B.len (dl_cons (dv 0) dl_nil)) d_int)
  (ss_one (s_ret (d_mk 0 N_World K_World tk hr (dl_cons (d_ix (dv 0) d_int) (dl_cons (d_ix (dv 0) d_int) (dl_cons (d_ix (dv 0) d_int) dl_nil))))))
  ss_nil)
  (ss_cons (s_if (b_cmp (p_eq hu) (d_blt c_len (by rfl) B.len (dl_cons (dv 0) dl_nil)) d_int)
  (ss_one (s_ret (d_mk 0 N_World K_World tk hr (dl_cons (d_ix (dv 0) d_int) (dl_cons (d_ix (dv 0) d_int) (dl_cons (d_ix (dv 0) d_int) (dl_cons (d_ix (dv 0) d_int) dl_nil)))))))
  ss_nil)
  (ss_cons (s_if (b_cmp (p_eq hu) (d_blt c_len (by rfl) B.len (dl_cons (dv 0) dl_nil)) d_int)
  (ss_one (s_ret (d_mk 0 N_World K_World tk hr (dl_cons (d_ix (dv 0) d_int) (dl_cons (d_ix (dv 0) d_int) (dl_cons (d_ix (dv 0) d_int) (dl_cons (d_ix (dv 0) d_int) (dl_cons (d_ix (dv 0) d_int) dl_nil))))))))
  ss_nil)
  (ss_cons (s_if (b_cmp (p_eq hu) (d_blt c_len (by rfl) B.len (dl_cons (dv 0) dl_nil)) d_int)
  (ss_one (s_ret (d_mk 0 N_World K_World tk hr (dl_cons (d_ix (dv 0) d_int) (dl_cons (d_ix (dv 0) d_int) (dl_cons (d_ix (dv 0) d_int) (dl_cons (d_ix (dv 0) d_int) (dl_cons (d_ix (dv 0) d_int) (dl_cons (d_ix (dv 0) d_int) dl_nil)))))))))
  ss_nil)
  (ss_cons (s_if (b_cmp (p_eq hu) (d_blt c_len (by rfl) B.len (dl_cons (dv 0) dl_nil)) d_int)
  (ss_one (s_ret (d_mk 0 N_World K_World tk hr (dl_cons (d_ix (dv 0) d_int) (dl_cons (d_ix (dv 0) d_int) (dl_cons (d_ix (dv 0) d_int) (dl_cons (d_ix (dv 0) d_int) (dl_cons (d_ix (dv 0) d_int) (dl_cons (d_ix (dv 0) d_int) (dl_cons (d_ix (dv 0) d_int) dl_nil))))))))))
  ss_nil)
  (ss_cons (s_if (b_cmp (p_eq hu) (d_blt c_len (by rfl) B.len (dl_cons (dv 0) dl_nil)) d_int)
  (ss_one (s_ret (d_mk 0 N_World K_World tk hr (dl_cons (d_ix (dv 0) d_int) (dl_cons (d_ix (dv 0) d_int) (dl_cons (d_ix (dv 0) d_int) (dl_cons (d_ix (dv 0) d_int) (dl_cons (d_ix (dv 0) d_int) (dl_cons (d_ix (dv 0) d_int) (dl_cons (d_ix (dv 0) d_int) (dl_cons (d_ix (dv 0) d_int) dl_nil)))))))))))
  ss_nil)
  (ss_one (s_ret (d_mk 0 N_World K_World tk hr (dl_cons (d_ix (dv 0) d_int) (dl_cons (d_ix (dv 0) d_int) (dl_cons (d_ix (dv 0) d_int) (dl_cons (d_ix (dv 0) d_int) (dl_cons (d_ix (dv 0) d_int) (dl_cons (d_ix (dv 0) d_int) (dl_cons (d_ix (dv 0) d_int) (dl_cons (d_ix (dv 0) d_int) (dl_cons (d_ix (dv 0) d_int) dl_nil))))))))))))))))))))), fun ds r P' XR h => ?_⟩
  obtain ⟨ths, rfl, h9, hf, h1, h2⟩ := h
  have hz : ths.length ≤ 100 := by omega
  match ths, h9 with
  | [], _ => exact fun _ => ⟨Nat.zero_le _, Nat.zero_le _, brT (fun a => ⟨[.adr a], [], rfl, rfl, Nat.le_of_ble_eq_true rfl, a, r, [], rfl, rfl, hz, hf, fun x hx => fitX.of (δ := []) (h1 x hx _), fun e => ⟨fun o ho => fitX.of (δ := []) ((h2 e).1 o ho _), fun eb => ⟨fun z => fitX.of (δ := []) (((h2 e).2 eb).1 z _), fun z A => ⟨rfl, fit.of (((h2 e).2 eb).2 z a A)⟩⟩⟩⟩)⟩
  | [t0], _ => exact fun _ => ⟨Nat.zero_le _, Nat.zero_le _, brF fun _ => ⟨Nat.zero_le _, Nat.zero_le _, brT (ix_l at0 (fun a => ⟨[.adr a], [thD CT t0], rfl, rfl, Nat.le_of_ble_eq_true rfl, a, r, [t0], rfl, rfl, hz, hf, fun x hx => fitX.of (δ := []) (h1 x hx _), fun e => ⟨fun o ho => fitX.of (δ := []) ((h2 e).1 o ho _), fun eb => ⟨fun z => fitX.of (δ := []) (((h2 e).2 eb).1 z _), fun z A => ⟨rfl, fit.of (((h2 e).2 eb).2 z a A)⟩⟩⟩⟩))⟩⟩
  | [t0, t1], _ => exact fun _ => ⟨Nat.zero_le _, Nat.zero_le _, brF fun _ => ⟨Nat.zero_le _, Nat.zero_le _, brF fun _ => ⟨Nat.zero_le _, Nat.zero_le _, brT (ix_l at0 (ix_l at1 (fun a => ⟨[.adr a], [thD CT t0, thD CT t1], rfl, rfl, Nat.le_of_ble_eq_true rfl, a, r, [t0, t1], rfl, rfl, hz, hf, fun x hx => fitX.of (δ := []) (h1 x hx _), fun e => ⟨fun o ho => fitX.of (δ := []) ((h2 e).1 o ho _), fun eb => ⟨fun z => fitX.of (δ := []) (((h2 e).2 eb).1 z _), fun z A => ⟨rfl, fit.of (((h2 e).2 eb).2 z a A)⟩⟩⟩⟩)))⟩⟩⟩
  | [t0, t1, t2], _ => exact fun _ => ⟨Nat.zero_le _, Nat.zero_le _, brF fun _ => ⟨Nat.zero_le _, Nat.zero_le _, brF fun _ => ⟨Nat.zero_le _, Nat.zero_le _, brF fun _ => ⟨Nat.zero_le _, Nat.zero_le _, brT (ix_l at0 (ix_l at1 (ix_l at2 (fun a => ⟨[.adr a], [thD CT t0, thD CT t1, thD CT t2], rfl, rfl, Nat.le_of_ble_eq_true rfl, a, r, [t0, t1, t2], rfl, rfl, hz, hf, fun x hx => fitX.of (δ := []) (h1 x hx _), fun e => ⟨fun o ho => fitX.of (δ := []) ((h2 e).1 o ho _), fun eb => ⟨fun z => fitX.of (δ := []) (((h2 e).2 eb).1 z _), fun z A => ⟨rfl, fit.of (((h2 e).2 eb).2 z a A)⟩⟩⟩⟩))))⟩⟩⟩⟩
  | [t0, t1, t2, t3], _ => exact fun _ => ⟨Nat.zero_le _, Nat.zero_le _, brF fun _ => ⟨Nat.zero_le _, Nat.zero_le _, brF fun _ => ⟨Nat.zero_le _, Nat.zero_le _, brF fun _ => ⟨Nat.zero_le _, Nat.zero_le _, brF fun _ => ⟨Nat.zero_le _, Nat.zero_le _, brT (ix_l at0 (ix_l at1 (ix_l at2 (ix_l at3 (fun a => ⟨[.adr a], [thD CT t0, thD CT t1, thD CT t2, thD CT t3], rfl, rfl, Nat.le_of_ble_eq_true rfl, a, r, [t0, t1, t2, t3], rfl, rfl, hz, hf, fun x hx => fitX.of (δ := []) (h1 x hx _), fun e => ⟨fun o ho => fitX.of (δ := []) ((h2 e).1 o ho _), fun eb => ⟨fun z => fitX.of (δ := []) (((h2 e).2 eb).1 z _), fun z A => ⟨rfl, fit.of (((h2 e).2 eb).2 z a A)⟩⟩⟩⟩)))))⟩⟩⟩⟩⟩
  | [t0, t1, t2, t3, t4], _ => exact fun _ => ⟨Nat.zero_le _, Nat.zero_le _, brF fun _ => ⟨Nat.zero_le _, Nat.zero_le _, brF fun _ => ⟨Nat.zero_le _, Nat.zero_le _, brF fun _ => ⟨Nat.zero_le _, Nat.zero_le _, brF fun _ => ⟨Nat.zero_le _, Nat.zero_le _, brF fun _ => ⟨Nat.zero_le _, Nat.zero_le _, brT (ix_l at0 (ix_l at1 (ix_l at2 (ix_l at3 (ix_l at4 (fun a => ⟨[.adr a], [thD CT t0, thD CT t1, thD CT t2, thD CT t3, thD CT t4], rfl, rfl, Nat.le_of_ble_eq_true rfl, a, r, [t0, t1, t2, t3, t4], rfl, rfl, hz, hf, fun x hx => fitX.of (δ := []) (h1 x hx _), fun e => ⟨fun o ho => fitX.of (δ := []) ((h2 e).1 o ho _), fun eb => ⟨fun z => fitX.of (δ := []) (((h2 e).2 eb).1 z _), fun z A => ⟨rfl, fit.of (((h2 e).2 eb).2 z a A)⟩⟩⟩⟩))))))⟩⟩⟩⟩⟩⟩
  | [t0, t1, t2, t3, t4, t5], _ => exact fun _ => ⟨Nat.zero_le _, Nat.zero_le _, brF fun _ => ⟨Nat.zero_le _, Nat.zero_le _, brF fun _ => ⟨Nat.zero_le _, Nat.zero_le _, brF fun _ => ⟨Nat.zero_le _, Nat.zero_le _, brF fun _ => ⟨Nat.zero_le _, Nat.zero_le _, brF fun _ => ⟨Nat.zero_le _, Nat.zero_le _, brF fun _ => ⟨Nat.zero_le _, Nat.zero_le _, brT (ix_l at0 (ix_l at1 (ix_l at2 (ix_l at3 (ix_l at4 (ix_l (L2.atI_nat (j := 5) rfl) (fun a => ⟨[.adr a], [thD CT t0, thD CT t1, thD CT t2, thD CT t3, thD CT t4, thD CT t5], rfl, rfl, Nat.le_of_ble_eq_true rfl, a, r, [t0, t1, t2, t3, t4, t5], rfl, rfl, hz, hf, fun x hx => fitX.of (δ := []) (h1 x hx _), fun e => ⟨fun o ho => fitX.of (δ := []) ((h2 e).1 o ho _), fun eb => ⟨fun z => fitX.of (δ := []) (((h2 e).2 eb).1 z _), fun z A => ⟨rfl, fit.of (((h2 e).2 eb).2 z a A)⟩⟩⟩⟩)))))))⟩⟩⟩⟩⟩⟩⟩
  | [t0, t1, t2, t3, t4, t5, t6], _ => exact fun _ => ⟨Nat.zero_le _, Nat.zero_le _, brF fun _ => ⟨Nat.zero_le _, Nat.zero_le _, brF fun _ => ⟨Nat.zero_le _, Nat.zero_le _, brF fun _ => ⟨Nat.zero_le _, Nat.zero_le _, brF fun _ => ⟨Nat.zero_le _, Nat.zero_le _, brF fun _ => ⟨Nat.zero_le _, Nat.zero_le _, brF fun _ => ⟨Nat.zero_le _, Nat.zero_le _, brF fun _ => ⟨Nat.zero_le _, Nat.zero_le _, brT (ix_l at0 (ix_l at1 (ix_l at2 (ix_l at3 (ix_l at4 (ix_l (L2.atI_nat (j := 5) rfl) (ix_l (L2.atI_nat (j := 6) rfl) (fun a => ⟨[.adr a], [thD CT t0, thD CT t1, thD CT t2, thD CT t3, thD CT t4, thD CT t5, thD CT t6], rfl, rfl, Nat.le_of_ble_eq_true rfl, a, r, [t0, t1, t2, t3, t4, t5, t6], rfl, rfl, hz, hf, fun x hx => fitX.of (δ := []) (h1 x hx _), fun e => ⟨fun o ho => fitX.of (δ := []) ((h2 e).1 o ho _), fun eb => ⟨fun z => fitX.of (δ := []) (((h2 e).2 eb).1 z _), fun z A => ⟨rfl, fit.of (((h2 e).2 eb).2 z a A)⟩⟩⟩⟩))))))))⟩⟩⟩⟩⟩⟩⟩⟩
  | [t0, t1, t2, t3, t4, t5, t6, t7], _ => exact fun _ => ⟨Nat.zero_le _, Nat.zero_le _, brF fun _ => ⟨Nat.zero_le _, Nat.zero_le _, brF fun _ => ⟨Nat.zero_le _, Nat.zero_le _, brF fun _ => ⟨Nat.zero_le _, Nat.zero_le _, brF fun _ => ⟨Nat.zero_le _, Nat.zero_le _, brF fun _ => ⟨Nat.zero_le _, Nat.zero_le _, brF fun _ => ⟨Nat.zero_le _, Nat.zero_le _, brF fun _ => ⟨Nat.zero_le _, Nat.zero_le _, brF fun _ => ⟨Nat.zero_le _, Nat.zero_le _, brT (ix_l at0 (ix_l at1 (ix_l at2 (ix_l at3 (ix_l at4 (ix_l (L2.atI_nat (j := 5) rfl) (ix_l (L2.atI_nat (j := 6) rfl) (ix_l (L2.atI_nat (j := 7) rfl) (fun a => ⟨[.adr a], [thD CT t0, thD CT t1, thD CT t2, thD CT t3, thD CT t4, thD CT t5, thD CT t6, thD CT t7], rfl, rfl, Nat.le_of_ble_eq_true rfl, a, r, [t0, t1, t2, t3, t4, t5, t6, t7], rfl, rfl, hz, hf, fun x hx => fitX.of (δ := []) (h1 x hx _), fun e => ⟨fun o ho => fitX.of (δ := []) ((h2 e).1 o ho _), fun eb => ⟨fun z => fitX.of (δ := []) (((h2 e).2 eb).1 z _), fun z A => ⟨rfl, fit.of (((h2 e).2 eb).2 z a A)⟩⟩⟩⟩)))))))))⟩⟩⟩⟩⟩⟩⟩⟩⟩
  | [t0, t1, t2, t3, t4, t5, t6, t7, t8], _ => exact fun _ => ⟨Nat.zero_le _, Nat.zero_le _, brF fun _ => ⟨Nat.zero_le _, Nat.zero_le _, brF fun _ => ⟨Nat.zero_le _, Nat.zero_le _, brF fun _ => ⟨Nat.zero_le _, Nat.zero_le _, brF fun _ => ⟨Nat.zero_le _, Nat.zero_le _, brF fun _ => ⟨Nat.zero_le _, Nat.zero_le _, brF fun _ => ⟨Nat.zero_le _, Nat.zero_le _, brF fun _ => ⟨Nat.zero_le _, Nat.zero_le _, brF fun _ => ⟨Nat.zero_le _, Nat.zero_le _, brF (ix_l at0 (ix_l at1 (ix_l at2 (ix_l at3 (ix_l at4 (ix_l (L2.atI_nat (j := 5) rfl) (ix_l (L2.atI_nat (j := 6) rfl) (ix_l (L2.atI_nat (j := 7) rfl) (ix_l (L2.atI_nat (j := 8) rfl) (fun a => ⟨[.adr a], [thD CT t0, thD CT t1, thD CT t2, thD CT t3, thD CT t4, thD CT t5, thD CT t6, thD CT t7, thD CT t8], rfl, rfl, Nat.le_of_ble_eq_true rfl, a, r, [t0, t1, t2, t3, t4, t5, t6, t7, t8], rfl, rfl, hz, hf, fun x hx => fitX.of (δ := []) (h1 x hx _), fun e => ⟨fun o ho => fitX.of (δ := []) ((h2 e).1 o ho _), fun eb => ⟨fun z => fitX.of (δ := []) (((h2 e).2 eb).1 z _), fun z A => ⟨rfl, fit.of (((h2 e).2 eb).2 z a A)⟩⟩⟩⟩))))))))))⟩⟩⟩⟩⟩⟩⟩⟩⟩
  | _ :: _ :: _ :: _ :: _ :: _ :: _ :: _ :: _ :: _ :: _, h9 => simp at h9
def spTry06 (CT CS CW : Addr) : SpX := fun ds r P _ => ∃ (ths : List Th), ds = [.lst (ths.map (thD CT))] ∧ ths.length ≤ 9 ∧ (∀ t ∈ ths, t.kd = ("field" : Str) → t.ps ≠ []) ∧ (∀ x, twice [] (nmsW ths) = some x → P (.tup [.str "Twice", x]) r) ∧
  (twice [] (nmsW ths) = none → (∀ o, badF [] ths = some o → P (.tup [.str "NoThing", .str o]) r) ∧ (badF [] ths = none → (8 < ths.length → P (.tup [.str "TooMany", .int 8]) r) ∧ (ths.length ≤ 8 → ∀ w A, P (.adr w) (r ++ wld CT CS CW w A (stk0 ths) []))))
abbrev N__law_try : List Str := ["_law_things", "e"]
theorem sc__law_try : FnScope N__law_try ["_law_things"] (defScope s__law_try) := ⟨rfl, rfl, rfl, by decide +kernel, rfl, by decide +kernel, by decide +kernel⟩
set_option maxHeartbeats 2000000 in
theorem c__law_try {CT CS CW CT2 CTN CTM CQ : Addr} (B : Bl mg) (X_Twice : ErrX P w K mg base "Twice" CT2 "name") (X_NoThing : ErrX P w K mg base "NoThing" CTN "name") (X_TooMany : ErrX P w K mg base "TooMany" CTM "limit") (gQ : mg "QuietError" = some (.ref CQ))
    (s_tm_tw : PySem.W.subIn K (.ref CTM) (.ref CT2) = some false) (s_nt_tw : PySem.W.subIn K (.ref CTN) (.ref CT2) = some false) (s_tm_nt : PySem.W.subIn K (.ref CTM) (.ref CTN) = some false)
    (C__law_make : Cl P w K mg base 7 "_law_make" ["_law_t"] (spMake CT CS CW CT2 CTN CTM)) (Dx : Dfn K mg "_law_try" s__law_try ["_law_things"]) : Cl P w K mg base 8 "_law_try" ["_law_things"] (spTry06 CT CS CW) := by
  have sc := sc__law_try
  refine cl_of Dx sc (fun ds r P' XR ⟨_, e, _⟩ => by rw [e]; rfl) (fun f cdv A outer s H E hr tk po => ?_)
  have hu := hr.units
  refine ⟨_, (ss_one (s_try tk (fun W2 pn xe tk po => (ss_one (s_ret (d_fn C__law_make tk hr (dl_cons (dv 0) dl_nil))))) (.as (i := 1) sc.nd rfl rfl ⟨rfl, by decide, .inl X_Twice.c.g⟩ (hcc (X_Twice.exm X_Twice.se) (hcc (X_Twice.exm s_nt_tw) (hcc (X_Twice.exm s_tm_tw) hc0))) (fun a oe cls d pn hz hf => (ss_one (s_ret (d_tup (dl_cons d_str (dl_cons (d_xf (fm_cons ⟨X_Twice.xf, X_Twice.no⟩ fm_nil) hz hf (dv 1)) dl_nil)))))) (.as (i := 1) sc.nd rfl rfl ⟨rfl, by decide, .inl X_NoThing.c.g⟩ (hcc (X_NoThing.exm X_NoThing.se) (hcc (X_NoThing.exm s_tm_nt) hc0)) (fun a oe cls d pn hz hf => (ss_one (s_ret (d_tup (dl_cons d_str (dl_cons (d_xf (fm_cons ⟨X_NoThing.xf, X_NoThing.no⟩ fm_nil) hz hf (dv 1)) dl_nil)))))) (.as (i := 1) sc.nd rfl rfl ⟨rfl, by decide, .inl X_TooMany.c.g⟩ (hcc (X_TooMany.exm X_TooMany.se) hc0) (fun a oe cls d pn hz hf => (ss_one (s_ret (d_tup (dl_cons d_str (dl_cons (d_xf (fm_cons ⟨X_TooMany.xf, X_TooMany.no⟩ fm_nil) hz hf (dv 1)) dl_nil)))))) (.cons ⟨rfl, by decide, .inl gQ⟩ hc0 (fun a oe cls d pn hz hf => (ss_one (s_ret d_non))) .nil)))))), fun ds r P' XR h => ?_⟩
  obtain ⟨ths, rfl, h9, hf, h1, h2⟩ := h
  refine ⟨ths, rfl, h9, hf, fun x hx t => ?_, fun e => ⟨fun o ho t => ?_, fun eb => ⟨fun z t => ?_, fun z w A => ?_⟩⟩⟩
  · refine ⟨true, .head _, fun _ a dd hn => ?_, tf⟩
    cases dd with
    | none => cases (hn rfl).1
    | some dx => exact ⟨rfl, CT2, dx, _, _, 0, x, r ++ t, [], .head _, rfl, rfl, rfl, by decide, rfl, Nat.le_of_ble_eq_true rfl, r, by rw [List.append_assoc]; exact le.drop, fit.of (h1 x hx)⟩
  · refine ⟨false, .tail _ (.head _), ff, fun _ => ⟨true, .head _, fun _ a dd hn => ?_, tf⟩⟩
    cases dd with
    | none => cases (hn rfl).1
    | some dx => exact ⟨rfl, CTN, dx, _, _, 0, .str o, r ++ t, [], .head _, rfl, rfl, rfl, by decide, rfl, Nat.le_of_ble_eq_true rfl, r, by rw [List.append_assoc]; exact le.drop, fit.of ((h2 e).1 o ho)⟩
  · refine ⟨false, .tail _ (.tail _ (.head _)), ff, fun _ => ⟨false, .tail _ (.head _), ff, fun _ => ⟨true, .head _, fun _ a dd hn => ?_, tf⟩⟩⟩
    cases dd with
    | none => cases (hn rfl).1
    | some dx => exact ⟨rfl, CTM, dx, _, _, 0, .int 8, r ++ t, [], .head _, rfl, rfl, rfl, by decide, rfl, Nat.le_of_ble_eq_true rfl, r, by rw [List.append_assoc]; exact le.drop, fit.of (((h2 e).2 eb).1 z)⟩
  · exact fit.of (((h2 e).2 eb).2 z w A)
theorem uniq_inj {l : List Th} (h : uniq l) {a b : Th} (ha : a ∈ l) (hb : b ∈ l) (e : a.nm = b.nm) : a = b := by
  induction l with
  | nil => cases ha
  | cons t l ih =>
    have h : (t.nm :: l.map (·.nm)).Nodup := h
    obtain ⟨h1, h2⟩ := List.nodup_cons.mp h
    rcases List.mem_cons.mp ha with rfl | ha'
    · rcases List.mem_cons.mp hb with rfl | hb'
      · rfl
      · exact (h1 (List.mem_map.mpr ⟨b, hb', e.symm⟩)).elim
    · rcases List.mem_cons.mp hb with rfl | hb'
      · exact (h1 (List.mem_map.mpr ⟨a, ha', e⟩)).elim
      · exact ih h2 ha' hb'
theorem knE_out {z : Str} : ∀ (n : Nat) {pre : List Th}, pre.length = n → (∀ t ∈ pre, t.nm ≠ z) → aGet (knE pre) z = none
  | 0, pre, hn, _ => by
    rw [List.eq_nil_of_length_eq_zero hn]
    rfl
  | n + 1, pre, hn, h => by
    obtain ⟨ts, t, rfl⟩ : ∃ ts t, pre = ts ++ [t] := ⟨pre.dropLast, pre.getLast (by intro e; rw [e] at hn; cases hn), (List.dropLast_concat_getLast _).symm⟩
    rw [knE_snoc, G.aGet_put, if_neg (fun e => h t (List.mem_append.mpr (.inr (.head _))) e.symm)]
    exact knE_out n (by rw [List.length_append] at hn; simpa using hn) fun u hu => h u (List.mem_append.mpr (.inl hu))
theorem knE_own {ths : List Th} (h : uniq ths) {u : Th} (m : u ∈ ths) : aGet (knE ths) u.nm = some (.str u.kd) := by
  have key : ∀ (n : Nat) {l : List Th}, l.length = n → uniq l → ∀ u ∈ l, aGet (knE l) u.nm = some (.str u.kd) := by
    intro n
    induction n with
    | zero =>
      intro l hl _ u hu
      rw [List.eq_nil_of_length_eq_zero hl] at hu
      cases hu
    | succ n ih =>
      intro l hl hq u hu
      obtain ⟨ts, t, rfl⟩ : ∃ ts t, l = ts ++ [t] := ⟨l.dropLast, l.getLast (by intro e; rw [e] at hl; cases hl), (List.dropLast_concat_getLast _).symm⟩
      have hq' : (ts.map (·.nm) ++ [t.nm]).Nodup := by
        have : ((ts ++ [t]).map (·.nm)).Nodup := hq
        rw [List.map_append] at this
        exact this
      obtain ⟨q1, _, q3⟩ := List.nodup_append.mp hq'
      rw [knE_snoc, G.aGet_put]
      rcases List.mem_append.mp hu with hu | hu
      · rw [if_neg (fun e => q3 u.nm (List.mem_map.mpr ⟨u, hu, rfl⟩) t.nm (.head _) e)]
        exact ih (by rw [List.length_append] at hl; simpa using hl) q1 u hu
      · rw [List.mem_singleton.mp hu, if_pos rfl]
  exact key _ rfl h u m
/-- the names of earlier sources and fields -/
def belowN (pre : List Th) : List D := (pre.filter fun t => t.kd == ("source" : Str) || t.kd == ("field" : Str)).map fun t => D.str t.nm
theorem overOk_below {pre : List Th} (h : uniq pre) (o : Str) : overOk pre o = memD (.str o) (belowN pre) := by
  by_cases q : ∃ u ∈ pre, u.nm = o
  · obtain ⟨u, hu, rfl⟩ := q
    unfold overOk
    rw [knE_own h hu]
    show hasS ["source", "field"] u.kd = _
    have e1 : hasS ["source", "field"] u.kd = (u.kd == ("source" : Str) || u.kd == ("field" : Str)) := by
      show ((("source" : Str) == u.kd) || ((("field" : Str) == u.kd) || false)) = _
      rw [Bool.or_false, Bool.beq_comm, Bool.beq_comm (a := ("field" : Str))]
    rw [e1]
    cases k : (u.kd == ("source" : Str) || u.kd == ("field" : Str)) with
    | true =>
      refine Eq.symm (List.any_eq_true.mpr ⟨.str u.nm, List.mem_map.mpr ⟨u, List.mem_filter.mpr ⟨hu, k⟩, rfl⟩, ?_⟩)
      rw [eqD_str]
      exact beq_self_eq_true _
    | false =>
      refine Eq.symm (List.any_eq_false.mpr fun x hx => ?_)
      obtain ⟨v, hv, rfl⟩ := List.mem_map.mp hx
      obtain ⟨hv1, hv2⟩ := List.mem_filter.mp hv
      rw [eqD_str]
      intro e
      have : v = u := uniq_inj h hv1 hu (by have := eq_of_beq e; first | exact this | exact this.symm)
      rw [this, k] at hv2
      cases hv2
  · have hn : ∀ t ∈ pre, t.nm ≠ o := fun t ht e => q ⟨t, ht, e⟩
    unfold overOk
    rw [knE_out _ rfl hn]
    refine Eq.symm (List.any_eq_false.mpr fun x hx => ?_)
    obtain ⟨v, hv, rfl⟩ := List.mem_map.mp hx
    obtain ⟨hv1, _⟩ := List.mem_filter.mp hv
    rw [eqD_str]
    intro e
    exact hn v hv1 (by have := eq_of_beq e; first | exact this | exact this.symm)
def spIsW (CT CS CW : Addr) : SpX := fun ds r P _ => ∃ (w : Addr) (A : SA) (S : Stk) (pre post : Rs), ds = [.adr w] ∧ r = pre ++ wld CT CS CW w A S post ∧ P (.bl false) r
abbrev N_World_is_watched : List Str := ["self"]
theorem sc_World_is_watched : FnScope N_World_is_watched ["self"] (defScope s_World_is_watched) := ⟨rfl, rfl, rfl, by decide +kernel, rfl, by decide +kernel, by decide +kernel⟩
theorem c_World_is_watched {CT CS CW : Addr} (K_World : KCls K mg "World" CW wdF) (Dx : DfP K CW "is_watched" "World.is_watched" s_World_is_watched ["self"]) : ClP P w K mg base 1 CW "is_watched" (spIsW CT CS CW) := by
  have sc := sc_World_is_watched
  refine clp_of Dx sc (fun ds r P' XR ⟨_, _, _, _, _, e, _⟩ => by rw [e]; rfl) (fun f cdv A outer s H E hr tk po => ?_)
  refine ⟨_, (ss_one (s_ret (d_cmp p_ns (d_fld (dv 0)) d_non))), fun ds r P' XR h => ?_⟩
  obtain ⟨w, A, S, pre, post, rfl, rfl, h⟩ := h
  exact wd_record (fit.of h)
def spItem06 (CT CS CW : Addr) : SpX := fun ds r P _ => ∃ (w : Addr) (A : SA) (S : Stk) (pre post : Rs) (d : D), ds = [.adr w, d] ∧ r = pre ++ wld CT CS CW w A S post ∧ S.th.length ≤ 100 ∧ dep d ≤ 60 ∧ (memD d (S.th.map fun t => .str t.nm) = false → P (.tup [.str "NoThing", d]) r) ∧ (memD d (S.th.map fun t => .str t.nm) = true → ∃ z e, d = .str z ∧ S.con z = some e ∧ P (.tup [.str "content", e]) r)
abbrev N__law_item : List Str := ["_law_world", "_law_name", "e"]
theorem sc__law_item : FnScope N__law_item ["_law_world", "_law_name"] (defScope s__law_item) := ⟨rfl, rfl, rfl, by decide +kernel, rfl, by decide +kernel, by decide +kernel⟩
theorem c__law_item {CT CS CW CTN : Addr} (B : Bl mg) (K_World : KCls K mg "World" CW wdF) (X_NoThing : ErrX P w K mg base "NoThing" CTN "name") (I_World : ClG P w K mg base 3 CW "__getitem__" (spGet CT CS CW CTN)) (Dx : Dfn K mg "_law_item" s__law_item ["_law_world", "_law_name"]) : Cl P w K mg base 5 "_law_item" ["_law_world", "_law_name"] (spItem06 CT CS CW) := by
  have sc := sc__law_item
  refine cl_of Dx sc (fun ds r P' XR ⟨_, _, _, _, _, _, e, _⟩ => by rw [e]; rfl) (fun f cdv A outer s H E hr tk po => ?_)
  have hu := hr.units
  refine ⟨_, (ss_one (s_try tk (fun W2 pn xe tk po => (ss_one (s_ret (d_tup (dl_cons d_str (dl_cons (d_gix I_World tk hr (dv 0) (dv 1)) dl_nil)))))) (.as (i := 2) sc.nd rfl rfl ⟨rfl, by decide, .inl X_NoThing.c.g⟩ (hcc (X_NoThing.exm X_NoThing.se) hc0) (fun a oe cls d pn hz hf => (ss_one (s_ret (d_tup (dl_cons d_str (dl_cons (d_xf (fm_cons ⟨X_NoThing.xf, X_NoThing.no⟩ fm_nil) hz hf (dv 2)) dl_nil)))))) .nil))), fun ds r P' XR h => ?_⟩
  obtain ⟨w, A, S, pre, post, d, rfl, rfl, hz, hd, h1, h2⟩ := h
  refine ⟨wd_isC, w, A, S, pre, post, d, rfl, rfl, hz, hd, fun q => ?_, fun q => ?_⟩
  · refine ⟨true, .head _, fun _ a dd hn => ?_, fun z => by cases z⟩
    cases dd with
    | none => cases (hn rfl).1
    | some dx => exact ⟨rfl, CTN, dx, _, _, 0, d, _, [], .head _, rfl, rfl, rfl, by decide, rfl, Nat.le_of_ble_eq_true rfl, _, le.drop, fit.of (h1 q)⟩
  · obtain ⟨z, e, rfl, hc, p⟩ := h2 q
    exact ⟨z, e, rfl, hc, Nat.le_of_ble_eq_true rfl, fit.of p⟩
def thT (t : Th) : D := .tup [.str t.kd, .str t.nm, .tup (t.ps.map .str)]
def fB (d : D) : Bool := match d with | .tup (.str k :: _) => (["source", "field"] : List Str).any fun y => y == k | _ => false
def due06 (ths : List Th) : D := match twice [] (nmsW ths) with
  | some x => .tup [.str "Twice", x]
  | none => match badF [] ths with
    | some o => .tup [.str "NoThing", .str o]
    | none => if 8 < ths.length then .tup [.str "TooMany", .int 8] else .non
def spDue06 : SpX := fun ds r P _ => ∃ ths : List Th, ds = [.lst (ths.map thT)] ∧ ths.length ≤ 9 ∧ (∀ t ∈ ths, t.kd = ("field" : Str) → ∃ u, t.ps = [u]) ∧ P (due06 ths) r
theorem tw_step {ths : List Th} {i : Nat} {t : Th} (ht : ths[i]? = some t) (h : twice (nmsW (ths.take i)) (nmsW (ths.drop i)) = twice [] (nmsW ths)) :
    (memD (.str t.nm) (nmsW (ths.take i)) = true → twice [] (nmsW ths) = some (.str t.nm)) ∧ (memD (.str t.nm) (nmsW (ths.take i)) = false → twice (nmsW (ths.take (i + 1))) (nmsW (ths.drop (i + 1))) = twice [] (nmsW ths)) := by
  have ed : ths.drop i = t :: ths.drop (i + 1) := by
    rw [← (List.getElem?_eq_some_iff.mp ht).2]
    exact List.drop_eq_getElem_cons (List.getElem?_eq_some_iff.mp ht).1
  have et : ths.take (i + 1) = ths.take i ++ [t] := by rw [List.take_add_one, ht]; rfl
  rw [ed] at h
  have h : (if memD (.str t.nm) (nmsW (ths.take i)) = true then some (D.str t.nm) else twice (nmsW (ths.take i) ++ [.str t.nm]) (nmsW (ths.drop (i + 1)))) = twice [] (nmsW ths) := h
  refine ⟨fun q => by rw [if_pos q] at h; exact h.symm, fun q => ?_⟩
  rw [if_neg (by rw [q]; decide)] at h
  rw [et]
  have : nmsW (ths.take i ++ [t]) = nmsW (ths.take i) ++ [.str t.nm] := by show List.map _ _ = _; rw [List.map_append]; rfl
  rw [this]
  exact h
abbrev N__law_due : List Str := ["_law_things", "_law_k", "_law_thing_here", "_law_below"]
theorem sc__law_due : FnScope N__law_due ["_law_things"] (defScope s__law_due) := ⟨rfl, rfl, rfl, by decide +kernel, rfl, by decide +kernel, by decide +kernel⟩
set_option maxHeartbeats 2000000 in
theorem c__law_due (B : Bl mg) (Dx : Dfn K mg "_law_due" s__law_due ["_law_things"]) : Cl P w K mg base 1 "_law_due" ["_law_things"] spDue06 := by
  have sc := sc__law_due
  refine cl_of Dx sc (fun ds r P' XR ⟨_, e, _⟩ => by rw [e]; rfl) (fun f cdv A outer s H E hr tk po => ?_)
  have hu := hr.units
  have hi := u65 hr
  refine ⟨_, (ss_cons (s_for (i_r1 (by rfl) B.range (dl_cons (d_blt c_len (by rfl) B.len (dl_cons (dv 0) dl_nil)) dl_nil)) (g_name (i := 1) sc.nd)
  (ss_one (s_if (b_cmp (p_in hi) (d_ix (d_ix (dv 0) (dv 1)) d_int) (d_lc (js := [2]) (own := [("_law_thing_here", 2)]) sc.nd (i_list (d_sl (dv 0) o_no (o_some (dv 1)))) (blkOk_by (own := [("_law_thing_here", 2)]) (N := N__law_due) (sc := defScope s__law_due) (by decide +kernel)) (fun _ _ _ _ _ => (g_name (i := 2) sc.nd)) (fun _ _ _ _ _ => pts_no) (fun _ _ _ _ _ => (d_ix (dv 2) d_int))))
  (ss_one (s_ret (d_tup (dl_cons d_str (dl_cons (d_ix (d_ix (dv 0) (dv 1)) d_int) dl_nil)))))
  ss_nil)) po)
  (ss_cons (s_for (i_r1 (by rfl) B.range (dl_cons (d_blt c_len (by rfl) B.len (dl_cons (dv 0) dl_nil)) dl_nil)) (g_name (i := 1) sc.nd)
  (ss_one (s_if (b_cmp (p_eq hu) (d_ix (d_ix (dv 0) (dv 1)) d_int) d_str)
  (ss_cons (s_setLc (i := 3) (js := [2]) (own := [("_law_thing_here", 2)]) sc.nd (i_list (d_sl (dv 0) o_no (o_some (dv 1)))) (blkOk_by (own := [("_law_thing_here", 2)]) (N := N__law_due) (sc := defScope s__law_due) (by decide +kernel)) (fun _ _ _ _ _ => (g_name (i := 2) sc.nd)) (fun _ _ _ _ _ => (pts_1 (b_cmp (p_in hi) (d_ix (dv 2) d_int) (d_tup (dl_cons d_str (dl_cons d_str dl_nil)))))) (fun _ _ _ _ _ => (dv 2)) (sw_true rfl rfl rfl (by decide +kernel)))
  (ss_one (s_if (b_cmp (p_notIn hi) (d_ix (d_ix (d_ix (dv 0) (dv 1)) d_int) d_int) (d_lc (js := [2]) (own := [("_law_thing_here", 2)]) sc.nd (i_list (dv 3)) (blkOk_by (own := [("_law_thing_here", 2)]) (N := N__law_due) (sc := defScope s__law_due) (by decide +kernel)) (fun _ _ _ _ _ => (g_name (i := 2) sc.nd)) (fun _ _ _ _ _ => pts_no) (fun _ _ _ _ _ => (d_ix (dv 2) d_int))))
  (ss_one (s_ret (d_tup (dl_cons d_str (dl_cons (d_ix (d_ix (d_ix (dv 0) (dv 1)) d_int) d_int) dl_nil)))))
  ss_nil)))
  ss_nil)) po)
  (ss_one (s_ret (d_if (b_cmp p_gt (d_blt c_len (by rfl) B.len (dl_cons (dv 0) dl_nil)) d_int) (d_tup (dl_cons d_str (dl_cons d_int dl_nil))) d_non))))), fun ds r P' XR h => ?_⟩
  obtain ⟨ths, rfl, h9, hf, h⟩ := h
  replace h := fit.of h
  unfold due06 at h
  have names : ∀ l : List Th, deps (nmsW l) ≤ 60 := fun l => deps_le (n := 60) fun x hx => by
    obtain ⟨v, _, rfl⟩ := List.mem_map.mp hx
    exact Nat.zero_le _
  refine fun _ => ⟨⟨by omega, by rw [List.length_map]; omega⟩, fun i δ r2 => (∃ x1 x2 x3, δ = [some (.lst (ths.map thT)), x1, x2, x3]) ∧ r2 = r ∧ i ≤ ths.length ∧ twice (nmsW (ths.take i)) (nmsW (ths.drop i)) = twice [] (nmsW ths), ⟨⟨_, _, _, rfl⟩, rfl, Nat.zero_le _, rfl⟩, ?_, ?_⟩
  · rintro i x δ r2 hx ⟨⟨x1, x2, x3, rfl⟩, rfl, hil, hb⟩
    have hi2 : i < ths.length := by
      have := (List.getElem?_eq_some_iff.mp hx).1
      simpa using this
    have ex : x = .int i := by
      have := (List.getElem?_eq_some_iff.mp hx).2
      simpa using this.symm
    subst ex
    obtain ⟨t, ht⟩ : ∃ t, ths[i]? = some t := ⟨_, List.getElem?_eq_getElem hi2⟩
    have ey : atI (ths.map thT) (i : Int) = some (thT t) := L2.atI_nat (by rw [List.getElem?_map, ht]; rfl)
    obtain ⟨f1, f2⟩ := tw_step ht hb
    refine ix_l ey (ix_t at1 (sl_l ?_))
    have ec : cutD (ths.map thT) none (some (i : Int)) = (ths.take i).map thT := by rw [cutD_to, List.map_take]
    rw [ec]
    refine lc_map (fun d => match d with | .tup [_, n, _] => n | _ => .non) (by unfold small; rw [List.length_map, List.length_take]; omega) (fun d hdm r3 P2 hP => ?_) ?_
    · obtain ⟨u, hu1, rfl⟩ := List.mem_map.mp hdm
      exact ix_t at1 hP
    have e3 : ((ths.take i).map thT).map (fun d => match d with | .tup [_, n, _] => n | _ => .non) = nmsW (ths.take i) := by rw [List.map_map]; rfl
    rw [e3]
    refine ⟨⟨Nat.zero_le _, Nat.le_trans (names _) (by decide), ?_⟩⟩
    show (memD (.str t.nm) (nmsW (ths.take i)) = true → _) ∧ (memD (.str t.nm) (nmsW (ths.take i)) = false → _)
    refine ⟨fun q => ?_, fun q => ⟨⟨_, _, _, rfl⟩, rfl, by omega, f2 q⟩⟩
    rw [f1 q] at h
    exact ix_l ey (ix_t at1 ⟨Nat.le_of_ble_eq_true rfl, h⟩)
  rintro δ r2 ⟨⟨x1, x2, x3, rfl⟩, rfl, hil, hb⟩
  have hln : (List.map (fun i : Nat => D.int (i : Int)) (List.range (Int.toNat (((ths.map thT).length : Nat) : Int)))).length = ths.length := by simp
  rw [hln, List.drop_length] at hb
  have hb : none = twice [] (nmsW ths) := hb
  rw [← hb] at h
  dsimp only at h
  have un : uniq ths := (uniq_of (s := []) hb.symm).1
  refine fun _ => ⟨⟨by omega, by rw [List.length_map]; omega⟩, fun i δ r3 => (∃ x1 x2 x3, δ = [some (.lst (ths.map thT)), x1, x2, x3]) ∧ r3 = r2 ∧ i ≤ ths.length ∧ badF (ths.take i) (ths.drop i) = badF [] ths, ⟨⟨_, _, _, rfl⟩, rfl, Nat.zero_le _, rfl⟩, ?_, ?_⟩
  · rintro i x δ r3 hx ⟨⟨x1, x2, x3, rfl⟩, rfl, hil, hb⟩
    have hi2 : i < ths.length := by
      have := (List.getElem?_eq_some_iff.mp hx).1
      simpa using this
    have ex : x = .int i := by
      have := (List.getElem?_eq_some_iff.mp hx).2
      simpa using this.symm
    subst ex
    obtain ⟨t, ht⟩ : ∃ t, ths[i]? = some t := ⟨_, List.getElem?_eq_getElem hi2⟩
    have ey : atI (ths.map thT) (i : Int) = some (thT t) := L2.atI_nat (by rw [List.getElem?_map, ht]; rfl)
    have hm := List.mem_of_getElem? ht
    have ed : ths.drop i = t :: ths.drop (i + 1) := by
      rw [← (List.getElem?_eq_some_iff.mp ht).2]
      exact List.drop_eq_getElem_cons hi2
    rw [ed] at hb
    have hb : (if t.kd == "field" && !overOk (ths.take i) (t.ps.headD "") then some (t.ps.headD "") else badF (ths.take i ++ [t]) (ths.drop (i + 1))) = badF [] ths := hb
    have et : ths.take i ++ [t] = ths.take (i + 1) := by rw [List.take_add_one, ht]; rfl
    rw [et] at hb
    refine ix_l ey (ix_t at0 ⟨Nat.zero_le _, Nat.zero_le _, ?_⟩)
    by_cases hk : t.kd = ("field" : Str)
    · obtain ⟨u, hu2⟩ := hf t hm hk
      rw [hk, hu2] at hb
      refine brt (by rw [eqD_str]; exact beq_iff_eq.mpr hk) (sl_l ?_)
      have ec : cutD (ths.map thT) none (some (i : Int)) = (ths.take i).map thT := by rw [cutD_to, List.map_take]
      rw [ec]
      refine lc_fm fB (fun d => d) (by unfold small; rw [List.length_map, List.length_take]; omega) (fun d hdm r4 Q1 Q2 h1 h2 => ?_) ?_
      · obtain ⟨v, hv, rfl⟩ := List.mem_map.mp hdm
        refine ix_t at0 ⟨Nat.le_of_ble_eq_true rfl, ?_⟩
        refine oIn_t (xs := ["source", "field"]) ?_
        exact ⟨h1, h2⟩
      rw [show ∀ l : List D, l.map (fun d => d) = l from fun l => List.map_id' l, List.filter_map]
      have el : (((ths.take i).filter (fB ∘ thT)).map thT).length ≤ 10 := by
        rw [List.length_map]
        exact Nat.le_trans (List.length_filter_le _ _) (by rw [List.length_take]; omega)
      refine ix_l ey (ix_t at2 ?_)
      rw [hu2]
      refine ix_t at0 ?_
      refine lc_map (fun d => match d with | .tup [_, n, _] => n | _ => .non) (by unfold small; omega) (fun d hdm r4 P2 hP => ?_) ?_
      · obtain ⟨t, ht, rfl⟩ := List.mem_map.mp hdm
        exact ix_t at1 hP
      have e3 : (((ths.take i).filter (fB ∘ thT)).map thT).map (fun d => match d with | .tup [_, n, _] => n | _ => .non) = belowN (ths.take i) := by
        rw [List.map_map]
        unfold belowN
        have : (fB ∘ thT) = fun t : Th => t.kd == ("source" : Str) || t.kd == ("field" : Str) := funext fun t => by
          show ((("source" : Str) == t.kd) || ((("field" : Str) == t.kd) || false)) = _
          rw [Bool.or_false, Bool.beq_comm, Bool.beq_comm (a := ("field" : Str))]
        rw [this]
        rfl
      rw [e3]
      have und : uniq (ths.take i) := by
        have : ((ths.take i).map (·.nm)) = (ths.map (·.nm)).take i := List.map_take
        show ((ths.take i).map (·.nm)).Nodup
        rw [this]
        exact (List.take_sublist i _).nodup un
      rw [overOk_below und] at hb
      have db : deps (belowN (ths.take i)) ≤ 60 := deps_le (n := 60) fun x hx => by
        obtain ⟨v, _, rfl⟩ := List.mem_map.mp hx
        exact Nat.zero_le _
      refine ⟨⟨Nat.zero_le _, Nat.le_trans db (by decide), ?_⟩⟩
      show (cond true (!memD (.str u) (belowN (ths.take i))) _ = true → _) ∧ (cond true (!memD (.str u) (belowN (ths.take i))) _ = false → _)
      rw [cond_true]
      cases hq : memD (.str u) (belowN (ths.take i)) with
      | true =>
        rw [if_neg (by show ¬ ((true && !memD (.str u) (belowN (ths.take i))) = true); rw [hq]; decide)] at hb
        exact brF ⟨⟨_, _, _, rfl⟩, rfl, by omega, hb⟩
      | false =>
        rw [if_pos (by show (true && !memD (.str u) (belowN (ths.take i))) = true; rw [hq]; rfl)] at hb
        rw [← hb] at h
        refine brT (ix_l ey (ix_t at2 ?_))
        rw [hu2]
        exact ix_t at0 ⟨Nat.le_of_ble_eq_true rfl, h⟩
    · refine brf (by rw [eqD_str]; exact beq_eq_false_iff_ne.mpr hk) ⟨⟨_, _, _, rfl⟩, rfl, by omega, ?_⟩
      rw [if_neg (by rw [beq_eq_false_iff_ne.mpr hk]; exact Bool.noConfusion)] at hb
      exact hb
  rintro δ r3 ⟨⟨x1, x2, x3, rfl⟩, rfl, hil, hb⟩
  rw [hln, List.drop_length] at hb
  have hb : none = badF [] ths := hb
  rw [← hb] at h
  dsimp only at h
  refine fun _ => ?_
  by_cases q8 : 8 < ths.length
  · rw [if_pos q8] at h
    exact brt (decide_eq_true (by rw [List.length_map]; omega)) ⟨Nat.le_of_ble_eq_true rfl, h⟩
  · rw [if_neg q8] at h
    exact brf (decide_eq_false (by rw [List.length_map]; omega)) h
theorem lcO_fm {x : XT} {g : AG} {te : AT} {tt : AB} {δw : Dl} {a : Addr} {ds : List D} {r1 : Rs} {P : PK1} (f : D → Bool) (e : D → D) (ow : Own r1 a ds) (hz : small ds.length)
    (he : ∀ d ∈ ds, ∀ (r' : Rs) (Q1 : PK1) (Q2 : Rs → Prop), (f d = true → Q1 (e d) r') → (f d = false → Q2 r') → g d δw fun δ2 => tt x δ2 r' fun b r2 => (b = true → te x δ2 r2 Q1) ∧ (b = false → Q2 r2)) (hP : P (.lst ((ds.filter f).map e)) r1) : aLcOK x g tt te δw a ds r1 P := by
  refine ⟨fun i acc r' => acc = ((ds.take i).filter f).map e ∧ r' = r1, ⟨rfl, rfl⟩, fun i acc r' h => h.2 ▸ ow, ?_, ?_⟩
  · rintro p i d acc r' hd ⟨rfl, rfl⟩
    have hi := (List.getElem?_eq_some_iff.mp hd).1
    refine he d (List.mem_of_getElem? hd) _ _ _ (fun q => ⟨?_, r', le.refl, ?_, rfl⟩) (fun q => ⟨r', le.refl, ?_, rfl⟩)
    · rw [List.length_map]
      have h1 := List.length_filter_le f (ds.take i)
      rw [List.length_take] at h1
      have : small ds.length := hz
      unfold small at *
      omega
    · rw [List.take_add_one, hd, List.filter_append, List.map_append]
      show _ = _ ++ List.map e (List.filter f [d])
      rw [List.filter_cons, q]
      rfl
    · rw [List.take_add_one, hd, List.filter_append, List.map_append]
      show _ = _ ++ List.map e (List.filter f [d])
      rw [List.filter_cons, q]
      simp
  · rintro acc r' ⟨rfl, rfl⟩
    rw [List.take_length]
    exact hP
theorem pickS {l : List Str} {k : Int} (h0 : 0 ≤ k) (h1 : k < (l.length : Nat)) : ∃ w, w ∈ l ∧ atI (l.map D.str) k = some (.str w) ∧ l[k.toNat]? = some w := by
  obtain ⟨n, rfl⟩ : ∃ n : Nat, k = n := ⟨k.toNat, by omega⟩
  have hn : n < l.length := by omega
  have e : l[n]? = some l[n] := List.getElem?_eq_getElem hn
  exact ⟨l[n], List.getElem_mem hn, L2.atI_nat (by rw [List.getElem?_map, e]; rfl), e⟩
theorem str_ne {a b : Str} (h : a ≠ b) : eqD (.str a) (.str b) = false := by
  rw [eqD_str]
  exact beq_eq_false_iff_ne.mpr h
def kinds7 : List Str := ["source", "field", "feed", "table", "dice", "flag", "slot"]
/-- a thing that is drawn -/
structure Th06 (t : Th) : Prop where
  nm : isNm t.nm = true
  kd : t.kd ∈ kinds7
  fd : t.kd = ("field" : Str) → ∃ u, t.ps = [u] ∧ isNm u = true
  tb : t.kd = ("table" : Str) → ∃ a b, t.ps = [a, b] ∧ a ≠ b ∧ isNm a = true ∧ isNm b = true
  el : t.kd ≠ ("field" : Str) → t.kd ≠ ("table" : Str) → t.ps = []
def spTof : SpX := fun ds r P _ => ∃ (p a : Addr) (N : Nat) (X : Rs), ds = [.adr p] ∧ r = poolA p a N :: X ∧ N < 100000 ∧ ∀ ths : List Th, ths.length ≤ 9 → (∀ t ∈ ths, Th06 t) → P (.lst (ths.map thT)) (poolA p a (N + 1000) :: X)
abbrev N__law_things_of : List Str := ["_law_pool_here", "_law_stock", "_law_things", "_law_k", "_law_kind", "_law_pick", "_law_name", "_law_roots", "_law_below", "_law_parts", "_law_thing_here"]
theorem sc__law_things_of : FnScope N__law_things_of ["_law_pool_here"] (defScope s__law_things_of) := ⟨rfl, rfl, rfl, by decide +kernel, rfl, by decide +kernel, by decide +kernel⟩
set_option maxHeartbeats 4000000 in
theorem c__law_things_of (B : Bl mg) (C__law_draw : Cl P w K mg base 1 "_law_draw" ["_law_pool_here", "_law_many"] spDraw) (C__law_names : Cl P w K mg base 2 "_law_names" ["_law_pool_here", "_law_many"] spNames) (C__law_word : Cl P w K mg base 2 "_law_word" ["_law_pool_here"] spWord) (Dx : Dfn K mg "_law_things_of" s__law_things_of ["_law_pool_here"]) : Cl P w K mg base 3 "_law_things_of" ["_law_pool_here"] spTof := by
  have sc := sc__law_things_of
  refine cl_of Dx sc (fun ds r P' XR ⟨_, _, _, _, e, _⟩ => by rw [e]; rfl) (fun f cdv A outer s H E hr tk po => ?_)
  have hu := hr.units
  have hi := u65 hr
  refine ⟨_, (ss_cons (s_set (i := 1) sc.nd (d_fn C__law_names tk hr (dl_cons (dv 0) (dl_cons d_int dl_nil))))
  (ss_cons (s_set (i := 2) sc.nd (d_lstO dl_nil))
  (ss_cons (s_for (i_r1 (by rfl) B.range (dl_cons (d_fn C__law_draw tk hr (dl_cons (dv 0) (dl_cons d_int dl_nil))) dl_nil)) (g_name (i := 3) sc.nd)
  (ss_cons (s_set (i := 4) sc.nd (d_ix (d_lst (dl_cons d_str (dl_cons d_str (dl_cons d_str (dl_cons d_str (dl_cons d_str (dl_cons d_str (dl_cons d_str dl_nil)))))))) (d_fn C__law_draw tk hr (dl_cons (dv 0) (dl_cons d_int dl_nil)))))
  (ss_cons (s_set (i := 5) sc.nd (d_fn C__law_draw tk hr (dl_cons (dv 0) (dl_cons d_int dl_nil))))
  (ss_cons (s_set (i := 6) sc.nd (d_ix (dv 1) (dv 3)))
  (ss_cons (s_cut (s_if (b_cmp p_gt (dv 5) d_int)
  (ss_one (s_set (i := 6) sc.nd (d_if (b_cmp (p_eq hu) (dv 5) d_int) (d_fn C__law_word tk hr (dl_cons (dv 0) dl_nil)) (d_ix (dv 1) (d_fn C__law_draw tk hr (dl_cons (dv 0) (dl_cons d_int dl_nil)))))))
  ss_nil))
  (ss_cons (s_setLcO (i := 7) (js := [10]) (own := [("_law_thing_here", 10)]) sc.nd (dv 2) (blkOk_by (own := [("_law_thing_here", 10)]) (N := N__law_things_of) (sc := defScope s__law_things_of) (by decide +kernel)) (fun _ _ _ _ _ => (g_name (i := 10) sc.nd)) (fun _ _ _ _ _ => (pts_1 (b_cmp (p_in hi) (d_ix (dv 10) d_int) (d_tup (dl_cons d_str (dl_cons d_str dl_nil)))))) (fun _ _ _ _ _ => (dv 10)) (sw_true rfl rfl rfl (by decide +kernel)))
  (ss_cons (s_setLcN (i := 8) (js := [10]) (own := [("_law_thing_here", 10)]) sc.nd (i_list (dv 7)) (blkOk_by (own := [("_law_thing_here", 10)]) (N := N__law_things_of) (sc := defScope s__law_things_of) (by decide +kernel)) (fun _ _ _ _ _ => (g_name (i := 10) sc.nd)) (fun _ _ _ _ _ => pts_no) (fun _ _ _ _ _ => (d_ix (dv 10) d_int)) (sw_true rfl rfl rfl (by decide +kernel)))
  (ss_cons (s_expr (d_app (dv 8) (dl_cons (d_ix (dv 1) (d_fn C__law_draw tk hr (dl_cons (dv 0) (dl_cons d_int dl_nil)))) dl_nil)))
  (ss_cons (s_set (i := 9) sc.nd (d_tup dl_nil))
  (ss_cons (s_if (b_cmp (p_eq hu) (dv 4) d_str)
  (ss_one (s_set (i := 9) sc.nd (d_tup (dl_cons (d_ixO (dv 8) (d_fn C__law_draw tk hr (dl_cons (dv 0) (dl_cons (d_blt2 c_lenO (by rfl) B.len (dl_cons (dv 8) dl_nil)) dl_nil)))) dl_nil))))
  ss_nil)
  (ss_cons (s_if (b_cmp (p_eq hu) (dv 4) d_str)
  (ss_one (s_set (i := 9) sc.nd (d_ty c_tuple (by rfl) B.tuple (dl_cons (d_fn C__law_names tk hr (dl_cons (dv 0) (dl_cons d_int dl_nil))) dl_nil))))
  ss_nil)
  (ss_one (s_melt 8 (s_expr (d_app (dv 2) (dl_cons (d_tup (dl_cons (dv 4) (dl_cons (dv 6) (dl_cons (dv 9) dl_nil)))) dl_nil))))))))))))))) po)
  (ss_one (s_melt 2 (s_ret (dv 2))))))), fun ds r P' XR h => ?_⟩
  obtain ⟨p, a, N, X, rfl, rfl, hN, hP⟩ := h
  refine ⟨p, a, N, X, 9, rfl, rfl, by omega, by decide, fun zs hzl hnd hnm => ⟨Nat.le_of_ble_eq_true rfl, fun q => ⟨p, a, 10, _, _, rfl, rfl, ⟨by decide, by decide⟩, by omega, fun k k0 k1 => ?_⟩⟩⟩
  obtain ⟨k, rfl⟩ : ∃ n : Nat, k = n := ⟨k.toNat, by omega⟩
  have pk : ∀ j : Int, 0 ≤ j → j < 9 → ∃ z, isNm z = true ∧ atI (zs.map D.str) j = some (.str z) := fun j j0 j9 => by
    obtain ⟨c, rfl⟩ : ∃ c : Nat, j = c := ⟨j.toNat, by omega⟩
    obtain ⟨z, hzc⟩ : ∃ z, zs[c]? = some z := ⟨zs[c]'(by omega), List.getElem?_eq_getElem _⟩
    exact ⟨z, hnm z (List.mem_of_getElem? hzc), L2.atI_nat (by rw [List.getElem?_map, hzc]; rfl)⟩
  refine ⟨⟨by omega, by omega⟩, fun i δ r => (∃ e3 e4 e5 e6 e7 e8 e9 e10, δ = [some (.adr p), some (.lst (zs.map .str)), some (.adr q), e3, e4, e5, e6, e7, e8, e9, e10]) ∧ ∃ m acc, m ≤ N + 75 + 60 * i ∧ acc.length = i ∧ (∀ t ∈ acc, Th06 t) ∧ r = (poolA p a m :: X) ++ [lstA q (acc.map thT)], ⟨⟨_, _, _, _, _, _, _, _, rfl⟩, N + 75, [], by omega, rfl, fun _ h => (by cases h), rfl⟩, ?_, ?_⟩
  · rintro i d δ r hd ⟨⟨e3, e4, e5, e6, e7, e8, e9, e10, rfl⟩, m, acc, hm, hl, ht, rfl⟩
    have hi9 : i < 9 := by
      have := (List.getElem?_eq_some_iff.mp hd).1
      rw [List.length_map, List.length_range] at this
      omega
    have hik : i < k := by
      have := (List.getElem?_eq_some_iff.mp hd).1
      rw [List.length_map, List.length_range] at this
      omega
    have ed : d = .int (i : Nat) := by
      rw [List.getElem?_map, List.getElem?_range (by omega)] at hd
      exact (Option.some.inj hd).symm
    subst ed
    obtain ⟨zi, hzi, azi⟩ := pk i (by omega) (by omega)
    have sz : small ((acc.map thT).length + 1) := by
      rw [List.length_map]
      show acc.length + 1 ≤ 1000000
      omega
    refine ⟨Nat.le_of_ble_eq_true rfl, p, a, 7, m, X ++ [lstA q _], rfl, rfl, ⟨by decide, by decide⟩, by omega, fun c c0 c7 => ?_⟩
    obtain ⟨kd, hkd, hat, _⟩ := pickS (l := kinds7) c0 (by exact c7)
    refine ix_l hat ⟨p, a, 8, m + 1, X ++ [lstA q _], rfl, rfl, ⟨by decide, by decide⟩, by omega, fun pi p0 p8 => ix_l azi ?_⟩
    refine ⟨fun δ r => (∃ nm m2, isNm nm = true ∧ m2 ≤ m + 12 ∧ δ = [some (.adr p), some (.lst (zs.map .str)), some (.adr q), some (.int (i : Nat)), some (.str kd), some (.int pi), some (.str nm), e7, e8, e9, e10] ∧ r = poolA p a m2 :: (X ++ [lstA q (acc.map thT)])), ?_, ?_⟩
    · refine ⟨fun _ => ⟨Nat.zero_le _, Nat.zero_le _, ⟨fun _ => ?_, fun _ => ?_⟩⟩, fun _ => ⟨zi, m + 2, hzi, by omega, rfl, rfl⟩⟩
      · exact ⟨p, a, m + 2, _, rfl, rfl, by omega, fun z hz => ⟨z, _, hz, by omega, rfl, rfl⟩⟩
      · refine ⟨p, a, 9, m + 2, _, rfl, rfl, ⟨by decide, by decide⟩, by omega, fun j j0 j9 => ?_⟩
        obtain ⟨z, hz1, hz2⟩ := pk j j0 j9
        exact ix_l hz2 ⟨z, _, hz1, by omega, rfl, rfl⟩
    rintro _ _ ⟨nm, m2, hnm2, hm2, rfl, rfl⟩
    refine ⟨q, acc.map thT, rfl, lcO_fm fB (fun d => d) ⟨poolA p a m2 :: X, [], rfl⟩ (by rw [List.length_map]; show acc.length ≤ 1000000; omega) (fun d hd r' Q1 Q2 q1 q2 => ?_) ?_⟩
    · obtain ⟨u, hu, rfl⟩ := List.mem_map.mp hd
      exact ix_t at0 ⟨Nat.le_of_ble_eq_true rfl, oIn_t (xs := ["source", "field"]) ⟨fun h => q1 h, q2⟩⟩
    rw [List.map_id', List.filter_map]
    obtain ⟨bs, hbs⟩ : ∃ bs, bs = acc.filter (fB ∘ thT) := ⟨_, rfl⟩
    rw [← hbs]
    have lb : bs.length ≤ 9 := by
      have := List.length_filter_le (fB ∘ thT) acc
      rw [← hbs] at this
      omega
    have nb : ∀ u ∈ bs, isNm u.nm = true := fun u hu => by
      rw [hbs] at hu
      exact (ht u (List.mem_filter.mp hu).1).nm
    refine lcN_map (fun d => match d with | .tup [_, n, _] => n | _ => .non) (by rw [List.length_map]; show bs.length ≤ 1000000; omega) (fun d hd r' P2 hP2 => ?_) fun b => ?_
    · obtain ⟨u, hu, rfl⟩ := List.mem_map.mp hd
      exact ix_t at1 hP2
    have eb : (bs.map thT).map (fun d => match d with | .tup [_, n, _] => n | _ => .non) = (bs.map (·.nm)).map D.str := by rw [List.map_map, List.map_map]; rfl
    rw [eb]
    refine ⟨b, _, rfl, ⟨poolA p a m2 :: (X ++ [lstA q (acc.map thT)]), [], rfl⟩, p, a, 9, m2, (X ++ [lstA q (acc.map thT)]) ++ [lstA b ((bs.map (·.nm)).map D.str)], rfl, rfl, ⟨by decide, by decide⟩, by omega, fun j j0 j9 => ?_⟩
    obtain ⟨zj, hzj, azj⟩ := pk j j0 j9
    refine ix_l azj ⟨⟨poolA p a (m2 + 1) :: (X ++ [lstA q (acc.map thT)]), (bs.map (·.nm)).map D.str, [], .str zj, rfl, rfl, by rw [List.length_map, List.length_map]; show bs.length + 1 ≤ 1000000; omega, ?_⟩⟩
    have eb2 : (bs.map (·.nm)).map D.str ++ [D.str zj] = (bs.map (·.nm) ++ [zj]).map D.str := by rw [List.map_append]; rfl
    rw [eb2]
    obtain ⟨ws, hws⟩ : ∃ ws, ws = bs.map (·.nm) ++ [zj] := ⟨_, rfl⟩
    rw [← hws]
    have lw : 0 < ws.length ∧ ws.length ≤ 10 := by rw [hws, List.length_append, List.length_map, List.length_singleton]; omega
    have nw : ∀ z ∈ ws, isNm z = true := fun z hz => by
      rw [hws] at hz
      rcases List.mem_append.mp hz with hz | hz
      · obtain ⟨u, hu, rfl⟩ := List.mem_map.mp hz
        exact nb u hu
      · rw [List.mem_singleton.mp hz]; exact hzj
    refine ⟨Nat.zero_le _, Nat.zero_le _, Nat.zero_le _, ?_⟩
    have fin : ∀ {m' : Nat} {t : Th} {δ : Dl}, m' ≤ m + 60 → Th06 t → (∃ e3 e4 e5 e6 e7 e8 e9 e10, δ = [some (.adr p), some (.lst (zs.map .str)), some (.adr q), e3, e4, e5, e6, e7, e8, e9, e10]) →
      (∃ e3 e4 e5 e6 e7 e8 e9 e10, δ = [some (.adr p), some (.lst (zs.map .str)), some (.adr q), e3, e4, e5, e6, e7, e8, e9, e10]) ∧ ∃ (m2 : Nat) (acc2 : List Th), m2 ≤ N + 75 + 60 * (i + 1) ∧ acc2.length = i + 1 ∧ (∀ t ∈ acc2, Th06 t) ∧ (poolA p a m' :: X) ++ lstA q (acc.map thT ++ [thT t]) :: [] = (poolA p a m2 :: X) ++ [lstA q (acc2.map thT)] := fun {m' t δ} h1 h2 h3 => ⟨h3, m', acc ++ [t], by omega, by rw [List.length_append, List.length_singleton, hl], fun u hu => (List.mem_append.mp hu).elim (ht u) fun e => (List.mem_singleton.mp e) ▸ h2, by rw [List.map_append]; rfl⟩
    by_cases hF : kd = "field"
    · subst hF
      refine brT ⟨⟨b, ws.map D.str, rfl, ⟨poolA p a (m2 + 1) :: (X ++ [lstA q (acc.map thT)]), [], rfl⟩, fun _ => ⟨p, a, _, m2 + 1, (X ++ [lstA q (acc.map thT)]) ++ [lstA b (ws.map D.str)], rfl, rfl, ⟨by rw [List.length_map]; omega, by rw [List.length_map]; omega⟩, by omega, fun c2 d0 d1 => ?_⟩⟩⟩
      rw [List.length_map] at d1
      obtain ⟨u, hu, hua, _⟩ := pickS (l := ws) d0 d1
      refine ⟨⟨b, ws.map D.str, c2, .str u, rfl, rfl, ⟨poolA p a (m2 + 2) :: (X ++ [lstA q (acc.map thT)]), [], rfl⟩, hua, Nat.le_of_ble_eq_true rfl, Nat.zero_le _, Nat.zero_le _, brF ⟨b, _, poolA p a (m2 + 2) :: (X ++ [lstA q (acc.map thT)]), [], rfl, rfl, ?_⟩⟩⟩
      rw [List.append_nil]
      exact ⟨q, acc.map thT, rfl, ⟨poolA p a (m2 + 2) :: X, [], rfl⟩, Nat.le_of_ble_eq_true rfl, ⟨⟨poolA p a (m2 + 2) :: X, _, [], _, rfl, rfl, sz, fin (m' := m2 + 2) (t := ⟨"field", nm, [u]⟩) (by omega) ⟨hnm2, hkd, fun _ => ⟨u, rfl, nw u hu⟩, fun e => absurd (show ("field" : Str) = "table" from e) (by decide), fun e => absurd rfl e⟩ ⟨_, _, _, _, _, _, _, _, rfl⟩⟩⟩⟩
    refine brf (str_ne hF) ⟨Nat.zero_le _, Nat.zero_le _, ?_⟩
    by_cases hT : kd = "table"
    · subst hT
      refine brT ⟨p, a, m2 + 1, (X ++ [lstA q (acc.map thT)]) ++ [lstA b (ws.map D.str)], 2, rfl, rfl, by omega, by decide, fun ks hkl hknd hkn => ⟨b, _, poolA p a (m2 + 1 + 2 + 8 * 2) :: (X ++ [lstA q (acc.map thT)]), [], rfl, rfl, ?_⟩⟩
      rw [List.append_nil]
      match ks, hkl, hknd, hkn with
      | [k1, k2], _, hknd, hkn =>
        have hne : k1 ≠ k2 := fun e => by
          subst e
          exact (List.nodup_cons.mp hknd).1 (.head _)
        exact ⟨q, acc.map thT, rfl, ⟨poolA p a (m2 + 1 + 2 + 8 * 2) :: X, [], rfl⟩, Nat.le_of_ble_eq_true rfl, ⟨⟨poolA p a (m2 + 1 + 2 + 8 * 2) :: X, _, [], _, rfl, rfl, sz, fin (m' := m2 + 1 + 2 + 8 * 2) (t := ⟨"table", nm, [k1, k2]⟩) (by omega) ⟨hnm2, hkd, fun e => absurd (show ("table" : Str) = "field" from e) (by decide), fun _ => ⟨k1, k2, rfl, hne, hkn k1 (.head _), hkn k2 (.tail _ (.head _))⟩, fun _ e => absurd rfl e⟩ ⟨_, _, _, _, _, _, _, _, rfl⟩⟩⟩⟩
    refine brf (str_ne hT) ⟨b, _, poolA p a (m2 + 1) :: (X ++ [lstA q (acc.map thT)]), [], rfl, rfl, ?_⟩
    rw [List.append_nil]
    exact ⟨q, acc.map thT, rfl, ⟨poolA p a (m2 + 1) :: X, [], rfl⟩, Nat.le_of_ble_eq_true rfl, ⟨⟨poolA p a (m2 + 1) :: X, _, [], _, rfl, rfl, sz, fin (m' := m2 + 1) (t := ⟨kd, nm, []⟩) (by omega) ⟨hnm2, hkd, fun e => absurd e hF, fun e => absurd e hT, fun _ _ => rfl⟩ ⟨_, _, _, _, _, _, _, _, rfl⟩⟩⟩⟩
  · rintro δ r ⟨⟨e3, e4, e5, e6, e7, e8, e9, e10, rfl⟩, m, acc, hm, hl, ht, rfl⟩
    rw [List.length_map, List.length_range] at hm hl
    refine ⟨q, _, poolA p a m :: X, [], rfl, rfl, ?_⟩
    rw [List.append_nil]
    exact ⟨_, pool_mono (by omega), hP acc (by omega) ht⟩
def c0K (kd : Str) : D := if kd == "feed" then .tup [.int 0, .int 0, .int 0] else con0 kd
theorem aPut_newK {l : List (Str × D)} {k : Str} {d : D} (h : k ∉ l.map (·.1)) : aPut l k d = l ++ [(k, d)] := by
  unfold aPut
  rw [if_neg]
  intro q
  obtain ⟨e, he, hz⟩ := List.any_eq_true.mp q
  exact h (of_decide_eq_true hz ▸ List.mem_map_of_mem (f := (·.1)) he)
theorem bdPut_newK {l : List (Str × Nat)} {k : Str} {n : Nat} (h : k ∉ l.map (·.1)) : bdPut l k n = l ++ [(k, n)] := by
  unfold bdPut
  rw [if_neg]
  intro q
  obtain ⟨e, he, hz⟩ := List.any_eq_true.mp q
  exact h (of_decide_eq_true hz ▸ List.mem_map_of_mem (f := (·.1)) he)
theorem bdAt_memK {l : List (Str × Nat)} {k : Str} {n : Nat} (h : bdAt l k = some n) : (k, n) ∈ l := by
  unfold bdAt at h
  cases q : l.find? fun e => decide (e.1 = k) with
  | none => rw [q] at h; cases h
  | some e =>
    rw [q] at h
    have h : e.2 = n := Option.some.inj h
    have h1 : e.1 = k := of_decide_eq_true (List.find?_some (p := fun e : Str × Nat => decide (e.1 = k)) q)
    rw [← h, ← h1]
    exact List.mem_of_find?_eq_some q
/-- the first things of a new stock -/
structure StkI (ths : List Th) (i : Nat) (S : Stk) : Prop where
  th : S.th = ths
  hk : S.held.map (·.1) = ((ths.take i).filter fun t : Th => !(t.kd == ("feed" : Str))).map (·.nm)
  bk : S.bd.map (·.1) = ((ths.take i).filter fun t : Th => t.kd == ("feed" : Str)).map (·.nm)
  sp : S.sp.length ≤ i
  bi : ∀ e ∈ S.bd, e.2 < S.sp.length
  co : ∀ t ∈ ths.take i, S.con t.nm = some (c0K t.kd)
  ch : ∀ t ∈ ths.take i, (t.kd == "feed") = false → aGet S.held t.nm = some (con0 t.kd)
theorem con_add {S : Stk} {t : Th} (hb : t.nm ∉ S.bd.map (·.1)) (bi : ∀ e ∈ S.bd, e.2 < S.sp.length) (z : Str) : (S.add t).con z = if z = t.nm then some (c0K t.kd) else S.con z := by
  unfold Stk.add c0K
  cases k : t.kd == "feed" with
  | true =>
    rw [if_pos rfl, if_pos rfl]
    show (match bdAt (bdPut S.bd t.nm S.sp.length) z with | some n => ((S.sp ++ [(⟨0, 0, 0⟩ : Sp3)])[n]?).map Sp3.d | none => aGet S.held z) = _
    rw [bdAt_put]
    by_cases e : z = t.nm
    · rw [if_pos e, if_pos e]
      dsimp only
      rw [List.getElem?_append_right (Nat.le_refl _), Nat.sub_self]
      rfl
    · rw [if_neg e, if_neg e]
      show _ = (match bdAt S.bd z with | some n => (S.sp[n]?).map Sp3.d | none => aGet S.held z)
      cases q : bdAt S.bd z with
      | none => rfl
      | some n =>
        dsimp only
        rw [List.getElem?_append_left (bi (z, n) (bdAt_memK q))]
  | false =>
    simp only [Bool.false_eq_true, ↓reduceIte]
    show (match bdAt S.bd z with | some n => (S.sp[n]?).map Sp3.d | none => aGet (aPut S.held t.nm (con0 t.kd)) z) = _
    by_cases e : z = t.nm
    · rw [if_pos e]
      cases q : bdAt S.bd z with
      | some n => exact absurd (List.mem_map.mpr ⟨(z, n), bdAt_memK q, e⟩) hb
      | none =>
        dsimp only
        rw [aGet_put, if_pos e]
    · rw [if_neg e]
      show _ = (match bdAt S.bd z with | some n => (S.sp[n]?).map Sp3.d | none => aGet S.held z)
      cases q : bdAt S.bd z with
      | some n => rfl
      | none =>
        dsimp only
        rw [aGet_put, if_neg e]
theorem stkT_I {ths : List Th} (hu : uniq ths) : ∀ i, i ≤ ths.length → StkI ths i (stkT ths i)
  | 0, _ => ⟨rfl, rfl, rfl, Nat.le_refl _, fun _ h => (by cases h), fun _ h => (by cases h), fun _ h => (by cases h)⟩
  | i + 1, hi => by
    have ih := stkT_I hu i (by omega)
    have ht : ths[i]? = some ths[i] := List.getElem?_eq_getElem (by omega)
    obtain ⟨t, et⟩ : ∃ t, t = ths[i] := ⟨_, rfl⟩
    rw [← et] at ht
    have tk : ths.take (i + 1) = ths.take i ++ [t] := by rw [List.take_add_one, ht]; rfl
    have hnew : t.nm ∉ (ths.take i).map (·.nm) := fun m => by
      obtain ⟨t', ht', e⟩ := List.mem_map.mp m
      obtain ⟨j, hj⟩ := List.mem_iff_getElem?.mp ht'
      have hji : j < i := by
        have := (List.getElem?_eq_some_iff.mp hj).1
        rw [List.length_take] at this
        omega
      have hj2 : ths[j]? = some t' := by rw [List.getElem?_take_of_lt hji] at hj; exact hj
      have n := List.pairwise_iff_getElem.mp hu j i (by rw [List.length_map]; omega) (by rw [List.length_map]; omega) hji
      rw [List.getElem_map, List.getElem_map, (List.getElem?_eq_some_iff.mp hj2).2, ← et] at n
      exact n e
    have sub : ∀ (f : Th → Bool), t.nm ∉ ((ths.take i).filter f).map (·.nm) := fun f m => by
      obtain ⟨u, hu1, hu2⟩ := List.mem_map.mp m
      exact hnew (List.mem_map.mpr ⟨u, (List.mem_filter.mp hu1).1, hu2⟩)
    have hb : t.nm ∉ (stkT ths i).bd.map (·.1) := by rw [ih.bk]; exact sub _
    have hh : t.nm ∉ (stkT ths i).held.map (·.1) := by rw [ih.hk]; exact sub _
    have co : ∀ u ∈ ths.take (i + 1), ((stkT ths i).add t).con u.nm = some (c0K u.kd) := fun u hu => by
      rw [con_add hb ih.bi]
      rw [tk] at hu
      rcases List.mem_append.mp hu with hu | hu
      · rw [if_neg (fun e => hnew (List.mem_map.mpr ⟨u, hu, e⟩))]
        exact ih.co u hu
      · rw [List.mem_singleton.mp hu, if_pos rfl]
    rw [stkT_add ht]
    refine ⟨?_, ?_, ?_, ?_, ?_, co, ?_⟩
    · rw [(add_th _ _).1]; exact ih.th
    · rw [tk, List.filter_append, List.map_append, ← ih.hk]
      unfold Stk.add
      cases k : t.kd == "feed" with
      | true => rw [if_pos rfl, List.filter_cons, k]; simp
      | false =>
        rw [if_neg (by decide), List.filter_cons, k]
        show (aPut _ t.nm _).map (·.1) = _
        rw [aPut_newK hh, List.map_append]
        rfl
    · rw [tk, List.filter_append, List.map_append, ← ih.bk]
      unfold Stk.add
      cases k : t.kd == "feed" with
      | false => rw [if_neg (by decide), List.filter_cons, k]; simp [Stk.put]
      | true =>
        rw [if_pos rfl, List.filter_cons, k]
        show (bdPut _ t.nm _).map (·.1) = _
        rw [bdPut_newK hb, List.map_append]
        rfl
    · have := (add_th (stkT ths i) t).2.2.2.2.2.2
      have := ih.sp
      omega
    · unfold Stk.add
      cases k : t.kd == "feed" with
      | false => rw [if_neg (by decide)]; exact ih.bi
      | true =>
        rw [if_pos rfl]
        intro e he
        show e.2 < ((stkT ths i).sp ++ [_]).length
        rw [List.length_append, List.length_singleton]
        have he : e ∈ bdPut (stkT ths i).bd t.nm (stkT ths i).sp.length := he
        rw [bdPut_newK hb] at he
        rcases List.mem_append.mp he with he | he
        · have := ih.bi e he; omega
        · rw [List.mem_singleton.mp he]; show (stkT ths i).sp.length < _; omega
    · intro u hu ku
      rw [tk] at hu
      unfold Stk.add
      rcases List.mem_append.mp hu with hu | hu
      · cases k : t.kd == "feed" with
        | true => rw [if_pos rfl]; exact ih.ch u hu ku
        | false =>
          rw [if_neg (by decide)]
          show aGet (aPut _ t.nm _) u.nm = _
          rw [aGet_put, if_neg (fun e => hnew (List.mem_map.mpr ⟨u, hu, e⟩))]
          exact ih.ch u hu ku
      · have e := List.mem_singleton.mp hu
        subst e
        rw [if_neg (by rw [ku]; decide)]
        show aGet (aPut _ u.nm _) u.nm = _
        rw [aGet_put, if_pos rfl]
theorem stk0_I {ths : List Th} (hu : uniq ths) : StkI ths ths.length (stk0 ths) := by
  have e : stkT ths ths.length = stk0 ths := by unfold stkT stk0; rw [List.take_length]
  rw [← e]
  exact stkT_I hu _ (Nat.le_refl _)
theorem stk0_con {ths : List Th} (hu : uniq ths) {t : Th} (m : t ∈ ths) : (stk0 ths).con t.nm = some (c0K t.kd) := (stk0_I hu).co t (by rw [List.take_length]; exact m)
theorem twice_none : ∀ {zs s : List Str}, zs.Nodup → (∀ z ∈ zs, z ∉ s) → twice (s.map .str) (zs.map .str) = none
  | [], _, _, _ => rfl
  | z :: zs, s, hn, hs => by
    obtain ⟨h1, h2⟩ := List.nodup_cons.mp hn
    show (if memD (.str z) (s.map .str) = true then some (D.str z) else twice (s.map .str ++ [.str z]) (zs.map .str)) = none
    have q : memD (.str z) (s.map .str) = false := by
      rw [memD_strs, Bool.eq_false_iff]
      intro h
      obtain ⟨y, hy, e⟩ := List.any_eq_true.mp h
      exact hs z List.mem_cons_self (eq_of_beq e ▸ hy)
    rw [if_neg (by rw [q]; decide), show s.map D.str ++ [.str z] = (s ++ [z]).map .str by rw [List.map_append]; rfl]
    refine twice_none h2 fun y hy m => ?_
    rcases List.mem_append.mp m with m | m
    · exact hs y (List.mem_cons_of_mem _ hy) m
    · rw [List.mem_singleton] at m
      subst m
      exact h1 hy
theorem table_ok {CT CB CT2 CTM : Addr} {z : Str} {ks : List Str} {r : Rs} {P : PK1} {XX : XD} (hz : isNm z = true) (hk : ks.length ≤ 4) (hnd : ks.Nodup) (hnm : ∀ k ∈ ks, isNm k = true) (h : P (.ins CT thF [.str "table", .str z, .tup (ks.map .str)]) r) : spTable CT CB CT2 CTM [.str z, .tup (ks.map .str)] r P XX := by
  have hn : ∀ x ∈ D.str z :: ks.map .str, isNameD x = true := fun x hx => by
    rcases List.mem_cons.mp hx with rfl | hx
    · exact hz
    · obtain ⟨k, hk, rfl⟩ := List.mem_map.mp hx
      exact hnm k hk
  refine ⟨.str z, ks.map .str, rfl, by rw [List.length_map]; omega, rfl, fun x hx => ?_, fun x hx => ?_, fun _ => ⟨fun x hx => ?_, fun _ => ⟨fun h4 => ?_, fun _ => h⟩⟩⟩
  · obtain ⟨k, hk, rfl⟩ := List.mem_map.mp hx
    rfl
  · have q := List.find?_some (p := fun d => !isNameD d) hx
    rw [hn x (List.mem_of_find?_eq_some hx)] at q
    cases q
  · rw [show twice [] (ks.map .str) = none from twice_none (s := []) hnd (fun z hz h => by cases h)] at hx
    cases hx
  · rw [List.length_map] at h4
    omega
theorem th_self {CT : Addr} {t : Th} {r : Rs} : SelfEq CT (spThEq CT) r (thD CT t) := by
  have pp : plain (.tup (t.ps.map D.str)) = true ∨ True := .inr True.intro
  have dps : deps (t.ps.map D.str) ≤ 0 := G.deps_le fun d hd => by
    obtain ⟨z, _, rfl⟩ := List.mem_map.mp hd
    exact Nat.le_refl _
  have hth : isTh CT (thD CT t) = true := by
    show (CT == CT && ((thF == thF) && (decide (0 ≤ 64) && (decide (0 ≤ 64) && decide (dep (.tup (t.ps.map D.str)) ≤ 64))))) = true
    rw [beq_self_eq_true, beq_self_eq_true, decide_eq_true (show dep (.tup (t.ps.map D.str)) ≤ 64 by simp only [dep]; omega)]
    rfl
  refine ⟨⟨_, _, rfl⟩, thD CT t, thD CT t, rfl, hth, .inr hth, ?_, rfl⟩
  have e : thEq CT (thD CT t) (thD CT t) = true := by
    show (CT == CT && (eqD (.str t.kd) (.str t.kd) && (eqD (.str t.nm) (.str t.nm) && eqD (.tup (t.ps.map D.str)) (.tup (t.ps.map D.str))))) = true
    have e3 : eqD (.tup (t.ps.map D.str)) (.tup (t.ps.map D.str)) = true := by
      have : ∀ l : List Str, PyData.eqvAll (pys (l.map D.str)) (pys (l.map D.str)) = true := fun l => by
        induction l with
        | nil => rfl
        | cons a l ih =>
          simp only [List.map_cons, pys, PyData.eqvAll]
          rw [ih]
          show (PyData.eqv (.str a) (.str a) && true) = true
          rw [eqv_str]
          rfl
      simp only [eqD, py, PyData.eqv]
      exact this _
    rw [beq_self_eq_true, e3, eqD_str, eqD_str, beq_self_eq_true, beq_self_eq_true]
    rfl
  exact congrArg D.bl e
def thOf (CT : Addr) (d : D) : D := match d with | .tup [a, b, c] => .ins CT thF [a, b, c] | _ => .non
theorem notin_name {d : D} {ns : List Str} (hn : ∀ z ∈ ns, isNm z = true) (h : isNameD d = false) : memD d (ns.map .str) = false := by
  refine List.any_eq_false.mpr fun x hx => ?_
  obtain ⟨z, hz, rfl⟩ := List.mem_map.mp hx
  cases d <;> first | (intro e; cases e; done) | skip
  rw [eqD_str]
  intro e
  rw [← eq_of_beq e] at h
  rw [show isNameD (.str z) = isNm z from rfl, hn z hz] at h
  cases h
def firstE : List (Key × D) := [(.inr "source", .int 0), (.inr "field", .non), (.inr "feed", .tup [.int 0, .int 0, .int 0]), (.inr "table", .tup []), (.inr "dice", .tup [.int 0, .int 0]), (.inr "flag", .bl false), (.inr "slot", .non)]
def firstD : D := .dct ((mrg firstE []).map (·.1)) ((mrg firstE []).map (·.2))
theorem first_get {k : Str} (hk : k ∈ kinds7) {r : Rs} {c : Option D → Prop} (h : c (some (c0K k))) : oDGet r firstD (.str k) c := by
  refine .fro rfl ?_
  simp only [kinds7, List.mem_cons, List.not_mem_nil, or_false] at hk
  rcases hk with rfl | rfl | rfl | rfl | rfl | rfl | rfl <;> exact h
theorem plain_c0 (kd : Str) : plain (c0K kd) = true ∧ dep (c0K kd) ≤ 1 := by
  unfold c0K con0
  repeat' split
  all_goals exact ⟨rfl, Nat.le_of_ble_eq_true rfl⟩
theorem plain_pair {z : Str} {d : D} (a : plain d = true) (b : dep d ≤ 7) : plain (.tup [.str z, d]) = true ∧ dep (.tup [.str z, d]) ≤ 8 := by
  refine ⟨plain_of_tup (Nat.le_of_ble_eq_true rfl) (by show (true && (plain d && true)) = true; rw [a]; rfl), ?_⟩
  show max 0 (max (dep d) 0) + 1 ≤ 8
  omega
theorem due_plain {ths : List Th} : plain (due06 ths) = true ∧ dep (due06 ths) ≤ 8 := by
  unfold due06
  split
  · rename_i x hx
    have : ∃ z, x = .str z := by
      have key : ∀ (xs s : List D), (∀ y ∈ xs, ∃ z, y = D.str z) → ∀ x, twice s xs = some x → ∃ z, x = .str z := fun xs => by
        induction xs with
        | nil => exact fun _ _ _ h => by cases h
        | cons y xs ih =>
          intro s hs x h
          have h : (if memD y s = true then some y else twice (s ++ [y]) xs) = some x := h
          split at h
          · cases h; exact hs _ (.head _)
          · exact ih _ (fun y hy => hs y (.tail _ hy)) _ h
      refine key _ _ (fun y hy => ?_) x hx
      obtain ⟨t, _, rfl⟩ := List.mem_map.mp hy
      exact ⟨_, rfl⟩
    obtain ⟨z, rfl⟩ := this
    exact plain_pair rfl (Nat.zero_le _)
  · split
    · exact plain_pair rfl (Nat.zero_le _)
    · split
      · exact plain_pair rfl (Nat.zero_le _)
      · exact ⟨rfl, Nat.zero_le _⟩
abbrev N_law : List Str := ["_law_script", "_law_pool_here", "_law_first", "_law_turn", "_law_things", "_law_given", "_law_world", "_law_due_here", "_law_titles", "_law_k", "_law_thing_here", "_law_kind", "_law_name", "_law_parts", "_law_known"]
theorem sc_law : FnScope N_law ["_law_script"] (defScope s_law) := ⟨rfl, rfl, rfl, by decide +kernel, rfl, by decide +kernel, by decide +kernel⟩
set_option maxHeartbeats 8000000 in
theorem ok_law {CT CS CW CB CT2 CTM : Addr} {fl fp : Addr} {fd fdp : FuncData} (F : Fun K "law" "law" s_law fl fd) (GP : FnOk P w K mg base CX0 1 fp fdp ["_law_script"] (spPool K)) (gP : mg "_law_pool" = some (.ref fp)) (kP : PySem.W.keepIn K (.ref fp) = true) (bP : Binds K fdp ["_law_script"] [])
    (B : Bl mg) (K_Thing : KCls K mg "Thing" CT thF) (K_World : KCls K mg "World" CW wdF) (E_Thing : ClE P w K mg base 1 CT (spThEq CT)) (N_in_World : ClI P w K mg base 1 CW (spIn CT CS CW)) (Pr_World_is_watched : ClP P w K mg base 1 CW "is_watched" (spIsW CT CS CW))
    (C__law_things_of : Cl P w K mg base 3 "_law_things_of" ["_law_pool_here"] spTof) (C__law_thing : Cl P w K mg base 8 "_law_thing" ["_law_thing_here"] (spLThing CT CB (starP 1 (spTable CT CB CT2 CTM)))) (C__law_try : Cl P w K mg base 8 "_law_try" ["_law_things"] (spTry06 CT CS CW)) (C__law_due : Cl P w K mg base 1 "_law_due" ["_law_things"] spDue06)
    (C__law_item : Cl P w K mg base 5 "_law_item" ["_law_world", "_law_name"] (spItem06 CT CS CW)) (C__law_maybe : Cl P w K mg base 6 "_law_maybe" ["_law_pool_here", "_law_names_here"] spMaybe) (C__law_is_name : Cl P w K mg base 1 "_law_is_name" ["_law_value"] spIsName) (C__law_same : Cl P w K mg base 9 "_law_same" ["_law_actual", "_law_due_here"] (spSame 9)) :
    FnOk P w K mg base CX0 10 fl fd ["_law_script"] (spLaw K) := by
  have sc := sc_law
  refine F.ok sc (fun vs H Q E h => ?_) (fun cdv A outer s H E vs Q hr h => ?_)
  · obtain ⟨a, ns, rfl, _⟩ := h
    rfl
  obtain ⟨a, ns, rfl, hS, hl, hQ⟩ := h
  have hu := hr.units
  have hi := u65 hr
  have hc1 := Nat.lt_of_le_of_lt (Nat.le_add_right _ 65) hi
  refine ⟨_, pss_cons (ps_set (i := 1) sc.nd rfl (.inl rfl) (pe_call GP (hr.mono (by decide)) (by rfl) gP kP bP .nil pass0 (pa_cons (pv 0) pa_nil))) ((ss_cons (s_set (i := 2) sc.nd (d_dispF (dp_cons d_str d_int (dp_cons d_str d_non (dp_cons d_str (d_tup (dl_cons d_int (dl_cons d_int (dl_cons d_int dl_nil)))) (dp_cons d_str (d_tup dl_nil) (dp_cons d_str (d_tup (dl_cons d_int (dl_cons d_int dl_nil))) (dp_cons d_str d_bl (dp_cons d_str d_non dp_nil)))))))))
  (ss_cons (s_for (i_r1 (by rfl) B.range (dl_cons d_int dl_nil)) (g_name (i := 3) sc.nd)
  (ss_cons (s_set (i := 4) sc.nd (d_fn C__law_things_of takes0 hr (dl_cons (dv 1) dl_nil)))
  (ss_cons (s_setLc (i := 5) (js := [10]) (own := [("_law_thing_here", 10)]) sc.nd (i_list (dv 4)) (blkOk_by (own := [("_law_thing_here", 10)]) (N := N_law) (sc := defScope s_law) (by decide +kernel)) (fun _ _ _ _ _ => (g_name (i := 10) sc.nd)) (fun _ _ _ _ _ => pts_no) (fun _ _ _ _ _ => (d_fnN C__law_thing hr (dl_cons (dv 10) dl_nil))) (sw_true rfl rfl rfl (by decide +kernel)))
  (ss_cons (s_set (i := 6) sc.nd (d_fn C__law_try takes0 hr (dl_cons (dv 5) dl_nil)))
  (ss_cons (s_set (i := 7) sc.nd (d_fn C__law_due takes0 hr (dl_cons (dv 4) dl_nil)))
  (ss_one (s_if (b_cmp p_ns (dv 7) d_non)
  (ss_one (s_if (b_not (b_tru (d_fn C__law_same takes0 hr (dl_cons (dv 6) (dl_cons (dv 7) dl_nil)))))
  (ss_one (s_ret d_bl))
  ss_nil))
  (ss_cons (s_if (b_w (w_or (b_not (b_tru (d_isC K_World.isk (by rfl) B.isi (dv 6) K_World.g))) (w_or (b_not (b_tru (d_isi .tuple (by rfl) B.isi (d_fld (dv 6)) (by rfl) B.tuple))) (w_or1 (b_nel E_Thing hr (d_ty c_list (by rfl) B.list (dl_cons (d_fld (dv 6)) dl_nil)) (dv 5))))))
  (ss_one (s_ret d_bl))
  ss_nil)
  (ss_cons (s_for (i_list (dv 4)) (g_tup (is := [11, 12, 13]) (pgs_n (i := 11) sc.nd (pgs_n (i := 12) sc.nd (pgs_n (i := 13) sc.nd pgs_nil))))
  (ss_one (s_if (b_not (b_tru (d_fn C__law_same takes0 hr (dl_cons (d_fn C__law_item takes0 hr (dl_cons (dv 6) (dl_cons (dv 12) dl_nil))) (dl_cons (d_tup (dl_cons d_str (dl_cons (d_dix hi (dv 2) (dv 11)) dl_nil))) dl_nil)))))
  (ss_one (s_ret d_bl))
  ss_nil)) PassesOwn.never)
  (ss_cons (s_setLc (i := 8) (js := [10]) (own := [("_law_thing_here", 10)]) sc.nd (i_list (dv 4)) (blkOk_by (own := [("_law_thing_here", 10)]) (N := N_law) (sc := defScope s_law) (by decide +kernel)) (fun _ _ _ _ _ => (g_name (i := 10) sc.nd)) (fun _ _ _ _ _ => pts_no) (fun _ _ _ _ _ => (d_ix (dv 10) d_int)) (sw_true rfl rfl rfl (by decide +kernel)))
  (ss_cons (s_for (i_r1 (by rfl) B.range (dl_cons d_int dl_nil)) (g_name (i := 9) sc.nd)
  (ss_cons (s_set (i := 12) sc.nd (d_fn C__law_maybe takes0 hr (dl_cons (dv 1) (dl_cons (dv 8) dl_nil))))
  (ss_cons (s_set (i := 14) sc.nd (d_and (d_fn C__law_is_name takes0 hr (dl_cons (dv 12) dl_nil)) (d_one (d_cmp (p_in hi) (dv 12) (dv 8)))))
  (ss_cons (s_if (b_not (b_tru (d_fn C__law_same takes0 hr (dl_cons (d_ini N_in_World hr (dv 12) (dv 6)) (dl_cons (dv 14) dl_nil)))))
  (ss_one (s_ret d_bl))
  ss_nil)
  (ss_one (s_if (b_w (w_and (b_not (b_tru (dv 14))) (w_and1 (b_not (b_tru (d_fn C__law_same takes0 hr (dl_cons (d_fn C__law_item takes0 hr (dl_cons (dv 6) (dl_cons (dv 12) dl_nil))) (dl_cons (d_tup (dl_cons d_str (dl_cons (dv 12) dl_nil))) dl_nil))))))))
  (ss_one (s_ret d_bl))
  ss_nil))))) PassesOwn.never)
  (ss_one (s_if (b_not (b_tru (d_fn C__law_same takes0 hr (dl_cons (d_prop Pr_World_is_watched K_World.p hr (dv 6)) (dl_cons d_bl dl_nil)))))
  (ss_one (s_ret d_bl))
  ss_nil)))))))))))) PassesOwn.never)
  (ss_one (s_ret d_bl)))) : PBD _ W0 _ _), ?_⟩
  refine ⟨_, rfl, a, ns, rfl, hS, hl, fun p a' H' ro => law_go ro hQ ?_⟩
  have hsl := sizeLine_eq
  intro q0
  refine ⟨Nat.le_of_ble_eq_true rfl, Nat.zero_le _, Nat.le_of_ble_eq_true rfl, [poolA p a' 0], firstE, rfl, rfl, Nat.le_of_ble_eq_true rfl, ?_⟩
  have same_t : ∀ {d : D}, plain d = true → same d d = true := fun h => same_refl _ h
  refine ⟨⟨by decide, by decide⟩, fun i δ r' => (∃ x3 x4 x5 x6 x7 x8 x9 x10 x11 x12 x13 x14, δ = [none, some (.adr p), some firstD, x3, x4, x5, x6, x7, x8, x9, x10, x11, x12, x13, x14]) ∧ ∃ (N : Nat) (X : Rs), N ≤ 18000 * i ∧ r' = poolA p a' N :: X, ⟨⟨_, _, _, _, _, _, _, _, _, _, _, _, rfl⟩, 0, [], Nat.zero_le _, rfl⟩, ?_, ?_⟩
  · rintro i d δ r' hd ⟨⟨x3, x4, x5, x6, x7, x8, x9, x10, x11, x12, x13, x14, rfl⟩, N, X, hN, rfl⟩
    have hi6 : i < 6 := by
      have := (List.getElem?_eq_some_iff.mp hd).1
      rw [List.length_map, List.length_range] at this
      exact this
    refine ⟨p, a', N, X, rfl, rfl, by omega, fun ths hl9 hth => ?_⟩
    have hz : small (ths.map thT).length := by rw [List.length_map]; show ths.length ≤ 1000000; omega
    refine lc_map (thOf CT) hz (fun d hd r' P2 hP2 => ?_) ?_
    · obtain ⟨t, mt, rfl⟩ := List.mem_map.mp hd
      have ht := hth t mt
      have fin : ∀ (x : D), x = thOf CT (thT t) → P2 x r' := fun x e => e ▸ hP2
      refine ⟨t.kd, .str t.nm, t.ps.map D.str, rfl, rfl, ?_⟩
      by_cases hF : t.kd = "field"
      · obtain ⟨u, hp, hun⟩ := ht.fd hF
        refine .inr (.inl ⟨hF, .str u, by rw [hp]; rfl, rfl, fun _ _ => fin _ ?_, fun x hx => ?_⟩)
        · show _ = D.ins CT thF [.str t.kd, .str t.nm, .tup (t.ps.map .str)]
          rw [hF, hp]; rfl
        · rw [List.find?_cons, show (!isNameD (.str t.nm)) = false by rw [show isNameD (.str t.nm) = true from ht.nm]; rfl, List.find?_cons, show (!isNameD (.str u)) = false by rw [show isNameD (.str u) = true from hun]; rfl] at hx
          cases hx
      by_cases hT : t.kd = "table"
      · obtain ⟨k1, k2, hp, hne, hk1, hk2⟩ := ht.tb hT
        refine .inr (.inr ⟨hT, fun P2 XR2 f1 f2 => .inr ⟨.str k1, .str k2, by rw [hp]; rfl, ?_⟩⟩)
        refine ⟨[.str t.nm], [.str k1, .str k2], rfl, rfl, Nat.le_of_ble_eq_true rfl, table_ok (ks := [k1, k2]) ht.nm (Nat.le_of_ble_eq_true rfl) (by simp [hne]) (fun k hk => ?_) (f1 _ _ (fin _ ?_))⟩
        · simp only [List.mem_cons, List.not_mem_nil, or_false] at hk
          rcases hk with rfl | rfl
          · exact hk1
          · exact hk2
        · show _ = D.ins CT thF [.str t.kd, .str t.nm, .tup (t.ps.map .str)]
          rw [hT, hp]
      · have hp := ht.el hF hT
        have h5 : t.kd ∈ five := by
          have := ht.kd
          simp only [kinds7, List.mem_cons, List.not_mem_nil, or_false] at this
          rcases this with e | e | e | e | e | e | e <;> first | exact absurd e hF | exact absurd e hT | (rw [e]; decide)
        refine .inl ⟨h5, by rw [hp]; rfl, fun _ => fin _ ?_, fun q => ?_⟩
        · show _ = D.ins CT thF [.str t.kd, .str t.nm, .tup (t.ps.map .str)]
          rw [hp]; rfl
        · rw [show isNameD (.str t.nm) = isNm t.nm from rfl, ht.nm] at q
          cases q
    have eg : (ths.map thT).map (thOf CT) = ths.map (thD CT) := by rw [List.map_map]; rfl
    rw [eg]
    refine ⟨ths, rfl, hl9, fun t mt e => ?_, ?_⟩
    · obtain ⟨u, hp, _⟩ := (hth t mt).fd e
      intro q
      rw [hp] at q
      cases q
    have hfd : ∀ t ∈ ths, t.kd = ("field" : Str) → ∃ u, t.ps = [u] := fun t mt e => let ⟨u, hp, _⟩ := (hth t mt).fd e; ⟨u, hp⟩
    obtain ⟨dp, dd⟩ := due_plain (ths := ths)
    have next : ∀ {δ' : Dl} {Y : Rs} {N' : Nat}, N' ≤ 18000 * (i + 1) → (∃ x3 x4 x5 x6 x7 x8 x9 x10 x11 x12 x13 x14, δ' = [none, some (.adr p), some firstD, x3, x4, x5, x6, x7, x8, x9, x10, x11, x12, x13, x14]) → (∃ x3 x4 x5 x6 x7 x8 x9 x10 x11 x12 x13 x14, δ' = [none, some (.adr p), some firstD, x3, x4, x5, x6, x7, x8, x9, x10, x11, x12, x13, x14]) ∧ ∃ (N : Nat) (X : Rs), N ≤ 18000 * (i + 1) ∧ poolA p a' N' :: Y = poolA p a' N :: X := fun h1 h2 => ⟨h2, _, _, h1, rfl⟩
    refine ⟨fun x hx => ?_, fun e => ⟨fun o ho => ?_, fun eb => ⟨fun z => ?_, fun z wd A => ?_⟩⟩⟩
    · have ed : due06 ths = .tup [.str "Twice", x] := by unfold due06; rw [hx]
      refine ⟨ths, rfl, hl9, hfd, ?_⟩
      rw [ed] at dp dd ⊢
      refine brT ⟨_, _, rfl, dp, dp, by omega, by omega, ?_⟩
      rw [same_refl _ dp]
      exact brF (next (by omega) ⟨_, _, _, _, _, _, _, _, _, _, _, _, rfl⟩)
    · have ed : due06 ths = .tup [.str "NoThing", .str o] := by unfold due06; rw [e]; dsimp only; rw [ho]
      refine ⟨ths, rfl, hl9, hfd, ?_⟩
      rw [ed] at dp dd ⊢
      refine brT ⟨_, _, rfl, dp, dp, by omega, by omega, ?_⟩
      rw [same_refl _ dp]
      exact brF (next (by omega) ⟨_, _, _, _, _, _, _, _, _, _, _, _, rfl⟩)
    · have ed : due06 ths = .tup [.str "TooMany", .int 8] := by unfold due06; rw [e]; dsimp only; rw [eb]; dsimp only; rw [if_pos z]
      refine ⟨ths, rfl, hl9, hfd, ?_⟩
      rw [ed] at dp dd ⊢
      refine brT ⟨_, _, rfl, dp, dp, by omega, by omega, ?_⟩
      rw [same_refl _ dp]
      exact brF (next (by omega) ⟨_, _, _, _, _, _, _, _, _, _, _, _, rfl⟩)
    · have ed : due06 ths = .non := by unfold due06; rw [e]; dsimp only; rw [eb]; dsimp only; rw [if_neg (by omega)]
      refine ⟨ths, rfl, hl9, hfd, ?_⟩
      rw [ed]
      have un : uniq ths := (uniq_of (s := []) e).1
      have con : ∀ t ∈ ths, (stk0 ths).con t.nm = some (c0K t.kd) := fun t m => stk0_con un m
      have sth : (stk0 ths).th = ths := stk0_th ths
      obtain ⟨S, hS⟩ : ∃ S, S = stk0 ths := ⟨_, rfl⟩
      rw [← hS] at con sth ⊢
      obtain ⟨Y, hY⟩ : ∃ Y : Rs, Y = X ++ wld CT CS CW wd A S [] := ⟨_, rfl⟩
      have eY : ∀ n, poolA p a' n :: X ++ wld CT CS CW wd A S [] = poolA p a' n :: Y := fun n => by rw [hY]; rfl
      have eW : ∀ n, poolA p a' n :: Y = (poolA p a' n :: X) ++ wld CT CS CW wd A S [] := fun n => (eY n).symm
      refine brF (.yes wd_isC (brF (wd_things (brF (wd_things ?_)))))
      rw [sth]
      refine ⟨ths.map (thD CT), rfl, rfl, fun d hd => ?_, ?_⟩
      · obtain ⟨t, _, rfl⟩ := List.mem_map.mp hd
        exact th_self
      have lth : (ths.map thT).length = ths.length := List.length_map _
      refine brF ⟨fun j δ r' => (∃ x10 x11 x12 x13, δ = [none, some (.adr p), some firstD, some d, some (.lst (ths.map thT)), some (.lst (ths.map (thD CT))), some (.adr wd), some .non, x8, x9, x10, x11, x12, x13, x14]) ∧ r' = (poolA p a' (N + 1000) :: X) ++ wld CT CS CW wd A S [], ⟨⟨_, _, _, _, rfl⟩, rfl⟩, ?_, ?_⟩
      · rintro j e2 δ r' hj ⟨⟨y10, y11, y12, y13, rfl⟩, rfl⟩
        rw [List.getElem?_map] at hj
        obtain ⟨t, ht, rfl⟩ := Option.map_eq_some_iff.mp hj
        have mt := List.mem_of_getElem? ht
        have hm : memD (.str t.nm) (S.th.map fun t => D.str t.nm) = true := by
          rw [sth]
          exact List.any_eq_true.mpr ⟨.str t.nm, List.mem_map.mpr ⟨t, mt, rfl⟩, by rw [eqD_str]; exact beq_self_eq_true _⟩
        obtain ⟨p1, d1⟩ := plain_c0 t.kd
        obtain ⟨p2, d2⟩ := plain_pair (z := "content") p1 (by omega)
        refine ⟨rfl, wd, A, S, _, [], .str t.nm, rfl, rfl, by rw [sth]; omega, Nat.zero_le _, fun q => (by rw [hm] at q; cases q), fun _ => ⟨t.nm, _, rfl, con t mt, first_get (hth t mt).kd ⟨_, rfl, Nat.le_of_ble_eq_true rfl, ?_⟩⟩⟩
        refine ⟨_, _, rfl, p2, p2, by omega, by omega, ?_⟩
        rw [same_refl _ p2]
        exact brF ⟨⟨_, _, _, _, rfl⟩, rfl⟩
      rintro δ r' ⟨⟨y10, y11, y12, y13, rfl⟩, rfl⟩
      refine lc_map (fun d => match d with | .tup [_, n, _] => n | _ => .non) hz (fun d hd r' P2 hP2 => ?_) ?_
      · obtain ⟨t, mt, rfl⟩ := List.mem_map.mp hd
        exact ix_t at1 hP2
      have en : (ths.map thT).map (fun d => match d with | .tup [_, n, _] => n | _ => .non) = (ths.map (·.nm)).map D.str := by rw [List.map_map, List.map_map]; rfl
      rw [en]
      have es : (S.th.map fun t => D.str t.nm) = (ths.map (·.nm)).map D.str := by rw [sth, List.map_map]; rfl
      obtain ⟨ns, hns⟩ : ∃ ns, ns = ths.map (·.nm) := ⟨_, rfl⟩
      rw [← hns] at es ⊢
      have lns : ns.length ≤ 9 := by rw [hns, List.length_map]; exact hl9
      have nn : ∀ z ∈ ns, isNm z = true := fun z hz => by
        rw [hns] at hz
        obtain ⟨t, mt, rfl⟩ := List.mem_map.mp hz
        exact (hth t mt).nm
      refine ⟨⟨by decide, by decide⟩, fun j δ r' => (∃ x9 x12 x14, δ = [none, some (.adr p), some firstD, some d, some (.lst (ths.map thT)), some (.lst (ths.map (thD CT))), some (.adr wd), some .non, some (.lst (ns.map .str)), x9, y10, y11, x12, y13, x14]) ∧ ∃ N2, N2 ≤ N + 1000 + 2000 * j ∧ r' = (poolA p a' N2 :: X) ++ wld CT CS CW wd A S [], ⟨⟨_, _, _, rfl⟩, _, Nat.le_refl _, rfl⟩, ?_, ?_⟩
      · rintro j e2 δ r' hj ⟨⟨y9, y12, y14, rfl⟩, N2, hN2, rfl⟩
        have hj8 : j < 8 := by
          have := (List.getElem?_eq_some_iff.mp hj).1
          rw [List.length_map, List.length_range] at this
          exact this
        refine ⟨p, a', N2, X ++ wld CT CS CW wd A S [], ns.map .str, rfl, rfl, by omega, by rw [List.length_map]; omega, fun x hx => ?_, fun nd hg => ?_⟩
        · obtain ⟨z, hz2, rfl⟩ := List.mem_map.mp hx
          exact ⟨z, rfl, nn z hz2⟩
        have pn := gd_plain (by decide) hg
        have dn : dep nd ≤ 4 := Nat.le_trans (gd_dep hg) (by decide)
        have dns : deps (ns.map D.str) ≤ 60 := deps_le (n := 60) fun x hx => by
          obtain ⟨z, _, rfl⟩ := List.mem_map.mp hx
          exact Nat.zero_le _
        have eWd : poolA p a' (N2 + 2000) :: (X ++ wld CT CS CW wd A S []) = (poolA p a' (N2 + 2000) :: X) ++ wld CT CS CW wd A S [] := rfl
        rw [eWd]
        refine ⟨nd, rfl, pn, ?_⟩
        obtain ⟨p3, d3⟩ := plain_pair (z := "NoThing") pn (by omega)
        have lS : S.th.length ≤ 100 := by rw [sth]; omega
        cases hb : memD nd (ns.map .str) with
        | true =>
          have em : memD nd (S.th.map fun t => D.str t.nm) = true := by rw [es]; exact hb
          refine ⟨fun _ => ⟨⟨by omega, by omega, ?_⟩⟩, fun q => by rw [notin_name nn q] at hb; cases hb⟩
          show _ ∧ _
          rw [cond_false, hb]
          refine ⟨wd_isC, wd, A, S, _, [], nd, rfl, rfl, lS, by omega, _, rfl, ?_⟩
          rw [em]
          exact ⟨.bl true, .bl true, rfl, rfl, rfl, Nat.zero_le _, by decide, brF (brF (brF ⟨⟨_, _, _, rfl⟩, _, by omega, rfl⟩))⟩
        | false =>
          have em : memD nd (S.th.map fun t => D.str t.nm) = false := by rw [es]; exact hb
          refine ⟨fun _ => ⟨⟨by omega, by omega, ?_⟩⟩, fun q => ?_⟩
          · show _ ∧ _
            rw [cond_false, hb]
            refine ⟨wd_isC, wd, A, S, _, [], nd, rfl, rfl, lS, by omega, _, rfl, ?_⟩
            rw [em]
            refine ⟨.bl false, .bl false, rfl, rfl, rfl, Nat.zero_le _, by decide, brF (brT ⟨wd, A, S, _, [], nd, rfl, rfl, lS, by omega, fun _ => ⟨Nat.le_of_ble_eq_true rfl, _, _, rfl, p3, p3, by omega, by omega, ?_⟩, fun q => (by rw [em] at q; cases q)⟩)⟩
            rw [same_refl _ p3]
            exact brF ⟨⟨_, _, _, rfl⟩, _, by omega, rfl⟩
          · refine ⟨wd_isC, wd, A, S, _, [], nd, rfl, rfl, lS, by omega, _, rfl, ?_⟩
            rw [em]
            refine ⟨.bl false, .bl false, rfl, rfl, rfl, Nat.zero_le _, by decide, brF (brT ⟨wd, A, S, _, [], nd, rfl, rfl, lS, by omega, fun _ => ⟨Nat.le_of_ble_eq_true rfl, _, _, rfl, p3, p3, by omega, by omega, ?_⟩, fun q => (by rw [em] at q; cases q)⟩)⟩
            rw [same_refl _ p3]
            exact brF ⟨⟨_, _, _, rfl⟩, _, by omega, rfl⟩
      rintro δ r' ⟨⟨y9, y12, y14, rfl⟩, N2, hN2, rfl⟩
      have h8 : (List.map (fun i : Nat => D.int (i : Int)) (List.range (Int.toNat 8))).length = 8 := by simp
      rw [h8] at hN2
      exact ⟨wd_isC, ⟨wd, A, S, _, [], rfl, rfl, .bl false, .bl false, rfl, rfl, rfl, Nat.zero_le _, by decide, brF ⟨⟨_, _, _, _, _, _, _, _, _, _, _, _, rfl⟩, N2, _, by omega, rfl⟩⟩⟩
  · rintro δ r' ⟨_, N, X, _, rfl⟩
    exact rfl
end
set_option maxHeartbeats 0 in
def KF (P : PySem.Params) : PySem.W.Frag :=
(nat_lit 2, (@PySem.Obj.mk PySem.Value.none Option.none (@PySem.Data.dict (List.toArray []) (0 : Nat)) (List.toArray []))) ::
(nat_lit 3, (@PySem.Obj.mk (@PySem.Value.type "dict") Option.none (@PySem.Data.dict (List.toArray ((@PySem.DictEntry.mk (@PySem.PyData.keyHash P (@PySem.Str.ofString "__name__")) (@PySem.Value.str (@PySem.Str.ofString "__name__") (165 : Nat)) (@PySem.Value.str (@PySem.Str.ofString "law_quietprobes_k06_worlds_made") (776 : Nat))) :: (@PySem.DictEntry.mk (@PySem.PyData.keyHash P (@PySem.Str.ofString "__doc__")) (@PySem.Value.str (@PySem.Str.ofString "__doc__") (166 : Nat)) PySem.Value.none) :: (@PySem.DictEntry.mk (@PySem.PyData.keyHash P (@PySem.Str.ofString "__package__")) (@PySem.Value.str (@PySem.Str.ofString "__package__") (167 : Nat)) PySem.Value.none) :: (@PySem.DictEntry.mk (@PySem.PyData.keyHash P (@PySem.Str.ofString "__loader__")) (@PySem.Value.str (@PySem.Str.ofString "__loader__") (168 : Nat)) (@PySem.Value.builtin "__main__.__loader__#opaque")) :: (@PySem.DictEntry.mk (@PySem.PyData.keyHash P (@PySem.Str.ofString "__spec__")) (@PySem.Value.str (@PySem.Str.ofString "__spec__") (169 : Nat)) PySem.Value.none) :: (@PySem.DictEntry.mk (@PySem.PyData.keyHash P (@PySem.Str.ofString "__annotations__")) (@PySem.Value.str (@PySem.Str.ofString "__annotations__") (170 : Nat)) (@PySem.Value.ref (6 : Nat))) :: (@PySem.DictEntry.mk (@PySem.PyData.keyHash P (@PySem.Str.ofString "__builtins__")) (@PySem.Value.str (@PySem.Str.ofString "__builtins__") (171 : Nat)) (@PySem.Value.ref (4 : Nat))) :: (@PySem.DictEntry.mk (@PySem.PyData.keyHash P (@PySem.Str.ofString "__file__")) (@PySem.Value.str (@PySem.Str.ofString "__file__") (173 : Nat)) (@PySem.Value.str (@PySem.Str.ofString "/claim/cut.py") (172 : Nat))) :: (@PySem.DictEntry.mk (@PySem.PyData.keyHash P (@PySem.Str.ofString "__cached__")) (@PySem.Value.str (@PySem.Str.ofString "__cached__") (174 : Nat)) PySem.Value.none) :: (@PySem.DictEntry.mk (@PySem.PyData.keyHash P (@PySem.Str.ofString "_wall")) (@PySem.Value.str (@PySem.Str.ofString "_wall") (193 : Nat)) (@PySem.Value.ref (21 : Nat))) :: (@PySem.DictEntry.mk (@PySem.PyData.keyHash P (@PySem.Str.ofString "QuietError")) (@PySem.Value.str (@PySem.Str.ofString "QuietError") (213 : Nat)) (@PySem.Value.ref (31 : Nat))) :: (@PySem.DictEntry.mk (@PySem.PyData.keyHash P (@PySem.Str.ofString "BadName")) (@PySem.Value.str (@PySem.Str.ofString "BadName") (240 : Nat)) (@PySem.Value.ref (53 : Nat))) :: (@PySem.DictEntry.mk (@PySem.PyData.keyHash P (@PySem.Str.ofString "NoThing")) (@PySem.Value.str (@PySem.Str.ofString "NoThing") (267 : Nat)) (@PySem.Value.ref (74 : Nat))) :: (@PySem.DictEntry.mk (@PySem.PyData.keyHash P (@PySem.Str.ofString "Twice")) (@PySem.Value.str (@PySem.Str.ofString "Twice") (294 : Nat)) (@PySem.Value.ref (95 : Nat))) :: (@PySem.DictEntry.mk (@PySem.PyData.keyHash P (@PySem.Str.ofString "TooMany")) (@PySem.Value.str (@PySem.Str.ofString "TooMany") (321 : Nat)) (@PySem.Value.ref (116 : Nat))) :: (@PySem.DictEntry.mk (@PySem.PyData.keyHash P (@PySem.Str.ofString "LETTERS")) (@PySem.Value.str (@PySem.Str.ofString "LETTERS") (325 : Nat)) (@PySem.Value.str (@PySem.Str.ofString "abcdefghijklmnopqrstuvwxyz") (324 : Nat))) :: (@PySem.DictEntry.mk (@PySem.PyData.keyHash P (@PySem.Str.ofString "MOST_LETTERS")) (@PySem.Value.str (@PySem.Str.ofString "MOST_LETTERS") (327 : Nat)) (@PySem.Value.int (8 : Int) (326 : Nat))) :: (@PySem.DictEntry.mk (@PySem.PyData.keyHash P (@PySem.Str.ofString "MOST_KEYS")) (@PySem.Value.str (@PySem.Str.ofString "MOST_KEYS") (329 : Nat)) (@PySem.Value.int (4 : Int) (328 : Nat))) :: (@PySem.DictEntry.mk (@PySem.PyData.keyHash P (@PySem.Str.ofString "MOST_THINGS")) (@PySem.Value.str (@PySem.Str.ofString "MOST_THINGS") (331 : Nat)) (@PySem.Value.int (8 : Int) (330 : Nat))) :: (@PySem.DictEntry.mk (@PySem.PyData.keyHash P (@PySem.Str.ofString "is_name")) (@PySem.Value.str (@PySem.Str.ofString "is_name") (337 : Nat)) (@PySem.Value.ref (123 : Nat))) :: (@PySem.DictEntry.mk (@PySem.PyData.keyHash P (@PySem.Str.ofString "need_names")) (@PySem.Value.str (@PySem.Str.ofString "need_names") (345 : Nat)) (@PySem.Value.ref (130 : Nat))) :: (@PySem.DictEntry.mk (@PySem.PyData.keyHash P (@PySem.Str.ofString "need_unlike")) (@PySem.Value.str (@PySem.Str.ofString "need_unlike") (354 : Nat)) (@PySem.Value.ref (137 : Nat))) :: (@PySem.DictEntry.mk (@PySem.PyData.keyHash P (@PySem.Str.ofString "Thing")) (@PySem.Value.str (@PySem.Str.ofString "Thing") (546 : Nat)) (@PySem.Value.ref (241 : Nat))) :: (@PySem.DictEntry.mk (@PySem.PyData.keyHash P (@PySem.Str.ofString "need_things")) (@PySem.Value.str (@PySem.Str.ofString "need_things") (552 : Nat)) (@PySem.Value.ref (250 : Nat))) :: (@PySem.DictEntry.mk (@PySem.PyData.keyHash P (@PySem.Str.ofString "Stock")) (@PySem.Value.str (@PySem.Str.ofString "Stock") (683 : Nat)) (@PySem.Value.ref (342 : Nat))) :: (@PySem.DictEntry.mk (@PySem.PyData.keyHash P (@PySem.Str.ofString "World")) (@PySem.Value.str (@PySem.Str.ofString "World") (775 : Nat)) (@PySem.Value.ref (416 : Nat))) :: (@PySem.DictEntry.mk (@PySem.PyData.keyHash P (@PySem.Str.ofString "_law_draw")) (@PySem.Value.str (@PySem.Str.ofString "_law_draw") (790 : Nat)) (@PySem.Value.ref (427 : Nat))) :: (@PySem.DictEntry.mk (@PySem.PyData.keyHash P (@PySem.Str.ofString "_law_names")) (@PySem.Value.str (@PySem.Str.ofString "_law_names") (796 : Nat)) (@PySem.Value.ref (432 : Nat))) :: (@PySem.DictEntry.mk (@PySem.PyData.keyHash P (@PySem.Str.ofString "_law_word")) (@PySem.Value.str (@PySem.Str.ofString "_law_word") (802 : Nat)) (@PySem.Value.ref (437 : Nat))) :: (@PySem.DictEntry.mk (@PySem.PyData.keyHash P (@PySem.Str.ofString "_law_pool")) (@PySem.Value.str (@PySem.Str.ofString "_law_pool") (809 : Nat)) (@PySem.Value.ref (444 : Nat))) :: (@PySem.DictEntry.mk (@PySem.PyData.keyHash P (@PySem.Str.ofString "_law_thing")) (@PySem.Value.str (@PySem.Str.ofString "_law_thing") (819 : Nat)) (@PySem.Value.ref (451 : Nat))) :: (@PySem.DictEntry.mk (@PySem.PyData.keyHash P (@PySem.Str.ofString "_law_same")) (@PySem.Value.str (@PySem.Str.ofString "_law_same") (828 : Nat)) (@PySem.Value.ref (458 : Nat))) :: (@PySem.DictEntry.mk (@PySem.PyData.keyHash P (@PySem.Str.ofString "_law_object")) (@PySem.Value.str (@PySem.Str.ofString "_law_object") (834 : Nat)) (@PySem.Value.ref (463 : Nat))) :: (@PySem.DictEntry.mk (@PySem.PyData.keyHash P (@PySem.Str.ofString "_law_maybe")) (@PySem.Value.str (@PySem.Str.ofString "_law_maybe") (843 : Nat)) (@PySem.Value.ref (470 : Nat))) :: (@PySem.DictEntry.mk (@PySem.PyData.keyHash P (@PySem.Str.ofString "_law_is_name")) (@PySem.Value.str (@PySem.Str.ofString "_law_is_name") (849 : Nat)) (@PySem.Value.ref (475 : Nat))) :: (@PySem.DictEntry.mk (@PySem.PyData.keyHash P (@PySem.Str.ofString "_law_make")) (@PySem.Value.str (@PySem.Str.ofString "_law_make") (856 : Nat)) (@PySem.Value.ref (482 : Nat))) :: (@PySem.DictEntry.mk (@PySem.PyData.keyHash P (@PySem.Str.ofString "_law_try")) (@PySem.Value.str (@PySem.Str.ofString "_law_try") (864 : Nat)) (@PySem.Value.ref (489 : Nat))) :: (@PySem.DictEntry.mk (@PySem.PyData.keyHash P (@PySem.Str.ofString "_law_due")) (@PySem.Value.str (@PySem.Str.ofString "_law_due") (870 : Nat)) (@PySem.Value.ref (494 : Nat))) :: (@PySem.DictEntry.mk (@PySem.PyData.keyHash P (@PySem.Str.ofString "_law_item")) (@PySem.Value.str (@PySem.Str.ofString "_law_item") (879 : Nat)) (@PySem.Value.ref (501 : Nat))) :: (@PySem.DictEntry.mk (@PySem.PyData.keyHash P (@PySem.Str.ofString "_law_things_of")) (@PySem.Value.str (@PySem.Str.ofString "_law_things_of") (885 : Nat)) (@PySem.Value.ref (506 : Nat))) :: (@PySem.DictEntry.mk (@PySem.PyData.keyHash P (@PySem.Str.ofString "law")) (@PySem.Value.str (@PySem.Str.ofString "law") (891 : Nat)) (@PySem.Value.ref (511 : Nat))) :: [])) (41 : Nat)) (List.toArray []))) ::
(nat_lit 15, (@PySem.Obj.mk (@PySem.Value.type "tuple") Option.none (@PySem.Data.seq (List.toArray []) (0 : Nat)) (List.toArray []))) ::
(nat_lit 17, (@PySem.Obj.mk (@PySem.Value.type "tuple") Option.none (@PySem.Data.seq (List.toArray [(@PySem.Value.str (@PySem.Str.ofString "k") (190 : Nat))]) (0 : Nat)) (List.toArray []))) ::
(nat_lit 18, (@PySem.Obj.mk (@PySem.Value.type "tuple") Option.none (@PySem.Data.seq (List.toArray []) (0 : Nat)) (List.toArray []))) ::
(nat_lit 20, (@PySem.Obj.mk (@PySem.Value.type "code") Option.none (@PySem.Data.fields (List.toArray [(@PySem.Value.str (@PySem.Str.ofString "_wall") (187 : Nat)), (@PySem.Value.str (@PySem.Str.ofString "_wall") (188 : Nat)), (@PySem.Value.str (@PySem.Str.ofString "/claim/cut.py") (189 : Nat)), (@PySem.Value.int (1 : Int) (0 : Nat)), (@PySem.Value.int (1 : Int) (0 : Nat)), (@PySem.Value.int (0 : Int) (0 : Nat)), (@PySem.Value.int (0 : Int) (0 : Nat)), (@PySem.Value.int (3 : Int) (0 : Nat)), (@PySem.Value.ref (15 : Nat)), (@PySem.Value.bool Bool.true), (@PySem.Value.int (181 : Int) (0 : Nat)), (@PySem.Value.ref (16 : Nat)), PySem.Value.none, (@PySem.Value.ref (17 : Nat)), (@PySem.Value.ref (18 : Nat)), (@PySem.Value.ref (19 : Nat)), (@PySem.Value.int (191 : Int) (0 : Nat)), (@PySem.Value.int (1 : Int) (0 : Nat)), (@PySem.Value.str (@PySem.Str.ofString "/claim/cut.py") (192 : Nat))])) (List.toArray []))) ::
(nat_lit 21, (@PySem.Obj.mk (@PySem.Value.type "function") Option.none (@PySem.Data.func (PySem.FuncData.mk (@PySem.Str.ofString "_wall") (@PySem.Str.ofString "_wall") (defArgs s__wall) (PySem.FuncBody.stmts (defBody s__wall)) (defScope s__wall) (3 : Nat) [] PySem.Value.none PySem.Value.none PySem.Value.none (@PySem.Value.str (@PySem.Str.ofString "__main__") (164 : Nat)) Option.none (@PySem.Value.ref (20 : Nat)) PySem.Value.none (0 : Nat))) (List.toArray []))) ::
(nat_lit 22, (@PySem.Obj.mk (@PySem.Value.type "tuple") Option.none (@PySem.Data.seq (List.toArray [(@PySem.Value.type "ValueError")]) (0 : Nat)) (List.toArray []))) ::
(nat_lit 29, (@PySem.Obj.mk (@PySem.Value.type "tuple") Option.none (@PySem.Data.seq (List.toArray []) (0 : Nat)) (List.toArray []))) ::
(nat_lit 30, (@PySem.Obj.mk (@PySem.Value.type "dict") Option.none (@PySem.Data.dict (List.toArray [(@PySem.DictEntry.mk (@PySem.PyData.keyHash P (@PySem.Str.ofString "__module__")) (@PySem.Value.str (@PySem.Str.ofString "__module__") (203 : Nat)) (@PySem.Value.str (@PySem.Str.ofString "quietprobes.errors") (194 : Nat))), (@PySem.DictEntry.mk (@PySem.PyData.keyHash P (@PySem.Str.ofString "__firstlineno__")) (@PySem.Value.str (@PySem.Str.ofString "__firstlineno__") (207 : Nat)) (@PySem.Value.int (5 : Int) (206 : Nat))), (@PySem.DictEntry.mk (@PySem.PyData.keyHash P (@PySem.Str.ofString "__static_attributes__")) (@PySem.Value.str (@PySem.Str.ofString "__static_attributes__") (208 : Nat)) (@PySem.Value.ref (29 : Nat))), (@PySem.DictEntry.mk (@PySem.PyData.keyHash P (@PySem.Str.ofString "__weakref__")) (@PySem.Value.str (@PySem.Str.ofString "__weakref__") (210 : Nat)) (@PySem.Value.ref (32 : Nat))), (@PySem.DictEntry.mk (@PySem.PyData.keyHash P (@PySem.Str.ofString "__doc__")) (@PySem.Value.str (@PySem.Str.ofString "__doc__") (211 : Nat)) PySem.Value.none)]) (3 : Nat)) (List.toArray []))) ::
(nat_lit 31, (@PySem.Obj.mk (@PySem.Value.type "type") Option.none (@PySem.Data.cls (@PySem.ClassData.mk (@PySem.Str.ofString "QuietError") [(@PySem.Value.type "ValueError")] [(@PySem.Value.ref (31 : Nat)), (@PySem.Value.type "ValueError"), (@PySem.Value.type "Exception"), (@PySem.Value.type "BaseException"), (@PySem.Value.type "object")] (30 : Nat) (@PySem.Str.ofString "QuietError") Bool.true [] [(@PySem.Value.ref (53 : Nat)), (@PySem.Value.ref (74 : Nat)), (@PySem.Value.ref (95 : Nat)), (@PySem.Value.ref (116 : Nat))] Bool.false Option.none Bool.false)) (List.toArray [(Option.some (@PySem.Value.ref (22 : Nat))), Option.none, (Option.some (@PySem.Value.str (@PySem.Str.ofString "QuietError") (196 : Nat))), (Option.some (@PySem.Value.str (@PySem.Str.ofString "QuietError") (204 : Nat))), (Option.some (@PySem.Value.builtin "ValueError.__new__")), (Option.some (@PySem.Value.bool Bool.true))]))) ::
(nat_lit 32, (@PySem.Obj.mk (@PySem.Value.type "getset_descriptor") Option.none (@PySem.Data.fields (List.toArray [(@PySem.Value.str (@PySem.Str.ofString "__weakref__") (209 : Nat)), (@PySem.Value.ref (31 : Nat)), (@PySem.Value.builtin "ExceptionGroup.__weakref__"), PySem.Value.none])) (List.toArray []))) ::
(nat_lit 35, (@PySem.Obj.mk (@PySem.Value.type "tuple") Option.none (@PySem.Data.seq (List.toArray [(@PySem.Value.ref (31 : Nat))]) (0 : Nat)) (List.toArray []))) ::
(nat_lit 38, (@PySem.Obj.mk (@PySem.Value.type "cell") Option.none (@PySem.Data.cell (Option.some (@PySem.Value.ref (53 : Nat)))) (List.toArray []))) ::
(nat_lit 43, (@PySem.Obj.mk (@PySem.Value.type "tuple") Option.none (@PySem.Data.seq (List.toArray [(@PySem.Value.ref (38 : Nat))]) (0 : Nat)) (List.toArray []))) ::
(nat_lit 44, (@PySem.Obj.mk (@PySem.Value.type "tuple") Option.none (@PySem.Data.seq (List.toArray [(@PySem.Value.str (@PySem.Str.ofString "__class__") (229 : Nat))]) (0 : Nat)) (List.toArray []))) ::
(nat_lit 46, (@PySem.Obj.mk (@PySem.Value.type "tuple") Option.none (@PySem.Data.seq (List.toArray [(@PySem.Value.str (@PySem.Str.ofString "self") (230 : Nat)), (@PySem.Value.str (@PySem.Str.ofString "name") (231 : Nat))]) (0 : Nat)) (List.toArray []))) ::
(nat_lit 47, (@PySem.Obj.mk (@PySem.Value.type "tuple") Option.none (@PySem.Data.seq (List.toArray []) (0 : Nat)) (List.toArray []))) ::
(nat_lit 49, (@PySem.Obj.mk (@PySem.Value.type "code") Option.none (@PySem.Data.fields (List.toArray [(@PySem.Value.str (@PySem.Str.ofString "__init__") (226 : Nat)), (@PySem.Value.str (@PySem.Str.ofString "BadName.__init__") (227 : Nat)), (@PySem.Value.str (@PySem.Str.ofString "/claim/cut.py") (228 : Nat)), (@PySem.Value.int (9 : Int) (0 : Nat)), (@PySem.Value.int (2 : Int) (0 : Nat)), (@PySem.Value.int (0 : Int) (0 : Nat)), (@PySem.Value.int (0 : Int) (0 : Nat)), (@PySem.Value.int (3 : Int) (0 : Nat)), (@PySem.Value.ref (44 : Nat)), (@PySem.Value.bool Bool.true), (@PySem.Value.int (181 : Int) (0 : Nat)), (@PySem.Value.ref (45 : Nat)), PySem.Value.none, (@PySem.Value.ref (46 : Nat)), (@PySem.Value.ref (47 : Nat)), (@PySem.Value.ref (48 : Nat)), (@PySem.Value.int (232 : Int) (0 : Nat)), (@PySem.Value.int (9 : Int) (0 : Nat)), (@PySem.Value.str (@PySem.Str.ofString "/claim/cut.py") (233 : Nat))])) (List.toArray []))) ::
(nat_lit 50, (@PySem.Obj.mk (@PySem.Value.type "function") Option.none (@PySem.Data.func (PySem.FuncData.mk (@PySem.Str.ofString "__init__") (@PySem.Str.ofString "BadName.__init__") (defArgs s_BadName___init__) (PySem.FuncBody.stmts (defBody s_BadName___init__)) (defScope s_BadName___init__) (3 : Nat) [((@PySem.Str.ofString "__class__"), (38 : Nat))] PySem.Value.none PySem.Value.none PySem.Value.none (@PySem.Value.str (@PySem.Str.ofString "quietprobes.errors") (194 : Nat)) Option.none (@PySem.Value.ref (49 : Nat)) (@PySem.Value.ref (43 : Nat)) (0 : Nat))) (List.toArray []))) ::
(nat_lit 51, (@PySem.Obj.mk (@PySem.Value.type "tuple") Option.none (@PySem.Data.seq (List.toArray [(@PySem.Value.str (@PySem.Str.ofString "name") (235 : Nat))]) (0 : Nat)) (List.toArray []))) ::
(nat_lit 52, (@PySem.Obj.mk (@PySem.Value.type "dict") Option.none (@PySem.Data.dict (List.toArray [(@PySem.DictEntry.mk (@PySem.PyData.keyHash P (@PySem.Str.ofString "__module__")) (@PySem.Value.str (@PySem.Str.ofString "__module__") (221 : Nat)) (@PySem.Value.str (@PySem.Str.ofString "quietprobes.errors") (194 : Nat))), (@PySem.DictEntry.mk (@PySem.PyData.keyHash P (@PySem.Str.ofString "__firstlineno__")) (@PySem.Value.str (@PySem.Str.ofString "__firstlineno__") (225 : Nat)) (@PySem.Value.int (7 : Int) (224 : Nat))), (@PySem.DictEntry.mk (@PySem.PyData.keyHash P (@PySem.Str.ofString "__init__")) (@PySem.Value.str (@PySem.Str.ofString "__init__") (234 : Nat)) (@PySem.Value.ref (50 : Nat))), (@PySem.DictEntry.mk (@PySem.PyData.keyHash P (@PySem.Str.ofString "__static_attributes__")) (@PySem.Value.str (@PySem.Str.ofString "__static_attributes__") (236 : Nat)) (@PySem.Value.ref (51 : Nat))), (@PySem.DictEntry.mk (@PySem.PyData.keyHash P (@PySem.Str.ofString "__doc__")) (@PySem.Value.str (@PySem.Str.ofString "__doc__") (238 : Nat)) PySem.Value.none)]) (3 : Nat)) (List.toArray []))) ::
(nat_lit 53, (@PySem.Obj.mk (@PySem.Value.type "type") Option.none (@PySem.Data.cls (@PySem.ClassData.mk (@PySem.Str.ofString "BadName") [(@PySem.Value.ref (31 : Nat))] [(@PySem.Value.ref (53 : Nat)), (@PySem.Value.ref (31 : Nat)), (@PySem.Value.type "ValueError"), (@PySem.Value.type "Exception"), (@PySem.Value.type "BaseException"), (@PySem.Value.type "object")] (52 : Nat) (@PySem.Str.ofString "BadName") Bool.true [] [] Bool.false Option.none Bool.false)) (List.toArray [(Option.some (@PySem.Value.ref (35 : Nat))), Option.none, (Option.some (@PySem.Value.str (@PySem.Str.ofString "BadName") (214 : Nat))), (Option.some (@PySem.Value.str (@PySem.Str.ofString "BadName") (222 : Nat))), (Option.some (@PySem.Value.builtin "ValueError.__new__")), (Option.some (@PySem.Value.bool Bool.true))]))) ::
(nat_lit 56, (@PySem.Obj.mk (@PySem.Value.type "tuple") Option.none (@PySem.Data.seq (List.toArray [(@PySem.Value.ref (31 : Nat))]) (0 : Nat)) (List.toArray []))) ::
(nat_lit 59, (@PySem.Obj.mk (@PySem.Value.type "cell") Option.none (@PySem.Data.cell (Option.some (@PySem.Value.ref (74 : Nat)))) (List.toArray []))) ::
(nat_lit 64, (@PySem.Obj.mk (@PySem.Value.type "tuple") Option.none (@PySem.Data.seq (List.toArray [(@PySem.Value.ref (59 : Nat))]) (0 : Nat)) (List.toArray []))) ::
(nat_lit 65, (@PySem.Obj.mk (@PySem.Value.type "tuple") Option.none (@PySem.Data.seq (List.toArray [(@PySem.Value.str (@PySem.Str.ofString "__class__") (256 : Nat))]) (0 : Nat)) (List.toArray []))) ::
(nat_lit 67, (@PySem.Obj.mk (@PySem.Value.type "tuple") Option.none (@PySem.Data.seq (List.toArray [(@PySem.Value.str (@PySem.Str.ofString "self") (257 : Nat)), (@PySem.Value.str (@PySem.Str.ofString "name") (258 : Nat))]) (0 : Nat)) (List.toArray []))) ::
(nat_lit 68, (@PySem.Obj.mk (@PySem.Value.type "tuple") Option.none (@PySem.Data.seq (List.toArray []) (0 : Nat)) (List.toArray []))) ::
(nat_lit 70, (@PySem.Obj.mk (@PySem.Value.type "code") Option.none (@PySem.Data.fields (List.toArray [(@PySem.Value.str (@PySem.Str.ofString "__init__") (253 : Nat)), (@PySem.Value.str (@PySem.Str.ofString "NoThing.__init__") (254 : Nat)), (@PySem.Value.str (@PySem.Str.ofString "/claim/cut.py") (255 : Nat)), (@PySem.Value.int (14 : Int) (0 : Nat)), (@PySem.Value.int (2 : Int) (0 : Nat)), (@PySem.Value.int (0 : Int) (0 : Nat)), (@PySem.Value.int (0 : Int) (0 : Nat)), (@PySem.Value.int (3 : Int) (0 : Nat)), (@PySem.Value.ref (65 : Nat)), (@PySem.Value.bool Bool.true), (@PySem.Value.int (181 : Int) (0 : Nat)), (@PySem.Value.ref (66 : Nat)), PySem.Value.none, (@PySem.Value.ref (67 : Nat)), (@PySem.Value.ref (68 : Nat)), (@PySem.Value.ref (69 : Nat)), (@PySem.Value.int (259 : Int) (0 : Nat)), (@PySem.Value.int (14 : Int) (0 : Nat)), (@PySem.Value.str (@PySem.Str.ofString "/claim/cut.py") (260 : Nat))])) (List.toArray []))) ::
(nat_lit 71, (@PySem.Obj.mk (@PySem.Value.type "function") Option.none (@PySem.Data.func (PySem.FuncData.mk (@PySem.Str.ofString "__init__") (@PySem.Str.ofString "NoThing.__init__") (defArgs s_NoThing___init__) (PySem.FuncBody.stmts (defBody s_NoThing___init__)) (defScope s_NoThing___init__) (3 : Nat) [((@PySem.Str.ofString "__class__"), (59 : Nat))] PySem.Value.none PySem.Value.none PySem.Value.none (@PySem.Value.str (@PySem.Str.ofString "quietprobes.errors") (194 : Nat)) Option.none (@PySem.Value.ref (70 : Nat)) (@PySem.Value.ref (64 : Nat)) (0 : Nat))) (List.toArray []))) ::
(nat_lit 72, (@PySem.Obj.mk (@PySem.Value.type "tuple") Option.none (@PySem.Data.seq (List.toArray [(@PySem.Value.str (@PySem.Str.ofString "name") (262 : Nat))]) (0 : Nat)) (List.toArray []))) ::
(nat_lit 73, (@PySem.Obj.mk (@PySem.Value.type "dict") Option.none (@PySem.Data.dict (List.toArray [(@PySem.DictEntry.mk (@PySem.PyData.keyHash P (@PySem.Str.ofString "__module__")) (@PySem.Value.str (@PySem.Str.ofString "__module__") (248 : Nat)) (@PySem.Value.str (@PySem.Str.ofString "quietprobes.errors") (194 : Nat))), (@PySem.DictEntry.mk (@PySem.PyData.keyHash P (@PySem.Str.ofString "__firstlineno__")) (@PySem.Value.str (@PySem.Str.ofString "__firstlineno__") (252 : Nat)) (@PySem.Value.int (12 : Int) (251 : Nat))), (@PySem.DictEntry.mk (@PySem.PyData.keyHash P (@PySem.Str.ofString "__init__")) (@PySem.Value.str (@PySem.Str.ofString "__init__") (261 : Nat)) (@PySem.Value.ref (71 : Nat))), (@PySem.DictEntry.mk (@PySem.PyData.keyHash P (@PySem.Str.ofString "__static_attributes__")) (@PySem.Value.str (@PySem.Str.ofString "__static_attributes__") (263 : Nat)) (@PySem.Value.ref (72 : Nat))), (@PySem.DictEntry.mk (@PySem.PyData.keyHash P (@PySem.Str.ofString "__doc__")) (@PySem.Value.str (@PySem.Str.ofString "__doc__") (265 : Nat)) PySem.Value.none)]) (3 : Nat)) (List.toArray []))) ::
(nat_lit 74, (@PySem.Obj.mk (@PySem.Value.type "type") Option.none (@PySem.Data.cls (@PySem.ClassData.mk (@PySem.Str.ofString "NoThing") [(@PySem.Value.ref (31 : Nat))] [(@PySem.Value.ref (74 : Nat)), (@PySem.Value.ref (31 : Nat)), (@PySem.Value.type "ValueError"), (@PySem.Value.type "Exception"), (@PySem.Value.type "BaseException"), (@PySem.Value.type "object")] (73 : Nat) (@PySem.Str.ofString "NoThing") Bool.true [] [] Bool.false Option.none Bool.false)) (List.toArray [(Option.some (@PySem.Value.ref (56 : Nat))), Option.none, (Option.some (@PySem.Value.str (@PySem.Str.ofString "NoThing") (241 : Nat))), (Option.some (@PySem.Value.str (@PySem.Str.ofString "NoThing") (249 : Nat))), (Option.some (@PySem.Value.builtin "ValueError.__new__")), (Option.some (@PySem.Value.bool Bool.true))]))) ::
(nat_lit 77, (@PySem.Obj.mk (@PySem.Value.type "tuple") Option.none (@PySem.Data.seq (List.toArray [(@PySem.Value.ref (31 : Nat))]) (0 : Nat)) (List.toArray []))) ::
(nat_lit 80, (@PySem.Obj.mk (@PySem.Value.type "cell") Option.none (@PySem.Data.cell (Option.some (@PySem.Value.ref (95 : Nat)))) (List.toArray []))) ::
(nat_lit 85, (@PySem.Obj.mk (@PySem.Value.type "tuple") Option.none (@PySem.Data.seq (List.toArray [(@PySem.Value.ref (80 : Nat))]) (0 : Nat)) (List.toArray []))) ::
(nat_lit 86, (@PySem.Obj.mk (@PySem.Value.type "tuple") Option.none (@PySem.Data.seq (List.toArray [(@PySem.Value.str (@PySem.Str.ofString "__class__") (283 : Nat))]) (0 : Nat)) (List.toArray []))) ::
(nat_lit 88, (@PySem.Obj.mk (@PySem.Value.type "tuple") Option.none (@PySem.Data.seq (List.toArray [(@PySem.Value.str (@PySem.Str.ofString "self") (284 : Nat)), (@PySem.Value.str (@PySem.Str.ofString "name") (285 : Nat))]) (0 : Nat)) (List.toArray []))) ::
(nat_lit 89, (@PySem.Obj.mk (@PySem.Value.type "tuple") Option.none (@PySem.Data.seq (List.toArray []) (0 : Nat)) (List.toArray []))) ::
(nat_lit 91, (@PySem.Obj.mk (@PySem.Value.type "code") Option.none (@PySem.Data.fields (List.toArray [(@PySem.Value.str (@PySem.Str.ofString "__init__") (280 : Nat)), (@PySem.Value.str (@PySem.Str.ofString "Twice.__init__") (281 : Nat)), (@PySem.Value.str (@PySem.Str.ofString "/claim/cut.py") (282 : Nat)), (@PySem.Value.int (19 : Int) (0 : Nat)), (@PySem.Value.int (2 : Int) (0 : Nat)), (@PySem.Value.int (0 : Int) (0 : Nat)), (@PySem.Value.int (0 : Int) (0 : Nat)), (@PySem.Value.int (3 : Int) (0 : Nat)), (@PySem.Value.ref (86 : Nat)), (@PySem.Value.bool Bool.true), (@PySem.Value.int (181 : Int) (0 : Nat)), (@PySem.Value.ref (87 : Nat)), PySem.Value.none, (@PySem.Value.ref (88 : Nat)), (@PySem.Value.ref (89 : Nat)), (@PySem.Value.ref (90 : Nat)), (@PySem.Value.int (286 : Int) (0 : Nat)), (@PySem.Value.int (19 : Int) (0 : Nat)), (@PySem.Value.str (@PySem.Str.ofString "/claim/cut.py") (287 : Nat))])) (List.toArray []))) ::
(nat_lit 92, (@PySem.Obj.mk (@PySem.Value.type "function") Option.none (@PySem.Data.func (PySem.FuncData.mk (@PySem.Str.ofString "__init__") (@PySem.Str.ofString "Twice.__init__") (defArgs s_Twice___init__) (PySem.FuncBody.stmts (defBody s_Twice___init__)) (defScope s_Twice___init__) (3 : Nat) [((@PySem.Str.ofString "__class__"), (80 : Nat))] PySem.Value.none PySem.Value.none PySem.Value.none (@PySem.Value.str (@PySem.Str.ofString "quietprobes.errors") (194 : Nat)) Option.none (@PySem.Value.ref (91 : Nat)) (@PySem.Value.ref (85 : Nat)) (0 : Nat))) (List.toArray []))) ::
(nat_lit 93, (@PySem.Obj.mk (@PySem.Value.type "tuple") Option.none (@PySem.Data.seq (List.toArray [(@PySem.Value.str (@PySem.Str.ofString "name") (289 : Nat))]) (0 : Nat)) (List.toArray []))) ::
(nat_lit 94, (@PySem.Obj.mk (@PySem.Value.type "dict") Option.none (@PySem.Data.dict (List.toArray [(@PySem.DictEntry.mk (@PySem.PyData.keyHash P (@PySem.Str.ofString "__module__")) (@PySem.Value.str (@PySem.Str.ofString "__module__") (275 : Nat)) (@PySem.Value.str (@PySem.Str.ofString "quietprobes.errors") (194 : Nat))), (@PySem.DictEntry.mk (@PySem.PyData.keyHash P (@PySem.Str.ofString "__firstlineno__")) (@PySem.Value.str (@PySem.Str.ofString "__firstlineno__") (279 : Nat)) (@PySem.Value.int (17 : Int) (278 : Nat))), (@PySem.DictEntry.mk (@PySem.PyData.keyHash P (@PySem.Str.ofString "__init__")) (@PySem.Value.str (@PySem.Str.ofString "__init__") (288 : Nat)) (@PySem.Value.ref (92 : Nat))), (@PySem.DictEntry.mk (@PySem.PyData.keyHash P (@PySem.Str.ofString "__static_attributes__")) (@PySem.Value.str (@PySem.Str.ofString "__static_attributes__") (290 : Nat)) (@PySem.Value.ref (93 : Nat))), (@PySem.DictEntry.mk (@PySem.PyData.keyHash P (@PySem.Str.ofString "__doc__")) (@PySem.Value.str (@PySem.Str.ofString "__doc__") (292 : Nat)) PySem.Value.none)]) (3 : Nat)) (List.toArray []))) ::
(nat_lit 95, (@PySem.Obj.mk (@PySem.Value.type "type") Option.none (@PySem.Data.cls (@PySem.ClassData.mk (@PySem.Str.ofString "Twice") [(@PySem.Value.ref (31 : Nat))] [(@PySem.Value.ref (95 : Nat)), (@PySem.Value.ref (31 : Nat)), (@PySem.Value.type "ValueError"), (@PySem.Value.type "Exception"), (@PySem.Value.type "BaseException"), (@PySem.Value.type "object")] (94 : Nat) (@PySem.Str.ofString "Twice") Bool.true [] [] Bool.false Option.none Bool.false)) (List.toArray [(Option.some (@PySem.Value.ref (77 : Nat))), Option.none, (Option.some (@PySem.Value.str (@PySem.Str.ofString "Twice") (268 : Nat))), (Option.some (@PySem.Value.str (@PySem.Str.ofString "Twice") (276 : Nat))), (Option.some (@PySem.Value.builtin "ValueError.__new__")), (Option.some (@PySem.Value.bool Bool.true))]))) ::
(nat_lit 98, (@PySem.Obj.mk (@PySem.Value.type "tuple") Option.none (@PySem.Data.seq (List.toArray [(@PySem.Value.ref (31 : Nat))]) (0 : Nat)) (List.toArray []))) ::
(nat_lit 101, (@PySem.Obj.mk (@PySem.Value.type "cell") Option.none (@PySem.Data.cell (Option.some (@PySem.Value.ref (116 : Nat)))) (List.toArray []))) ::
(nat_lit 106, (@PySem.Obj.mk (@PySem.Value.type "tuple") Option.none (@PySem.Data.seq (List.toArray [(@PySem.Value.ref (101 : Nat))]) (0 : Nat)) (List.toArray []))) ::
(nat_lit 107, (@PySem.Obj.mk (@PySem.Value.type "tuple") Option.none (@PySem.Data.seq (List.toArray [(@PySem.Value.str (@PySem.Str.ofString "__class__") (310 : Nat))]) (0 : Nat)) (List.toArray []))) ::
(nat_lit 109, (@PySem.Obj.mk (@PySem.Value.type "tuple") Option.none (@PySem.Data.seq (List.toArray [(@PySem.Value.str (@PySem.Str.ofString "self") (311 : Nat)), (@PySem.Value.str (@PySem.Str.ofString "limit") (312 : Nat))]) (0 : Nat)) (List.toArray []))) ::
(nat_lit 110, (@PySem.Obj.mk (@PySem.Value.type "tuple") Option.none (@PySem.Data.seq (List.toArray []) (0 : Nat)) (List.toArray []))) ::
(nat_lit 112, (@PySem.Obj.mk (@PySem.Value.type "code") Option.none (@PySem.Data.fields (List.toArray [(@PySem.Value.str (@PySem.Str.ofString "__init__") (307 : Nat)), (@PySem.Value.str (@PySem.Str.ofString "TooMany.__init__") (308 : Nat)), (@PySem.Value.str (@PySem.Str.ofString "/claim/cut.py") (309 : Nat)), (@PySem.Value.int (24 : Int) (0 : Nat)), (@PySem.Value.int (2 : Int) (0 : Nat)), (@PySem.Value.int (0 : Int) (0 : Nat)), (@PySem.Value.int (0 : Int) (0 : Nat)), (@PySem.Value.int (3 : Int) (0 : Nat)), (@PySem.Value.ref (107 : Nat)), (@PySem.Value.bool Bool.true), (@PySem.Value.int (181 : Int) (0 : Nat)), (@PySem.Value.ref (108 : Nat)), PySem.Value.none, (@PySem.Value.ref (109 : Nat)), (@PySem.Value.ref (110 : Nat)), (@PySem.Value.ref (111 : Nat)), (@PySem.Value.int (313 : Int) (0 : Nat)), (@PySem.Value.int (24 : Int) (0 : Nat)), (@PySem.Value.str (@PySem.Str.ofString "/claim/cut.py") (314 : Nat))])) (List.toArray []))) ::
(nat_lit 113, (@PySem.Obj.mk (@PySem.Value.type "function") Option.none (@PySem.Data.func (PySem.FuncData.mk (@PySem.Str.ofString "__init__") (@PySem.Str.ofString "TooMany.__init__") (defArgs s_TooMany___init__) (PySem.FuncBody.stmts (defBody s_TooMany___init__)) (defScope s_TooMany___init__) (3 : Nat) [((@PySem.Str.ofString "__class__"), (101 : Nat))] PySem.Value.none PySem.Value.none PySem.Value.none (@PySem.Value.str (@PySem.Str.ofString "quietprobes.errors") (194 : Nat)) Option.none (@PySem.Value.ref (112 : Nat)) (@PySem.Value.ref (106 : Nat)) (0 : Nat))) (List.toArray []))) ::
(nat_lit 114, (@PySem.Obj.mk (@PySem.Value.type "tuple") Option.none (@PySem.Data.seq (List.toArray [(@PySem.Value.str (@PySem.Str.ofString "limit") (316 : Nat))]) (0 : Nat)) (List.toArray []))) ::
(nat_lit 115, (@PySem.Obj.mk (@PySem.Value.type "dict") Option.none (@PySem.Data.dict (List.toArray [(@PySem.DictEntry.mk (@PySem.PyData.keyHash P (@PySem.Str.ofString "__module__")) (@PySem.Value.str (@PySem.Str.ofString "__module__") (302 : Nat)) (@PySem.Value.str (@PySem.Str.ofString "quietprobes.errors") (194 : Nat))), (@PySem.DictEntry.mk (@PySem.PyData.keyHash P (@PySem.Str.ofString "__firstlineno__")) (@PySem.Value.str (@PySem.Str.ofString "__firstlineno__") (306 : Nat)) (@PySem.Value.int (22 : Int) (305 : Nat))), (@PySem.DictEntry.mk (@PySem.PyData.keyHash P (@PySem.Str.ofString "__init__")) (@PySem.Value.str (@PySem.Str.ofString "__init__") (315 : Nat)) (@PySem.Value.ref (113 : Nat))), (@PySem.DictEntry.mk (@PySem.PyData.keyHash P (@PySem.Str.ofString "__static_attributes__")) (@PySem.Value.str (@PySem.Str.ofString "__static_attributes__") (317 : Nat)) (@PySem.Value.ref (114 : Nat))), (@PySem.DictEntry.mk (@PySem.PyData.keyHash P (@PySem.Str.ofString "__doc__")) (@PySem.Value.str (@PySem.Str.ofString "__doc__") (319 : Nat)) PySem.Value.none)]) (3 : Nat)) (List.toArray []))) ::
(nat_lit 116, (@PySem.Obj.mk (@PySem.Value.type "type") Option.none (@PySem.Data.cls (@PySem.ClassData.mk (@PySem.Str.ofString "TooMany") [(@PySem.Value.ref (31 : Nat))] [(@PySem.Value.ref (116 : Nat)), (@PySem.Value.ref (31 : Nat)), (@PySem.Value.type "ValueError"), (@PySem.Value.type "Exception"), (@PySem.Value.type "BaseException"), (@PySem.Value.type "object")] (115 : Nat) (@PySem.Str.ofString "TooMany") Bool.true [] [] Bool.false Option.none Bool.false)) (List.toArray [(Option.some (@PySem.Value.ref (98 : Nat))), Option.none, (Option.some (@PySem.Value.str (@PySem.Str.ofString "TooMany") (295 : Nat))), (Option.some (@PySem.Value.str (@PySem.Str.ofString "TooMany") (303 : Nat))), (Option.some (@PySem.Value.builtin "ValueError.__new__")), (Option.some (@PySem.Value.bool Bool.true))]))) ::
(nat_lit 119, (@PySem.Obj.mk (@PySem.Value.type "tuple") Option.none (@PySem.Data.seq (List.toArray []) (0 : Nat)) (List.toArray []))) ::
(nat_lit 122, (@PySem.Obj.mk (@PySem.Value.type "code") Option.none (@PySem.Data.fields (List.toArray [(@PySem.Value.str (@PySem.Str.ofString "is_name") (332 : Nat)), (@PySem.Value.str (@PySem.Str.ofString "is_name") (333 : Nat)), (@PySem.Value.str (@PySem.Str.ofString "/claim/cut.py") (334 : Nat)), (@PySem.Value.int (32 : Int) (0 : Nat)), (@PySem.Value.int (1 : Int) (0 : Nat)), (@PySem.Value.int (0 : Int) (0 : Nat)), (@PySem.Value.int (0 : Int) (0 : Nat)), (@PySem.Value.int (3 : Int) (0 : Nat)), (@PySem.Value.ref (119 : Nat)), (@PySem.Value.bool Bool.true), (@PySem.Value.int (181 : Int) (0 : Nat)), (@PySem.Value.ref (120 : Nat)), PySem.Value.none, PySem.Value.none, PySem.Value.none, (@PySem.Value.ref (121 : Nat)), (@PySem.Value.int (335 : Int) (0 : Nat)), (@PySem.Value.int (32 : Int) (0 : Nat)), (@PySem.Value.str (@PySem.Str.ofString "/claim/cut.py") (336 : Nat))])) (List.toArray []))) ::
(nat_lit 123, (@PySem.Obj.mk (@PySem.Value.type "function") Option.none (@PySem.Data.func (PySem.FuncData.mk (@PySem.Str.ofString "is_name") (@PySem.Str.ofString "is_name") (defArgs s_is_name) (PySem.FuncBody.stmts (defBody s_is_name)) (defScope s_is_name) (3 : Nat) [] PySem.Value.none PySem.Value.none PySem.Value.none (@PySem.Value.str (@PySem.Str.ofString "quietprobes.things") (322 : Nat)) Option.none (@PySem.Value.ref (122 : Nat)) PySem.Value.none (0 : Nat))) (List.toArray []))) ::
(nat_lit 124, (@PySem.Obj.mk (@PySem.Value.type "tuple") Option.none (@PySem.Data.seq (List.toArray []) (0 : Nat)) (List.toArray []))) ::
(nat_lit 126, (@PySem.Obj.mk (@PySem.Value.type "tuple") Option.none (@PySem.Data.seq (List.toArray [(@PySem.Value.str (@PySem.Str.ofString "values") (341 : Nat)), (@PySem.Value.str (@PySem.Str.ofString "value") (342 : Nat))]) (0 : Nat)) (List.toArray []))) ::
(nat_lit 127, (@PySem.Obj.mk (@PySem.Value.type "tuple") Option.none (@PySem.Data.seq (List.toArray []) (0 : Nat)) (List.toArray []))) ::
(nat_lit 129, (@PySem.Obj.mk (@PySem.Value.type "code") Option.none (@PySem.Data.fields (List.toArray [(@PySem.Value.str (@PySem.Str.ofString "need_names") (338 : Nat)), (@PySem.Value.str (@PySem.Str.ofString "need_names") (339 : Nat)), (@PySem.Value.str (@PySem.Str.ofString "/claim/cut.py") (340 : Nat)), (@PySem.Value.int (36 : Int) (0 : Nat)), (@PySem.Value.int (1 : Int) (0 : Nat)), (@PySem.Value.int (0 : Int) (0 : Nat)), (@PySem.Value.int (0 : Int) (0 : Nat)), (@PySem.Value.int (3 : Int) (0 : Nat)), (@PySem.Value.ref (124 : Nat)), (@PySem.Value.bool Bool.true), (@PySem.Value.int (181 : Int) (0 : Nat)), (@PySem.Value.ref (125 : Nat)), PySem.Value.none, (@PySem.Value.ref (126 : Nat)), (@PySem.Value.ref (127 : Nat)), (@PySem.Value.ref (128 : Nat)), (@PySem.Value.int (343 : Int) (0 : Nat)), (@PySem.Value.int (36 : Int) (0 : Nat)), (@PySem.Value.str (@PySem.Str.ofString "/claim/cut.py") (344 : Nat))])) (List.toArray []))) ::
(nat_lit 130, (@PySem.Obj.mk (@PySem.Value.type "function") Option.none (@PySem.Data.func (PySem.FuncData.mk (@PySem.Str.ofString "need_names") (@PySem.Str.ofString "need_names") (defArgs s_need_names) (PySem.FuncBody.stmts (defBody s_need_names)) (defScope s_need_names) (3 : Nat) [] PySem.Value.none PySem.Value.none PySem.Value.none (@PySem.Value.str (@PySem.Str.ofString "quietprobes.things") (322 : Nat)) Option.none (@PySem.Value.ref (129 : Nat)) PySem.Value.none (0 : Nat))) (List.toArray []))) ::
(nat_lit 131, (@PySem.Obj.mk (@PySem.Value.type "tuple") Option.none (@PySem.Data.seq (List.toArray []) (0 : Nat)) (List.toArray []))) ::
(nat_lit 133, (@PySem.Obj.mk (@PySem.Value.type "tuple") Option.none (@PySem.Data.seq (List.toArray [(@PySem.Value.str (@PySem.Str.ofString "names") (349 : Nat)), (@PySem.Value.str (@PySem.Str.ofString "seen") (350 : Nat)), (@PySem.Value.str (@PySem.Str.ofString "name") (351 : Nat))]) (0 : Nat)) (List.toArray []))) ::
(nat_lit 134, (@PySem.Obj.mk (@PySem.Value.type "tuple") Option.none (@PySem.Data.seq (List.toArray []) (0 : Nat)) (List.toArray []))) ::
(nat_lit 136, (@PySem.Obj.mk (@PySem.Value.type "code") Option.none (@PySem.Data.fields (List.toArray [(@PySem.Value.str (@PySem.Str.ofString "need_unlike") (346 : Nat)), (@PySem.Value.str (@PySem.Str.ofString "need_unlike") (347 : Nat)), (@PySem.Value.str (@PySem.Str.ofString "/claim/cut.py") (348 : Nat)), (@PySem.Value.int (40 : Int) (0 : Nat)), (@PySem.Value.int (1 : Int) (0 : Nat)), (@PySem.Value.int (0 : Int) (0 : Nat)), (@PySem.Value.int (0 : Int) (0 : Nat)), (@PySem.Value.int (3 : Int) (0 : Nat)), (@PySem.Value.ref (131 : Nat)), (@PySem.Value.bool Bool.true), (@PySem.Value.int (181 : Int) (0 : Nat)), (@PySem.Value.ref (132 : Nat)), PySem.Value.none, (@PySem.Value.ref (133 : Nat)), (@PySem.Value.ref (134 : Nat)), (@PySem.Value.ref (135 : Nat)), (@PySem.Value.int (352 : Int) (0 : Nat)), (@PySem.Value.int (40 : Int) (0 : Nat)), (@PySem.Value.str (@PySem.Str.ofString "/claim/cut.py") (353 : Nat))])) (List.toArray []))) ::
(nat_lit 137, (@PySem.Obj.mk (@PySem.Value.type "function") Option.none (@PySem.Data.func (PySem.FuncData.mk (@PySem.Str.ofString "need_unlike") (@PySem.Str.ofString "need_unlike") (defArgs s_need_unlike) (PySem.FuncBody.stmts (defBody s_need_unlike)) (defScope s_need_unlike) (3 : Nat) [] PySem.Value.none PySem.Value.none PySem.Value.none (@PySem.Value.str (@PySem.Str.ofString "quietprobes.things") (322 : Nat)) Option.none (@PySem.Value.ref (136 : Nat)) PySem.Value.none (0 : Nat))) (List.toArray []))) ::
(nat_lit 145, (@PySem.Obj.mk (@PySem.Value.type "tuple") Option.none (@PySem.Data.seq (List.toArray [(@PySem.Value.str (@PySem.Str.ofString "feed") (367 : Nat)), (@PySem.Value.str (@PySem.Str.ofString "dice") (368 : Nat)), (@PySem.Value.str (@PySem.Str.ofString "table") (369 : Nat)), (@PySem.Value.str (@PySem.Str.ofString "source") (370 : Nat)), (@PySem.Value.str (@PySem.Str.ofString "field") (371 : Nat)), (@PySem.Value.str (@PySem.Str.ofString "flag") (372 : Nat)), (@PySem.Value.str (@PySem.Str.ofString "slot") (373 : Nat))]) (0 : Nat)) (List.toArray []))) ::
(nat_lit 146, (@PySem.Obj.mk (@PySem.Value.type "tuple") Option.none (@PySem.Data.seq (List.toArray []) (0 : Nat)) (List.toArray []))) ::
(nat_lit 147, (@PySem.Obj.mk (@PySem.Value.type "tuple") Option.none (@PySem.Data.seq (List.toArray [(@PySem.Value.ref (146 : Nat))]) (0 : Nat)) (List.toArray []))) ::
(nat_lit 148, (@PySem.Obj.mk (@PySem.Value.type "tuple") Option.none (@PySem.Data.seq (List.toArray []) (0 : Nat)) (List.toArray []))) ::
(nat_lit 150, (@PySem.Obj.mk (@PySem.Value.type "tuple") Option.none (@PySem.Data.seq (List.toArray [(@PySem.Value.str (@PySem.Str.ofString "self") (378 : Nat)), (@PySem.Value.str (@PySem.Str.ofString "kind") (379 : Nat)), (@PySem.Value.str (@PySem.Str.ofString "name") (380 : Nat)), (@PySem.Value.str (@PySem.Str.ofString "parts") (381 : Nat))]) (0 : Nat)) (List.toArray []))) ::
(nat_lit 151, (@PySem.Obj.mk (@PySem.Value.type "tuple") Option.none (@PySem.Data.seq (List.toArray []) (0 : Nat)) (List.toArray []))) ::
(nat_lit 153, (@PySem.Obj.mk (@PySem.Value.type "code") Option.none (@PySem.Data.fields (List.toArray [(@PySem.Value.str (@PySem.Str.ofString "__init__") (375 : Nat)), (@PySem.Value.str (@PySem.Str.ofString "Thing.__init__") (376 : Nat)), (@PySem.Value.str (@PySem.Str.ofString "/claim/cut.py") (377 : Nat)), (@PySem.Value.int (49 : Int) (0 : Nat)), (@PySem.Value.int (4 : Int) (0 : Nat)), (@PySem.Value.int (0 : Int) (0 : Nat)), (@PySem.Value.int (0 : Int) (0 : Nat)), (@PySem.Value.int (3 : Int) (0 : Nat)), (@PySem.Value.ref (148 : Nat)), (@PySem.Value.bool Bool.true), (@PySem.Value.int (181 : Int) (0 : Nat)), (@PySem.Value.ref (149 : Nat)), PySem.Value.none, (@PySem.Value.ref (150 : Nat)), (@PySem.Value.ref (151 : Nat)), (@PySem.Value.ref (152 : Nat)), (@PySem.Value.int (382 : Int) (0 : Nat)), (@PySem.Value.int (49 : Int) (0 : Nat)), (@PySem.Value.str (@PySem.Str.ofString "/claim/cut.py") (383 : Nat))])) (List.toArray []))) ::
(nat_lit 154, (@PySem.Obj.mk (@PySem.Value.type "function") Option.none (@PySem.Data.func (PySem.FuncData.mk (@PySem.Str.ofString "__init__") (@PySem.Str.ofString "Thing.__init__") (defArgs s_Thing___init__) (PySem.FuncBody.stmts (defBody s_Thing___init__)) (defScope s_Thing___init__) (3 : Nat) [] (@PySem.Value.ref (147 : Nat)) PySem.Value.none PySem.Value.none (@PySem.Value.str (@PySem.Str.ofString "quietprobes.things") (322 : Nat)) Option.none (@PySem.Value.ref (153 : Nat)) PySem.Value.none (0 : Nat))) (List.toArray []))) ::
(nat_lit 155, (@PySem.Obj.mk (@PySem.Value.type "tuple") Option.none (@PySem.Data.seq (List.toArray []) (0 : Nat)) (List.toArray []))) ::
(nat_lit 157, (@PySem.Obj.mk (@PySem.Value.type "tuple") Option.none (@PySem.Data.seq (List.toArray [(@PySem.Value.str (@PySem.Str.ofString "self") (388 : Nat)), (@PySem.Value.str (@PySem.Str.ofString "other") (389 : Nat))]) (0 : Nat)) (List.toArray []))) ::
(nat_lit 158, (@PySem.Obj.mk (@PySem.Value.type "tuple") Option.none (@PySem.Data.seq (List.toArray []) (0 : Nat)) (List.toArray []))) ::
(nat_lit 160, (@PySem.Obj.mk (@PySem.Value.type "code") Option.none (@PySem.Data.fields (List.toArray [(@PySem.Value.str (@PySem.Str.ofString "__eq__") (385 : Nat)), (@PySem.Value.str (@PySem.Str.ofString "Thing.__eq__") (386 : Nat)), (@PySem.Value.str (@PySem.Str.ofString "/claim/cut.py") (387 : Nat)), (@PySem.Value.int (54 : Int) (0 : Nat)), (@PySem.Value.int (2 : Int) (0 : Nat)), (@PySem.Value.int (0 : Int) (0 : Nat)), (@PySem.Value.int (0 : Int) (0 : Nat)), (@PySem.Value.int (3 : Int) (0 : Nat)), (@PySem.Value.ref (155 : Nat)), (@PySem.Value.bool Bool.true), (@PySem.Value.int (181 : Int) (0 : Nat)), (@PySem.Value.ref (156 : Nat)), PySem.Value.none, (@PySem.Value.ref (157 : Nat)), (@PySem.Value.ref (158 : Nat)), (@PySem.Value.ref (159 : Nat)), (@PySem.Value.int (390 : Int) (0 : Nat)), (@PySem.Value.int (54 : Int) (0 : Nat)), (@PySem.Value.str (@PySem.Str.ofString "/claim/cut.py") (391 : Nat))])) (List.toArray []))) ::
(nat_lit 161, (@PySem.Obj.mk (@PySem.Value.type "function") Option.none (@PySem.Data.func (PySem.FuncData.mk (@PySem.Str.ofString "__eq__") (@PySem.Str.ofString "Thing.__eq__") (defArgs s_Thing___eq__) (PySem.FuncBody.stmts (defBody s_Thing___eq__)) (defScope s_Thing___eq__) (3 : Nat) [] PySem.Value.none PySem.Value.none PySem.Value.none (@PySem.Value.str (@PySem.Str.ofString "quietprobes.things") (322 : Nat)) Option.none (@PySem.Value.ref (160 : Nat)) PySem.Value.none (0 : Nat))) (List.toArray []))) ::
(nat_lit 162, (@PySem.Obj.mk (@PySem.Value.type "tuple") Option.none (@PySem.Data.seq (List.toArray []) (0 : Nat)) (List.toArray []))) ::
(nat_lit 164, (@PySem.Obj.mk (@PySem.Value.type "tuple") Option.none (@PySem.Data.seq (List.toArray [(@PySem.Value.str (@PySem.Str.ofString "self") (396 : Nat))]) (0 : Nat)) (List.toArray []))) ::
(nat_lit 165, (@PySem.Obj.mk (@PySem.Value.type "tuple") Option.none (@PySem.Data.seq (List.toArray []) (0 : Nat)) (List.toArray []))) ::
(nat_lit 167, (@PySem.Obj.mk (@PySem.Value.type "code") Option.none (@PySem.Data.fields (List.toArray [(@PySem.Value.str (@PySem.Str.ofString "__str__") (393 : Nat)), (@PySem.Value.str (@PySem.Str.ofString "Thing.__str__") (394 : Nat)), (@PySem.Value.str (@PySem.Str.ofString "/claim/cut.py") (395 : Nat)), (@PySem.Value.int (57 : Int) (0 : Nat)), (@PySem.Value.int (1 : Int) (0 : Nat)), (@PySem.Value.int (0 : Int) (0 : Nat)), (@PySem.Value.int (0 : Int) (0 : Nat)), (@PySem.Value.int (3 : Int) (0 : Nat)), (@PySem.Value.ref (162 : Nat)), (@PySem.Value.bool Bool.true), (@PySem.Value.int (181 : Int) (0 : Nat)), (@PySem.Value.ref (163 : Nat)), PySem.Value.none, (@PySem.Value.ref (164 : Nat)), (@PySem.Value.ref (165 : Nat)), (@PySem.Value.ref (166 : Nat)), (@PySem.Value.int (397 : Int) (0 : Nat)), (@PySem.Value.int (57 : Int) (0 : Nat)), (@PySem.Value.str (@PySem.Str.ofString "/claim/cut.py") (398 : Nat))])) (List.toArray []))) ::
(nat_lit 168, (@PySem.Obj.mk (@PySem.Value.type "function") Option.none (@PySem.Data.func (PySem.FuncData.mk (@PySem.Str.ofString "__str__") (@PySem.Str.ofString "Thing.__str__") (defArgs s_Thing___str__) (PySem.FuncBody.stmts (defBody s_Thing___str__)) (defScope s_Thing___str__) (3 : Nat) [] PySem.Value.none PySem.Value.none PySem.Value.none (@PySem.Value.str (@PySem.Str.ofString "quietprobes.things") (322 : Nat)) Option.none (@PySem.Value.ref (167 : Nat)) PySem.Value.none (0 : Nat))) (List.toArray []))) ::
(nat_lit 169, (@PySem.Obj.mk (@PySem.Value.type "tuple") Option.none (@PySem.Data.seq (List.toArray []) (0 : Nat)) (List.toArray []))) ::
(nat_lit 171, (@PySem.Obj.mk (@PySem.Value.type "tuple") Option.none (@PySem.Data.seq (List.toArray [(@PySem.Value.str (@PySem.Str.ofString "name") (403 : Nat))]) (0 : Nat)) (List.toArray []))) ::
(nat_lit 172, (@PySem.Obj.mk (@PySem.Value.type "tuple") Option.none (@PySem.Data.seq (List.toArray []) (0 : Nat)) (List.toArray []))) ::
(nat_lit 174, (@PySem.Obj.mk (@PySem.Value.type "code") Option.none (@PySem.Data.fields (List.toArray [(@PySem.Value.str (@PySem.Str.ofString "feed") (400 : Nat)), (@PySem.Value.str (@PySem.Str.ofString "Thing.feed") (401 : Nat)), (@PySem.Value.str (@PySem.Str.ofString "/claim/cut.py") (402 : Nat)), (@PySem.Value.int (60 : Int) (0 : Nat)), (@PySem.Value.int (1 : Int) (0 : Nat)), (@PySem.Value.int (0 : Int) (0 : Nat)), (@PySem.Value.int (0 : Int) (0 : Nat)), (@PySem.Value.int (3 : Int) (0 : Nat)), (@PySem.Value.ref (169 : Nat)), (@PySem.Value.bool Bool.true), (@PySem.Value.int (181 : Int) (0 : Nat)), (@PySem.Value.ref (170 : Nat)), PySem.Value.none, (@PySem.Value.ref (171 : Nat)), (@PySem.Value.ref (172 : Nat)), (@PySem.Value.ref (173 : Nat)), (@PySem.Value.int (404 : Int) (0 : Nat)), (@PySem.Value.int (60 : Int) (0 : Nat)), (@PySem.Value.str (@PySem.Str.ofString "/claim/cut.py") (405 : Nat))])) (List.toArray []))) ::
(nat_lit 175, (@PySem.Obj.mk (@PySem.Value.type "function") Option.none (@PySem.Data.func (PySem.FuncData.mk (@PySem.Str.ofString "feed") (@PySem.Str.ofString "Thing.feed") (defArgs s_Thing_feed) (PySem.FuncBody.stmts (defBody s_Thing_feed)) (defScope s_Thing_feed) (3 : Nat) [] PySem.Value.none PySem.Value.none PySem.Value.none (@PySem.Value.str (@PySem.Str.ofString "quietprobes.things") (322 : Nat)) (Option.some (178 : Nat)) (@PySem.Value.ref (174 : Nat)) PySem.Value.none (0 : Nat))) (List.toArray []))) ::
(nat_lit 176, (@PySem.Obj.mk (@PySem.Value.type "dict") Option.none (@PySem.Data.dict (List.toArray [(@PySem.DictEntry.mk (@PySem.PyData.keyHash P (@PySem.Str.ofString "__module__")) (@PySem.Value.str (@PySem.Str.ofString "__module__") (407 : Nat)) (@PySem.Value.str (@PySem.Str.ofString "quietprobes.things") (322 : Nat))), (@PySem.DictEntry.mk (@PySem.PyData.keyHash P (@PySem.Str.ofString "__name__")) (@PySem.Value.str (@PySem.Str.ofString "__name__") (410 : Nat)) (@PySem.Value.str (@PySem.Str.ofString "feed") (409 : Nat))), (@PySem.DictEntry.mk (@PySem.PyData.keyHash P (@PySem.Str.ofString "__qualname__")) (@PySem.Value.str (@PySem.Str.ofString "__qualname__") (413 : Nat)) (@PySem.Value.str (@PySem.Str.ofString "Thing.feed") (412 : Nat))), (@PySem.DictEntry.mk (@PySem.PyData.keyHash P (@PySem.Str.ofString "__doc__")) (@PySem.Value.str (@PySem.Str.ofString "__doc__") (415 : Nat)) PySem.Value.none), (@PySem.DictEntry.mk (@PySem.PyData.keyHash P (@PySem.Str.ofString "__annotations__")) (@PySem.Value.str (@PySem.Str.ofString "__annotations__") (417 : Nat)) (@PySem.Value.ref (178 : Nat)))]) (5 : Nat)) (List.toArray []))) ::
(nat_lit 177, (@PySem.Obj.mk (@PySem.Value.type "staticmethod") (Option.some (176 : Nat)) (@PySem.Data.fields (List.toArray [(@PySem.Value.ref (175 : Nat)), (@PySem.Value.bool Bool.false)])) (List.toArray []))) ::
(nat_lit 178, (@PySem.Obj.mk (@PySem.Value.type "dict") Option.none (@PySem.Data.dict (List.toArray []) (0 : Nat)) (List.toArray []))) ::
(nat_lit 179, (@PySem.Obj.mk (@PySem.Value.type "tuple") Option.none (@PySem.Data.seq (List.toArray []) (0 : Nat)) (List.toArray []))) ::
(nat_lit 181, (@PySem.Obj.mk (@PySem.Value.type "tuple") Option.none (@PySem.Data.seq (List.toArray [(@PySem.Value.str (@PySem.Str.ofString "name") (422 : Nat))]) (0 : Nat)) (List.toArray []))) ::
(nat_lit 182, (@PySem.Obj.mk (@PySem.Value.type "tuple") Option.none (@PySem.Data.seq (List.toArray []) (0 : Nat)) (List.toArray []))) ::
(nat_lit 184, (@PySem.Obj.mk (@PySem.Value.type "code") Option.none (@PySem.Data.fields (List.toArray [(@PySem.Value.str (@PySem.Str.ofString "dice") (419 : Nat)), (@PySem.Value.str (@PySem.Str.ofString "Thing.dice") (420 : Nat)), (@PySem.Value.str (@PySem.Str.ofString "/claim/cut.py") (421 : Nat)), (@PySem.Value.int (65 : Int) (0 : Nat)), (@PySem.Value.int (1 : Int) (0 : Nat)), (@PySem.Value.int (0 : Int) (0 : Nat)), (@PySem.Value.int (0 : Int) (0 : Nat)), (@PySem.Value.int (3 : Int) (0 : Nat)), (@PySem.Value.ref (179 : Nat)), (@PySem.Value.bool Bool.true), (@PySem.Value.int (181 : Int) (0 : Nat)), (@PySem.Value.ref (180 : Nat)), PySem.Value.none, (@PySem.Value.ref (181 : Nat)), (@PySem.Value.ref (182 : Nat)), (@PySem.Value.ref (183 : Nat)), (@PySem.Value.int (423 : Int) (0 : Nat)), (@PySem.Value.int (65 : Int) (0 : Nat)), (@PySem.Value.str (@PySem.Str.ofString "/claim/cut.py") (424 : Nat))])) (List.toArray []))) ::
(nat_lit 185, (@PySem.Obj.mk (@PySem.Value.type "function") Option.none (@PySem.Data.func (PySem.FuncData.mk (@PySem.Str.ofString "dice") (@PySem.Str.ofString "Thing.dice") (defArgs s_Thing_dice) (PySem.FuncBody.stmts (defBody s_Thing_dice)) (defScope s_Thing_dice) (3 : Nat) [] PySem.Value.none PySem.Value.none PySem.Value.none (@PySem.Value.str (@PySem.Str.ofString "quietprobes.things") (322 : Nat)) (Option.some (188 : Nat)) (@PySem.Value.ref (184 : Nat)) PySem.Value.none (0 : Nat))) (List.toArray []))) ::
(nat_lit 186, (@PySem.Obj.mk (@PySem.Value.type "dict") Option.none (@PySem.Data.dict (List.toArray [(@PySem.DictEntry.mk (@PySem.PyData.keyHash P (@PySem.Str.ofString "__module__")) (@PySem.Value.str (@PySem.Str.ofString "__module__") (426 : Nat)) (@PySem.Value.str (@PySem.Str.ofString "quietprobes.things") (322 : Nat))), (@PySem.DictEntry.mk (@PySem.PyData.keyHash P (@PySem.Str.ofString "__name__")) (@PySem.Value.str (@PySem.Str.ofString "__name__") (429 : Nat)) (@PySem.Value.str (@PySem.Str.ofString "dice") (428 : Nat))), (@PySem.DictEntry.mk (@PySem.PyData.keyHash P (@PySem.Str.ofString "__qualname__")) (@PySem.Value.str (@PySem.Str.ofString "__qualname__") (432 : Nat)) (@PySem.Value.str (@PySem.Str.ofString "Thing.dice") (431 : Nat))), (@PySem.DictEntry.mk (@PySem.PyData.keyHash P (@PySem.Str.ofString "__doc__")) (@PySem.Value.str (@PySem.Str.ofString "__doc__") (434 : Nat)) PySem.Value.none), (@PySem.DictEntry.mk (@PySem.PyData.keyHash P (@PySem.Str.ofString "__annotations__")) (@PySem.Value.str (@PySem.Str.ofString "__annotations__") (436 : Nat)) (@PySem.Value.ref (188 : Nat)))]) (5 : Nat)) (List.toArray []))) ::
(nat_lit 187, (@PySem.Obj.mk (@PySem.Value.type "staticmethod") (Option.some (186 : Nat)) (@PySem.Data.fields (List.toArray [(@PySem.Value.ref (185 : Nat)), (@PySem.Value.bool Bool.false)])) (List.toArray []))) ::
(nat_lit 188, (@PySem.Obj.mk (@PySem.Value.type "dict") Option.none (@PySem.Data.dict (List.toArray []) (0 : Nat)) (List.toArray []))) ::
(nat_lit 189, (@PySem.Obj.mk (@PySem.Value.type "tuple") Option.none (@PySem.Data.seq (List.toArray []) (0 : Nat)) (List.toArray []))) ::
(nat_lit 191, (@PySem.Obj.mk (@PySem.Value.type "tuple") Option.none (@PySem.Data.seq (List.toArray [(@PySem.Value.str (@PySem.Str.ofString "name") (441 : Nat))]) (0 : Nat)) (List.toArray []))) ::
(nat_lit 192, (@PySem.Obj.mk (@PySem.Value.type "tuple") Option.none (@PySem.Data.seq (List.toArray []) (0 : Nat)) (List.toArray []))) ::
(nat_lit 194, (@PySem.Obj.mk (@PySem.Value.type "code") Option.none (@PySem.Data.fields (List.toArray [(@PySem.Value.str (@PySem.Str.ofString "source") (438 : Nat)), (@PySem.Value.str (@PySem.Str.ofString "Thing.source") (439 : Nat)), (@PySem.Value.str (@PySem.Str.ofString "/claim/cut.py") (440 : Nat)), (@PySem.Value.int (70 : Int) (0 : Nat)), (@PySem.Value.int (1 : Int) (0 : Nat)), (@PySem.Value.int (0 : Int) (0 : Nat)), (@PySem.Value.int (0 : Int) (0 : Nat)), (@PySem.Value.int (3 : Int) (0 : Nat)), (@PySem.Value.ref (189 : Nat)), (@PySem.Value.bool Bool.true), (@PySem.Value.int (181 : Int) (0 : Nat)), (@PySem.Value.ref (190 : Nat)), PySem.Value.none, (@PySem.Value.ref (191 : Nat)), (@PySem.Value.ref (192 : Nat)), (@PySem.Value.ref (193 : Nat)), (@PySem.Value.int (442 : Int) (0 : Nat)), (@PySem.Value.int (70 : Int) (0 : Nat)), (@PySem.Value.str (@PySem.Str.ofString "/claim/cut.py") (443 : Nat))])) (List.toArray []))) ::
(nat_lit 195, (@PySem.Obj.mk (@PySem.Value.type "function") Option.none (@PySem.Data.func (PySem.FuncData.mk (@PySem.Str.ofString "source") (@PySem.Str.ofString "Thing.source") (defArgs s_Thing_source) (PySem.FuncBody.stmts (defBody s_Thing_source)) (defScope s_Thing_source) (3 : Nat) [] PySem.Value.none PySem.Value.none PySem.Value.none (@PySem.Value.str (@PySem.Str.ofString "quietprobes.things") (322 : Nat)) (Option.some (198 : Nat)) (@PySem.Value.ref (194 : Nat)) PySem.Value.none (0 : Nat))) (List.toArray []))) ::
(nat_lit 196, (@PySem.Obj.mk (@PySem.Value.type "dict") Option.none (@PySem.Data.dict (List.toArray [(@PySem.DictEntry.mk (@PySem.PyData.keyHash P (@PySem.Str.ofString "__module__")) (@PySem.Value.str (@PySem.Str.ofString "__module__") (445 : Nat)) (@PySem.Value.str (@PySem.Str.ofString "quietprobes.things") (322 : Nat))), (@PySem.DictEntry.mk (@PySem.PyData.keyHash P (@PySem.Str.ofString "__name__")) (@PySem.Value.str (@PySem.Str.ofString "__name__") (448 : Nat)) (@PySem.Value.str (@PySem.Str.ofString "source") (447 : Nat))), (@PySem.DictEntry.mk (@PySem.PyData.keyHash P (@PySem.Str.ofString "__qualname__")) (@PySem.Value.str (@PySem.Str.ofString "__qualname__") (451 : Nat)) (@PySem.Value.str (@PySem.Str.ofString "Thing.source") (450 : Nat))), (@PySem.DictEntry.mk (@PySem.PyData.keyHash P (@PySem.Str.ofString "__doc__")) (@PySem.Value.str (@PySem.Str.ofString "__doc__") (453 : Nat)) PySem.Value.none), (@PySem.DictEntry.mk (@PySem.PyData.keyHash P (@PySem.Str.ofString "__annotations__")) (@PySem.Value.str (@PySem.Str.ofString "__annotations__") (455 : Nat)) (@PySem.Value.ref (198 : Nat)))]) (5 : Nat)) (List.toArray []))) ::
(nat_lit 197, (@PySem.Obj.mk (@PySem.Value.type "staticmethod") (Option.some (196 : Nat)) (@PySem.Data.fields (List.toArray [(@PySem.Value.ref (195 : Nat)), (@PySem.Value.bool Bool.false)])) (List.toArray []))) ::
(nat_lit 198, (@PySem.Obj.mk (@PySem.Value.type "dict") Option.none (@PySem.Data.dict (List.toArray []) (0 : Nat)) (List.toArray []))) ::
(nat_lit 199, (@PySem.Obj.mk (@PySem.Value.type "tuple") Option.none (@PySem.Data.seq (List.toArray []) (0 : Nat)) (List.toArray []))) ::
(nat_lit 201, (@PySem.Obj.mk (@PySem.Value.type "tuple") Option.none (@PySem.Data.seq (List.toArray [(@PySem.Value.str (@PySem.Str.ofString "name") (460 : Nat))]) (0 : Nat)) (List.toArray []))) ::
(nat_lit 202, (@PySem.Obj.mk (@PySem.Value.type "tuple") Option.none (@PySem.Data.seq (List.toArray []) (0 : Nat)) (List.toArray []))) ::
(nat_lit 204, (@PySem.Obj.mk (@PySem.Value.type "code") Option.none (@PySem.Data.fields (List.toArray [(@PySem.Value.str (@PySem.Str.ofString "flag") (457 : Nat)), (@PySem.Value.str (@PySem.Str.ofString "Thing.flag") (458 : Nat)), (@PySem.Value.str (@PySem.Str.ofString "/claim/cut.py") (459 : Nat)), (@PySem.Value.int (75 : Int) (0 : Nat)), (@PySem.Value.int (1 : Int) (0 : Nat)), (@PySem.Value.int (0 : Int) (0 : Nat)), (@PySem.Value.int (0 : Int) (0 : Nat)), (@PySem.Value.int (3 : Int) (0 : Nat)), (@PySem.Value.ref (199 : Nat)), (@PySem.Value.bool Bool.true), (@PySem.Value.int (181 : Int) (0 : Nat)), (@PySem.Value.ref (200 : Nat)), PySem.Value.none, (@PySem.Value.ref (201 : Nat)), (@PySem.Value.ref (202 : Nat)), (@PySem.Value.ref (203 : Nat)), (@PySem.Value.int (461 : Int) (0 : Nat)), (@PySem.Value.int (75 : Int) (0 : Nat)), (@PySem.Value.str (@PySem.Str.ofString "/claim/cut.py") (462 : Nat))])) (List.toArray []))) ::
(nat_lit 205, (@PySem.Obj.mk (@PySem.Value.type "function") Option.none (@PySem.Data.func (PySem.FuncData.mk (@PySem.Str.ofString "flag") (@PySem.Str.ofString "Thing.flag") (defArgs s_Thing_flag) (PySem.FuncBody.stmts (defBody s_Thing_flag)) (defScope s_Thing_flag) (3 : Nat) [] PySem.Value.none PySem.Value.none PySem.Value.none (@PySem.Value.str (@PySem.Str.ofString "quietprobes.things") (322 : Nat)) (Option.some (208 : Nat)) (@PySem.Value.ref (204 : Nat)) PySem.Value.none (0 : Nat))) (List.toArray []))) ::
(nat_lit 206, (@PySem.Obj.mk (@PySem.Value.type "dict") Option.none (@PySem.Data.dict (List.toArray [(@PySem.DictEntry.mk (@PySem.PyData.keyHash P (@PySem.Str.ofString "__module__")) (@PySem.Value.str (@PySem.Str.ofString "__module__") (464 : Nat)) (@PySem.Value.str (@PySem.Str.ofString "quietprobes.things") (322 : Nat))), (@PySem.DictEntry.mk (@PySem.PyData.keyHash P (@PySem.Str.ofString "__name__")) (@PySem.Value.str (@PySem.Str.ofString "__name__") (467 : Nat)) (@PySem.Value.str (@PySem.Str.ofString "flag") (466 : Nat))), (@PySem.DictEntry.mk (@PySem.PyData.keyHash P (@PySem.Str.ofString "__qualname__")) (@PySem.Value.str (@PySem.Str.ofString "__qualname__") (470 : Nat)) (@PySem.Value.str (@PySem.Str.ofString "Thing.flag") (469 : Nat))), (@PySem.DictEntry.mk (@PySem.PyData.keyHash P (@PySem.Str.ofString "__doc__")) (@PySem.Value.str (@PySem.Str.ofString "__doc__") (472 : Nat)) PySem.Value.none), (@PySem.DictEntry.mk (@PySem.PyData.keyHash P (@PySem.Str.ofString "__annotations__")) (@PySem.Value.str (@PySem.Str.ofString "__annotations__") (474 : Nat)) (@PySem.Value.ref (208 : Nat)))]) (5 : Nat)) (List.toArray []))) ::
(nat_lit 207, (@PySem.Obj.mk (@PySem.Value.type "staticmethod") (Option.some (206 : Nat)) (@PySem.Data.fields (List.toArray [(@PySem.Value.ref (205 : Nat)), (@PySem.Value.bool Bool.false)])) (List.toArray []))) ::
(nat_lit 208, (@PySem.Obj.mk (@PySem.Value.type "dict") Option.none (@PySem.Data.dict (List.toArray []) (0 : Nat)) (List.toArray []))) ::
(nat_lit 209, (@PySem.Obj.mk (@PySem.Value.type "tuple") Option.none (@PySem.Data.seq (List.toArray []) (0 : Nat)) (List.toArray []))) ::
(nat_lit 211, (@PySem.Obj.mk (@PySem.Value.type "tuple") Option.none (@PySem.Data.seq (List.toArray [(@PySem.Value.str (@PySem.Str.ofString "name") (479 : Nat))]) (0 : Nat)) (List.toArray []))) ::
(nat_lit 212, (@PySem.Obj.mk (@PySem.Value.type "tuple") Option.none (@PySem.Data.seq (List.toArray []) (0 : Nat)) (List.toArray []))) ::
(nat_lit 214, (@PySem.Obj.mk (@PySem.Value.type "code") Option.none (@PySem.Data.fields (List.toArray [(@PySem.Value.str (@PySem.Str.ofString "slot") (476 : Nat)), (@PySem.Value.str (@PySem.Str.ofString "Thing.slot") (477 : Nat)), (@PySem.Value.str (@PySem.Str.ofString "/claim/cut.py") (478 : Nat)), (@PySem.Value.int (80 : Int) (0 : Nat)), (@PySem.Value.int (1 : Int) (0 : Nat)), (@PySem.Value.int (0 : Int) (0 : Nat)), (@PySem.Value.int (0 : Int) (0 : Nat)), (@PySem.Value.int (3 : Int) (0 : Nat)), (@PySem.Value.ref (209 : Nat)), (@PySem.Value.bool Bool.true), (@PySem.Value.int (181 : Int) (0 : Nat)), (@PySem.Value.ref (210 : Nat)), PySem.Value.none, (@PySem.Value.ref (211 : Nat)), (@PySem.Value.ref (212 : Nat)), (@PySem.Value.ref (213 : Nat)), (@PySem.Value.int (480 : Int) (0 : Nat)), (@PySem.Value.int (80 : Int) (0 : Nat)), (@PySem.Value.str (@PySem.Str.ofString "/claim/cut.py") (481 : Nat))])) (List.toArray []))) ::
(nat_lit 215, (@PySem.Obj.mk (@PySem.Value.type "function") Option.none (@PySem.Data.func (PySem.FuncData.mk (@PySem.Str.ofString "slot") (@PySem.Str.ofString "Thing.slot") (defArgs s_Thing_slot) (PySem.FuncBody.stmts (defBody s_Thing_slot)) (defScope s_Thing_slot) (3 : Nat) [] PySem.Value.none PySem.Value.none PySem.Value.none (@PySem.Value.str (@PySem.Str.ofString "quietprobes.things") (322 : Nat)) (Option.some (218 : Nat)) (@PySem.Value.ref (214 : Nat)) PySem.Value.none (0 : Nat))) (List.toArray []))) ::
(nat_lit 216, (@PySem.Obj.mk (@PySem.Value.type "dict") Option.none (@PySem.Data.dict (List.toArray [(@PySem.DictEntry.mk (@PySem.PyData.keyHash P (@PySem.Str.ofString "__module__")) (@PySem.Value.str (@PySem.Str.ofString "__module__") (483 : Nat)) (@PySem.Value.str (@PySem.Str.ofString "quietprobes.things") (322 : Nat))), (@PySem.DictEntry.mk (@PySem.PyData.keyHash P (@PySem.Str.ofString "__name__")) (@PySem.Value.str (@PySem.Str.ofString "__name__") (486 : Nat)) (@PySem.Value.str (@PySem.Str.ofString "slot") (485 : Nat))), (@PySem.DictEntry.mk (@PySem.PyData.keyHash P (@PySem.Str.ofString "__qualname__")) (@PySem.Value.str (@PySem.Str.ofString "__qualname__") (489 : Nat)) (@PySem.Value.str (@PySem.Str.ofString "Thing.slot") (488 : Nat))), (@PySem.DictEntry.mk (@PySem.PyData.keyHash P (@PySem.Str.ofString "__doc__")) (@PySem.Value.str (@PySem.Str.ofString "__doc__") (491 : Nat)) PySem.Value.none), (@PySem.DictEntry.mk (@PySem.PyData.keyHash P (@PySem.Str.ofString "__annotations__")) (@PySem.Value.str (@PySem.Str.ofString "__annotations__") (493 : Nat)) (@PySem.Value.ref (218 : Nat)))]) (5 : Nat)) (List.toArray []))) ::
(nat_lit 217, (@PySem.Obj.mk (@PySem.Value.type "staticmethod") (Option.some (216 : Nat)) (@PySem.Data.fields (List.toArray [(@PySem.Value.ref (215 : Nat)), (@PySem.Value.bool Bool.false)])) (List.toArray []))) ::
(nat_lit 218, (@PySem.Obj.mk (@PySem.Value.type "dict") Option.none (@PySem.Data.dict (List.toArray []) (0 : Nat)) (List.toArray []))) ::
(nat_lit 219, (@PySem.Obj.mk (@PySem.Value.type "tuple") Option.none (@PySem.Data.seq (List.toArray []) (0 : Nat)) (List.toArray []))) ::
(nat_lit 221, (@PySem.Obj.mk (@PySem.Value.type "tuple") Option.none (@PySem.Data.seq (List.toArray [(@PySem.Value.str (@PySem.Str.ofString "name") (498 : Nat)), (@PySem.Value.str (@PySem.Str.ofString "over") (499 : Nat))]) (0 : Nat)) (List.toArray []))) ::
(nat_lit 222, (@PySem.Obj.mk (@PySem.Value.type "tuple") Option.none (@PySem.Data.seq (List.toArray []) (0 : Nat)) (List.toArray []))) ::
(nat_lit 224, (@PySem.Obj.mk (@PySem.Value.type "code") Option.none (@PySem.Data.fields (List.toArray [(@PySem.Value.str (@PySem.Str.ofString "field") (495 : Nat)), (@PySem.Value.str (@PySem.Str.ofString "Thing.field") (496 : Nat)), (@PySem.Value.str (@PySem.Str.ofString "/claim/cut.py") (497 : Nat)), (@PySem.Value.int (85 : Int) (0 : Nat)), (@PySem.Value.int (2 : Int) (0 : Nat)), (@PySem.Value.int (0 : Int) (0 : Nat)), (@PySem.Value.int (0 : Int) (0 : Nat)), (@PySem.Value.int (3 : Int) (0 : Nat)), (@PySem.Value.ref (219 : Nat)), (@PySem.Value.bool Bool.true), (@PySem.Value.int (181 : Int) (0 : Nat)), (@PySem.Value.ref (220 : Nat)), PySem.Value.none, (@PySem.Value.ref (221 : Nat)), (@PySem.Value.ref (222 : Nat)), (@PySem.Value.ref (223 : Nat)), (@PySem.Value.int (500 : Int) (0 : Nat)), (@PySem.Value.int (85 : Int) (0 : Nat)), (@PySem.Value.str (@PySem.Str.ofString "/claim/cut.py") (501 : Nat))])) (List.toArray []))) ::
(nat_lit 225, (@PySem.Obj.mk (@PySem.Value.type "function") Option.none (@PySem.Data.func (PySem.FuncData.mk (@PySem.Str.ofString "field") (@PySem.Str.ofString "Thing.field") (defArgs s_Thing_field) (PySem.FuncBody.stmts (defBody s_Thing_field)) (defScope s_Thing_field) (3 : Nat) [] PySem.Value.none PySem.Value.none PySem.Value.none (@PySem.Value.str (@PySem.Str.ofString "quietprobes.things") (322 : Nat)) (Option.some (228 : Nat)) (@PySem.Value.ref (224 : Nat)) PySem.Value.none (0 : Nat))) (List.toArray []))) ::
(nat_lit 226, (@PySem.Obj.mk (@PySem.Value.type "dict") Option.none (@PySem.Data.dict (List.toArray [(@PySem.DictEntry.mk (@PySem.PyData.keyHash P (@PySem.Str.ofString "__module__")) (@PySem.Value.str (@PySem.Str.ofString "__module__") (503 : Nat)) (@PySem.Value.str (@PySem.Str.ofString "quietprobes.things") (322 : Nat))), (@PySem.DictEntry.mk (@PySem.PyData.keyHash P (@PySem.Str.ofString "__name__")) (@PySem.Value.str (@PySem.Str.ofString "__name__") (506 : Nat)) (@PySem.Value.str (@PySem.Str.ofString "field") (505 : Nat))), (@PySem.DictEntry.mk (@PySem.PyData.keyHash P (@PySem.Str.ofString "__qualname__")) (@PySem.Value.str (@PySem.Str.ofString "__qualname__") (509 : Nat)) (@PySem.Value.str (@PySem.Str.ofString "Thing.field") (508 : Nat))), (@PySem.DictEntry.mk (@PySem.PyData.keyHash P (@PySem.Str.ofString "__doc__")) (@PySem.Value.str (@PySem.Str.ofString "__doc__") (511 : Nat)) PySem.Value.none), (@PySem.DictEntry.mk (@PySem.PyData.keyHash P (@PySem.Str.ofString "__annotations__")) (@PySem.Value.str (@PySem.Str.ofString "__annotations__") (513 : Nat)) (@PySem.Value.ref (228 : Nat)))]) (5 : Nat)) (List.toArray []))) ::
(nat_lit 227, (@PySem.Obj.mk (@PySem.Value.type "staticmethod") (Option.some (226 : Nat)) (@PySem.Data.fields (List.toArray [(@PySem.Value.ref (225 : Nat)), (@PySem.Value.bool Bool.false)])) (List.toArray []))) ::
(nat_lit 228, (@PySem.Obj.mk (@PySem.Value.type "dict") Option.none (@PySem.Data.dict (List.toArray []) (0 : Nat)) (List.toArray []))) ::
(nat_lit 229, (@PySem.Obj.mk (@PySem.Value.type "tuple") Option.none (@PySem.Data.seq (List.toArray []) (0 : Nat)) (List.toArray []))) ::
(nat_lit 231, (@PySem.Obj.mk (@PySem.Value.type "tuple") Option.none (@PySem.Data.seq (List.toArray [(@PySem.Value.str (@PySem.Str.ofString "name") (518 : Nat)), (@PySem.Value.str (@PySem.Str.ofString "keys") (519 : Nat))]) (0 : Nat)) (List.toArray []))) ::
(nat_lit 232, (@PySem.Obj.mk (@PySem.Value.type "tuple") Option.none (@PySem.Data.seq (List.toArray []) (0 : Nat)) (List.toArray []))) ::
(nat_lit 234, (@PySem.Obj.mk (@PySem.Value.type "code") Option.none (@PySem.Data.fields (List.toArray [(@PySem.Value.str (@PySem.Str.ofString "table") (515 : Nat)), (@PySem.Value.str (@PySem.Str.ofString "Thing.table") (516 : Nat)), (@PySem.Value.str (@PySem.Str.ofString "/claim/cut.py") (517 : Nat)), (@PySem.Value.int (90 : Int) (0 : Nat)), (@PySem.Value.int (1 : Int) (0 : Nat)), (@PySem.Value.int (0 : Int) (0 : Nat)), (@PySem.Value.int (0 : Int) (0 : Nat)), (@PySem.Value.int (7 : Int) (0 : Nat)), (@PySem.Value.ref (229 : Nat)), (@PySem.Value.bool Bool.true), (@PySem.Value.int (181 : Int) (0 : Nat)), (@PySem.Value.ref (230 : Nat)), PySem.Value.none, (@PySem.Value.ref (231 : Nat)), (@PySem.Value.ref (232 : Nat)), (@PySem.Value.ref (233 : Nat)), (@PySem.Value.int (520 : Int) (0 : Nat)), (@PySem.Value.int (90 : Int) (0 : Nat)), (@PySem.Value.str (@PySem.Str.ofString "/claim/cut.py") (521 : Nat))])) (List.toArray []))) ::
(nat_lit 235, (@PySem.Obj.mk (@PySem.Value.type "function") Option.none (@PySem.Data.func (PySem.FuncData.mk (@PySem.Str.ofString "table") (@PySem.Str.ofString "Thing.table") (defArgs s_Thing_table) (PySem.FuncBody.stmts (defBody s_Thing_table)) (defScope s_Thing_table) (3 : Nat) [] PySem.Value.none PySem.Value.none PySem.Value.none (@PySem.Value.str (@PySem.Str.ofString "quietprobes.things") (322 : Nat)) (Option.some (238 : Nat)) (@PySem.Value.ref (234 : Nat)) PySem.Value.none (0 : Nat))) (List.toArray []))) ::
(nat_lit 236, (@PySem.Obj.mk (@PySem.Value.type "dict") Option.none (@PySem.Data.dict (List.toArray [(@PySem.DictEntry.mk (@PySem.PyData.keyHash P (@PySem.Str.ofString "__module__")) (@PySem.Value.str (@PySem.Str.ofString "__module__") (523 : Nat)) (@PySem.Value.str (@PySem.Str.ofString "quietprobes.things") (322 : Nat))), (@PySem.DictEntry.mk (@PySem.PyData.keyHash P (@PySem.Str.ofString "__name__")) (@PySem.Value.str (@PySem.Str.ofString "__name__") (526 : Nat)) (@PySem.Value.str (@PySem.Str.ofString "table") (525 : Nat))), (@PySem.DictEntry.mk (@PySem.PyData.keyHash P (@PySem.Str.ofString "__qualname__")) (@PySem.Value.str (@PySem.Str.ofString "__qualname__") (529 : Nat)) (@PySem.Value.str (@PySem.Str.ofString "Thing.table") (528 : Nat))), (@PySem.DictEntry.mk (@PySem.PyData.keyHash P (@PySem.Str.ofString "__doc__")) (@PySem.Value.str (@PySem.Str.ofString "__doc__") (531 : Nat)) PySem.Value.none), (@PySem.DictEntry.mk (@PySem.PyData.keyHash P (@PySem.Str.ofString "__annotations__")) (@PySem.Value.str (@PySem.Str.ofString "__annotations__") (533 : Nat)) (@PySem.Value.ref (238 : Nat)))]) (5 : Nat)) (List.toArray []))) ::
(nat_lit 237, (@PySem.Obj.mk (@PySem.Value.type "staticmethod") (Option.some (236 : Nat)) (@PySem.Data.fields (List.toArray [(@PySem.Value.ref (235 : Nat)), (@PySem.Value.bool Bool.false)])) (List.toArray []))) ::
(nat_lit 238, (@PySem.Obj.mk (@PySem.Value.type "dict") Option.none (@PySem.Data.dict (List.toArray []) (0 : Nat)) (List.toArray []))) ::
(nat_lit 239, (@PySem.Obj.mk (@PySem.Value.type "tuple") Option.none (@PySem.Data.seq (List.toArray [(@PySem.Value.str (@PySem.Str.ofString "kind") (535 : Nat)), (@PySem.Value.str (@PySem.Str.ofString "name") (536 : Nat)), (@PySem.Value.str (@PySem.Str.ofString "parts") (537 : Nat))]) (0 : Nat)) (List.toArray []))) ::
(nat_lit 240, (@PySem.Obj.mk (@PySem.Value.type "dict") Option.none (@PySem.Data.dict (List.toArray [(@PySem.DictEntry.mk (@PySem.PyData.keyHash P (@PySem.Str.ofString "__module__")) (@PySem.Value.str (@PySem.Str.ofString "__module__") (362 : Nat)) (@PySem.Value.str (@PySem.Str.ofString "quietprobes.things") (322 : Nat))), (@PySem.DictEntry.mk (@PySem.PyData.keyHash P (@PySem.Str.ofString "__firstlineno__")) (@PySem.Value.str (@PySem.Str.ofString "__firstlineno__") (366 : Nat)) (@PySem.Value.int (46 : Int) (365 : Nat))), (@PySem.DictEntry.mk (@PySem.PyData.keyHash P (@PySem.Str.ofString "KINDS")) (@PySem.Value.str (@PySem.Str.ofString "KINDS") (374 : Nat)) (@PySem.Value.ref (145 : Nat))), (@PySem.DictEntry.mk (@PySem.PyData.keyHash P (@PySem.Str.ofString "__init__")) (@PySem.Value.str (@PySem.Str.ofString "__init__") (384 : Nat)) (@PySem.Value.ref (154 : Nat))), (@PySem.DictEntry.mk (@PySem.PyData.keyHash P (@PySem.Str.ofString "__eq__")) (@PySem.Value.str (@PySem.Str.ofString "__eq__") (392 : Nat)) (@PySem.Value.ref (161 : Nat))), (@PySem.DictEntry.mk (@PySem.PyData.keyHash P (@PySem.Str.ofString "__str__")) (@PySem.Value.str (@PySem.Str.ofString "__str__") (399 : Nat)) (@PySem.Value.ref (168 : Nat))), (@PySem.DictEntry.mk (@PySem.PyData.keyHash P (@PySem.Str.ofString "feed")) (@PySem.Value.str (@PySem.Str.ofString "feed") (418 : Nat)) (@PySem.Value.ref (177 : Nat))), (@PySem.DictEntry.mk (@PySem.PyData.keyHash P (@PySem.Str.ofString "dice")) (@PySem.Value.str (@PySem.Str.ofString "dice") (437 : Nat)) (@PySem.Value.ref (187 : Nat))), (@PySem.DictEntry.mk (@PySem.PyData.keyHash P (@PySem.Str.ofString "source")) (@PySem.Value.str (@PySem.Str.ofString "source") (456 : Nat)) (@PySem.Value.ref (197 : Nat))), (@PySem.DictEntry.mk (@PySem.PyData.keyHash P (@PySem.Str.ofString "flag")) (@PySem.Value.str (@PySem.Str.ofString "flag") (475 : Nat)) (@PySem.Value.ref (207 : Nat))), (@PySem.DictEntry.mk (@PySem.PyData.keyHash P (@PySem.Str.ofString "slot")) (@PySem.Value.str (@PySem.Str.ofString "slot") (494 : Nat)) (@PySem.Value.ref (217 : Nat))), (@PySem.DictEntry.mk (@PySem.PyData.keyHash P (@PySem.Str.ofString "field")) (@PySem.Value.str (@PySem.Str.ofString "field") (514 : Nat)) (@PySem.Value.ref (227 : Nat))), (@PySem.DictEntry.mk (@PySem.PyData.keyHash P (@PySem.Str.ofString "table")) (@PySem.Value.str (@PySem.Str.ofString "table") (534 : Nat)) (@PySem.Value.ref (237 : Nat))), (@PySem.DictEntry.mk (@PySem.PyData.keyHash P (@PySem.Str.ofString "__static_attributes__")) (@PySem.Value.str (@PySem.Str.ofString "__static_attributes__") (538 : Nat)) (@PySem.Value.ref (239 : Nat))), (@PySem.DictEntry.mk (@PySem.PyData.keyHash P (@PySem.Str.ofString "__dict__")) (@PySem.Value.str (@PySem.Str.ofString "__dict__") (540 : Nat)) (@PySem.Value.ref (242 : Nat))), (@PySem.DictEntry.mk (@PySem.PyData.keyHash P (@PySem.Str.ofString "__weakref__")) (@PySem.Value.str (@PySem.Str.ofString "__weakref__") (542 : Nat)) (@PySem.Value.ref (243 : Nat))), (@PySem.DictEntry.mk (@PySem.PyData.keyHash P (@PySem.Str.ofString "__doc__")) (@PySem.Value.str (@PySem.Str.ofString "__doc__") (543 : Nat)) PySem.Value.none), (@PySem.DictEntry.mk (@PySem.PyData.keyHash P (@PySem.Str.ofString "__hash__")) (@PySem.Value.str (@PySem.Str.ofString "__hash__") (544 : Nat)) PySem.Value.none)]) (5 : Nat)) (List.toArray []))) ::
(nat_lit 241, (@PySem.Obj.mk (@PySem.Value.type "type") Option.none (@PySem.Data.cls (@PySem.ClassData.mk (@PySem.Str.ofString "Thing") [(@PySem.Value.type "object")] [(@PySem.Value.ref (241 : Nat)), (@PySem.Value.type "object")] (240 : Nat) (@PySem.Str.ofString "Thing") Bool.true [] [] Bool.false Option.none Bool.false)) (List.toArray [Option.none, Option.none, (Option.some (@PySem.Value.str (@PySem.Str.ofString "Thing") (355 : Nat))), (Option.some (@PySem.Value.str (@PySem.Str.ofString "Thing") (363 : Nat))), (Option.some (@PySem.Value.builtin "object.__new__")), (Option.some (@PySem.Value.bool Bool.true))]))) ::
(nat_lit 242, (@PySem.Obj.mk (@PySem.Value.type "getset_descriptor") Option.none (@PySem.Data.fields (List.toArray [(@PySem.Value.str (@PySem.Str.ofString "__dict__") (539 : Nat)), (@PySem.Value.ref (241 : Nat)), (@PySem.Value.builtin "function.__dict__"), (@PySem.Value.builtin "function.__dict__#set")])) (List.toArray []))) ::
(nat_lit 243, (@PySem.Obj.mk (@PySem.Value.type "getset_descriptor") Option.none (@PySem.Data.fields (List.toArray [(@PySem.Value.str (@PySem.Str.ofString "__weakref__") (541 : Nat)), (@PySem.Value.ref (241 : Nat)), (@PySem.Value.builtin "ExceptionGroup.__weakref__"), PySem.Value.none])) (List.toArray []))) ::
(nat_lit 246, (@PySem.Obj.mk (@PySem.Value.type "tuple") Option.none (@PySem.Data.seq (List.toArray []) (0 : Nat)) (List.toArray []))) ::
(nat_lit 249, (@PySem.Obj.mk (@PySem.Value.type "code") Option.none (@PySem.Data.fields (List.toArray [(@PySem.Value.str (@PySem.Str.ofString "need_things") (547 : Nat)), (@PySem.Value.str (@PySem.Str.ofString "need_things") (548 : Nat)), (@PySem.Value.str (@PySem.Str.ofString "/claim/cut.py") (549 : Nat)), (@PySem.Value.int (97 : Int) (0 : Nat)), (@PySem.Value.int (1 : Int) (0 : Nat)), (@PySem.Value.int (0 : Int) (0 : Nat)), (@PySem.Value.int (0 : Int) (0 : Nat)), (@PySem.Value.int (3 : Int) (0 : Nat)), (@PySem.Value.ref (246 : Nat)), (@PySem.Value.bool Bool.true), (@PySem.Value.int (181 : Int) (0 : Nat)), (@PySem.Value.ref (247 : Nat)), PySem.Value.none, PySem.Value.none, PySem.Value.none, (@PySem.Value.ref (248 : Nat)), (@PySem.Value.int (550 : Int) (0 : Nat)), (@PySem.Value.int (97 : Int) (0 : Nat)), (@PySem.Value.str (@PySem.Str.ofString "/claim/cut.py") (551 : Nat))])) (List.toArray []))) ::
(nat_lit 250, (@PySem.Obj.mk (@PySem.Value.type "function") Option.none (@PySem.Data.func (PySem.FuncData.mk (@PySem.Str.ofString "need_things") (@PySem.Str.ofString "need_things") (defArgs s_need_things) (PySem.FuncBody.stmts (defBody s_need_things)) (defScope s_need_things) (3 : Nat) [] PySem.Value.none PySem.Value.none PySem.Value.none (@PySem.Value.str (@PySem.Str.ofString "quietprobes.things") (322 : Nat)) Option.none (@PySem.Value.ref (249 : Nat)) PySem.Value.none (0 : Nat))) (List.toArray []))) ::
(nat_lit 258, (@PySem.Obj.mk (@PySem.Value.type "tuple") Option.none (@PySem.Data.seq (List.toArray []) (0 : Nat)) (List.toArray []))) ::
(nat_lit 261, (@PySem.Obj.mk (@PySem.Value.type "code") Option.none (@PySem.Data.fields (List.toArray [(@PySem.Value.str (@PySem.Str.ofString "__init__") (567 : Nat)), (@PySem.Value.str (@PySem.Str.ofString "Stock.__init__") (568 : Nat)), (@PySem.Value.str (@PySem.Str.ofString "/claim/cut.py") (569 : Nat)), (@PySem.Value.int (109 : Int) (0 : Nat)), (@PySem.Value.int (2 : Int) (0 : Nat)), (@PySem.Value.int (0 : Int) (0 : Nat)), (@PySem.Value.int (0 : Int) (0 : Nat)), (@PySem.Value.int (3 : Int) (0 : Nat)), (@PySem.Value.ref (258 : Nat)), (@PySem.Value.bool Bool.true), (@PySem.Value.int (181 : Int) (0 : Nat)), (@PySem.Value.ref (259 : Nat)), PySem.Value.none, PySem.Value.none, PySem.Value.none, (@PySem.Value.ref (260 : Nat)), (@PySem.Value.int (570 : Int) (0 : Nat)), (@PySem.Value.int (109 : Int) (0 : Nat)), (@PySem.Value.str (@PySem.Str.ofString "/claim/cut.py") (571 : Nat))])) (List.toArray []))) ::
(nat_lit 262, (@PySem.Obj.mk (@PySem.Value.type "function") Option.none (@PySem.Data.func (PySem.FuncData.mk (@PySem.Str.ofString "__init__") (@PySem.Str.ofString "Stock.__init__") (defArgs s_Stock___init__) (PySem.FuncBody.stmts (defBody s_Stock___init__)) (defScope s_Stock___init__) (3 : Nat) [] PySem.Value.none PySem.Value.none PySem.Value.none (@PySem.Value.str (@PySem.Str.ofString "quietprobes.stocks") (553 : Nat)) Option.none (@PySem.Value.ref (261 : Nat)) PySem.Value.none (0 : Nat))) (List.toArray []))) ::
(nat_lit 263, (@PySem.Obj.mk (@PySem.Value.type "tuple") Option.none (@PySem.Data.seq (List.toArray []) (0 : Nat)) (List.toArray []))) ::
(nat_lit 265, (@PySem.Obj.mk (@PySem.Value.type "tuple") Option.none (@PySem.Data.seq (List.toArray [(@PySem.Value.str (@PySem.Str.ofString "self") (576 : Nat))]) (0 : Nat)) (List.toArray []))) ::
(nat_lit 266, (@PySem.Obj.mk (@PySem.Value.type "tuple") Option.none (@PySem.Data.seq (List.toArray []) (0 : Nat)) (List.toArray []))) ::
(nat_lit 268, (@PySem.Obj.mk (@PySem.Value.type "code") Option.none (@PySem.Data.fields (List.toArray [(@PySem.Value.str (@PySem.Str.ofString "duplicate") (573 : Nat)), (@PySem.Value.str (@PySem.Str.ofString "Stock.duplicate") (574 : Nat)), (@PySem.Value.str (@PySem.Str.ofString "/claim/cut.py") (575 : Nat)), (@PySem.Value.int (131 : Int) (0 : Nat)), (@PySem.Value.int (1 : Int) (0 : Nat)), (@PySem.Value.int (0 : Int) (0 : Nat)), (@PySem.Value.int (0 : Int) (0 : Nat)), (@PySem.Value.int (3 : Int) (0 : Nat)), (@PySem.Value.ref (263 : Nat)), (@PySem.Value.bool Bool.true), (@PySem.Value.int (181 : Int) (0 : Nat)), (@PySem.Value.ref (264 : Nat)), PySem.Value.none, (@PySem.Value.ref (265 : Nat)), (@PySem.Value.ref (266 : Nat)), (@PySem.Value.ref (267 : Nat)), (@PySem.Value.int (577 : Int) (0 : Nat)), (@PySem.Value.int (131 : Int) (0 : Nat)), (@PySem.Value.str (@PySem.Str.ofString "/claim/cut.py") (578 : Nat))])) (List.toArray []))) ::
(nat_lit 269, (@PySem.Obj.mk (@PySem.Value.type "function") Option.none (@PySem.Data.func (PySem.FuncData.mk (@PySem.Str.ofString "duplicate") (@PySem.Str.ofString "Stock.duplicate") (defArgs s_Stock_duplicate) (PySem.FuncBody.stmts (defBody s_Stock_duplicate)) (defScope s_Stock_duplicate) (3 : Nat) [] PySem.Value.none PySem.Value.none PySem.Value.none (@PySem.Value.str (@PySem.Str.ofString "quietprobes.stocks") (553 : Nat)) Option.none (@PySem.Value.ref (268 : Nat)) PySem.Value.none (0 : Nat))) (List.toArray []))) ::
(nat_lit 270, (@PySem.Obj.mk (@PySem.Value.type "tuple") Option.none (@PySem.Data.seq (List.toArray []) (0 : Nat)) (List.toArray []))) ::
(nat_lit 272, (@PySem.Obj.mk (@PySem.Value.type "tuple") Option.none (@PySem.Data.seq (List.toArray [(@PySem.Value.str (@PySem.Str.ofString "self") (583 : Nat)), (@PySem.Value.str (@PySem.Str.ofString "name") (584 : Nat))]) (0 : Nat)) (List.toArray []))) ::
(nat_lit 273, (@PySem.Obj.mk (@PySem.Value.type "tuple") Option.none (@PySem.Data.seq (List.toArray []) (0 : Nat)) (List.toArray []))) ::
(nat_lit 275, (@PySem.Obj.mk (@PySem.Value.type "code") Option.none (@PySem.Data.fields (List.toArray [(@PySem.Value.str (@PySem.Str.ofString "content_of") (580 : Nat)), (@PySem.Value.str (@PySem.Str.ofString "Stock.content_of") (581 : Nat)), (@PySem.Value.str (@PySem.Str.ofString "/claim/cut.py") (582 : Nat)), (@PySem.Value.int (134 : Int) (0 : Nat)), (@PySem.Value.int (2 : Int) (0 : Nat)), (@PySem.Value.int (0 : Int) (0 : Nat)), (@PySem.Value.int (0 : Int) (0 : Nat)), (@PySem.Value.int (3 : Int) (0 : Nat)), (@PySem.Value.ref (270 : Nat)), (@PySem.Value.bool Bool.true), (@PySem.Value.int (181 : Int) (0 : Nat)), (@PySem.Value.ref (271 : Nat)), PySem.Value.none, (@PySem.Value.ref (272 : Nat)), (@PySem.Value.ref (273 : Nat)), (@PySem.Value.ref (274 : Nat)), (@PySem.Value.int (585 : Int) (0 : Nat)), (@PySem.Value.int (134 : Int) (0 : Nat)), (@PySem.Value.str (@PySem.Str.ofString "/claim/cut.py") (586 : Nat))])) (List.toArray []))) ::
(nat_lit 276, (@PySem.Obj.mk (@PySem.Value.type "function") Option.none (@PySem.Data.func (PySem.FuncData.mk (@PySem.Str.ofString "content_of") (@PySem.Str.ofString "Stock.content_of") (defArgs s_Stock_content_of) (PySem.FuncBody.stmts (defBody s_Stock_content_of)) (defScope s_Stock_content_of) (3 : Nat) [] PySem.Value.none PySem.Value.none PySem.Value.none (@PySem.Value.str (@PySem.Str.ofString "quietprobes.stocks") (553 : Nat)) Option.none (@PySem.Value.ref (275 : Nat)) PySem.Value.none (0 : Nat))) (List.toArray []))) ::
(nat_lit 277, (@PySem.Obj.mk (@PySem.Value.type "tuple") Option.none (@PySem.Data.seq (List.toArray []) (0 : Nat)) (List.toArray []))) ::
(nat_lit 279, (@PySem.Obj.mk (@PySem.Value.type "tuple") Option.none (@PySem.Data.seq (List.toArray [(@PySem.Value.str (@PySem.Str.ofString "self") (591 : Nat)), (@PySem.Value.str (@PySem.Str.ofString "which") (592 : Nat))]) (0 : Nat)) (List.toArray []))) ::
(nat_lit 280, (@PySem.Obj.mk (@PySem.Value.type "tuple") Option.none (@PySem.Data.seq (List.toArray []) (0 : Nat)) (List.toArray []))) ::
(nat_lit 282, (@PySem.Obj.mk (@PySem.Value.type "code") Option.none (@PySem.Data.fields (List.toArray [(@PySem.Value.str (@PySem.Str.ofString "counted") (588 : Nat)), (@PySem.Value.str (@PySem.Str.ofString "Stock.counted") (589 : Nat)), (@PySem.Value.str (@PySem.Str.ofString "/claim/cut.py") (590 : Nat)), (@PySem.Value.int (139 : Int) (0 : Nat)), (@PySem.Value.int (2 : Int) (0 : Nat)), (@PySem.Value.int (0 : Int) (0 : Nat)), (@PySem.Value.int (0 : Int) (0 : Nat)), (@PySem.Value.int (3 : Int) (0 : Nat)), (@PySem.Value.ref (277 : Nat)), (@PySem.Value.bool Bool.true), (@PySem.Value.int (181 : Int) (0 : Nat)), (@PySem.Value.ref (278 : Nat)), PySem.Value.none, (@PySem.Value.ref (279 : Nat)), (@PySem.Value.ref (280 : Nat)), (@PySem.Value.ref (281 : Nat)), (@PySem.Value.int (593 : Int) (0 : Nat)), (@PySem.Value.int (139 : Int) (0 : Nat)), (@PySem.Value.str (@PySem.Str.ofString "/claim/cut.py") (594 : Nat))])) (List.toArray []))) ::
(nat_lit 283, (@PySem.Obj.mk (@PySem.Value.type "function") Option.none (@PySem.Data.func (PySem.FuncData.mk (@PySem.Str.ofString "counted") (@PySem.Str.ofString "Stock.counted") (defArgs s_Stock_counted) (PySem.FuncBody.stmts (defBody s_Stock_counted)) (defScope s_Stock_counted) (3 : Nat) [] PySem.Value.none PySem.Value.none PySem.Value.none (@PySem.Value.str (@PySem.Str.ofString "quietprobes.stocks") (553 : Nat)) Option.none (@PySem.Value.ref (282 : Nat)) PySem.Value.none (0 : Nat))) (List.toArray []))) ::
(nat_lit 284, (@PySem.Obj.mk (@PySem.Value.type "tuple") Option.none (@PySem.Data.seq (List.toArray []) (0 : Nat)) (List.toArray []))) ::
(nat_lit 286, (@PySem.Obj.mk (@PySem.Value.type "tuple") Option.none (@PySem.Data.seq (List.toArray [(@PySem.Value.str (@PySem.Str.ofString "self") (599 : Nat)), (@PySem.Value.str (@PySem.Str.ofString "deed") (600 : Nat))]) (0 : Nat)) (List.toArray []))) ::
(nat_lit 287, (@PySem.Obj.mk (@PySem.Value.type "tuple") Option.none (@PySem.Data.seq (List.toArray []) (0 : Nat)) (List.toArray []))) ::
(nat_lit 289, (@PySem.Obj.mk (@PySem.Value.type "code") Option.none (@PySem.Data.fields (List.toArray [(@PySem.Value.str (@PySem.Str.ofString "done") (596 : Nat)), (@PySem.Value.str (@PySem.Str.ofString "Stock.done") (597 : Nat)), (@PySem.Value.str (@PySem.Str.ofString "/claim/cut.py") (598 : Nat)), (@PySem.Value.int (142 : Int) (0 : Nat)), (@PySem.Value.int (2 : Int) (0 : Nat)), (@PySem.Value.int (0 : Int) (0 : Nat)), (@PySem.Value.int (0 : Int) (0 : Nat)), (@PySem.Value.int (3 : Int) (0 : Nat)), (@PySem.Value.ref (284 : Nat)), (@PySem.Value.bool Bool.true), (@PySem.Value.int (181 : Int) (0 : Nat)), (@PySem.Value.ref (285 : Nat)), PySem.Value.none, (@PySem.Value.ref (286 : Nat)), (@PySem.Value.ref (287 : Nat)), (@PySem.Value.ref (288 : Nat)), (@PySem.Value.int (601 : Int) (0 : Nat)), (@PySem.Value.int (142 : Int) (0 : Nat)), (@PySem.Value.str (@PySem.Str.ofString "/claim/cut.py") (602 : Nat))])) (List.toArray []))) ::
(nat_lit 290, (@PySem.Obj.mk (@PySem.Value.type "function") Option.none (@PySem.Data.func (PySem.FuncData.mk (@PySem.Str.ofString "done") (@PySem.Str.ofString "Stock.done") (defArgs s_Stock_done) (PySem.FuncBody.stmts (defBody s_Stock_done)) (defScope s_Stock_done) (3 : Nat) [] PySem.Value.none PySem.Value.none PySem.Value.none (@PySem.Value.str (@PySem.Str.ofString "quietprobes.stocks") (553 : Nat)) Option.none (@PySem.Value.ref (289 : Nat)) PySem.Value.none (0 : Nat))) (List.toArray []))) ::
(nat_lit 291, (@PySem.Obj.mk (@PySem.Value.type "tuple") Option.none (@PySem.Data.seq (List.toArray []) (0 : Nat)) (List.toArray []))) ::
(nat_lit 293, (@PySem.Obj.mk (@PySem.Value.type "tuple") Option.none (@PySem.Data.seq (List.toArray [(@PySem.Value.str (@PySem.Str.ofString "self") (607 : Nat)), (@PySem.Value.str (@PySem.Str.ofString "word") (608 : Nat)), (@PySem.Value.str (@PySem.Str.ofString "name") (609 : Nat)), (@PySem.Value.str (@PySem.Str.ofString "rest") (610 : Nat))]) (0 : Nat)) (List.toArray []))) ::
(nat_lit 294, (@PySem.Obj.mk (@PySem.Value.type "tuple") Option.none (@PySem.Data.seq (List.toArray []) (0 : Nat)) (List.toArray []))) ::
(nat_lit 296, (@PySem.Obj.mk (@PySem.Value.type "code") Option.none (@PySem.Data.fields (List.toArray [(@PySem.Value.str (@PySem.Str.ofString "feed_done") (604 : Nat)), (@PySem.Value.str (@PySem.Str.ofString "Stock.feed_done") (605 : Nat)), (@PySem.Value.str (@PySem.Str.ofString "/claim/cut.py") (606 : Nat)), (@PySem.Value.int (145 : Int) (0 : Nat)), (@PySem.Value.int (4 : Int) (0 : Nat)), (@PySem.Value.int (0 : Int) (0 : Nat)), (@PySem.Value.int (0 : Int) (0 : Nat)), (@PySem.Value.int (3 : Int) (0 : Nat)), (@PySem.Value.ref (291 : Nat)), (@PySem.Value.bool Bool.true), (@PySem.Value.int (181 : Int) (0 : Nat)), (@PySem.Value.ref (292 : Nat)), PySem.Value.none, (@PySem.Value.ref (293 : Nat)), (@PySem.Value.ref (294 : Nat)), (@PySem.Value.ref (295 : Nat)), (@PySem.Value.int (611 : Int) (0 : Nat)), (@PySem.Value.int (145 : Int) (0 : Nat)), (@PySem.Value.str (@PySem.Str.ofString "/claim/cut.py") (612 : Nat))])) (List.toArray []))) ::
(nat_lit 297, (@PySem.Obj.mk (@PySem.Value.type "function") Option.none (@PySem.Data.func (PySem.FuncData.mk (@PySem.Str.ofString "feed_done") (@PySem.Str.ofString "Stock.feed_done") (defArgs s_Stock_feed_done) (PySem.FuncBody.stmts (defBody s_Stock_feed_done)) (defScope s_Stock_feed_done) (3 : Nat) [] PySem.Value.none PySem.Value.none PySem.Value.none (@PySem.Value.str (@PySem.Str.ofString "quietprobes.stocks") (553 : Nat)) Option.none (@PySem.Value.ref (296 : Nat)) PySem.Value.none (0 : Nat))) (List.toArray []))) ::
(nat_lit 298, (@PySem.Obj.mk (@PySem.Value.type "tuple") Option.none (@PySem.Data.seq (List.toArray []) (0 : Nat)) (List.toArray []))) ::
(nat_lit 300, (@PySem.Obj.mk (@PySem.Value.type "tuple") Option.none (@PySem.Data.seq (List.toArray [(@PySem.Value.str (@PySem.Str.ofString "self") (617 : Nat)), (@PySem.Value.str (@PySem.Str.ofString "word") (618 : Nat)), (@PySem.Value.str (@PySem.Str.ofString "name") (619 : Nat))]) (0 : Nat)) (List.toArray []))) ::
(nat_lit 301, (@PySem.Obj.mk (@PySem.Value.type "tuple") Option.none (@PySem.Data.seq (List.toArray []) (0 : Nat)) (List.toArray []))) ::
(nat_lit 303, (@PySem.Obj.mk (@PySem.Value.type "code") Option.none (@PySem.Data.fields (List.toArray [(@PySem.Value.str (@PySem.Str.ofString "dice_done") (614 : Nat)), (@PySem.Value.str (@PySem.Str.ofString "Stock.dice_done") (615 : Nat)), (@PySem.Value.str (@PySem.Str.ofString "/claim/cut.py") (616 : Nat)), (@PySem.Value.int (148 : Int) (0 : Nat)), (@PySem.Value.int (3 : Int) (0 : Nat)), (@PySem.Value.int (0 : Int) (0 : Nat)), (@PySem.Value.int (0 : Int) (0 : Nat)), (@PySem.Value.int (3 : Int) (0 : Nat)), (@PySem.Value.ref (298 : Nat)), (@PySem.Value.bool Bool.true), (@PySem.Value.int (181 : Int) (0 : Nat)), (@PySem.Value.ref (299 : Nat)), PySem.Value.none, (@PySem.Value.ref (300 : Nat)), (@PySem.Value.ref (301 : Nat)), (@PySem.Value.ref (302 : Nat)), (@PySem.Value.int (620 : Int) (0 : Nat)), (@PySem.Value.int (148 : Int) (0 : Nat)), (@PySem.Value.str (@PySem.Str.ofString "/claim/cut.py") (621 : Nat))])) (List.toArray []))) ::
(nat_lit 304, (@PySem.Obj.mk (@PySem.Value.type "function") Option.none (@PySem.Data.func (PySem.FuncData.mk (@PySem.Str.ofString "dice_done") (@PySem.Str.ofString "Stock.dice_done") (defArgs s_Stock_dice_done) (PySem.FuncBody.stmts (defBody s_Stock_dice_done)) (defScope s_Stock_dice_done) (3 : Nat) [] PySem.Value.none PySem.Value.none PySem.Value.none (@PySem.Value.str (@PySem.Str.ofString "quietprobes.stocks") (553 : Nat)) Option.none (@PySem.Value.ref (303 : Nat)) PySem.Value.none (0 : Nat))) (List.toArray []))) ::
(nat_lit 305, (@PySem.Obj.mk (@PySem.Value.type "tuple") Option.none (@PySem.Data.seq (List.toArray []) (0 : Nat)) (List.toArray []))) ::
(nat_lit 307, (@PySem.Obj.mk (@PySem.Value.type "tuple") Option.none (@PySem.Data.seq (List.toArray [(@PySem.Value.str (@PySem.Str.ofString "self") (626 : Nat)), (@PySem.Value.str (@PySem.Str.ofString "word") (627 : Nat)), (@PySem.Value.str (@PySem.Str.ofString "name") (628 : Nat)), (@PySem.Value.str (@PySem.Str.ofString "rest") (629 : Nat))]) (0 : Nat)) (List.toArray []))) ::
(nat_lit 308, (@PySem.Obj.mk (@PySem.Value.type "tuple") Option.none (@PySem.Data.seq (List.toArray []) (0 : Nat)) (List.toArray []))) ::
(nat_lit 310, (@PySem.Obj.mk (@PySem.Value.type "code") Option.none (@PySem.Data.fields (List.toArray [(@PySem.Value.str (@PySem.Str.ofString "table_done") (623 : Nat)), (@PySem.Value.str (@PySem.Str.ofString "Stock.table_done") (624 : Nat)), (@PySem.Value.str (@PySem.Str.ofString "/claim/cut.py") (625 : Nat)), (@PySem.Value.int (151 : Int) (0 : Nat)), (@PySem.Value.int (4 : Int) (0 : Nat)), (@PySem.Value.int (0 : Int) (0 : Nat)), (@PySem.Value.int (0 : Int) (0 : Nat)), (@PySem.Value.int (3 : Int) (0 : Nat)), (@PySem.Value.ref (305 : Nat)), (@PySem.Value.bool Bool.true), (@PySem.Value.int (181 : Int) (0 : Nat)), (@PySem.Value.ref (306 : Nat)), PySem.Value.none, (@PySem.Value.ref (307 : Nat)), (@PySem.Value.ref (308 : Nat)), (@PySem.Value.ref (309 : Nat)), (@PySem.Value.int (630 : Int) (0 : Nat)), (@PySem.Value.int (151 : Int) (0 : Nat)), (@PySem.Value.str (@PySem.Str.ofString "/claim/cut.py") (631 : Nat))])) (List.toArray []))) ::
(nat_lit 311, (@PySem.Obj.mk (@PySem.Value.type "function") Option.none (@PySem.Data.func (PySem.FuncData.mk (@PySem.Str.ofString "table_done") (@PySem.Str.ofString "Stock.table_done") (defArgs s_Stock_table_done) (PySem.FuncBody.stmts (defBody s_Stock_table_done)) (defScope s_Stock_table_done) (3 : Nat) [] PySem.Value.none PySem.Value.none PySem.Value.none (@PySem.Value.str (@PySem.Str.ofString "quietprobes.stocks") (553 : Nat)) Option.none (@PySem.Value.ref (310 : Nat)) PySem.Value.none (0 : Nat))) (List.toArray []))) ::
(nat_lit 312, (@PySem.Obj.mk (@PySem.Value.type "tuple") Option.none (@PySem.Data.seq (List.toArray []) (0 : Nat)) (List.toArray []))) ::
(nat_lit 314, (@PySem.Obj.mk (@PySem.Value.type "tuple") Option.none (@PySem.Data.seq (List.toArray [(@PySem.Value.str (@PySem.Str.ofString "self") (636 : Nat)), (@PySem.Value.str (@PySem.Str.ofString "word") (637 : Nat)), (@PySem.Value.str (@PySem.Str.ofString "name") (638 : Nat)), (@PySem.Value.str (@PySem.Str.ofString "key") (639 : Nat))]) (0 : Nat)) (List.toArray []))) ::
(nat_lit 315, (@PySem.Obj.mk (@PySem.Value.type "tuple") Option.none (@PySem.Data.seq (List.toArray []) (0 : Nat)) (List.toArray []))) ::
(nat_lit 317, (@PySem.Obj.mk (@PySem.Value.type "code") Option.none (@PySem.Data.fields (List.toArray [(@PySem.Value.str (@PySem.Str.ofString "entry_done") (633 : Nat)), (@PySem.Value.str (@PySem.Str.ofString "Stock.entry_done") (634 : Nat)), (@PySem.Value.str (@PySem.Str.ofString "/claim/cut.py") (635 : Nat)), (@PySem.Value.int (154 : Int) (0 : Nat)), (@PySem.Value.int (4 : Int) (0 : Nat)), (@PySem.Value.int (0 : Int) (0 : Nat)), (@PySem.Value.int (0 : Int) (0 : Nat)), (@PySem.Value.int (3 : Int) (0 : Nat)), (@PySem.Value.ref (312 : Nat)), (@PySem.Value.bool Bool.true), (@PySem.Value.int (181 : Int) (0 : Nat)), (@PySem.Value.ref (313 : Nat)), PySem.Value.none, (@PySem.Value.ref (314 : Nat)), (@PySem.Value.ref (315 : Nat)), (@PySem.Value.ref (316 : Nat)), (@PySem.Value.int (640 : Int) (0 : Nat)), (@PySem.Value.int (154 : Int) (0 : Nat)), (@PySem.Value.str (@PySem.Str.ofString "/claim/cut.py") (641 : Nat))])) (List.toArray []))) ::
(nat_lit 318, (@PySem.Obj.mk (@PySem.Value.type "function") Option.none (@PySem.Data.func (PySem.FuncData.mk (@PySem.Str.ofString "entry_done") (@PySem.Str.ofString "Stock.entry_done") (defArgs s_Stock_entry_done) (PySem.FuncBody.stmts (defBody s_Stock_entry_done)) (defScope s_Stock_entry_done) (3 : Nat) [] PySem.Value.none PySem.Value.none PySem.Value.none (@PySem.Value.str (@PySem.Str.ofString "quietprobes.stocks") (553 : Nat)) Option.none (@PySem.Value.ref (317 : Nat)) PySem.Value.none (0 : Nat))) (List.toArray []))) ::
(nat_lit 319, (@PySem.Obj.mk (@PySem.Value.type "tuple") Option.none (@PySem.Data.seq (List.toArray []) (0 : Nat)) (List.toArray []))) ::
(nat_lit 321, (@PySem.Obj.mk (@PySem.Value.type "tuple") Option.none (@PySem.Data.seq (List.toArray [(@PySem.Value.str (@PySem.Str.ofString "self") (646 : Nat)), (@PySem.Value.str (@PySem.Str.ofString "word") (647 : Nat)), (@PySem.Value.str (@PySem.Str.ofString "name") (648 : Nat))]) (0 : Nat)) (List.toArray []))) ::
(nat_lit 322, (@PySem.Obj.mk (@PySem.Value.type "tuple") Option.none (@PySem.Data.seq (List.toArray []) (0 : Nat)) (List.toArray []))) ::
(nat_lit 324, (@PySem.Obj.mk (@PySem.Value.type "code") Option.none (@PySem.Data.fields (List.toArray [(@PySem.Value.str (@PySem.Str.ofString "field_done") (643 : Nat)), (@PySem.Value.str (@PySem.Str.ofString "Stock.field_done") (644 : Nat)), (@PySem.Value.str (@PySem.Str.ofString "/claim/cut.py") (645 : Nat)), (@PySem.Value.int (157 : Int) (0 : Nat)), (@PySem.Value.int (3 : Int) (0 : Nat)), (@PySem.Value.int (0 : Int) (0 : Nat)), (@PySem.Value.int (0 : Int) (0 : Nat)), (@PySem.Value.int (3 : Int) (0 : Nat)), (@PySem.Value.ref (319 : Nat)), (@PySem.Value.bool Bool.true), (@PySem.Value.int (181 : Int) (0 : Nat)), (@PySem.Value.ref (320 : Nat)), PySem.Value.none, (@PySem.Value.ref (321 : Nat)), (@PySem.Value.ref (322 : Nat)), (@PySem.Value.ref (323 : Nat)), (@PySem.Value.int (649 : Int) (0 : Nat)), (@PySem.Value.int (157 : Int) (0 : Nat)), (@PySem.Value.str (@PySem.Str.ofString "/claim/cut.py") (650 : Nat))])) (List.toArray []))) ::
(nat_lit 325, (@PySem.Obj.mk (@PySem.Value.type "function") Option.none (@PySem.Data.func (PySem.FuncData.mk (@PySem.Str.ofString "field_done") (@PySem.Str.ofString "Stock.field_done") (defArgs s_Stock_field_done) (PySem.FuncBody.stmts (defBody s_Stock_field_done)) (defScope s_Stock_field_done) (3 : Nat) [] PySem.Value.none PySem.Value.none PySem.Value.none (@PySem.Value.str (@PySem.Str.ofString "quietprobes.stocks") (553 : Nat)) Option.none (@PySem.Value.ref (324 : Nat)) PySem.Value.none (0 : Nat))) (List.toArray []))) ::
(nat_lit 326, (@PySem.Obj.mk (@PySem.Value.type "tuple") Option.none (@PySem.Data.seq (List.toArray []) (0 : Nat)) (List.toArray []))) ::
(nat_lit 328, (@PySem.Obj.mk (@PySem.Value.type "tuple") Option.none (@PySem.Data.seq (List.toArray [(@PySem.Value.str (@PySem.Str.ofString "self") (655 : Nat)), (@PySem.Value.str (@PySem.Str.ofString "word") (656 : Nat)), (@PySem.Value.str (@PySem.Str.ofString "name") (657 : Nat))]) (0 : Nat)) (List.toArray []))) ::
(nat_lit 329, (@PySem.Obj.mk (@PySem.Value.type "tuple") Option.none (@PySem.Data.seq (List.toArray []) (0 : Nat)) (List.toArray []))) ::
(nat_lit 331, (@PySem.Obj.mk (@PySem.Value.type "code") Option.none (@PySem.Data.fields (List.toArray [(@PySem.Value.str (@PySem.Str.ofString "flag_done") (652 : Nat)), (@PySem.Value.str (@PySem.Str.ofString "Stock.flag_done") (653 : Nat)), (@PySem.Value.str (@PySem.Str.ofString "/claim/cut.py") (654 : Nat)), (@PySem.Value.int (160 : Int) (0 : Nat)), (@PySem.Value.int (3 : Int) (0 : Nat)), (@PySem.Value.int (0 : Int) (0 : Nat)), (@PySem.Value.int (0 : Int) (0 : Nat)), (@PySem.Value.int (3 : Int) (0 : Nat)), (@PySem.Value.ref (326 : Nat)), (@PySem.Value.bool Bool.true), (@PySem.Value.int (181 : Int) (0 : Nat)), (@PySem.Value.ref (327 : Nat)), PySem.Value.none, (@PySem.Value.ref (328 : Nat)), (@PySem.Value.ref (329 : Nat)), (@PySem.Value.ref (330 : Nat)), (@PySem.Value.int (658 : Int) (0 : Nat)), (@PySem.Value.int (160 : Int) (0 : Nat)), (@PySem.Value.str (@PySem.Str.ofString "/claim/cut.py") (659 : Nat))])) (List.toArray []))) ::
(nat_lit 332, (@PySem.Obj.mk (@PySem.Value.type "function") Option.none (@PySem.Data.func (PySem.FuncData.mk (@PySem.Str.ofString "flag_done") (@PySem.Str.ofString "Stock.flag_done") (defArgs s_Stock_flag_done) (PySem.FuncBody.stmts (defBody s_Stock_flag_done)) (defScope s_Stock_flag_done) (3 : Nat) [] PySem.Value.none PySem.Value.none PySem.Value.none (@PySem.Value.str (@PySem.Str.ofString "quietprobes.stocks") (553 : Nat)) Option.none (@PySem.Value.ref (331 : Nat)) PySem.Value.none (0 : Nat))) (List.toArray []))) ::
(nat_lit 333, (@PySem.Obj.mk (@PySem.Value.type "tuple") Option.none (@PySem.Data.seq (List.toArray []) (0 : Nat)) (List.toArray []))) ::
(nat_lit 335, (@PySem.Obj.mk (@PySem.Value.type "tuple") Option.none (@PySem.Data.seq (List.toArray [(@PySem.Value.str (@PySem.Str.ofString "self") (664 : Nat)), (@PySem.Value.str (@PySem.Str.ofString "word") (665 : Nat)), (@PySem.Value.str (@PySem.Str.ofString "name") (666 : Nat)), (@PySem.Value.str (@PySem.Str.ofString "rest") (667 : Nat))]) (0 : Nat)) (List.toArray []))) ::
(nat_lit 336, (@PySem.Obj.mk (@PySem.Value.type "tuple") Option.none (@PySem.Data.seq (List.toArray []) (0 : Nat)) (List.toArray []))) ::
(nat_lit 338, (@PySem.Obj.mk (@PySem.Value.type "code") Option.none (@PySem.Data.fields (List.toArray [(@PySem.Value.str (@PySem.Str.ofString "slot_done") (661 : Nat)), (@PySem.Value.str (@PySem.Str.ofString "Stock.slot_done") (662 : Nat)), (@PySem.Value.str (@PySem.Str.ofString "/claim/cut.py") (663 : Nat)), (@PySem.Value.int (163 : Int) (0 : Nat)), (@PySem.Value.int (4 : Int) (0 : Nat)), (@PySem.Value.int (0 : Int) (0 : Nat)), (@PySem.Value.int (0 : Int) (0 : Nat)), (@PySem.Value.int (3 : Int) (0 : Nat)), (@PySem.Value.ref (333 : Nat)), (@PySem.Value.bool Bool.true), (@PySem.Value.int (181 : Int) (0 : Nat)), (@PySem.Value.ref (334 : Nat)), PySem.Value.none, (@PySem.Value.ref (335 : Nat)), (@PySem.Value.ref (336 : Nat)), (@PySem.Value.ref (337 : Nat)), (@PySem.Value.int (668 : Int) (0 : Nat)), (@PySem.Value.int (163 : Int) (0 : Nat)), (@PySem.Value.str (@PySem.Str.ofString "/claim/cut.py") (669 : Nat))])) (List.toArray []))) ::
(nat_lit 339, (@PySem.Obj.mk (@PySem.Value.type "function") Option.none (@PySem.Data.func (PySem.FuncData.mk (@PySem.Str.ofString "slot_done") (@PySem.Str.ofString "Stock.slot_done") (defArgs s_Stock_slot_done) (PySem.FuncBody.stmts (defBody s_Stock_slot_done)) (defScope s_Stock_slot_done) (3 : Nat) [] PySem.Value.none PySem.Value.none PySem.Value.none (@PySem.Value.str (@PySem.Str.ofString "quietprobes.stocks") (553 : Nat)) Option.none (@PySem.Value.ref (338 : Nat)) PySem.Value.none (0 : Nat))) (List.toArray []))) ::
(nat_lit 340, (@PySem.Obj.mk (@PySem.Value.type "tuple") Option.none (@PySem.Data.seq (List.toArray [(@PySem.Value.str (@PySem.Str.ofString "bindings") (671 : Nat)), (@PySem.Value.str (@PySem.Str.ofString "counts") (672 : Nat)), (@PySem.Value.str (@PySem.Str.ofString "held") (673 : Nat)), (@PySem.Value.str (@PySem.Str.ofString "spools") (674 : Nat)), (@PySem.Value.str (@PySem.Str.ofString "things") (675 : Nat))]) (0 : Nat)) (List.toArray []))) ::
(nat_lit 341, (@PySem.Obj.mk (@PySem.Value.type "dict") Option.none (@PySem.Data.dict (List.toArray [(@PySem.DictEntry.mk (@PySem.PyData.keyHash P (@PySem.Str.ofString "__module__")) (@PySem.Value.str (@PySem.Str.ofString "__module__") (562 : Nat)) (@PySem.Value.str (@PySem.Str.ofString "quietprobes.stocks") (553 : Nat))), (@PySem.DictEntry.mk (@PySem.PyData.keyHash P (@PySem.Str.ofString "__firstlineno__")) (@PySem.Value.str (@PySem.Str.ofString "__firstlineno__") (566 : Nat)) (@PySem.Value.int (107 : Int) (565 : Nat))), (@PySem.DictEntry.mk (@PySem.PyData.keyHash P (@PySem.Str.ofString "__init__")) (@PySem.Value.str (@PySem.Str.ofString "__init__") (572 : Nat)) (@PySem.Value.ref (262 : Nat))), (@PySem.DictEntry.mk (@PySem.PyData.keyHash P (@PySem.Str.ofString "duplicate")) (@PySem.Value.str (@PySem.Str.ofString "duplicate") (579 : Nat)) (@PySem.Value.ref (269 : Nat))), (@PySem.DictEntry.mk (@PySem.PyData.keyHash P (@PySem.Str.ofString "content_of")) (@PySem.Value.str (@PySem.Str.ofString "content_of") (587 : Nat)) (@PySem.Value.ref (276 : Nat))), (@PySem.DictEntry.mk (@PySem.PyData.keyHash P (@PySem.Str.ofString "counted")) (@PySem.Value.str (@PySem.Str.ofString "counted") (595 : Nat)) (@PySem.Value.ref (283 : Nat))), (@PySem.DictEntry.mk (@PySem.PyData.keyHash P (@PySem.Str.ofString "done")) (@PySem.Value.str (@PySem.Str.ofString "done") (603 : Nat)) (@PySem.Value.ref (290 : Nat))), (@PySem.DictEntry.mk (@PySem.PyData.keyHash P (@PySem.Str.ofString "feed_done")) (@PySem.Value.str (@PySem.Str.ofString "feed_done") (613 : Nat)) (@PySem.Value.ref (297 : Nat))), (@PySem.DictEntry.mk (@PySem.PyData.keyHash P (@PySem.Str.ofString "dice_done")) (@PySem.Value.str (@PySem.Str.ofString "dice_done") (622 : Nat)) (@PySem.Value.ref (304 : Nat))), (@PySem.DictEntry.mk (@PySem.PyData.keyHash P (@PySem.Str.ofString "table_done")) (@PySem.Value.str (@PySem.Str.ofString "table_done") (632 : Nat)) (@PySem.Value.ref (311 : Nat))), (@PySem.DictEntry.mk (@PySem.PyData.keyHash P (@PySem.Str.ofString "entry_done")) (@PySem.Value.str (@PySem.Str.ofString "entry_done") (642 : Nat)) (@PySem.Value.ref (318 : Nat))), (@PySem.DictEntry.mk (@PySem.PyData.keyHash P (@PySem.Str.ofString "field_done")) (@PySem.Value.str (@PySem.Str.ofString "field_done") (651 : Nat)) (@PySem.Value.ref (325 : Nat))), (@PySem.DictEntry.mk (@PySem.PyData.keyHash P (@PySem.Str.ofString "flag_done")) (@PySem.Value.str (@PySem.Str.ofString "flag_done") (660 : Nat)) (@PySem.Value.ref (332 : Nat))), (@PySem.DictEntry.mk (@PySem.PyData.keyHash P (@PySem.Str.ofString "slot_done")) (@PySem.Value.str (@PySem.Str.ofString "slot_done") (670 : Nat)) (@PySem.Value.ref (339 : Nat))), (@PySem.DictEntry.mk (@PySem.PyData.keyHash P (@PySem.Str.ofString "__static_attributes__")) (@PySem.Value.str (@PySem.Str.ofString "__static_attributes__") (676 : Nat)) (@PySem.Value.ref (340 : Nat))), (@PySem.DictEntry.mk (@PySem.PyData.keyHash P (@PySem.Str.ofString "__dict__")) (@PySem.Value.str (@PySem.Str.ofString "__dict__") (678 : Nat)) (@PySem.Value.ref (343 : Nat))), (@PySem.DictEntry.mk (@PySem.PyData.keyHash P (@PySem.Str.ofString "__weakref__")) (@PySem.Value.str (@PySem.Str.ofString "__weakref__") (680 : Nat)) (@PySem.Value.ref (344 : Nat))), (@PySem.DictEntry.mk (@PySem.PyData.keyHash P (@PySem.Str.ofString "__doc__")) (@PySem.Value.str (@PySem.Str.ofString "__doc__") (681 : Nat)) PySem.Value.none)]) (4 : Nat)) (List.toArray []))) ::
(nat_lit 342, (@PySem.Obj.mk (@PySem.Value.type "type") Option.none (@PySem.Data.cls (@PySem.ClassData.mk (@PySem.Str.ofString "Stock") [(@PySem.Value.type "object")] [(@PySem.Value.ref (342 : Nat)), (@PySem.Value.type "object")] (341 : Nat) (@PySem.Str.ofString "Stock") Bool.true [] [] Bool.false Option.none Bool.false)) (List.toArray [Option.none, Option.none, (Option.some (@PySem.Value.str (@PySem.Str.ofString "Stock") (555 : Nat))), (Option.some (@PySem.Value.str (@PySem.Str.ofString "Stock") (563 : Nat))), (Option.some (@PySem.Value.builtin "object.__new__")), (Option.some (@PySem.Value.bool Bool.true))]))) ::
(nat_lit 343, (@PySem.Obj.mk (@PySem.Value.type "getset_descriptor") Option.none (@PySem.Data.fields (List.toArray [(@PySem.Value.str (@PySem.Str.ofString "__dict__") (677 : Nat)), (@PySem.Value.ref (342 : Nat)), (@PySem.Value.builtin "function.__dict__"), (@PySem.Value.builtin "function.__dict__#set")])) (List.toArray []))) ::
(nat_lit 344, (@PySem.Obj.mk (@PySem.Value.type "getset_descriptor") Option.none (@PySem.Data.fields (List.toArray [(@PySem.Value.str (@PySem.Str.ofString "__weakref__") (679 : Nat)), (@PySem.Value.ref (342 : Nat)), (@PySem.Value.builtin "ExceptionGroup.__weakref__"), PySem.Value.none])) (List.toArray []))) ::
(nat_lit 354, (@PySem.Obj.mk (@PySem.Value.type "tuple") Option.none (@PySem.Data.seq (List.toArray []) (0 : Nat)) (List.toArray []))) ::
(nat_lit 356, (@PySem.Obj.mk (@PySem.Value.type "tuple") Option.none (@PySem.Data.seq (List.toArray [(@PySem.Value.str (@PySem.Str.ofString "self") (701 : Nat)), (@PySem.Value.str (@PySem.Str.ofString "things") (702 : Nat))]) (0 : Nat)) (List.toArray []))) ::
(nat_lit 357, (@PySem.Obj.mk (@PySem.Value.type "tuple") Option.none (@PySem.Data.seq (List.toArray []) (0 : Nat)) (List.toArray []))) ::
(nat_lit 359, (@PySem.Obj.mk (@PySem.Value.type "code") Option.none (@PySem.Data.fields (List.toArray [(@PySem.Value.str (@PySem.Str.ofString "__init__") (698 : Nat)), (@PySem.Value.str (@PySem.Str.ofString "World.__init__") (699 : Nat)), (@PySem.Value.str (@PySem.Str.ofString "/claim/cut.py") (700 : Nat)), (@PySem.Value.int (168 : Int) (0 : Nat)), (@PySem.Value.int (1 : Int) (0 : Nat)), (@PySem.Value.int (0 : Int) (0 : Nat)), (@PySem.Value.int (0 : Int) (0 : Nat)), (@PySem.Value.int (7 : Int) (0 : Nat)), (@PySem.Value.ref (354 : Nat)), (@PySem.Value.bool Bool.true), (@PySem.Value.int (181 : Int) (0 : Nat)), (@PySem.Value.ref (355 : Nat)), PySem.Value.none, (@PySem.Value.ref (356 : Nat)), (@PySem.Value.ref (357 : Nat)), (@PySem.Value.ref (358 : Nat)), (@PySem.Value.int (703 : Int) (0 : Nat)), (@PySem.Value.int (168 : Int) (0 : Nat)), (@PySem.Value.str (@PySem.Str.ofString "/claim/cut.py") (704 : Nat))])) (List.toArray []))) ::
(nat_lit 360, (@PySem.Obj.mk (@PySem.Value.type "function") Option.none (@PySem.Data.func (PySem.FuncData.mk (@PySem.Str.ofString "__init__") (@PySem.Str.ofString "World.__init__") (defArgs s_World___init__) (PySem.FuncBody.stmts (defBody s_World___init__)) (defScope s_World___init__) (3 : Nat) [] PySem.Value.none PySem.Value.none PySem.Value.none (@PySem.Value.str (@PySem.Str.ofString "quietprobes.worlds") (684 : Nat)) Option.none (@PySem.Value.ref (359 : Nat)) PySem.Value.none (0 : Nat))) (List.toArray []))) ::
(nat_lit 361, (@PySem.Obj.mk (@PySem.Value.type "tuple") Option.none (@PySem.Data.seq (List.toArray []) (0 : Nat)) (List.toArray []))) ::
(nat_lit 363, (@PySem.Obj.mk (@PySem.Value.type "tuple") Option.none (@PySem.Data.seq (List.toArray [(@PySem.Value.str (@PySem.Str.ofString "self") (709 : Nat))]) (0 : Nat)) (List.toArray []))) ::
(nat_lit 364, (@PySem.Obj.mk (@PySem.Value.type "tuple") Option.none (@PySem.Data.seq (List.toArray []) (0 : Nat)) (List.toArray []))) ::
(nat_lit 366, (@PySem.Obj.mk (@PySem.Value.type "code") Option.none (@PySem.Data.fields (List.toArray [(@PySem.Value.str (@PySem.Str.ofString "is_watched") (706 : Nat)), (@PySem.Value.str (@PySem.Str.ofString "World.is_watched") (707 : Nat)), (@PySem.Value.str (@PySem.Str.ofString "/claim/cut.py") (708 : Nat)), (@PySem.Value.int (174 : Int) (0 : Nat)), (@PySem.Value.int (1 : Int) (0 : Nat)), (@PySem.Value.int (0 : Int) (0 : Nat)), (@PySem.Value.int (0 : Int) (0 : Nat)), (@PySem.Value.int (3 : Int) (0 : Nat)), (@PySem.Value.ref (361 : Nat)), (@PySem.Value.bool Bool.true), (@PySem.Value.int (181 : Int) (0 : Nat)), (@PySem.Value.ref (362 : Nat)), PySem.Value.none, (@PySem.Value.ref (363 : Nat)), (@PySem.Value.ref (364 : Nat)), (@PySem.Value.ref (365 : Nat)), (@PySem.Value.int (710 : Int) (0 : Nat)), (@PySem.Value.int (174 : Int) (0 : Nat)), (@PySem.Value.str (@PySem.Str.ofString "/claim/cut.py") (711 : Nat))])) (List.toArray []))) ::
(nat_lit 367, (@PySem.Obj.mk (@PySem.Value.type "function") Option.none (@PySem.Data.func (PySem.FuncData.mk (@PySem.Str.ofString "is_watched") (@PySem.Str.ofString "World.is_watched") (defArgs s_World_is_watched) (PySem.FuncBody.stmts (defBody s_World_is_watched)) (defScope s_World_is_watched) (3 : Nat) [] PySem.Value.none PySem.Value.none PySem.Value.none (@PySem.Value.str (@PySem.Str.ofString "quietprobes.worlds") (684 : Nat)) Option.none (@PySem.Value.ref (366 : Nat)) PySem.Value.none (0 : Nat))) (List.toArray []))) ::
(nat_lit 368, (@PySem.Obj.mk (@PySem.Value.type "property") Option.none (@PySem.Data.fields (List.toArray [(@PySem.Value.ref (367 : Nat)), PySem.Value.none, PySem.Value.none, PySem.Value.none, (@PySem.Value.str (@PySem.Str.ofString "is_watched") (713 : Nat)), (@PySem.Value.bool Bool.false)])) (List.toArray []))) ::
(nat_lit 369, (@PySem.Obj.mk (@PySem.Value.type "tuple") Option.none (@PySem.Data.seq (List.toArray []) (0 : Nat)) (List.toArray []))) ::
(nat_lit 371, (@PySem.Obj.mk (@PySem.Value.type "tuple") Option.none (@PySem.Data.seq (List.toArray [(@PySem.Value.str (@PySem.Str.ofString "self") (717 : Nat)), (@PySem.Value.str (@PySem.Str.ofString "deed") (718 : Nat))]) (0 : Nat)) (List.toArray []))) ::
(nat_lit 372, (@PySem.Obj.mk (@PySem.Value.type "tuple") Option.none (@PySem.Data.seq (List.toArray []) (0 : Nat)) (List.toArray []))) ::
(nat_lit 374, (@PySem.Obj.mk (@PySem.Value.type "code") Option.none (@PySem.Data.fields (List.toArray [(@PySem.Value.str (@PySem.Str.ofString "do") (714 : Nat)), (@PySem.Value.str (@PySem.Str.ofString "World.do") (715 : Nat)), (@PySem.Value.str (@PySem.Str.ofString "/claim/cut.py") (716 : Nat)), (@PySem.Value.int (178 : Int) (0 : Nat)), (@PySem.Value.int (2 : Int) (0 : Nat)), (@PySem.Value.int (0 : Int) (0 : Nat)), (@PySem.Value.int (0 : Int) (0 : Nat)), (@PySem.Value.int (3 : Int) (0 : Nat)), (@PySem.Value.ref (369 : Nat)), (@PySem.Value.bool Bool.true), (@PySem.Value.int (181 : Int) (0 : Nat)), (@PySem.Value.ref (370 : Nat)), PySem.Value.none, (@PySem.Value.ref (371 : Nat)), (@PySem.Value.ref (372 : Nat)), (@PySem.Value.ref (373 : Nat)), (@PySem.Value.int (719 : Int) (0 : Nat)), (@PySem.Value.int (178 : Int) (0 : Nat)), (@PySem.Value.str (@PySem.Str.ofString "/claim/cut.py") (720 : Nat))])) (List.toArray []))) ::
(nat_lit 375, (@PySem.Obj.mk (@PySem.Value.type "function") Option.none (@PySem.Data.func (PySem.FuncData.mk (@PySem.Str.ofString "do") (@PySem.Str.ofString "World.do") (defArgs s_World_do) (PySem.FuncBody.stmts (defBody s_World_do)) (defScope s_World_do) (3 : Nat) [] PySem.Value.none PySem.Value.none PySem.Value.none (@PySem.Value.str (@PySem.Str.ofString "quietprobes.worlds") (684 : Nat)) Option.none (@PySem.Value.ref (374 : Nat)) PySem.Value.none (0 : Nat))) (List.toArray []))) ::
(nat_lit 376, (@PySem.Obj.mk (@PySem.Value.type "tuple") Option.none (@PySem.Data.seq (List.toArray []) (0 : Nat)) (List.toArray []))) ::
(nat_lit 378, (@PySem.Obj.mk (@PySem.Value.type "tuple") Option.none (@PySem.Data.seq (List.toArray [(@PySem.Value.str (@PySem.Str.ofString "self") (725 : Nat))]) (0 : Nat)) (List.toArray []))) ::
(nat_lit 379, (@PySem.Obj.mk (@PySem.Value.type "tuple") Option.none (@PySem.Data.seq (List.toArray []) (0 : Nat)) (List.toArray []))) ::
(nat_lit 381, (@PySem.Obj.mk (@PySem.Value.type "code") Option.none (@PySem.Data.fields (List.toArray [(@PySem.Value.str (@PySem.Str.ofString "duplicate") (722 : Nat)), (@PySem.Value.str (@PySem.Str.ofString "World.duplicate") (723 : Nat)), (@PySem.Value.str (@PySem.Str.ofString "/claim/cut.py") (724 : Nat)), (@PySem.Value.int (181 : Int) (0 : Nat)), (@PySem.Value.int (1 : Int) (0 : Nat)), (@PySem.Value.int (0 : Int) (0 : Nat)), (@PySem.Value.int (0 : Int) (0 : Nat)), (@PySem.Value.int (3 : Int) (0 : Nat)), (@PySem.Value.ref (376 : Nat)), (@PySem.Value.bool Bool.true), (@PySem.Value.int (181 : Int) (0 : Nat)), (@PySem.Value.ref (377 : Nat)), PySem.Value.none, (@PySem.Value.ref (378 : Nat)), (@PySem.Value.ref (379 : Nat)), (@PySem.Value.ref (380 : Nat)), (@PySem.Value.int (726 : Int) (0 : Nat)), (@PySem.Value.int (181 : Int) (0 : Nat)), (@PySem.Value.str (@PySem.Str.ofString "/claim/cut.py") (727 : Nat))])) (List.toArray []))) ::
(nat_lit 382, (@PySem.Obj.mk (@PySem.Value.type "function") Option.none (@PySem.Data.func (PySem.FuncData.mk (@PySem.Str.ofString "duplicate") (@PySem.Str.ofString "World.duplicate") (defArgs s_World_duplicate) (PySem.FuncBody.stmts (defBody s_World_duplicate)) (defScope s_World_duplicate) (3 : Nat) [] PySem.Value.none PySem.Value.none PySem.Value.none (@PySem.Value.str (@PySem.Str.ofString "quietprobes.worlds") (684 : Nat)) Option.none (@PySem.Value.ref (381 : Nat)) PySem.Value.none (0 : Nat))) (List.toArray []))) ::
(nat_lit 383, (@PySem.Obj.mk (@PySem.Value.type "tuple") Option.none (@PySem.Data.seq (List.toArray []) (0 : Nat)) (List.toArray []))) ::
(nat_lit 385, (@PySem.Obj.mk (@PySem.Value.type "tuple") Option.none (@PySem.Data.seq (List.toArray [(@PySem.Value.str (@PySem.Str.ofString "self") (732 : Nat)), (@PySem.Value.str (@PySem.Str.ofString "name") (733 : Nat))]) (0 : Nat)) (List.toArray []))) ::
(nat_lit 386, (@PySem.Obj.mk (@PySem.Value.type "tuple") Option.none (@PySem.Data.seq (List.toArray []) (0 : Nat)) (List.toArray []))) ::
(nat_lit 388, (@PySem.Obj.mk (@PySem.Value.type "code") Option.none (@PySem.Data.fields (List.toArray [(@PySem.Value.str (@PySem.Str.ofString "__getitem__") (729 : Nat)), (@PySem.Value.str (@PySem.Str.ofString "World.__getitem__") (730 : Nat)), (@PySem.Value.str (@PySem.Str.ofString "/claim/cut.py") (731 : Nat)), (@PySem.Value.int (184 : Int) (0 : Nat)), (@PySem.Value.int (2 : Int) (0 : Nat)), (@PySem.Value.int (0 : Int) (0 : Nat)), (@PySem.Value.int (0 : Int) (0 : Nat)), (@PySem.Value.int (3 : Int) (0 : Nat)), (@PySem.Value.ref (383 : Nat)), (@PySem.Value.bool Bool.true), (@PySem.Value.int (181 : Int) (0 : Nat)), (@PySem.Value.ref (384 : Nat)), PySem.Value.none, (@PySem.Value.ref (385 : Nat)), (@PySem.Value.ref (386 : Nat)), (@PySem.Value.ref (387 : Nat)), (@PySem.Value.int (734 : Int) (0 : Nat)), (@PySem.Value.int (184 : Int) (0 : Nat)), (@PySem.Value.str (@PySem.Str.ofString "/claim/cut.py") (735 : Nat))])) (List.toArray []))) ::
(nat_lit 389, (@PySem.Obj.mk (@PySem.Value.type "function") Option.none (@PySem.Data.func (PySem.FuncData.mk (@PySem.Str.ofString "__getitem__") (@PySem.Str.ofString "World.__getitem__") (defArgs s_World___getitem__) (PySem.FuncBody.stmts (defBody s_World___getitem__)) (defScope s_World___getitem__) (3 : Nat) [] PySem.Value.none PySem.Value.none PySem.Value.none (@PySem.Value.str (@PySem.Str.ofString "quietprobes.worlds") (684 : Nat)) Option.none (@PySem.Value.ref (388 : Nat)) PySem.Value.none (0 : Nat))) (List.toArray []))) ::
(nat_lit 390, (@PySem.Obj.mk (@PySem.Value.type "tuple") Option.none (@PySem.Data.seq (List.toArray []) (0 : Nat)) (List.toArray []))) ::
(nat_lit 392, (@PySem.Obj.mk (@PySem.Value.type "tuple") Option.none (@PySem.Data.seq (List.toArray [(@PySem.Value.str (@PySem.Str.ofString "self") (740 : Nat))]) (0 : Nat)) (List.toArray []))) ::
(nat_lit 393, (@PySem.Obj.mk (@PySem.Value.type "tuple") Option.none (@PySem.Data.seq (List.toArray []) (0 : Nat)) (List.toArray []))) ::
(nat_lit 395, (@PySem.Obj.mk (@PySem.Value.type "code") Option.none (@PySem.Data.fields (List.toArray [(@PySem.Value.str (@PySem.Str.ofString "__iter__") (737 : Nat)), (@PySem.Value.str (@PySem.Str.ofString "World.__iter__") (738 : Nat)), (@PySem.Value.str (@PySem.Str.ofString "/claim/cut.py") (739 : Nat)), (@PySem.Value.int (189 : Int) (0 : Nat)), (@PySem.Value.int (1 : Int) (0 : Nat)), (@PySem.Value.int (0 : Int) (0 : Nat)), (@PySem.Value.int (0 : Int) (0 : Nat)), (@PySem.Value.int (3 : Int) (0 : Nat)), (@PySem.Value.ref (390 : Nat)), (@PySem.Value.bool Bool.true), (@PySem.Value.int (181 : Int) (0 : Nat)), (@PySem.Value.ref (391 : Nat)), PySem.Value.none, (@PySem.Value.ref (392 : Nat)), (@PySem.Value.ref (393 : Nat)), (@PySem.Value.ref (394 : Nat)), (@PySem.Value.int (741 : Int) (0 : Nat)), (@PySem.Value.int (189 : Int) (0 : Nat)), (@PySem.Value.str (@PySem.Str.ofString "/claim/cut.py") (742 : Nat))])) (List.toArray []))) ::
(nat_lit 396, (@PySem.Obj.mk (@PySem.Value.type "function") Option.none (@PySem.Data.func (PySem.FuncData.mk (@PySem.Str.ofString "__iter__") (@PySem.Str.ofString "World.__iter__") (defArgs s_World___iter__) (PySem.FuncBody.stmts (defBody s_World___iter__)) (defScope s_World___iter__) (3 : Nat) [] PySem.Value.none PySem.Value.none PySem.Value.none (@PySem.Value.str (@PySem.Str.ofString "quietprobes.worlds") (684 : Nat)) Option.none (@PySem.Value.ref (395 : Nat)) PySem.Value.none (0 : Nat))) (List.toArray []))) ::
(nat_lit 397, (@PySem.Obj.mk (@PySem.Value.type "tuple") Option.none (@PySem.Data.seq (List.toArray []) (0 : Nat)) (List.toArray []))) ::
(nat_lit 400, (@PySem.Obj.mk (@PySem.Value.type "code") Option.none (@PySem.Data.fields (List.toArray [(@PySem.Value.str (@PySem.Str.ofString "__contains__") (744 : Nat)), (@PySem.Value.str (@PySem.Str.ofString "World.__contains__") (745 : Nat)), (@PySem.Value.str (@PySem.Str.ofString "/claim/cut.py") (746 : Nat)), (@PySem.Value.int (192 : Int) (0 : Nat)), (@PySem.Value.int (2 : Int) (0 : Nat)), (@PySem.Value.int (0 : Int) (0 : Nat)), (@PySem.Value.int (0 : Int) (0 : Nat)), (@PySem.Value.int (3 : Int) (0 : Nat)), (@PySem.Value.ref (397 : Nat)), (@PySem.Value.bool Bool.true), (@PySem.Value.int (181 : Int) (0 : Nat)), (@PySem.Value.ref (398 : Nat)), PySem.Value.none, PySem.Value.none, PySem.Value.none, (@PySem.Value.ref (399 : Nat)), (@PySem.Value.int (747 : Int) (0 : Nat)), (@PySem.Value.int (192 : Int) (0 : Nat)), (@PySem.Value.str (@PySem.Str.ofString "/claim/cut.py") (748 : Nat))])) (List.toArray []))) ::
(nat_lit 401, (@PySem.Obj.mk (@PySem.Value.type "function") Option.none (@PySem.Data.func (PySem.FuncData.mk (@PySem.Str.ofString "__contains__") (@PySem.Str.ofString "World.__contains__") (defArgs s_World___contains__) (PySem.FuncBody.stmts (defBody s_World___contains__)) (defScope s_World___contains__) (3 : Nat) [] PySem.Value.none PySem.Value.none PySem.Value.none (@PySem.Value.str (@PySem.Str.ofString "quietprobes.worlds") (684 : Nat)) Option.none (@PySem.Value.ref (400 : Nat)) PySem.Value.none (0 : Nat))) (List.toArray []))) ::
(nat_lit 402, (@PySem.Obj.mk (@PySem.Value.type "tuple") Option.none (@PySem.Data.seq (List.toArray []) (0 : Nat)) (List.toArray []))) ::
(nat_lit 405, (@PySem.Obj.mk (@PySem.Value.type "code") Option.none (@PySem.Data.fields (List.toArray [(@PySem.Value.str (@PySem.Str.ofString "__xor__") (750 : Nat)), (@PySem.Value.str (@PySem.Str.ofString "World.__xor__") (751 : Nat)), (@PySem.Value.str (@PySem.Str.ofString "/claim/cut.py") (752 : Nat)), (@PySem.Value.int (195 : Int) (0 : Nat)), (@PySem.Value.int (2 : Int) (0 : Nat)), (@PySem.Value.int (0 : Int) (0 : Nat)), (@PySem.Value.int (0 : Int) (0 : Nat)), (@PySem.Value.int (3 : Int) (0 : Nat)), (@PySem.Value.ref (402 : Nat)), (@PySem.Value.bool Bool.true), (@PySem.Value.int (181 : Int) (0 : Nat)), (@PySem.Value.ref (403 : Nat)), PySem.Value.none, PySem.Value.none, PySem.Value.none, (@PySem.Value.ref (404 : Nat)), (@PySem.Value.int (753 : Int) (0 : Nat)), (@PySem.Value.int (195 : Int) (0 : Nat)), (@PySem.Value.str (@PySem.Str.ofString "/claim/cut.py") (754 : Nat))])) (List.toArray []))) ::
(nat_lit 406, (@PySem.Obj.mk (@PySem.Value.type "function") Option.none (@PySem.Data.func (PySem.FuncData.mk (@PySem.Str.ofString "__xor__") (@PySem.Str.ofString "World.__xor__") (defArgs s_World___xor__) (PySem.FuncBody.stmts (defBody s_World___xor__)) (defScope s_World___xor__) (3 : Nat) [] PySem.Value.none PySem.Value.none PySem.Value.none (@PySem.Value.str (@PySem.Str.ofString "quietprobes.worlds") (684 : Nat)) Option.none (@PySem.Value.ref (405 : Nat)) PySem.Value.none (0 : Nat))) (List.toArray []))) ::
(nat_lit 407, (@PySem.Obj.mk (@PySem.Value.type "tuple") Option.none (@PySem.Data.seq (List.toArray []) (0 : Nat)) (List.toArray []))) ::
(nat_lit 409, (@PySem.Obj.mk (@PySem.Value.type "tuple") Option.none (@PySem.Data.seq (List.toArray [(@PySem.Value.str (@PySem.Str.ofString "self") (759 : Nat)), (@PySem.Value.str (@PySem.Str.ofString "other") (760 : Nat))]) (0 : Nat)) (List.toArray []))) ::
(nat_lit 410, (@PySem.Obj.mk (@PySem.Value.type "tuple") Option.none (@PySem.Data.seq (List.toArray []) (0 : Nat)) (List.toArray []))) ::
(nat_lit 412, (@PySem.Obj.mk (@PySem.Value.type "code") Option.none (@PySem.Data.fields (List.toArray [(@PySem.Value.str (@PySem.Str.ofString "__eq__") (756 : Nat)), (@PySem.Value.str (@PySem.Str.ofString "World.__eq__") (757 : Nat)), (@PySem.Value.str (@PySem.Str.ofString "/claim/cut.py") (758 : Nat)), (@PySem.Value.int (198 : Int) (0 : Nat)), (@PySem.Value.int (2 : Int) (0 : Nat)), (@PySem.Value.int (0 : Int) (0 : Nat)), (@PySem.Value.int (0 : Int) (0 : Nat)), (@PySem.Value.int (3 : Int) (0 : Nat)), (@PySem.Value.ref (407 : Nat)), (@PySem.Value.bool Bool.true), (@PySem.Value.int (181 : Int) (0 : Nat)), (@PySem.Value.ref (408 : Nat)), PySem.Value.none, (@PySem.Value.ref (409 : Nat)), (@PySem.Value.ref (410 : Nat)), (@PySem.Value.ref (411 : Nat)), (@PySem.Value.int (761 : Int) (0 : Nat)), (@PySem.Value.int (198 : Int) (0 : Nat)), (@PySem.Value.str (@PySem.Str.ofString "/claim/cut.py") (762 : Nat))])) (List.toArray []))) ::
(nat_lit 413, (@PySem.Obj.mk (@PySem.Value.type "function") Option.none (@PySem.Data.func (PySem.FuncData.mk (@PySem.Str.ofString "__eq__") (@PySem.Str.ofString "World.__eq__") (defArgs s_World___eq__) (PySem.FuncBody.stmts (defBody s_World___eq__)) (defScope s_World___eq__) (3 : Nat) [] PySem.Value.none PySem.Value.none PySem.Value.none (@PySem.Value.str (@PySem.Str.ofString "quietprobes.worlds") (684 : Nat)) Option.none (@PySem.Value.ref (412 : Nat)) PySem.Value.none (0 : Nat))) (List.toArray []))) ::
(nat_lit 414, (@PySem.Obj.mk (@PySem.Value.type "tuple") Option.none (@PySem.Data.seq (List.toArray [(@PySem.Value.str (@PySem.Str.ofString "record") (764 : Nat)), (@PySem.Value.str (@PySem.Str.ofString "stock") (765 : Nat)), (@PySem.Value.str (@PySem.Str.ofString "things") (766 : Nat))]) (0 : Nat)) (List.toArray []))) ::
(nat_lit 415, (@PySem.Obj.mk (@PySem.Value.type "dict") Option.none (@PySem.Data.dict (List.toArray [(@PySem.DictEntry.mk (@PySem.PyData.keyHash P (@PySem.Str.ofString "__module__")) (@PySem.Value.str (@PySem.Str.ofString "__module__") (693 : Nat)) (@PySem.Value.str (@PySem.Str.ofString "quietprobes.worlds") (684 : Nat))), (@PySem.DictEntry.mk (@PySem.PyData.keyHash P (@PySem.Str.ofString "__firstlineno__")) (@PySem.Value.str (@PySem.Str.ofString "__firstlineno__") (697 : Nat)) (@PySem.Value.int (166 : Int) (696 : Nat))), (@PySem.DictEntry.mk (@PySem.PyData.keyHash P (@PySem.Str.ofString "__init__")) (@PySem.Value.str (@PySem.Str.ofString "__init__") (705 : Nat)) (@PySem.Value.ref (360 : Nat))), (@PySem.DictEntry.mk (@PySem.PyData.keyHash P (@PySem.Str.ofString "is_watched")) (@PySem.Value.str (@PySem.Str.ofString "is_watched") (713 : Nat)) (@PySem.Value.ref (368 : Nat))), (@PySem.DictEntry.mk (@PySem.PyData.keyHash P (@PySem.Str.ofString "do")) (@PySem.Value.str (@PySem.Str.ofString "do") (721 : Nat)) (@PySem.Value.ref (375 : Nat))), (@PySem.DictEntry.mk (@PySem.PyData.keyHash P (@PySem.Str.ofString "duplicate")) (@PySem.Value.str (@PySem.Str.ofString "duplicate") (728 : Nat)) (@PySem.Value.ref (382 : Nat))), (@PySem.DictEntry.mk (@PySem.PyData.keyHash P (@PySem.Str.ofString "__getitem__")) (@PySem.Value.str (@PySem.Str.ofString "__getitem__") (736 : Nat)) (@PySem.Value.ref (389 : Nat))), (@PySem.DictEntry.mk (@PySem.PyData.keyHash P (@PySem.Str.ofString "__iter__")) (@PySem.Value.str (@PySem.Str.ofString "__iter__") (743 : Nat)) (@PySem.Value.ref (396 : Nat))), (@PySem.DictEntry.mk (@PySem.PyData.keyHash P (@PySem.Str.ofString "__contains__")) (@PySem.Value.str (@PySem.Str.ofString "__contains__") (749 : Nat)) (@PySem.Value.ref (401 : Nat))), (@PySem.DictEntry.mk (@PySem.PyData.keyHash P (@PySem.Str.ofString "__xor__")) (@PySem.Value.str (@PySem.Str.ofString "__xor__") (755 : Nat)) (@PySem.Value.ref (406 : Nat))), (@PySem.DictEntry.mk (@PySem.PyData.keyHash P (@PySem.Str.ofString "__eq__")) (@PySem.Value.str (@PySem.Str.ofString "__eq__") (763 : Nat)) (@PySem.Value.ref (413 : Nat))), (@PySem.DictEntry.mk (@PySem.PyData.keyHash P (@PySem.Str.ofString "__static_attributes__")) (@PySem.Value.str (@PySem.Str.ofString "__static_attributes__") (767 : Nat)) (@PySem.Value.ref (414 : Nat))), (@PySem.DictEntry.mk (@PySem.PyData.keyHash P (@PySem.Str.ofString "__dict__")) (@PySem.Value.str (@PySem.Str.ofString "__dict__") (769 : Nat)) (@PySem.Value.ref (417 : Nat))), (@PySem.DictEntry.mk (@PySem.PyData.keyHash P (@PySem.Str.ofString "__weakref__")) (@PySem.Value.str (@PySem.Str.ofString "__weakref__") (771 : Nat)) (@PySem.Value.ref (418 : Nat))), (@PySem.DictEntry.mk (@PySem.PyData.keyHash P (@PySem.Str.ofString "__doc__")) (@PySem.Value.str (@PySem.Str.ofString "__doc__") (772 : Nat)) PySem.Value.none), (@PySem.DictEntry.mk (@PySem.PyData.keyHash P (@PySem.Str.ofString "__hash__")) (@PySem.Value.str (@PySem.Str.ofString "__hash__") (773 : Nat)) PySem.Value.none)]) (5 : Nat)) (List.toArray []))) ::
(nat_lit 416, (@PySem.Obj.mk (@PySem.Value.type "type") Option.none (@PySem.Data.cls (@PySem.ClassData.mk (@PySem.Str.ofString "World") [(@PySem.Value.type "object")] [(@PySem.Value.ref (416 : Nat)), (@PySem.Value.type "object")] (415 : Nat) (@PySem.Str.ofString "World") Bool.true [] [] Bool.false Option.none Bool.false)) (List.toArray [Option.none, Option.none, (Option.some (@PySem.Value.str (@PySem.Str.ofString "World") (686 : Nat))), (Option.some (@PySem.Value.str (@PySem.Str.ofString "World") (694 : Nat))), (Option.some (@PySem.Value.builtin "object.__new__")), (Option.some (@PySem.Value.bool Bool.true))]))) ::
(nat_lit 417, (@PySem.Obj.mk (@PySem.Value.type "getset_descriptor") Option.none (@PySem.Data.fields (List.toArray [(@PySem.Value.str (@PySem.Str.ofString "__dict__") (768 : Nat)), (@PySem.Value.ref (416 : Nat)), (@PySem.Value.builtin "function.__dict__"), (@PySem.Value.builtin "function.__dict__#set")])) (List.toArray []))) ::
(nat_lit 418, (@PySem.Obj.mk (@PySem.Value.type "getset_descriptor") Option.none (@PySem.Data.fields (List.toArray [(@PySem.Value.str (@PySem.Str.ofString "__weakref__") (770 : Nat)), (@PySem.Value.ref (416 : Nat)), (@PySem.Value.builtin "ExceptionGroup.__weakref__"), PySem.Value.none])) (List.toArray []))) ::
(nat_lit 421, (@PySem.Obj.mk (@PySem.Value.type "tuple") Option.none (@PySem.Data.seq (List.toArray []) (0 : Nat)) (List.toArray []))) ::
(nat_lit 423, (@PySem.Obj.mk (@PySem.Value.type "tuple") Option.none (@PySem.Data.seq (List.toArray [(@PySem.Value.str (@PySem.Str.ofString "_law_pool_here") (781 : Nat)), (@PySem.Value.str (@PySem.Str.ofString "_law_many") (782 : Nat)), (@PySem.Value.str (@PySem.Str.ofString "_law_cell") (783 : Nat)), (@PySem.Value.str (@PySem.Str.ofString "_law_code") (784 : Nat)), (@PySem.Value.str (@PySem.Str.ofString "_law_digit") (785 : Nat)), (@PySem.Value.str (@PySem.Str.ofString "_law_far") (786 : Nat)), (@PySem.Value.str (@PySem.Str.ofString "_law_mixed") (787 : Nat))]) (0 : Nat)) (List.toArray []))) ::
(nat_lit 424, (@PySem.Obj.mk (@PySem.Value.type "tuple") Option.none (@PySem.Data.seq (List.toArray []) (0 : Nat)) (List.toArray []))) ::
(nat_lit 426, (@PySem.Obj.mk (@PySem.Value.type "code") Option.none (@PySem.Data.fields (List.toArray [(@PySem.Value.str (@PySem.Str.ofString "_law_draw") (778 : Nat)), (@PySem.Value.str (@PySem.Str.ofString "_law_draw") (779 : Nat)), (@PySem.Value.str (@PySem.Str.ofString "/claim/cut.py") (780 : Nat)), (@PySem.Value.int (203 : Int) (0 : Nat)), (@PySem.Value.int (2 : Int) (0 : Nat)), (@PySem.Value.int (0 : Int) (0 : Nat)), (@PySem.Value.int (0 : Int) (0 : Nat)), (@PySem.Value.int (3 : Int) (0 : Nat)), (@PySem.Value.ref (421 : Nat)), (@PySem.Value.bool Bool.true), (@PySem.Value.int (181 : Int) (0 : Nat)), (@PySem.Value.ref (422 : Nat)), PySem.Value.none, (@PySem.Value.ref (423 : Nat)), (@PySem.Value.ref (424 : Nat)), (@PySem.Value.ref (425 : Nat)), (@PySem.Value.int (788 : Int) (0 : Nat)), (@PySem.Value.int (203 : Int) (0 : Nat)), (@PySem.Value.str (@PySem.Str.ofString "/claim/cut.py") (789 : Nat))])) (List.toArray []))) ::
(nat_lit 427, (@PySem.Obj.mk (@PySem.Value.type "function") Option.none (@PySem.Data.func (PySem.FuncData.mk (@PySem.Str.ofString "_law_draw") (@PySem.Str.ofString "_law_draw") (defArgs s__law_draw) (PySem.FuncBody.stmts (defBody s__law_draw)) (defScope s__law_draw) (3 : Nat) [] PySem.Value.none PySem.Value.none PySem.Value.none (@PySem.Value.str (@PySem.Str.ofString "law_quietprobes_k06_worlds_made") (776 : Nat)) Option.none (@PySem.Value.ref (426 : Nat)) PySem.Value.none (0 : Nat))) (List.toArray []))) ::
(nat_lit 428, (@PySem.Obj.mk (@PySem.Value.type "tuple") Option.none (@PySem.Data.seq (List.toArray []) (0 : Nat)) (List.toArray []))) ::
(nat_lit 431, (@PySem.Obj.mk (@PySem.Value.type "code") Option.none (@PySem.Data.fields (List.toArray [(@PySem.Value.str (@PySem.Str.ofString "_law_names") (791 : Nat)), (@PySem.Value.str (@PySem.Str.ofString "_law_names") (792 : Nat)), (@PySem.Value.str (@PySem.Str.ofString "/claim/cut.py") (793 : Nat)), (@PySem.Value.int (221 : Int) (0 : Nat)), (@PySem.Value.int (2 : Int) (0 : Nat)), (@PySem.Value.int (0 : Int) (0 : Nat)), (@PySem.Value.int (0 : Int) (0 : Nat)), (@PySem.Value.int (3 : Int) (0 : Nat)), (@PySem.Value.ref (428 : Nat)), (@PySem.Value.bool Bool.true), (@PySem.Value.int (181 : Int) (0 : Nat)), (@PySem.Value.ref (429 : Nat)), PySem.Value.none, PySem.Value.none, PySem.Value.none, (@PySem.Value.ref (430 : Nat)), (@PySem.Value.int (794 : Int) (0 : Nat)), (@PySem.Value.int (221 : Int) (0 : Nat)), (@PySem.Value.str (@PySem.Str.ofString "/claim/cut.py") (795 : Nat))])) (List.toArray []))) ::
(nat_lit 432, (@PySem.Obj.mk (@PySem.Value.type "function") Option.none (@PySem.Data.func (PySem.FuncData.mk (@PySem.Str.ofString "_law_names") (@PySem.Str.ofString "_law_names") (defArgs s__law_names) (PySem.FuncBody.stmts (defBody s__law_names)) (defScope s__law_names) (3 : Nat) [] PySem.Value.none PySem.Value.none PySem.Value.none (@PySem.Value.str (@PySem.Str.ofString "law_quietprobes_k06_worlds_made") (776 : Nat)) Option.none (@PySem.Value.ref (431 : Nat)) PySem.Value.none (0 : Nat))) (List.toArray []))) ::
(nat_lit 433, (@PySem.Obj.mk (@PySem.Value.type "tuple") Option.none (@PySem.Data.seq (List.toArray []) (0 : Nat)) (List.toArray []))) ::
(nat_lit 436, (@PySem.Obj.mk (@PySem.Value.type "code") Option.none (@PySem.Data.fields (List.toArray [(@PySem.Value.str (@PySem.Str.ofString "_law_word") (797 : Nat)), (@PySem.Value.str (@PySem.Str.ofString "_law_word") (798 : Nat)), (@PySem.Value.str (@PySem.Str.ofString "/claim/cut.py") (799 : Nat)), (@PySem.Value.int (230 : Int) (0 : Nat)), (@PySem.Value.int (1 : Int) (0 : Nat)), (@PySem.Value.int (0 : Int) (0 : Nat)), (@PySem.Value.int (0 : Int) (0 : Nat)), (@PySem.Value.int (3 : Int) (0 : Nat)), (@PySem.Value.ref (433 : Nat)), (@PySem.Value.bool Bool.true), (@PySem.Value.int (181 : Int) (0 : Nat)), (@PySem.Value.ref (434 : Nat)), PySem.Value.none, PySem.Value.none, PySem.Value.none, (@PySem.Value.ref (435 : Nat)), (@PySem.Value.int (800 : Int) (0 : Nat)), (@PySem.Value.int (230 : Int) (0 : Nat)), (@PySem.Value.str (@PySem.Str.ofString "/claim/cut.py") (801 : Nat))])) (List.toArray []))) ::
(nat_lit 437, (@PySem.Obj.mk (@PySem.Value.type "function") Option.none (@PySem.Data.func (PySem.FuncData.mk (@PySem.Str.ofString "_law_word") (@PySem.Str.ofString "_law_word") (defArgs s__law_word) (PySem.FuncBody.stmts (defBody s__law_word)) (defScope s__law_word) (3 : Nat) [] PySem.Value.none PySem.Value.none PySem.Value.none (@PySem.Value.str (@PySem.Str.ofString "law_quietprobes_k06_worlds_made") (776 : Nat)) Option.none (@PySem.Value.ref (436 : Nat)) PySem.Value.none (0 : Nat))) (List.toArray []))) ::
(nat_lit 438, (@PySem.Obj.mk (@PySem.Value.type "tuple") Option.none (@PySem.Data.seq (List.toArray []) (0 : Nat)) (List.toArray []))) ::
(nat_lit 440, (@PySem.Obj.mk (@PySem.Value.type "tuple") Option.none (@PySem.Data.seq (List.toArray [(@PySem.Value.str (@PySem.Str.ofString "_law_script") (806 : Nat))]) (0 : Nat)) (List.toArray []))) ::
(nat_lit 441, (@PySem.Obj.mk (@PySem.Value.type "tuple") Option.none (@PySem.Data.seq (List.toArray []) (0 : Nat)) (List.toArray []))) ::
(nat_lit 443, (@PySem.Obj.mk (@PySem.Value.type "code") Option.none (@PySem.Data.fields (List.toArray [(@PySem.Value.str (@PySem.Str.ofString "_law_pool") (803 : Nat)), (@PySem.Value.str (@PySem.Str.ofString "_law_pool") (804 : Nat)), (@PySem.Value.str (@PySem.Str.ofString "/claim/cut.py") (805 : Nat)), (@PySem.Value.int (233 : Int) (0 : Nat)), (@PySem.Value.int (1 : Int) (0 : Nat)), (@PySem.Value.int (0 : Int) (0 : Nat)), (@PySem.Value.int (0 : Int) (0 : Nat)), (@PySem.Value.int (3 : Int) (0 : Nat)), (@PySem.Value.ref (438 : Nat)), (@PySem.Value.bool Bool.true), (@PySem.Value.int (181 : Int) (0 : Nat)), (@PySem.Value.ref (439 : Nat)), PySem.Value.none, (@PySem.Value.ref (440 : Nat)), (@PySem.Value.ref (441 : Nat)), (@PySem.Value.ref (442 : Nat)), (@PySem.Value.int (807 : Int) (0 : Nat)), (@PySem.Value.int (233 : Int) (0 : Nat)), (@PySem.Value.str (@PySem.Str.ofString "/claim/cut.py") (808 : Nat))])) (List.toArray []))) ::
(nat_lit 444, (@PySem.Obj.mk (@PySem.Value.type "function") Option.none (@PySem.Data.func (PySem.FuncData.mk (@PySem.Str.ofString "_law_pool") (@PySem.Str.ofString "_law_pool") (defArgs s__law_pool) (PySem.FuncBody.stmts (defBody s__law_pool)) (defScope s__law_pool) (3 : Nat) [] PySem.Value.none PySem.Value.none PySem.Value.none (@PySem.Value.str (@PySem.Str.ofString "law_quietprobes_k06_worlds_made") (776 : Nat)) Option.none (@PySem.Value.ref (443 : Nat)) PySem.Value.none (0 : Nat))) (List.toArray []))) ::
(nat_lit 445, (@PySem.Obj.mk (@PySem.Value.type "tuple") Option.none (@PySem.Data.seq (List.toArray []) (0 : Nat)) (List.toArray []))) ::
(nat_lit 447, (@PySem.Obj.mk (@PySem.Value.type "tuple") Option.none (@PySem.Data.seq (List.toArray [(@PySem.Value.str (@PySem.Str.ofString "_law_thing_here") (813 : Nat)), (@PySem.Value.str (@PySem.Str.ofString "_law_kind") (814 : Nat)), (@PySem.Value.str (@PySem.Str.ofString "_law_name") (815 : Nat)), (@PySem.Value.str (@PySem.Str.ofString "_law_parts") (816 : Nat))]) (0 : Nat)) (List.toArray []))) ::
(nat_lit 448, (@PySem.Obj.mk (@PySem.Value.type "tuple") Option.none (@PySem.Data.seq (List.toArray []) (0 : Nat)) (List.toArray []))) ::
(nat_lit 450, (@PySem.Obj.mk (@PySem.Value.type "code") Option.none (@PySem.Data.fields (List.toArray [(@PySem.Value.str (@PySem.Str.ofString "_law_thing") (810 : Nat)), (@PySem.Value.str (@PySem.Str.ofString "_law_thing") (811 : Nat)), (@PySem.Value.str (@PySem.Str.ofString "/claim/cut.py") (812 : Nat)), (@PySem.Value.int (235 : Int) (0 : Nat)), (@PySem.Value.int (1 : Int) (0 : Nat)), (@PySem.Value.int (0 : Int) (0 : Nat)), (@PySem.Value.int (0 : Int) (0 : Nat)), (@PySem.Value.int (3 : Int) (0 : Nat)), (@PySem.Value.ref (445 : Nat)), (@PySem.Value.bool Bool.true), (@PySem.Value.int (181 : Int) (0 : Nat)), (@PySem.Value.ref (446 : Nat)), PySem.Value.none, (@PySem.Value.ref (447 : Nat)), (@PySem.Value.ref (448 : Nat)), (@PySem.Value.ref (449 : Nat)), (@PySem.Value.int (817 : Int) (0 : Nat)), (@PySem.Value.int (235 : Int) (0 : Nat)), (@PySem.Value.str (@PySem.Str.ofString "/claim/cut.py") (818 : Nat))])) (List.toArray []))) ::
(nat_lit 451, (@PySem.Obj.mk (@PySem.Value.type "function") Option.none (@PySem.Data.func (PySem.FuncData.mk (@PySem.Str.ofString "_law_thing") (@PySem.Str.ofString "_law_thing") (defArgs s__law_thing) (PySem.FuncBody.stmts (defBody s__law_thing)) (defScope s__law_thing) (3 : Nat) [] PySem.Value.none PySem.Value.none PySem.Value.none (@PySem.Value.str (@PySem.Str.ofString "law_quietprobes_k06_worlds_made") (776 : Nat)) Option.none (@PySem.Value.ref (450 : Nat)) PySem.Value.none (0 : Nat))) (List.toArray []))) ::
(nat_lit 452, (@PySem.Obj.mk (@PySem.Value.type "tuple") Option.none (@PySem.Data.seq (List.toArray []) (0 : Nat)) (List.toArray []))) ::
(nat_lit 454, (@PySem.Obj.mk (@PySem.Value.type "tuple") Option.none (@PySem.Data.seq (List.toArray [(@PySem.Value.str (@PySem.Str.ofString "_law_actual") (823 : Nat)), (@PySem.Value.str (@PySem.Str.ofString "_law_due_here") (824 : Nat)), (@PySem.Value.str (@PySem.Str.ofString "_law_k") (825 : Nat))]) (0 : Nat)) (List.toArray []))) ::
(nat_lit 455, (@PySem.Obj.mk (@PySem.Value.type "tuple") Option.none (@PySem.Data.seq (List.toArray []) (0 : Nat)) (List.toArray []))) ::
(nat_lit 457, (@PySem.Obj.mk (@PySem.Value.type "code") Option.none (@PySem.Data.fields (List.toArray [(@PySem.Value.str (@PySem.Str.ofString "_law_same") (820 : Nat)), (@PySem.Value.str (@PySem.Str.ofString "_law_same") (821 : Nat)), (@PySem.Value.str (@PySem.Str.ofString "/claim/cut.py") (822 : Nat)), (@PySem.Value.int (252 : Int) (0 : Nat)), (@PySem.Value.int (2 : Int) (0 : Nat)), (@PySem.Value.int (0 : Int) (0 : Nat)), (@PySem.Value.int (0 : Int) (0 : Nat)), (@PySem.Value.int (3 : Int) (0 : Nat)), (@PySem.Value.ref (452 : Nat)), (@PySem.Value.bool Bool.true), (@PySem.Value.int (181 : Int) (0 : Nat)), (@PySem.Value.ref (453 : Nat)), PySem.Value.none, (@PySem.Value.ref (454 : Nat)), (@PySem.Value.ref (455 : Nat)), (@PySem.Value.ref (456 : Nat)), (@PySem.Value.int (826 : Int) (0 : Nat)), (@PySem.Value.int (252 : Int) (0 : Nat)), (@PySem.Value.str (@PySem.Str.ofString "/claim/cut.py") (827 : Nat))])) (List.toArray []))) ::
(nat_lit 458, (@PySem.Obj.mk (@PySem.Value.type "function") Option.none (@PySem.Data.func (PySem.FuncData.mk (@PySem.Str.ofString "_law_same") (@PySem.Str.ofString "_law_same") (defArgs s__law_same) (PySem.FuncBody.stmts (defBody s__law_same)) (defScope s__law_same) (3 : Nat) [] PySem.Value.none PySem.Value.none PySem.Value.none (@PySem.Value.str (@PySem.Str.ofString "law_quietprobes_k06_worlds_made") (776 : Nat)) Option.none (@PySem.Value.ref (457 : Nat)) PySem.Value.none (0 : Nat))) (List.toArray []))) ::
(nat_lit 459, (@PySem.Obj.mk (@PySem.Value.type "tuple") Option.none (@PySem.Data.seq (List.toArray []) (0 : Nat)) (List.toArray []))) ::
(nat_lit 462, (@PySem.Obj.mk (@PySem.Value.type "code") Option.none (@PySem.Data.fields (List.toArray [(@PySem.Value.str (@PySem.Str.ofString "_law_object") (829 : Nat)), (@PySem.Value.str (@PySem.Str.ofString "_law_object") (830 : Nat)), (@PySem.Value.str (@PySem.Str.ofString "/claim/cut.py") (831 : Nat)), (@PySem.Value.int (271 : Int) (0 : Nat)), (@PySem.Value.int (2 : Int) (0 : Nat)), (@PySem.Value.int (0 : Int) (0 : Nat)), (@PySem.Value.int (0 : Int) (0 : Nat)), (@PySem.Value.int (3 : Int) (0 : Nat)), (@PySem.Value.ref (459 : Nat)), (@PySem.Value.bool Bool.true), (@PySem.Value.int (181 : Int) (0 : Nat)), (@PySem.Value.ref (460 : Nat)), PySem.Value.none, PySem.Value.none, PySem.Value.none, (@PySem.Value.ref (461 : Nat)), (@PySem.Value.int (832 : Int) (0 : Nat)), (@PySem.Value.int (271 : Int) (0 : Nat)), (@PySem.Value.str (@PySem.Str.ofString "/claim/cut.py") (833 : Nat))])) (List.toArray []))) ::
(nat_lit 463, (@PySem.Obj.mk (@PySem.Value.type "function") Option.none (@PySem.Data.func (PySem.FuncData.mk (@PySem.Str.ofString "_law_object") (@PySem.Str.ofString "_law_object") (defArgs s__law_object) (PySem.FuncBody.stmts (defBody s__law_object)) (defScope s__law_object) (3 : Nat) [] PySem.Value.none PySem.Value.none PySem.Value.none (@PySem.Value.str (@PySem.Str.ofString "law_quietprobes_k06_worlds_made") (776 : Nat)) Option.none (@PySem.Value.ref (462 : Nat)) PySem.Value.none (0 : Nat))) (List.toArray []))) ::
(nat_lit 464, (@PySem.Obj.mk (@PySem.Value.type "tuple") Option.none (@PySem.Data.seq (List.toArray []) (0 : Nat)) (List.toArray []))) ::
(nat_lit 466, (@PySem.Obj.mk (@PySem.Value.type "tuple") Option.none (@PySem.Data.seq (List.toArray [(@PySem.Value.str (@PySem.Str.ofString "_law_pool_here") (838 : Nat)), (@PySem.Value.str (@PySem.Str.ofString "_law_names_here") (839 : Nat)), (@PySem.Value.str (@PySem.Str.ofString "_law_pick") (840 : Nat))]) (0 : Nat)) (List.toArray []))) ::
(nat_lit 467, (@PySem.Obj.mk (@PySem.Value.type "tuple") Option.none (@PySem.Data.seq (List.toArray []) (0 : Nat)) (List.toArray []))) ::
(nat_lit 469, (@PySem.Obj.mk (@PySem.Value.type "code") Option.none (@PySem.Data.fields (List.toArray [(@PySem.Value.str (@PySem.Str.ofString "_law_maybe") (835 : Nat)), (@PySem.Value.str (@PySem.Str.ofString "_law_maybe") (836 : Nat)), (@PySem.Value.str (@PySem.Str.ofString "/claim/cut.py") (837 : Nat)), (@PySem.Value.int (290 : Int) (0 : Nat)), (@PySem.Value.int (2 : Int) (0 : Nat)), (@PySem.Value.int (0 : Int) (0 : Nat)), (@PySem.Value.int (0 : Int) (0 : Nat)), (@PySem.Value.int (3 : Int) (0 : Nat)), (@PySem.Value.ref (464 : Nat)), (@PySem.Value.bool Bool.true), (@PySem.Value.int (181 : Int) (0 : Nat)), (@PySem.Value.ref (465 : Nat)), PySem.Value.none, (@PySem.Value.ref (466 : Nat)), (@PySem.Value.ref (467 : Nat)), (@PySem.Value.ref (468 : Nat)), (@PySem.Value.int (841 : Int) (0 : Nat)), (@PySem.Value.int (290 : Int) (0 : Nat)), (@PySem.Value.str (@PySem.Str.ofString "/claim/cut.py") (842 : Nat))])) (List.toArray []))) ::
(nat_lit 470, (@PySem.Obj.mk (@PySem.Value.type "function") Option.none (@PySem.Data.func (PySem.FuncData.mk (@PySem.Str.ofString "_law_maybe") (@PySem.Str.ofString "_law_maybe") (defArgs s__law_maybe) (PySem.FuncBody.stmts (defBody s__law_maybe)) (defScope s__law_maybe) (3 : Nat) [] PySem.Value.none PySem.Value.none PySem.Value.none (@PySem.Value.str (@PySem.Str.ofString "law_quietprobes_k06_worlds_made") (776 : Nat)) Option.none (@PySem.Value.ref (469 : Nat)) PySem.Value.none (0 : Nat))) (List.toArray []))) ::
(nat_lit 471, (@PySem.Obj.mk (@PySem.Value.type "tuple") Option.none (@PySem.Data.seq (List.toArray []) (0 : Nat)) (List.toArray []))) ::
(nat_lit 474, (@PySem.Obj.mk (@PySem.Value.type "code") Option.none (@PySem.Data.fields (List.toArray [(@PySem.Value.str (@PySem.Str.ofString "_law_is_name") (844 : Nat)), (@PySem.Value.str (@PySem.Str.ofString "_law_is_name") (845 : Nat)), (@PySem.Value.str (@PySem.Str.ofString "/claim/cut.py") (846 : Nat)), (@PySem.Value.int (297 : Int) (0 : Nat)), (@PySem.Value.int (1 : Int) (0 : Nat)), (@PySem.Value.int (0 : Int) (0 : Nat)), (@PySem.Value.int (0 : Int) (0 : Nat)), (@PySem.Value.int (3 : Int) (0 : Nat)), (@PySem.Value.ref (471 : Nat)), (@PySem.Value.bool Bool.true), (@PySem.Value.int (181 : Int) (0 : Nat)), (@PySem.Value.ref (472 : Nat)), PySem.Value.none, PySem.Value.none, PySem.Value.none, (@PySem.Value.ref (473 : Nat)), (@PySem.Value.int (847 : Int) (0 : Nat)), (@PySem.Value.int (297 : Int) (0 : Nat)), (@PySem.Value.str (@PySem.Str.ofString "/claim/cut.py") (848 : Nat))])) (List.toArray []))) ::
(nat_lit 475, (@PySem.Obj.mk (@PySem.Value.type "function") Option.none (@PySem.Data.func (PySem.FuncData.mk (@PySem.Str.ofString "_law_is_name") (@PySem.Str.ofString "_law_is_name") (defArgs s__law_is_name) (PySem.FuncBody.stmts (defBody s__law_is_name)) (defScope s__law_is_name) (3 : Nat) [] PySem.Value.none PySem.Value.none PySem.Value.none (@PySem.Value.str (@PySem.Str.ofString "law_quietprobes_k06_worlds_made") (776 : Nat)) Option.none (@PySem.Value.ref (474 : Nat)) PySem.Value.none (0 : Nat))) (List.toArray []))) ::
(nat_lit 476, (@PySem.Obj.mk (@PySem.Value.type "tuple") Option.none (@PySem.Data.seq (List.toArray []) (0 : Nat)) (List.toArray []))) ::
(nat_lit 478, (@PySem.Obj.mk (@PySem.Value.type "tuple") Option.none (@PySem.Data.seq (List.toArray [(@PySem.Value.str (@PySem.Str.ofString "_law_t") (853 : Nat))]) (0 : Nat)) (List.toArray []))) ::
(nat_lit 479, (@PySem.Obj.mk (@PySem.Value.type "tuple") Option.none (@PySem.Data.seq (List.toArray []) (0 : Nat)) (List.toArray []))) ::
(nat_lit 481, (@PySem.Obj.mk (@PySem.Value.type "code") Option.none (@PySem.Data.fields (List.toArray [(@PySem.Value.str (@PySem.Str.ofString "_law_make") (850 : Nat)), (@PySem.Value.str (@PySem.Str.ofString "_law_make") (851 : Nat)), (@PySem.Value.str (@PySem.Str.ofString "/claim/cut.py") (852 : Nat)), (@PySem.Value.int (301 : Int) (0 : Nat)), (@PySem.Value.int (1 : Int) (0 : Nat)), (@PySem.Value.int (0 : Int) (0 : Nat)), (@PySem.Value.int (0 : Int) (0 : Nat)), (@PySem.Value.int (3 : Int) (0 : Nat)), (@PySem.Value.ref (476 : Nat)), (@PySem.Value.bool Bool.true), (@PySem.Value.int (181 : Int) (0 : Nat)), (@PySem.Value.ref (477 : Nat)), PySem.Value.none, (@PySem.Value.ref (478 : Nat)), (@PySem.Value.ref (479 : Nat)), (@PySem.Value.ref (480 : Nat)), (@PySem.Value.int (854 : Int) (0 : Nat)), (@PySem.Value.int (301 : Int) (0 : Nat)), (@PySem.Value.str (@PySem.Str.ofString "/claim/cut.py") (855 : Nat))])) (List.toArray []))) ::
(nat_lit 482, (@PySem.Obj.mk (@PySem.Value.type "function") Option.none (@PySem.Data.func (PySem.FuncData.mk (@PySem.Str.ofString "_law_make") (@PySem.Str.ofString "_law_make") (defArgs s__law_make) (PySem.FuncBody.stmts (defBody s__law_make)) (defScope s__law_make) (3 : Nat) [] PySem.Value.none PySem.Value.none PySem.Value.none (@PySem.Value.str (@PySem.Str.ofString "law_quietprobes_k06_worlds_made") (776 : Nat)) Option.none (@PySem.Value.ref (481 : Nat)) PySem.Value.none (0 : Nat))) (List.toArray []))) ::
(nat_lit 483, (@PySem.Obj.mk (@PySem.Value.type "tuple") Option.none (@PySem.Data.seq (List.toArray []) (0 : Nat)) (List.toArray []))) ::
(nat_lit 485, (@PySem.Obj.mk (@PySem.Value.type "tuple") Option.none (@PySem.Data.seq (List.toArray [(@PySem.Value.str (@PySem.Str.ofString "_law_things") (860 : Nat)), (@PySem.Value.str (@PySem.Str.ofString "e") (861 : Nat))]) (0 : Nat)) (List.toArray []))) ::
(nat_lit 486, (@PySem.Obj.mk (@PySem.Value.type "tuple") Option.none (@PySem.Data.seq (List.toArray []) (0 : Nat)) (List.toArray []))) ::
(nat_lit 488, (@PySem.Obj.mk (@PySem.Value.type "code") Option.none (@PySem.Data.fields (List.toArray [(@PySem.Value.str (@PySem.Str.ofString "_law_try") (857 : Nat)), (@PySem.Value.str (@PySem.Str.ofString "_law_try") (858 : Nat)), (@PySem.Value.str (@PySem.Str.ofString "/claim/cut.py") (859 : Nat)), (@PySem.Value.int (321 : Int) (0 : Nat)), (@PySem.Value.int (1 : Int) (0 : Nat)), (@PySem.Value.int (0 : Int) (0 : Nat)), (@PySem.Value.int (0 : Int) (0 : Nat)), (@PySem.Value.int (3 : Int) (0 : Nat)), (@PySem.Value.ref (483 : Nat)), (@PySem.Value.bool Bool.true), (@PySem.Value.int (181 : Int) (0 : Nat)), (@PySem.Value.ref (484 : Nat)), PySem.Value.none, (@PySem.Value.ref (485 : Nat)), (@PySem.Value.ref (486 : Nat)), (@PySem.Value.ref (487 : Nat)), (@PySem.Value.int (862 : Int) (0 : Nat)), (@PySem.Value.int (321 : Int) (0 : Nat)), (@PySem.Value.str (@PySem.Str.ofString "/claim/cut.py") (863 : Nat))])) (List.toArray []))) ::
(nat_lit 489, (@PySem.Obj.mk (@PySem.Value.type "function") Option.none (@PySem.Data.func (PySem.FuncData.mk (@PySem.Str.ofString "_law_try") (@PySem.Str.ofString "_law_try") (defArgs s__law_try) (PySem.FuncBody.stmts (defBody s__law_try)) (defScope s__law_try) (3 : Nat) [] PySem.Value.none PySem.Value.none PySem.Value.none (@PySem.Value.str (@PySem.Str.ofString "law_quietprobes_k06_worlds_made") (776 : Nat)) Option.none (@PySem.Value.ref (488 : Nat)) PySem.Value.none (0 : Nat))) (List.toArray []))) ::
(nat_lit 490, (@PySem.Obj.mk (@PySem.Value.type "tuple") Option.none (@PySem.Data.seq (List.toArray []) (0 : Nat)) (List.toArray []))) ::
(nat_lit 493, (@PySem.Obj.mk (@PySem.Value.type "code") Option.none (@PySem.Data.fields (List.toArray [(@PySem.Value.str (@PySem.Str.ofString "_law_due") (865 : Nat)), (@PySem.Value.str (@PySem.Str.ofString "_law_due") (866 : Nat)), (@PySem.Value.str (@PySem.Str.ofString "/claim/cut.py") (867 : Nat)), (@PySem.Value.int (332 : Int) (0 : Nat)), (@PySem.Value.int (1 : Int) (0 : Nat)), (@PySem.Value.int (0 : Int) (0 : Nat)), (@PySem.Value.int (0 : Int) (0 : Nat)), (@PySem.Value.int (3 : Int) (0 : Nat)), (@PySem.Value.ref (490 : Nat)), (@PySem.Value.bool Bool.true), (@PySem.Value.int (181 : Int) (0 : Nat)), (@PySem.Value.ref (491 : Nat)), PySem.Value.none, PySem.Value.none, PySem.Value.none, (@PySem.Value.ref (492 : Nat)), (@PySem.Value.int (868 : Int) (0 : Nat)), (@PySem.Value.int (332 : Int) (0 : Nat)), (@PySem.Value.str (@PySem.Str.ofString "/claim/cut.py") (869 : Nat))])) (List.toArray []))) ::
(nat_lit 494, (@PySem.Obj.mk (@PySem.Value.type "function") Option.none (@PySem.Data.func (PySem.FuncData.mk (@PySem.Str.ofString "_law_due") (@PySem.Str.ofString "_law_due") (defArgs s__law_due) (PySem.FuncBody.stmts (defBody s__law_due)) (defScope s__law_due) (3 : Nat) [] PySem.Value.none PySem.Value.none PySem.Value.none (@PySem.Value.str (@PySem.Str.ofString "law_quietprobes_k06_worlds_made") (776 : Nat)) Option.none (@PySem.Value.ref (493 : Nat)) PySem.Value.none (0 : Nat))) (List.toArray []))) ::
(nat_lit 495, (@PySem.Obj.mk (@PySem.Value.type "tuple") Option.none (@PySem.Data.seq (List.toArray []) (0 : Nat)) (List.toArray []))) ::
(nat_lit 497, (@PySem.Obj.mk (@PySem.Value.type "tuple") Option.none (@PySem.Data.seq (List.toArray [(@PySem.Value.str (@PySem.Str.ofString "_law_world") (874 : Nat)), (@PySem.Value.str (@PySem.Str.ofString "_law_name") (875 : Nat)), (@PySem.Value.str (@PySem.Str.ofString "e") (876 : Nat))]) (0 : Nat)) (List.toArray []))) ::
(nat_lit 498, (@PySem.Obj.mk (@PySem.Value.type "tuple") Option.none (@PySem.Data.seq (List.toArray []) (0 : Nat)) (List.toArray []))) ::
(nat_lit 500, (@PySem.Obj.mk (@PySem.Value.type "code") Option.none (@PySem.Data.fields (List.toArray [(@PySem.Value.str (@PySem.Str.ofString "_law_item") (871 : Nat)), (@PySem.Value.str (@PySem.Str.ofString "_law_item") (872 : Nat)), (@PySem.Value.str (@PySem.Str.ofString "/claim/cut.py") (873 : Nat)), (@PySem.Value.int (342 : Int) (0 : Nat)), (@PySem.Value.int (2 : Int) (0 : Nat)), (@PySem.Value.int (0 : Int) (0 : Nat)), (@PySem.Value.int (0 : Int) (0 : Nat)), (@PySem.Value.int (3 : Int) (0 : Nat)), (@PySem.Value.ref (495 : Nat)), (@PySem.Value.bool Bool.true), (@PySem.Value.int (181 : Int) (0 : Nat)), (@PySem.Value.ref (496 : Nat)), PySem.Value.none, (@PySem.Value.ref (497 : Nat)), (@PySem.Value.ref (498 : Nat)), (@PySem.Value.ref (499 : Nat)), (@PySem.Value.int (877 : Int) (0 : Nat)), (@PySem.Value.int (342 : Int) (0 : Nat)), (@PySem.Value.str (@PySem.Str.ofString "/claim/cut.py") (878 : Nat))])) (List.toArray []))) ::
(nat_lit 501, (@PySem.Obj.mk (@PySem.Value.type "function") Option.none (@PySem.Data.func (PySem.FuncData.mk (@PySem.Str.ofString "_law_item") (@PySem.Str.ofString "_law_item") (defArgs s__law_item) (PySem.FuncBody.stmts (defBody s__law_item)) (defScope s__law_item) (3 : Nat) [] PySem.Value.none PySem.Value.none PySem.Value.none (@PySem.Value.str (@PySem.Str.ofString "law_quietprobes_k06_worlds_made") (776 : Nat)) Option.none (@PySem.Value.ref (500 : Nat)) PySem.Value.none (0 : Nat))) (List.toArray []))) ::
(nat_lit 502, (@PySem.Obj.mk (@PySem.Value.type "tuple") Option.none (@PySem.Data.seq (List.toArray []) (0 : Nat)) (List.toArray []))) ::
(nat_lit 505, (@PySem.Obj.mk (@PySem.Value.type "code") Option.none (@PySem.Data.fields (List.toArray [(@PySem.Value.str (@PySem.Str.ofString "_law_things_of") (880 : Nat)), (@PySem.Value.str (@PySem.Str.ofString "_law_things_of") (881 : Nat)), (@PySem.Value.str (@PySem.Str.ofString "/claim/cut.py") (882 : Nat)), (@PySem.Value.int (347 : Int) (0 : Nat)), (@PySem.Value.int (1 : Int) (0 : Nat)), (@PySem.Value.int (0 : Int) (0 : Nat)), (@PySem.Value.int (0 : Int) (0 : Nat)), (@PySem.Value.int (3 : Int) (0 : Nat)), (@PySem.Value.ref (502 : Nat)), (@PySem.Value.bool Bool.true), (@PySem.Value.int (181 : Int) (0 : Nat)), (@PySem.Value.ref (503 : Nat)), PySem.Value.none, PySem.Value.none, PySem.Value.none, (@PySem.Value.ref (504 : Nat)), (@PySem.Value.int (883 : Int) (0 : Nat)), (@PySem.Value.int (347 : Int) (0 : Nat)), (@PySem.Value.str (@PySem.Str.ofString "/claim/cut.py") (884 : Nat))])) (List.toArray []))) ::
(nat_lit 506, (@PySem.Obj.mk (@PySem.Value.type "function") Option.none (@PySem.Data.func (PySem.FuncData.mk (@PySem.Str.ofString "_law_things_of") (@PySem.Str.ofString "_law_things_of") (defArgs s__law_things_of) (PySem.FuncBody.stmts (defBody s__law_things_of)) (defScope s__law_things_of) (3 : Nat) [] PySem.Value.none PySem.Value.none PySem.Value.none (@PySem.Value.str (@PySem.Str.ofString "law_quietprobes_k06_worlds_made") (776 : Nat)) Option.none (@PySem.Value.ref (505 : Nat)) PySem.Value.none (0 : Nat))) (List.toArray []))) ::
(nat_lit 507, (@PySem.Obj.mk (@PySem.Value.type "tuple") Option.none (@PySem.Data.seq (List.toArray []) (0 : Nat)) (List.toArray []))) ::
(nat_lit 510, (@PySem.Obj.mk (@PySem.Value.type "code") Option.none (@PySem.Data.fields (List.toArray [(@PySem.Value.str (@PySem.Str.ofString "law") (886 : Nat)), (@PySem.Value.str (@PySem.Str.ofString "law") (887 : Nat)), (@PySem.Value.str (@PySem.Str.ofString "/claim/cut.py") (888 : Nat)), (@PySem.Value.int (366 : Int) (0 : Nat)), (@PySem.Value.int (1 : Int) (0 : Nat)), (@PySem.Value.int (0 : Int) (0 : Nat)), (@PySem.Value.int (0 : Int) (0 : Nat)), (@PySem.Value.int (3 : Int) (0 : Nat)), (@PySem.Value.ref (507 : Nat)), (@PySem.Value.bool Bool.true), (@PySem.Value.int (181 : Int) (0 : Nat)), (@PySem.Value.ref (508 : Nat)), PySem.Value.none, PySem.Value.none, PySem.Value.none, (@PySem.Value.ref (509 : Nat)), (@PySem.Value.int (889 : Int) (0 : Nat)), (@PySem.Value.int (366 : Int) (0 : Nat)), (@PySem.Value.str (@PySem.Str.ofString "/claim/cut.py") (890 : Nat))])) (List.toArray []))) ::
(nat_lit 511, (@PySem.Obj.mk (@PySem.Value.type "function") Option.none (@PySem.Data.func (PySem.FuncData.mk (@PySem.Str.ofString "law") (@PySem.Str.ofString "law") (defArgs s_law) (PySem.FuncBody.stmts (defBody s_law)) (defScope s_law) (3 : Nat) [] PySem.Value.none PySem.Value.none PySem.Value.none (@PySem.Value.str (@PySem.Str.ofString "law_quietprobes_k06_worlds_made") (776 : Nat)) Option.none (@PySem.Value.ref (510 : Nat)) PySem.Value.none (0 : Nat))) (List.toArray []))) :: []
def KA : List Nat := nat_lit 2 :: nat_lit 3 :: nat_lit 15 :: nat_lit 17 :: nat_lit 18 :: nat_lit 20 :: nat_lit 21 :: nat_lit 22 :: nat_lit 29 :: nat_lit 30 :: nat_lit 31 :: nat_lit 32 :: nat_lit 35 :: nat_lit 38 :: nat_lit 43 :: nat_lit 44 :: nat_lit 46 :: nat_lit 47 :: nat_lit 49 :: nat_lit 50 :: nat_lit 51 :: nat_lit 52 :: nat_lit 53 :: nat_lit 56 :: nat_lit 59 :: nat_lit 64 :: nat_lit 65 :: nat_lit 67 :: nat_lit 68 :: nat_lit 70 :: nat_lit 71 :: nat_lit 72 :: nat_lit 73 :: nat_lit 74 :: nat_lit 77 :: nat_lit 80 :: nat_lit 85 :: nat_lit 86 :: nat_lit 88 :: nat_lit 89 :: nat_lit 91 :: nat_lit 92 :: nat_lit 93 :: nat_lit 94 :: nat_lit 95 :: nat_lit 98 :: nat_lit 101 :: nat_lit 106 :: nat_lit 107 :: nat_lit 109 :: nat_lit 110 :: nat_lit 112 :: nat_lit 113 :: nat_lit 114 :: nat_lit 115 :: nat_lit 116 :: nat_lit 119 :: nat_lit 122 :: nat_lit 123 :: nat_lit 124 :: nat_lit 126 :: nat_lit 127 :: nat_lit 129 :: nat_lit 130 :: nat_lit 131 :: nat_lit 133 :: nat_lit 134 :: nat_lit 136 :: nat_lit 137 :: nat_lit 145 :: nat_lit 146 :: nat_lit 147 :: nat_lit 148 :: nat_lit 150 :: nat_lit 151 :: nat_lit 153 :: nat_lit 154 :: nat_lit 155 :: nat_lit 157 :: nat_lit 158 :: nat_lit 160 :: nat_lit 161 :: nat_lit 162 :: nat_lit 164 :: nat_lit 165 :: nat_lit 167 :: nat_lit 168 :: nat_lit 169 :: nat_lit 171 :: nat_lit 172 :: nat_lit 174 :: nat_lit 175 :: nat_lit 176 :: nat_lit 177 :: nat_lit 178 :: nat_lit 179 :: nat_lit 181 :: nat_lit 182 :: nat_lit 184 :: nat_lit 185 :: nat_lit 186 :: nat_lit 187 :: nat_lit 188 :: nat_lit 189 :: nat_lit 191 :: nat_lit 192 :: nat_lit 194 :: nat_lit 195 :: nat_lit 196 :: nat_lit 197 :: nat_lit 198 :: nat_lit 199 :: nat_lit 201 :: nat_lit 202 :: nat_lit 204 :: nat_lit 205 :: nat_lit 206 :: nat_lit 207 :: nat_lit 208 :: nat_lit 209 :: nat_lit 211 :: nat_lit 212 :: nat_lit 214 :: nat_lit 215 :: nat_lit 216 :: nat_lit 217 :: nat_lit 218 :: nat_lit 219 :: nat_lit 221 :: nat_lit 222 :: nat_lit 224 :: nat_lit 225 :: nat_lit 226 :: nat_lit 227 :: nat_lit 228 :: nat_lit 229 :: nat_lit 231 :: nat_lit 232 :: nat_lit 234 :: nat_lit 235 :: nat_lit 236 :: nat_lit 237 :: nat_lit 238 :: nat_lit 239 :: nat_lit 240 :: nat_lit 241 :: nat_lit 242 :: nat_lit 243 :: nat_lit 246 :: nat_lit 249 :: nat_lit 250 :: nat_lit 258 :: nat_lit 261 :: nat_lit 262 :: nat_lit 263 :: nat_lit 265 :: nat_lit 266 :: nat_lit 268 :: nat_lit 269 :: nat_lit 270 :: nat_lit 272 :: nat_lit 273 :: nat_lit 275 :: nat_lit 276 :: nat_lit 277 :: nat_lit 279 :: nat_lit 280 :: nat_lit 282 :: nat_lit 283 :: nat_lit 284 :: nat_lit 286 :: nat_lit 287 :: nat_lit 289 :: nat_lit 290 :: nat_lit 291 :: nat_lit 293 :: nat_lit 294 :: nat_lit 296 :: nat_lit 297 :: nat_lit 298 :: nat_lit 300 :: nat_lit 301 :: nat_lit 303 :: nat_lit 304 :: nat_lit 305 :: nat_lit 307 :: nat_lit 308 :: nat_lit 310 :: nat_lit 311 :: nat_lit 312 :: nat_lit 314 :: nat_lit 315 :: nat_lit 317 :: nat_lit 318 :: nat_lit 319 :: nat_lit 321 :: nat_lit 322 :: nat_lit 324 :: nat_lit 325 :: nat_lit 326 :: nat_lit 328 :: nat_lit 329 :: nat_lit 331 :: nat_lit 332 :: nat_lit 333 :: nat_lit 335 :: nat_lit 336 :: nat_lit 338 :: nat_lit 339 :: nat_lit 340 :: nat_lit 341 :: nat_lit 342 :: nat_lit 343 :: nat_lit 344 :: nat_lit 354 :: nat_lit 356 :: nat_lit 357 :: nat_lit 359 :: nat_lit 360 :: nat_lit 361 :: nat_lit 363 :: nat_lit 364 :: nat_lit 366 :: nat_lit 367 :: nat_lit 368 :: nat_lit 369 :: nat_lit 371 :: nat_lit 372 :: nat_lit 374 :: nat_lit 375 :: nat_lit 376 :: nat_lit 378 :: nat_lit 379 :: nat_lit 381 :: nat_lit 382 :: nat_lit 383 :: nat_lit 385 :: nat_lit 386 :: nat_lit 388 :: nat_lit 389 :: nat_lit 390 :: nat_lit 392 :: nat_lit 393 :: nat_lit 395 :: nat_lit 396 :: nat_lit 397 :: nat_lit 400 :: nat_lit 401 :: nat_lit 402 :: nat_lit 405 :: nat_lit 406 :: nat_lit 407 :: nat_lit 409 :: nat_lit 410 :: nat_lit 412 :: nat_lit 413 :: nat_lit 414 :: nat_lit 415 :: nat_lit 416 :: nat_lit 417 :: nat_lit 418 :: nat_lit 421 :: nat_lit 423 :: nat_lit 424 :: nat_lit 426 :: nat_lit 427 :: nat_lit 428 :: nat_lit 431 :: nat_lit 432 :: nat_lit 433 :: nat_lit 436 :: nat_lit 437 :: nat_lit 438 :: nat_lit 440 :: nat_lit 441 :: nat_lit 443 :: nat_lit 444 :: nat_lit 445 :: nat_lit 447 :: nat_lit 448 :: nat_lit 450 :: nat_lit 451 :: nat_lit 452 :: nat_lit 454 :: nat_lit 455 :: nat_lit 457 :: nat_lit 458 :: nat_lit 459 :: nat_lit 462 :: nat_lit 463 :: nat_lit 464 :: nat_lit 466 :: nat_lit 467 :: nat_lit 469 :: nat_lit 470 :: nat_lit 471 :: nat_lit 474 :: nat_lit 475 :: nat_lit 476 :: nat_lit 478 :: nat_lit 479 :: nat_lit 481 :: nat_lit 482 :: nat_lit 483 :: nat_lit 485 :: nat_lit 486 :: nat_lit 488 :: nat_lit 489 :: nat_lit 490 :: nat_lit 493 :: nat_lit 494 :: nat_lit 495 :: nat_lit 497 :: nat_lit 498 :: nat_lit 500 :: nat_lit 501 :: nat_lit 502 :: nat_lit 505 :: nat_lit 506 :: nat_lit 507 :: nat_lit 510 :: nat_lit 511 :: []
abbrev RR : PySem.W.OpenRow := PySem.W.OpenLaw.row PySem.Challenge.rw_quietprobes_k06_worlds_made
abbrev qv : Program := PySem.W.view RR.prog [36]
abbrev loo : List PySem.Str := "_wall" :: "QuietError" :: "BadName" :: "NoThing" :: "Twice" :: "TooMany" :: "LETTERS" :: "MOST_LETTERS" :: "MOST_KEYS" :: "MOST_THINGS" :: "is_name" :: "need_names" :: "need_unlike" :: "Thing" :: "need_things" :: "Stock" :: "World" :: "_law_draw" :: "_law_names" :: "_law_word" :: "_law_pool" :: "_law_thing" :: "_law_same" :: "_law_object" :: "_law_maybe" :: "_law_is_name" :: "_law_make" :: "_law_try" :: "_law_due" :: "_law_item" :: "_law_things_of" :: []
theorem KA_eq (P : PySem.Params) : KA = (KF P).map (·.1) := by kernel_rfl
abbrev hk : PySem.W.Hook := PySem.W.kHook KF KA KA_eq
def obK (s : PySem.W.SharedT) : hk.α := KA.map (HandSHeadRun.getT s)
theorem obK_eq (s : PySem.W.SharedT) : obK s = hk.obs s.abs := by
  show KA.map (HandSHeadRun.getT s) = KA.map s.abs.heap.get?
  exact congrArg KA.map (funext fun a => HandSHeadRun.getT_eq s a)
set_option maxHeartbeats 0 in
theorem run (w : World) : HandSHeadRun.RunEq RR qv hk obK 9046 loo w := by
  intro os
  kernel_rfl
theorem run_all (w : World) : HandSHeadRun.RunEq RR qv hk obK 9046 loo w := run w
set_option maxHeartbeats 0 in
theorem all_mk {l : PySem.W.OpenLaw} {w : World} {K : PySem.W.Frag} {h : Heap} {mg : Str → Option Value} {fa : Addr} (X : K.In h) (G : h.Ns mainGlobals mg) (hfa : mg "law" = some (.ref fa))
    {f0 : Addr} {oc0 kV0 dc0 pm0 cd0 ct0 : Value} {od0 an0 : Option Addr} {sl0 : Array (Option Value)}
    {f1 : Addr} {oc1 kV1 dc1 pm1 cd1 ct1 : Value} {od1 an1 : Option Addr} {sl1 : Array (Option Value)}
    {f2 : Addr} {oc2 kV2 dc2 pm2 cd2 ct2 : Value} {od2 an2 : Option Addr} {sl2 : Array (Option Value)}
    {f3 : Addr} {oc3 kV3 dc3 pm3 cd3 ct3 : Value} {od3 an3 : Option Addr} {sl3 : Array (Option Value)}
    {f4 : Addr} {oc4 kV4 dc4 pm4 cd4 ct4 : Value} {od4 an4 : Option Addr} {sl4 : Array (Option Value)}
    {f5 : Addr} {oc5 kV5 dc5 pm5 cd5 ct5 : Value} {od5 an5 : Option Addr} {sl5 : Array (Option Value)}
    {f6 : Addr} {oc6 kV6 dc6 pm6 cd6 ct6 : Value} {od6 an6 : Option Addr} {sl6 : Array (Option Value)}
    {f7 : Addr} {oc7 kV7 dc7 pm7 cd7 ct7 : Value} {od7 an7 : Option Addr} {sl7 : Array (Option Value)}
    {f8 : Addr} {oc8 kV8 dc8 pm8 cd8 ct8 : Value} {od8 an8 : Option Addr} {sl8 : Array (Option Value)}
    {f9 : Addr} {oc9 kV9 dc9 pm9 cd9 ct9 : Value} {od9 an9 : Option Addr} {sl9 : Array (Option Value)}
    {f10 : Addr} {oc10 kV10 dc10 pm10 cd10 ct10 : Value} {od10 an10 : Option Addr} {sl10 : Array (Option Value)}
    {f11 : Addr} {oc11 kV11 dc11 pm11 cd11 ct11 : Value} {od11 an11 : Option Addr} {sl11 : Array (Option Value)}
    {f12 : Addr} {oc12 kV12 dc12 pm12 cd12 ct12 : Value} {od12 an12 : Option Addr} {sl12 : Array (Option Value)}
    {f13 : Addr} {oc13 kV13 dc13 pm13 cd13 ct13 : Value} {od13 an13 : Option Addr} {sl13 : Array (Option Value)}
    {f14 : Addr} {oc14 kV14 dc14 pm14 cd14 ct14 : Value} {od14 an14 : Option Addr} {sl14 : Array (Option Value)}
    {f15 : Addr} {oc15 kV15 dc15 pm15 cd15 ct15 : Value} {od15 an15 : Option Addr} {sl15 : Array (Option Value)}
    {f16 : Addr} {oc16 kV16 dc16 pm16 cd16 ct16 : Value} {od16 an16 : Option Addr} {sl16 : Array (Option Value)}
    {f17 : Addr} {oc17 kV17 dc17 pm17 cd17 ct17 : Value} {od17 an17 : Option Addr} {sl17 : Array (Option Value)}
    {f18 : Addr} {oc18 kV18 dc18 pm18 cd18 ct18 : Value} {od18 an18 : Option Addr} {sl18 : Array (Option Value)}
    {f19 : Addr} {oc19 kV19 dc19 pm19 cd19 ct19 : Value} {od19 an19 : Option Addr} {sl19 : Array (Option Value)}
    {st_LETTERS : Tok}
    {it_MOST_LETTERS : Tok}
    {it_MOST_THINGS : Tok}
    {it_MOST_KEYS : Tok}
    {C_BadName fI_BadName cc_BadName cda_BadName N_BadName : Addr} {kV_BadName dc_BadName pm_BadName ct_BadName oc_BadName ccl_BadName cl_BadName : Value} {an_BadName od_BadName cdd_BadName cld_BadName : Option Addr} {osl_BadName ccs_BadName csl_BadName : Array (Option Value)} {vs_BadName : Array Value} {file_BadName : Str} {tf_BadName : Tok} {nm_BadName q_BadName : Str} {bs_BadName bm_BadName : List Value} {sn_BadName : List Str} {sub_BadName : List Value} {ab_BadName : Bool} {col_BadName : Option Bool} {dd_BadName : Option Addr} {k0_BadName k1_BadName k2_BadName k3_BadName k5_BadName : Option Value}
    {C_NoThing fI_NoThing cc_NoThing cda_NoThing N_NoThing : Addr} {kV_NoThing dc_NoThing pm_NoThing ct_NoThing oc_NoThing ccl_NoThing cl_NoThing : Value} {an_NoThing od_NoThing cdd_NoThing cld_NoThing : Option Addr} {osl_NoThing ccs_NoThing csl_NoThing : Array (Option Value)} {vs_NoThing : Array Value} {file_NoThing : Str} {tf_NoThing : Tok} {nm_NoThing q_NoThing : Str} {bs_NoThing bm_NoThing : List Value} {sn_NoThing : List Str} {sub_NoThing : List Value} {ab_NoThing : Bool} {col_NoThing : Option Bool} {dd_NoThing : Option Addr} {k0_NoThing k1_NoThing k2_NoThing k3_NoThing k5_NoThing : Option Value}
    {C_Twice fI_Twice cc_Twice cda_Twice N_Twice : Addr} {kV_Twice dc_Twice pm_Twice ct_Twice oc_Twice ccl_Twice cl_Twice : Value} {an_Twice od_Twice cdd_Twice cld_Twice : Option Addr} {osl_Twice ccs_Twice csl_Twice : Array (Option Value)} {vs_Twice : Array Value} {file_Twice : Str} {tf_Twice : Tok} {nm_Twice q_Twice : Str} {bs_Twice bm_Twice : List Value} {sn_Twice : List Str} {sub_Twice : List Value} {ab_Twice : Bool} {col_Twice : Option Bool} {dd_Twice : Option Addr} {k0_Twice k1_Twice k2_Twice k3_Twice k5_Twice : Option Value}
    {C_TooMany fI_TooMany cc_TooMany cda_TooMany N_TooMany : Addr} {kV_TooMany dc_TooMany pm_TooMany ct_TooMany oc_TooMany ccl_TooMany cl_TooMany : Value} {an_TooMany od_TooMany cdd_TooMany cld_TooMany : Option Addr} {osl_TooMany ccs_TooMany csl_TooMany : Array (Option Value)} {vs_TooMany : Array Value} {file_TooMany : Str} {tf_TooMany : Tok} {nm_TooMany q_TooMany : Str} {bs_TooMany bm_TooMany : List Value} {sn_TooMany : List Str} {sub_TooMany : List Value} {ab_TooMany : Bool} {col_TooMany : Option Bool} {dd_TooMany : Option Addr} {k0_TooMany k1_TooMany k2_TooMany k3_TooMany k5_TooMany : Option Value}
    {C_Stock : Addr}
    {if_Stock : Addr} {ioc_Stock ikV_Stock idc_Stock ipm_Stock icd_Stock ict_Stock : Value} {iod_Stock ian_Stock : Option Addr} {isl_Stock : Array (Option Value)}
    {m0f_Stock : Addr} {m0oc_Stock m0kV_Stock m0dc_Stock m0pm_Stock m0cd_Stock m0ct_Stock : Value} {m0od_Stock m0an_Stock : Option Addr} {m0sl_Stock : Array (Option Value)}
    {C_Thing : Addr}
    {if_Thing : Addr} {ioc_Thing idV_Thing ikV_Thing idc_Thing ipm_Thing icd_Thing ict_Thing : Value} {iod_Thing ian_Thing : Option Addr} {isl_Thing : Array (Option Value)}
    {idT_Thing : Addr} {idto_Thing : Option Addr} {idti_Thing : Array Value} {idtn_Thing : Nat} {idsl_Thing : Array (Option Value)}
    {ide0_Thing : Addr} {ideo0_Thing : Option Addr} {idei0_Thing : Array Value} {iden0_Thing : Nat} {ides0_Thing : Array (Option Value)}
    {ef_Thing : Addr} {eoc_Thing ekV_Thing edc_Thing epm_Thing ecd_Thing ect_Thing : Value} {eod_Thing ean_Thing : Option Addr} {esl_Thing : Array (Option Value)}
    {s0p_Thing : Addr} {s0r_Thing : List Value}
    {s0f_Thing : Addr} {s0oc_Thing s0kV_Thing s0dc_Thing s0pm_Thing s0cd_Thing s0ct_Thing : Value} {s0od_Thing s0an_Thing : Option Addr} {s0sl_Thing : Array (Option Value)}
    {s1p_Thing : Addr} {s1r_Thing : List Value}
    {s1f_Thing : Addr} {s1oc_Thing s1kV_Thing s1dc_Thing s1pm_Thing s1cd_Thing s1ct_Thing : Value} {s1od_Thing s1an_Thing : Option Addr} {s1sl_Thing : Array (Option Value)}
    {s2p_Thing : Addr} {s2r_Thing : List Value}
    {s2f_Thing : Addr} {s2oc_Thing s2kV_Thing s2dc_Thing s2pm_Thing s2cd_Thing s2ct_Thing : Value} {s2od_Thing s2an_Thing : Option Addr} {s2sl_Thing : Array (Option Value)}
    {s3p_Thing : Addr} {s3r_Thing : List Value}
    {s3f_Thing : Addr} {s3oc_Thing s3kV_Thing s3dc_Thing s3pm_Thing s3cd_Thing s3ct_Thing : Value} {s3od_Thing s3an_Thing : Option Addr} {s3sl_Thing : Array (Option Value)}
    {s4p_Thing : Addr} {s4r_Thing : List Value}
    {s4f_Thing : Addr} {s4oc_Thing s4kV_Thing s4dc_Thing s4pm_Thing s4cd_Thing s4ct_Thing : Value} {s4od_Thing s4an_Thing : Option Addr} {s4sl_Thing : Array (Option Value)}
    {s5p_Thing : Addr} {s5r_Thing : List Value}
    {s5f_Thing : Addr} {s5oc_Thing s5kV_Thing s5dc_Thing s5pm_Thing s5cd_Thing s5ct_Thing : Value} {s5od_Thing s5an_Thing : Option Addr} {s5sl_Thing : Array (Option Value)}
    {s6p_Thing : Addr} {s6r_Thing : List Value}
    {s6f_Thing : Addr} {s6oc_Thing s6kV_Thing s6dc_Thing s6pm_Thing s6cd_Thing s6ct_Thing : Value} {s6od_Thing s6an_Thing : Option Addr} {s6sl_Thing : Array (Option Value)}
    {C_World : Addr}
    {if_World : Addr} {ioc_World ikV_World idc_World ipm_World icd_World ict_World : Value} {iod_World ian_World : Option Addr} {isl_World : Array (Option Value)}
    {gf_World : Addr} {goc_World gkV_World gdc_World gpm_World gcd_World gct_World : Value} {god_World gan_World : Option Addr} {gsl_World : Array (Option Value)}
    {nf_World : Addr} {noc_World nkV_World ndc_World npm_World ncd_World nct_World : Value} {nod_World nan_World : Option Addr} {nsl_World : Array (Option Value)}
    {r0p_World : Addr} {r0r_World : List Value}
    {r0f_World : Addr} {r0oc_World r0kV_World r0dc_World r0pm_World r0cd_World r0ct_World : Value} {r0od_World r0an_World : Option Addr} {r0sl_World : Array (Option Value)}
    {C_QuietError : Addr}
    (a0 : PySem.W.nsIn K mainGlobals "_wall" = some (some (.ref f0))) (l0 : K.lookup f0 = some ⟨oc0, od0, .func (PySem.W.fnOf "_wall" "_wall" (defArgs s__wall) (defBody s__wall) (defScope s__wall) .none kV0 dc0 pm0 an0 cd0 ct0), sl0⟩) (c0 : PySem.W.codeIn K cd0 "_wall" = true) (k0 : PySem.W.keepIn K (.ref f0) = true)
    (a1 : PySem.W.nsIn K mainGlobals "is_name" = some (some (.ref f1))) (l1 : K.lookup f1 = some ⟨oc1, od1, .func (PySem.W.fnOf "is_name" "is_name" (defArgs s_is_name) (defBody s_is_name) (defScope s_is_name) .none kV1 dc1 pm1 an1 cd1 ct1), sl1⟩) (c1 : PySem.W.codeIn K cd1 "is_name" = true) (k1 : PySem.W.keepIn K (.ref f1) = true)
    (a2 : PySem.W.nsIn K mainGlobals "need_names" = some (some (.ref f2))) (l2 : K.lookup f2 = some ⟨oc2, od2, .func (PySem.W.fnOf "need_names" "need_names" (defArgs s_need_names) (defBody s_need_names) (defScope s_need_names) .none kV2 dc2 pm2 an2 cd2 ct2), sl2⟩) (c2 : PySem.W.codeIn K cd2 "need_names" = true) (k2 : PySem.W.keepIn K (.ref f2) = true)
    (a3 : PySem.W.nsIn K mainGlobals "need_unlike" = some (some (.ref f3))) (l3 : K.lookup f3 = some ⟨oc3, od3, .func (PySem.W.fnOf "need_unlike" "need_unlike" (defArgs s_need_unlike) (defBody s_need_unlike) (defScope s_need_unlike) .none kV3 dc3 pm3 an3 cd3 ct3), sl3⟩) (c3 : PySem.W.codeIn K cd3 "need_unlike" = true) (k3 : PySem.W.keepIn K (.ref f3) = true)
    (a4 : PySem.W.nsIn K mainGlobals "need_things" = some (some (.ref f4))) (l4 : K.lookup f4 = some ⟨oc4, od4, .func (PySem.W.fnOf "need_things" "need_things" (defArgs s_need_things) (defBody s_need_things) (defScope s_need_things) .none kV4 dc4 pm4 an4 cd4 ct4), sl4⟩) (c4 : PySem.W.codeIn K cd4 "need_things" = true) (k4 : PySem.W.keepIn K (.ref f4) = true)
    (a5 : PySem.W.nsIn K mainGlobals "_law_draw" = some (some (.ref f5))) (l5 : K.lookup f5 = some ⟨oc5, od5, .func (PySem.W.fnOf "_law_draw" "_law_draw" (defArgs s__law_draw) (defBody s__law_draw) (defScope s__law_draw) .none kV5 dc5 pm5 an5 cd5 ct5), sl5⟩) (c5 : PySem.W.codeIn K cd5 "_law_draw" = true) (k5 : PySem.W.keepIn K (.ref f5) = true)
    (a6 : PySem.W.nsIn K mainGlobals "_law_names" = some (some (.ref f6))) (l6 : K.lookup f6 = some ⟨oc6, od6, .func (PySem.W.fnOf "_law_names" "_law_names" (defArgs s__law_names) (defBody s__law_names) (defScope s__law_names) .none kV6 dc6 pm6 an6 cd6 ct6), sl6⟩) (c6 : PySem.W.codeIn K cd6 "_law_names" = true) (k6 : PySem.W.keepIn K (.ref f6) = true)
    (a7 : PySem.W.nsIn K mainGlobals "_law_word" = some (some (.ref f7))) (l7 : K.lookup f7 = some ⟨oc7, od7, .func (PySem.W.fnOf "_law_word" "_law_word" (defArgs s__law_word) (defBody s__law_word) (defScope s__law_word) .none kV7 dc7 pm7 an7 cd7 ct7), sl7⟩) (c7 : PySem.W.codeIn K cd7 "_law_word" = true) (k7 : PySem.W.keepIn K (.ref f7) = true)
    (a8 : PySem.W.nsIn K mainGlobals "_law_pool" = some (some (.ref f8))) (l8 : K.lookup f8 = some ⟨oc8, od8, .func (PySem.W.fnOf "_law_pool" "_law_pool" (defArgs s__law_pool) (defBody s__law_pool) (defScope s__law_pool) .none kV8 dc8 pm8 an8 cd8 ct8), sl8⟩) (c8 : PySem.W.codeIn K cd8 "_law_pool" = true) (k8 : PySem.W.keepIn K (.ref f8) = true)
    (a9 : PySem.W.nsIn K mainGlobals "_law_thing" = some (some (.ref f9))) (l9 : K.lookup f9 = some ⟨oc9, od9, .func (PySem.W.fnOf "_law_thing" "_law_thing" (defArgs s__law_thing) (defBody s__law_thing) (defScope s__law_thing) .none kV9 dc9 pm9 an9 cd9 ct9), sl9⟩) (c9 : PySem.W.codeIn K cd9 "_law_thing" = true) (k9 : PySem.W.keepIn K (.ref f9) = true)
    (a10 : PySem.W.nsIn K mainGlobals "_law_same" = some (some (.ref f10))) (l10 : K.lookup f10 = some ⟨oc10, od10, .func (PySem.W.fnOf "_law_same" "_law_same" (defArgs s__law_same) (defBody s__law_same) (defScope s__law_same) .none kV10 dc10 pm10 an10 cd10 ct10), sl10⟩) (c10 : PySem.W.codeIn K cd10 "_law_same" = true) (k10 : PySem.W.keepIn K (.ref f10) = true)
    (a11 : PySem.W.nsIn K mainGlobals "_law_object" = some (some (.ref f11))) (l11 : K.lookup f11 = some ⟨oc11, od11, .func (PySem.W.fnOf "_law_object" "_law_object" (defArgs s__law_object) (defBody s__law_object) (defScope s__law_object) .none kV11 dc11 pm11 an11 cd11 ct11), sl11⟩) (c11 : PySem.W.codeIn K cd11 "_law_object" = true) (k11 : PySem.W.keepIn K (.ref f11) = true)
    (a12 : PySem.W.nsIn K mainGlobals "_law_maybe" = some (some (.ref f12))) (l12 : K.lookup f12 = some ⟨oc12, od12, .func (PySem.W.fnOf "_law_maybe" "_law_maybe" (defArgs s__law_maybe) (defBody s__law_maybe) (defScope s__law_maybe) .none kV12 dc12 pm12 an12 cd12 ct12), sl12⟩) (c12 : PySem.W.codeIn K cd12 "_law_maybe" = true) (k12 : PySem.W.keepIn K (.ref f12) = true)
    (a13 : PySem.W.nsIn K mainGlobals "_law_is_name" = some (some (.ref f13))) (l13 : K.lookup f13 = some ⟨oc13, od13, .func (PySem.W.fnOf "_law_is_name" "_law_is_name" (defArgs s__law_is_name) (defBody s__law_is_name) (defScope s__law_is_name) .none kV13 dc13 pm13 an13 cd13 ct13), sl13⟩) (c13 : PySem.W.codeIn K cd13 "_law_is_name" = true) (k13 : PySem.W.keepIn K (.ref f13) = true)
    (a14 : PySem.W.nsIn K mainGlobals "_law_make" = some (some (.ref f14))) (l14 : K.lookup f14 = some ⟨oc14, od14, .func (PySem.W.fnOf "_law_make" "_law_make" (defArgs s__law_make) (defBody s__law_make) (defScope s__law_make) .none kV14 dc14 pm14 an14 cd14 ct14), sl14⟩) (c14 : PySem.W.codeIn K cd14 "_law_make" = true) (k14 : PySem.W.keepIn K (.ref f14) = true)
    (a15 : PySem.W.nsIn K mainGlobals "_law_try" = some (some (.ref f15))) (l15 : K.lookup f15 = some ⟨oc15, od15, .func (PySem.W.fnOf "_law_try" "_law_try" (defArgs s__law_try) (defBody s__law_try) (defScope s__law_try) .none kV15 dc15 pm15 an15 cd15 ct15), sl15⟩) (c15 : PySem.W.codeIn K cd15 "_law_try" = true) (k15 : PySem.W.keepIn K (.ref f15) = true)
    (a16 : PySem.W.nsIn K mainGlobals "_law_due" = some (some (.ref f16))) (l16 : K.lookup f16 = some ⟨oc16, od16, .func (PySem.W.fnOf "_law_due" "_law_due" (defArgs s__law_due) (defBody s__law_due) (defScope s__law_due) .none kV16 dc16 pm16 an16 cd16 ct16), sl16⟩) (c16 : PySem.W.codeIn K cd16 "_law_due" = true) (k16 : PySem.W.keepIn K (.ref f16) = true)
    (a17 : PySem.W.nsIn K mainGlobals "_law_item" = some (some (.ref f17))) (l17 : K.lookup f17 = some ⟨oc17, od17, .func (PySem.W.fnOf "_law_item" "_law_item" (defArgs s__law_item) (defBody s__law_item) (defScope s__law_item) .none kV17 dc17 pm17 an17 cd17 ct17), sl17⟩) (c17 : PySem.W.codeIn K cd17 "_law_item" = true) (k17 : PySem.W.keepIn K (.ref f17) = true)
    (a18 : PySem.W.nsIn K mainGlobals "_law_things_of" = some (some (.ref f18))) (l18 : K.lookup f18 = some ⟨oc18, od18, .func (PySem.W.fnOf "_law_things_of" "_law_things_of" (defArgs s__law_things_of) (defBody s__law_things_of) (defScope s__law_things_of) .none kV18 dc18 pm18 an18 cd18 ct18), sl18⟩) (c18 : PySem.W.codeIn K cd18 "_law_things_of" = true) (k18 : PySem.W.keepIn K (.ref f18) = true)
    (a19 : PySem.W.nsIn K mainGlobals "law" = some (some (.ref f19))) (l19 : K.lookup f19 = some ⟨oc19, od19, .func (PySem.W.fnOf "law" "law" (defArgs s_law) (defBody s_law) (defScope s_law) .none kV19 dc19 pm19 an19 cd19 ct19), sl19⟩) (c19 : PySem.W.codeIn K cd19 "law" = true) (k19 : PySem.W.keepIn K (.ref f19) = true)
    (z_len : PySem.W.nsIn K mainGlobals "len" = some none)
    (z_int : PySem.W.nsIn K mainGlobals "int" = some none)
    (z_list : PySem.W.nsIn K mainGlobals "list" = some none)
    (z_tuple : PySem.W.nsIn K mainGlobals "tuple" = some none)
    (z_isi : PySem.W.nsIn K mainGlobals "isinstance" = some none)
    (z_range : PySem.W.nsIn K mainGlobals "range" = some none)
    (z_all : PySem.W.nsIn K mainGlobals "all" = some none)
    (z_any : PySem.W.nsIn K mainGlobals "any" = some none)
    (z_str : PySem.W.nsIn K mainGlobals "str" = some none)
    (z_bool : PySem.W.nsIn K mainGlobals "bool" = some none)
    (z_enum : PySem.W.nsIn K mainGlobals "enumerate" = some none)
    (z_zip : PySem.W.nsIn K mainGlobals "zip" = some none)
    (z_sum : PySem.W.nsIn K mainGlobals "sum" = some none)
    (z_max : PySem.W.nsIn K mainGlobals "max" = some none)
    (z_min : PySem.W.nsIn K mainGlobals "min" = some none)
    (z_sorted : PySem.W.nsIn K mainGlobals "sorted" = some none)
    (z_set : PySem.W.nsIn K mainGlobals "set" = some none)
    (z_dict : PySem.W.nsIn K mainGlobals "dict" = some none)
    (sa_LETTERS : PySem.W.nsIn K mainGlobals "LETTERS" = some (some (.str abc st_LETTERS)))
    (ia_MOST_LETTERS : PySem.W.nsIn K mainGlobals "MOST_LETTERS" = some (some (.int 8 it_MOST_LETTERS)))
    (ia_MOST_THINGS : PySem.W.nsIn K mainGlobals "MOST_THINGS" = some (some (.int 8 it_MOST_THINGS)))
    (ia_MOST_KEYS : PySem.W.nsIn K mainGlobals "MOST_KEYS" = some (some (.int 4 it_MOST_KEYS)))
    (oq : PySem.W.nsIn K cStatics "thirdparty.any" = some none) (z_super : PySem.W.nsIn K mainGlobals "super" = some none) (gtc : PySem.W.specialIn K (.builtin "object.__class__") "__get__" = some (some (.builtin "getset_descriptor.__get__"))) (tkc : PySem.W.takesIn K (.builtin "object.__class__") = some true) (tsup : (l.prog.main.scope.names.lookup ("super" : Str)).isSome = false)
    (ecg_BadName : PySem.W.nsIn K mainGlobals "BadName" = some (some (.ref C_BadName)))
    (exL_BadName : K.lookup C_BadName = some (excClassObj nm_BadName q_BadName C_BadName N_BadName bs_BadName bm_BadName true sn_BadName sub_BadName ab_BadName col_BadName dd_BadName k0_BadName k1_BadName k2_BadName k3_BadName k5_BadName "ValueError.__new__"))
    (esa_BadName : PySem.W.findIn K (.ref C_BadName) "__setattr__" = some (some (.builtin "object.__setattr__")))
    (eex_BadName : PySem.W.subIn K (.ref C_BadName) (.type "BaseException") = some true)
    (ety_BadName : PySem.W.typeIn K (.ref C_BadName) = some (.type "type"))
    (ekC_BadName : PySem.W.keepIn K (.ref C_BadName) = true)
    (ei1_BadName : PySem.W.findIn K (.ref C_BadName) "__init__" = some (some (.ref fI_BadName)))
    (ei2_BadName : PySem.W.typeIn K (.ref fI_BadName) = some (.type "function"))
    (emr_BadName : PySem.W.mroIn K C_BadName (.ref C_BadName) = some true)
    (esv_BadName : PySem.W.subIn K (.ref C_BadName) (.type "ValueError") = some true)
    (esu_BadName : PySem.W.ks_superIn K C_BadName C_BadName "__init__" = some (some (.builtin "ValueError.__init__")))
    (elk_BadName : K.lookup fI_BadName = some ⟨oc_BadName, od_BadName, .func (PySem.W.ksFn "__init__" "BadName.__init__" (defArgs s_BadName___init__) (defBody s_BadName___init__) (defScope s_BadName___init__) .none kV_BadName dc_BadName pm_BadName an_BadName (.ref cda_BadName) ct_BadName cc_BadName), osl_BadName⟩)
    (ehc_BadName : PySem.W.codeIn K (.ref cda_BadName) "BadName.__init__" = true)
    (eno_BadName : PySem.W.findIn K (.ref C_BadName) "name" = some none)
    (eco_BadName : K.lookup cda_BadName = some ⟨ccl_BadName, cdd_BadName, .fields vs_BadName, ccs_BadName⟩)
    (ece_BadName : K.lookup cc_BadName = some ⟨cl_BadName, cld_BadName, .cell (some (.ref C_BadName)), csl_BadName⟩)
    (ega_BadName : PySem.W.findIn K (.ref C_BadName) "__getattribute__" = some (some (.builtin "BaseException.__getattribute__")))
    (egg_BadName : PySem.W.findIn K (.ref C_BadName) "__getattr__" = some none)
    (ehd_BadName : PySem.W.hasDictIn K C_BadName = true)
    (ese_BadName : PySem.W.subIn K (.ref C_BadName) (.ref C_BadName) = some true)
    (ebm_BadName : PySem.HandSPX.refsVE bm_BadName = true)
    (evs_BadName : vs_BadName[2]? = some (.str file_BadName tf_BadName))
    (efl_BadName : ((l.prog.main.file : Str) == file_BadName) = true)
    (ecg_NoThing : PySem.W.nsIn K mainGlobals "NoThing" = some (some (.ref C_NoThing)))
    (exL_NoThing : K.lookup C_NoThing = some (excClassObj nm_NoThing q_NoThing C_NoThing N_NoThing bs_NoThing bm_NoThing true sn_NoThing sub_NoThing ab_NoThing col_NoThing dd_NoThing k0_NoThing k1_NoThing k2_NoThing k3_NoThing k5_NoThing "ValueError.__new__"))
    (esa_NoThing : PySem.W.findIn K (.ref C_NoThing) "__setattr__" = some (some (.builtin "object.__setattr__")))
    (eex_NoThing : PySem.W.subIn K (.ref C_NoThing) (.type "BaseException") = some true)
    (ety_NoThing : PySem.W.typeIn K (.ref C_NoThing) = some (.type "type"))
    (ekC_NoThing : PySem.W.keepIn K (.ref C_NoThing) = true)
    (ei1_NoThing : PySem.W.findIn K (.ref C_NoThing) "__init__" = some (some (.ref fI_NoThing)))
    (ei2_NoThing : PySem.W.typeIn K (.ref fI_NoThing) = some (.type "function"))
    (emr_NoThing : PySem.W.mroIn K C_NoThing (.ref C_NoThing) = some true)
    (esv_NoThing : PySem.W.subIn K (.ref C_NoThing) (.type "ValueError") = some true)
    (esu_NoThing : PySem.W.ks_superIn K C_NoThing C_NoThing "__init__" = some (some (.builtin "ValueError.__init__")))
    (elk_NoThing : K.lookup fI_NoThing = some ⟨oc_NoThing, od_NoThing, .func (PySem.W.ksFn "__init__" "NoThing.__init__" (defArgs s_NoThing___init__) (defBody s_NoThing___init__) (defScope s_NoThing___init__) .none kV_NoThing dc_NoThing pm_NoThing an_NoThing (.ref cda_NoThing) ct_NoThing cc_NoThing), osl_NoThing⟩)
    (ehc_NoThing : PySem.W.codeIn K (.ref cda_NoThing) "NoThing.__init__" = true)
    (eno_NoThing : PySem.W.findIn K (.ref C_NoThing) "name" = some none)
    (eco_NoThing : K.lookup cda_NoThing = some ⟨ccl_NoThing, cdd_NoThing, .fields vs_NoThing, ccs_NoThing⟩)
    (ece_NoThing : K.lookup cc_NoThing = some ⟨cl_NoThing, cld_NoThing, .cell (some (.ref C_NoThing)), csl_NoThing⟩)
    (ega_NoThing : PySem.W.findIn K (.ref C_NoThing) "__getattribute__" = some (some (.builtin "BaseException.__getattribute__")))
    (egg_NoThing : PySem.W.findIn K (.ref C_NoThing) "__getattr__" = some none)
    (ehd_NoThing : PySem.W.hasDictIn K C_NoThing = true)
    (ese_NoThing : PySem.W.subIn K (.ref C_NoThing) (.ref C_NoThing) = some true)
    (ebm_NoThing : PySem.HandSPX.refsVE bm_NoThing = true)
    (evs_NoThing : vs_NoThing[2]? = some (.str file_NoThing tf_NoThing))
    (efl_NoThing : ((l.prog.main.file : Str) == file_NoThing) = true)
    (ecg_Twice : PySem.W.nsIn K mainGlobals "Twice" = some (some (.ref C_Twice)))
    (exL_Twice : K.lookup C_Twice = some (excClassObj nm_Twice q_Twice C_Twice N_Twice bs_Twice bm_Twice true sn_Twice sub_Twice ab_Twice col_Twice dd_Twice k0_Twice k1_Twice k2_Twice k3_Twice k5_Twice "ValueError.__new__"))
    (esa_Twice : PySem.W.findIn K (.ref C_Twice) "__setattr__" = some (some (.builtin "object.__setattr__")))
    (eex_Twice : PySem.W.subIn K (.ref C_Twice) (.type "BaseException") = some true)
    (ety_Twice : PySem.W.typeIn K (.ref C_Twice) = some (.type "type"))
    (ekC_Twice : PySem.W.keepIn K (.ref C_Twice) = true)
    (ei1_Twice : PySem.W.findIn K (.ref C_Twice) "__init__" = some (some (.ref fI_Twice)))
    (ei2_Twice : PySem.W.typeIn K (.ref fI_Twice) = some (.type "function"))
    (emr_Twice : PySem.W.mroIn K C_Twice (.ref C_Twice) = some true)
    (esv_Twice : PySem.W.subIn K (.ref C_Twice) (.type "ValueError") = some true)
    (esu_Twice : PySem.W.ks_superIn K C_Twice C_Twice "__init__" = some (some (.builtin "ValueError.__init__")))
    (elk_Twice : K.lookup fI_Twice = some ⟨oc_Twice, od_Twice, .func (PySem.W.ksFn "__init__" "Twice.__init__" (defArgs s_Twice___init__) (defBody s_Twice___init__) (defScope s_Twice___init__) .none kV_Twice dc_Twice pm_Twice an_Twice (.ref cda_Twice) ct_Twice cc_Twice), osl_Twice⟩)
    (ehc_Twice : PySem.W.codeIn K (.ref cda_Twice) "Twice.__init__" = true)
    (eno_Twice : PySem.W.findIn K (.ref C_Twice) "name" = some none)
    (eco_Twice : K.lookup cda_Twice = some ⟨ccl_Twice, cdd_Twice, .fields vs_Twice, ccs_Twice⟩)
    (ece_Twice : K.lookup cc_Twice = some ⟨cl_Twice, cld_Twice, .cell (some (.ref C_Twice)), csl_Twice⟩)
    (ega_Twice : PySem.W.findIn K (.ref C_Twice) "__getattribute__" = some (some (.builtin "BaseException.__getattribute__")))
    (egg_Twice : PySem.W.findIn K (.ref C_Twice) "__getattr__" = some none)
    (ehd_Twice : PySem.W.hasDictIn K C_Twice = true)
    (ese_Twice : PySem.W.subIn K (.ref C_Twice) (.ref C_Twice) = some true)
    (ebm_Twice : PySem.HandSPX.refsVE bm_Twice = true)
    (evs_Twice : vs_Twice[2]? = some (.str file_Twice tf_Twice))
    (efl_Twice : ((l.prog.main.file : Str) == file_Twice) = true)
    (ecg_TooMany : PySem.W.nsIn K mainGlobals "TooMany" = some (some (.ref C_TooMany)))
    (exL_TooMany : K.lookup C_TooMany = some (excClassObj nm_TooMany q_TooMany C_TooMany N_TooMany bs_TooMany bm_TooMany true sn_TooMany sub_TooMany ab_TooMany col_TooMany dd_TooMany k0_TooMany k1_TooMany k2_TooMany k3_TooMany k5_TooMany "ValueError.__new__"))
    (esa_TooMany : PySem.W.findIn K (.ref C_TooMany) "__setattr__" = some (some (.builtin "object.__setattr__")))
    (eex_TooMany : PySem.W.subIn K (.ref C_TooMany) (.type "BaseException") = some true)
    (ety_TooMany : PySem.W.typeIn K (.ref C_TooMany) = some (.type "type"))
    (ekC_TooMany : PySem.W.keepIn K (.ref C_TooMany) = true)
    (ei1_TooMany : PySem.W.findIn K (.ref C_TooMany) "__init__" = some (some (.ref fI_TooMany)))
    (ei2_TooMany : PySem.W.typeIn K (.ref fI_TooMany) = some (.type "function"))
    (emr_TooMany : PySem.W.mroIn K C_TooMany (.ref C_TooMany) = some true)
    (esv_TooMany : PySem.W.subIn K (.ref C_TooMany) (.type "ValueError") = some true)
    (esu_TooMany : PySem.W.ks_superIn K C_TooMany C_TooMany "__init__" = some (some (.builtin "ValueError.__init__")))
    (elk_TooMany : K.lookup fI_TooMany = some ⟨oc_TooMany, od_TooMany, .func (PySem.W.ksFn "__init__" "TooMany.__init__" (defArgs s_TooMany___init__) (defBody s_TooMany___init__) (defScope s_TooMany___init__) .none kV_TooMany dc_TooMany pm_TooMany an_TooMany (.ref cda_TooMany) ct_TooMany cc_TooMany), osl_TooMany⟩)
    (ehc_TooMany : PySem.W.codeIn K (.ref cda_TooMany) "TooMany.__init__" = true)
    (eno_TooMany : PySem.W.findIn K (.ref C_TooMany) "limit" = some none)
    (eco_TooMany : K.lookup cda_TooMany = some ⟨ccl_TooMany, cdd_TooMany, .fields vs_TooMany, ccs_TooMany⟩)
    (ece_TooMany : K.lookup cc_TooMany = some ⟨cl_TooMany, cld_TooMany, .cell (some (.ref C_TooMany)), csl_TooMany⟩)
    (ega_TooMany : PySem.W.findIn K (.ref C_TooMany) "__getattribute__" = some (some (.builtin "BaseException.__getattribute__")))
    (egg_TooMany : PySem.W.findIn K (.ref C_TooMany) "__getattr__" = some none)
    (ehd_TooMany : PySem.W.hasDictIn K C_TooMany = true)
    (ese_TooMany : PySem.W.subIn K (.ref C_TooMany) (.ref C_TooMany) = some true)
    (ebm_TooMany : PySem.HandSPX.refsVE bm_TooMany = true)
    (evs_TooMany : vs_TooMany[2]? = some (.str file_TooMany tf_TooMany))
    (efl_TooMany : ((l.prog.main.file : Str) == file_TooMany) = true)
    (ccg_Stock : PySem.W.nsIn K mainGlobals "Stock" = some (some (.ref C_Stock)))
    (cpg_Stock : PySem.W.plainGet K C_Stock Str.empty = true)
    (chd_Stock : PySem.W.hasDictIn K C_Stock = true)
    (cpo_Stock : PySem.W.plainOver K C_Stock = true)
    (csa_Stock : PySem.W.findIn K (.ref C_Stock) "__setattr__" = some (some (.builtin "object.__setattr__")))
    (ckl_Stock : PySem.W.findIn K (.ref C_Stock) "__class__" = some (some (.builtin "object.__class__")))
    (cmr_Stock : PySem.W.mroIn K C_Stock (.type "object") = some true)
    (cic_Stock : PySem.W.isClsIn K C_Stock = true)
    (cty_Stock : PySem.W.typeIn K (.ref C_Stock) = some (.type "type"))
    (csstr_Stock : PySem.W.subIn K (.ref C_Stock) (.type "str") = some false)
    (csint_Stock : PySem.W.subIn K (.ref C_Stock) (.type "int") = some false)
    (csbool_Stock : PySem.W.subIn K (.ref C_Stock) (.type "bool") = some false)
    (cslist_Stock : PySem.W.subIn K (.ref C_Stock) (.type "list") = some false)
    (cstuple_Stock : PySem.W.subIn K (.ref C_Stock) (.type "tuple") = some false)
    (ctNoneType_Stock : PySem.W.subIn K (.type "NoneType") (.ref C_Stock) = some false)
    (ctbool_Stock : PySem.W.subIn K (.type "bool") (.ref C_Stock) = some false)
    (ctint_Stock : PySem.W.subIn K (.type "int") (.ref C_Stock) = some false)
    (ctstr_Stock : PySem.W.subIn K (.type "str") (.ref C_Stock) = some false)
    (ctlist_Stock : PySem.W.subIn K (.type "list") (.ref C_Stock) = some false)
    (cttuple_Stock : PySem.W.subIn K (.type "tuple") (.ref C_Stock) = some false)
    (ctdict_Stock : PySem.W.subIn K (.type "dict") (.ref C_Stock) = some false)
    (cn0_Stock : PySem.W.findIn K (.ref C_Stock) "things" = some none)
    (cn1_Stock : PySem.W.findIn K (.ref C_Stock) "held" = some none)
    (cn2_Stock : PySem.W.findIn K (.ref C_Stock) "spools" = some none)
    (cn3_Stock : PySem.W.findIn K (.ref C_Stock) "bindings" = some none)
    (cn4_Stock : PySem.W.findIn K (.ref C_Stock) "counts" = some none)
    (cmk_Stock : PySem.W.makesIn K C_Stock = true)
    (cii_Stock : PySem.W.findIn K (.ref C_Stock) "__init__" = some (some (.ref if_Stock)))
    (cifn_Stock : PySem.W.isFn K (.ref if_Stock) = true)
    (cikc_Stock : PySem.W.keepIn K (.ref C_Stock) = true)
    (cilk_Stock : K.lookup if_Stock = some ⟨ioc_Stock, iod_Stock, .func (PySem.W.fnOf "__init__" "Stock.__init__" (defArgs s_Stock___init__) (defBody s_Stock___init__) (defScope s_Stock___init__) .none ikV_Stock idc_Stock ipm_Stock ian_Stock icd_Stock ict_Stock), isl_Stock⟩)
    (cici_Stock : PySem.W.codeIn K icd_Stock "Stock.__init__" = true)
    (cikp_Stock : PySem.W.keepIn K (.ref if_Stock) = true)
    (cm0a_Stock : PySem.W.findIn K (.ref C_Stock) "content_of" = some (some (.ref m0f_Stock)))
    (cm0fn_Stock : PySem.W.isFn K (.ref m0f_Stock) = true)
    (cm0lk_Stock : K.lookup m0f_Stock = some ⟨m0oc_Stock, m0od_Stock, .func (PySem.W.fnOf "content_of" "Stock.content_of" (defArgs s_Stock_content_of) (defBody s_Stock_content_of) (defScope s_Stock_content_of) .none m0kV_Stock m0dc_Stock m0pm_Stock m0an_Stock m0cd_Stock m0ct_Stock), m0sl_Stock⟩)
    (cm0ci_Stock : PySem.W.codeIn K m0cd_Stock "Stock.content_of" = true)
    (cm0kp_Stock : PySem.W.keepIn K (.ref m0f_Stock) = true)
    (ccg_Thing : PySem.W.nsIn K mainGlobals "Thing" = some (some (.ref C_Thing)))
    (cpg_Thing : PySem.W.plainGet K C_Thing Str.empty = true)
    (chd_Thing : PySem.W.hasDictIn K C_Thing = true)
    (cpo_Thing : PySem.W.plainOver K C_Thing = true)
    (csa_Thing : PySem.W.findIn K (.ref C_Thing) "__setattr__" = some (some (.builtin "object.__setattr__")))
    (ckl_Thing : PySem.W.findIn K (.ref C_Thing) "__class__" = some (some (.builtin "object.__class__")))
    (cmr_Thing : PySem.W.mroIn K C_Thing (.type "object") = some true)
    (cic_Thing : PySem.W.isClsIn K C_Thing = true)
    (cty_Thing : PySem.W.typeIn K (.ref C_Thing) = some (.type "type"))
    (csstr_Thing : PySem.W.subIn K (.ref C_Thing) (.type "str") = some false)
    (csint_Thing : PySem.W.subIn K (.ref C_Thing) (.type "int") = some false)
    (csbool_Thing : PySem.W.subIn K (.ref C_Thing) (.type "bool") = some false)
    (cslist_Thing : PySem.W.subIn K (.ref C_Thing) (.type "list") = some false)
    (cstuple_Thing : PySem.W.subIn K (.ref C_Thing) (.type "tuple") = some false)
    (ctNoneType_Thing : PySem.W.subIn K (.type "NoneType") (.ref C_Thing) = some false)
    (ctbool_Thing : PySem.W.subIn K (.type "bool") (.ref C_Thing) = some false)
    (ctint_Thing : PySem.W.subIn K (.type "int") (.ref C_Thing) = some false)
    (ctstr_Thing : PySem.W.subIn K (.type "str") (.ref C_Thing) = some false)
    (ctlist_Thing : PySem.W.subIn K (.type "list") (.ref C_Thing) = some false)
    (cttuple_Thing : PySem.W.subIn K (.type "tuple") (.ref C_Thing) = some false)
    (ctdict_Thing : PySem.W.subIn K (.type "dict") (.ref C_Thing) = some false)
    (cn0_Thing : PySem.W.findIn K (.ref C_Thing) "kind" = some none)
    (cn1_Thing : PySem.W.findIn K (.ref C_Thing) "name" = some none)
    (cn2_Thing : PySem.W.findIn K (.ref C_Thing) "parts" = some none)
    (cmk_Thing : PySem.W.makesIn K C_Thing = true)
    (cii_Thing : PySem.W.findIn K (.ref C_Thing) "__init__" = some (some (.ref if_Thing)))
    (cifn_Thing : PySem.W.isFn K (.ref if_Thing) = true)
    (cikc_Thing : PySem.W.keepIn K (.ref C_Thing) = true)
    (cilk_Thing : K.lookup if_Thing = some ⟨ioc_Thing, iod_Thing, .func (PySem.W.fnOf "__init__" "Thing.__init__" (defArgs s_Thing___init__) (defBody s_Thing___init__) (defScope s_Thing___init__) idV_Thing ikV_Thing idc_Thing ipm_Thing ian_Thing icd_Thing ict_Thing), isl_Thing⟩)
    (cici_Thing : PySem.W.codeIn K icd_Thing "Thing.__init__" = true)
    (cikp_Thing : PySem.W.keepIn K (.ref if_Thing) = true)
    (cidv_Thing : idV_Thing = .ref idT_Thing)
    (cidl_Thing : K.lookup idT_Thing = some ⟨.type "tuple", idto_Thing, .seq idti_Thing idtn_Thing, idsl_Thing⟩)
    (cidi_Thing : idti_Thing.toList = [.ref ide0_Thing])
    (cidel0_Thing : K.lookup ide0_Thing = some ⟨.type "tuple", ideo0_Thing, .seq idei0_Thing iden0_Thing, ides0_Thing⟩)
    (cidev0_Thing : strVs idei0_Thing.toList = some [])
    (cea_Thing : PySem.W.findIn K (.ref C_Thing) "__eq__" = some (some (.ref ef_Thing)))
    (cefn_Thing : PySem.W.isFn K (.ref ef_Thing) = true)
    (cene_Thing : PySem.W.findIn K (.ref C_Thing) "__ne__" = some (some (.builtin "object.__ne__")))
    (celk_Thing : K.lookup ef_Thing = some ⟨eoc_Thing, eod_Thing, .func (PySem.W.fnOf "__eq__" "Thing.__eq__" (defArgs s_Thing___eq__) (defBody s_Thing___eq__) (defScope s_Thing___eq__) .none ekV_Thing edc_Thing epm_Thing ean_Thing ecd_Thing ect_Thing), esl_Thing⟩)
    (ceci_Thing : PySem.W.codeIn K ecd_Thing "Thing.__eq__" = true)
    (cekp_Thing : PySem.W.keepIn K (.ref ef_Thing) = true)
    (crd_Thing : PySem.W.readsIn K C_Thing (.type "type") = true)
    (cga_Thing : PySem.W.specialIn K (.ref C_Thing) "__getattribute__" = some (some (.builtin "type.__getattribute__")))
    (cs0a_Thing : PySem.W.findCls K (.ref C_Thing) (.type "type") "feed" = some (.get (.builtin "staticmethod.__get__") (.ref s0p_Thing) .none (.ref C_Thing)))
    (cs0c_Thing : PySem.W.recIn K s0p_Thing "staticmethod" = some (.ref s0f_Thing :: s0r_Thing))
    (cs0lk_Thing : K.lookup s0f_Thing = some ⟨s0oc_Thing, s0od_Thing, .func (PySem.W.fnOf "feed" "Thing.feed" (defArgs s_Thing_feed) (defBody s_Thing_feed) (defScope s_Thing_feed) .none s0kV_Thing s0dc_Thing s0pm_Thing s0an_Thing s0cd_Thing s0ct_Thing), s0sl_Thing⟩)
    (cs0ci_Thing : PySem.W.codeIn K s0cd_Thing "Thing.feed" = true)
    (cs0kp_Thing : PySem.W.keepIn K (.ref s0f_Thing) = true)
    (cs1a_Thing : PySem.W.findCls K (.ref C_Thing) (.type "type") "dice" = some (.get (.builtin "staticmethod.__get__") (.ref s1p_Thing) .none (.ref C_Thing)))
    (cs1c_Thing : PySem.W.recIn K s1p_Thing "staticmethod" = some (.ref s1f_Thing :: s1r_Thing))
    (cs1lk_Thing : K.lookup s1f_Thing = some ⟨s1oc_Thing, s1od_Thing, .func (PySem.W.fnOf "dice" "Thing.dice" (defArgs s_Thing_dice) (defBody s_Thing_dice) (defScope s_Thing_dice) .none s1kV_Thing s1dc_Thing s1pm_Thing s1an_Thing s1cd_Thing s1ct_Thing), s1sl_Thing⟩)
    (cs1ci_Thing : PySem.W.codeIn K s1cd_Thing "Thing.dice" = true)
    (cs1kp_Thing : PySem.W.keepIn K (.ref s1f_Thing) = true)
    (cs2a_Thing : PySem.W.findCls K (.ref C_Thing) (.type "type") "source" = some (.get (.builtin "staticmethod.__get__") (.ref s2p_Thing) .none (.ref C_Thing)))
    (cs2c_Thing : PySem.W.recIn K s2p_Thing "staticmethod" = some (.ref s2f_Thing :: s2r_Thing))
    (cs2lk_Thing : K.lookup s2f_Thing = some ⟨s2oc_Thing, s2od_Thing, .func (PySem.W.fnOf "source" "Thing.source" (defArgs s_Thing_source) (defBody s_Thing_source) (defScope s_Thing_source) .none s2kV_Thing s2dc_Thing s2pm_Thing s2an_Thing s2cd_Thing s2ct_Thing), s2sl_Thing⟩)
    (cs2ci_Thing : PySem.W.codeIn K s2cd_Thing "Thing.source" = true)
    (cs2kp_Thing : PySem.W.keepIn K (.ref s2f_Thing) = true)
    (cs3a_Thing : PySem.W.findCls K (.ref C_Thing) (.type "type") "flag" = some (.get (.builtin "staticmethod.__get__") (.ref s3p_Thing) .none (.ref C_Thing)))
    (cs3c_Thing : PySem.W.recIn K s3p_Thing "staticmethod" = some (.ref s3f_Thing :: s3r_Thing))
    (cs3lk_Thing : K.lookup s3f_Thing = some ⟨s3oc_Thing, s3od_Thing, .func (PySem.W.fnOf "flag" "Thing.flag" (defArgs s_Thing_flag) (defBody s_Thing_flag) (defScope s_Thing_flag) .none s3kV_Thing s3dc_Thing s3pm_Thing s3an_Thing s3cd_Thing s3ct_Thing), s3sl_Thing⟩)
    (cs3ci_Thing : PySem.W.codeIn K s3cd_Thing "Thing.flag" = true)
    (cs3kp_Thing : PySem.W.keepIn K (.ref s3f_Thing) = true)
    (cs4a_Thing : PySem.W.findCls K (.ref C_Thing) (.type "type") "slot" = some (.get (.builtin "staticmethod.__get__") (.ref s4p_Thing) .none (.ref C_Thing)))
    (cs4c_Thing : PySem.W.recIn K s4p_Thing "staticmethod" = some (.ref s4f_Thing :: s4r_Thing))
    (cs4lk_Thing : K.lookup s4f_Thing = some ⟨s4oc_Thing, s4od_Thing, .func (PySem.W.fnOf "slot" "Thing.slot" (defArgs s_Thing_slot) (defBody s_Thing_slot) (defScope s_Thing_slot) .none s4kV_Thing s4dc_Thing s4pm_Thing s4an_Thing s4cd_Thing s4ct_Thing), s4sl_Thing⟩)
    (cs4ci_Thing : PySem.W.codeIn K s4cd_Thing "Thing.slot" = true)
    (cs4kp_Thing : PySem.W.keepIn K (.ref s4f_Thing) = true)
    (cs5a_Thing : PySem.W.findCls K (.ref C_Thing) (.type "type") "field" = some (.get (.builtin "staticmethod.__get__") (.ref s5p_Thing) .none (.ref C_Thing)))
    (cs5c_Thing : PySem.W.recIn K s5p_Thing "staticmethod" = some (.ref s5f_Thing :: s5r_Thing))
    (cs5lk_Thing : K.lookup s5f_Thing = some ⟨s5oc_Thing, s5od_Thing, .func (PySem.W.fnOf "field" "Thing.field" (defArgs s_Thing_field) (defBody s_Thing_field) (defScope s_Thing_field) .none s5kV_Thing s5dc_Thing s5pm_Thing s5an_Thing s5cd_Thing s5ct_Thing), s5sl_Thing⟩)
    (cs5ci_Thing : PySem.W.codeIn K s5cd_Thing "Thing.field" = true)
    (cs5kp_Thing : PySem.W.keepIn K (.ref s5f_Thing) = true)
    (cs6a_Thing : PySem.W.findCls K (.ref C_Thing) (.type "type") "table" = some (.get (.builtin "staticmethod.__get__") (.ref s6p_Thing) .none (.ref C_Thing)))
    (cs6c_Thing : PySem.W.recIn K s6p_Thing "staticmethod" = some (.ref s6f_Thing :: s6r_Thing))
    (cs6lk_Thing : K.lookup s6f_Thing = some ⟨s6oc_Thing, s6od_Thing, .func (PySem.W.fnOf "table" "Thing.table" (defArgs s_Thing_table) (defBody s_Thing_table) (defScope s_Thing_table) .none s6kV_Thing s6dc_Thing s6pm_Thing s6an_Thing s6cd_Thing s6ct_Thing), s6sl_Thing⟩)
    (cs6ci_Thing : PySem.W.codeIn K s6cd_Thing "Thing.table" = true)
    (cs6kp_Thing : PySem.W.keepIn K (.ref s6f_Thing) = true)
    (ccg_World : PySem.W.nsIn K mainGlobals "World" = some (some (.ref C_World)))
    (cpg_World : PySem.W.plainGet K C_World Str.empty = true)
    (chd_World : PySem.W.hasDictIn K C_World = true)
    (cpo_World : PySem.W.plainOver K C_World = true)
    (csa_World : PySem.W.findIn K (.ref C_World) "__setattr__" = some (some (.builtin "object.__setattr__")))
    (ckl_World : PySem.W.findIn K (.ref C_World) "__class__" = some (some (.builtin "object.__class__")))
    (cmr_World : PySem.W.mroIn K C_World (.type "object") = some true)
    (cic_World : PySem.W.isClsIn K C_World = true)
    (cty_World : PySem.W.typeIn K (.ref C_World) = some (.type "type"))
    (csstr_World : PySem.W.subIn K (.ref C_World) (.type "str") = some false)
    (csint_World : PySem.W.subIn K (.ref C_World) (.type "int") = some false)
    (csbool_World : PySem.W.subIn K (.ref C_World) (.type "bool") = some false)
    (cslist_World : PySem.W.subIn K (.ref C_World) (.type "list") = some false)
    (cstuple_World : PySem.W.subIn K (.ref C_World) (.type "tuple") = some false)
    (ctNoneType_World : PySem.W.subIn K (.type "NoneType") (.ref C_World) = some false)
    (ctbool_World : PySem.W.subIn K (.type "bool") (.ref C_World) = some false)
    (ctint_World : PySem.W.subIn K (.type "int") (.ref C_World) = some false)
    (ctstr_World : PySem.W.subIn K (.type "str") (.ref C_World) = some false)
    (ctlist_World : PySem.W.subIn K (.type "list") (.ref C_World) = some false)
    (cttuple_World : PySem.W.subIn K (.type "tuple") (.ref C_World) = some false)
    (ctdict_World : PySem.W.subIn K (.type "dict") (.ref C_World) = some false)
    (cn0_World : PySem.W.findIn K (.ref C_World) "things" = some none)
    (cn1_World : PySem.W.findIn K (.ref C_World) "stock" = some none)
    (cn2_World : PySem.W.findIn K (.ref C_World) "record" = some none)
    (cmk_World : PySem.W.makesIn K C_World = true)
    (cii_World : PySem.W.findIn K (.ref C_World) "__init__" = some (some (.ref if_World)))
    (cifn_World : PySem.W.isFn K (.ref if_World) = true)
    (cikc_World : PySem.W.keepIn K (.ref C_World) = true)
    (cilk_World : K.lookup if_World = some ⟨ioc_World, iod_World, .func (PySem.W.fnOf "__init__" "World.__init__" (defArgs s_World___init__) (defBody s_World___init__) (defScope s_World___init__) .none ikV_World idc_World ipm_World ian_World icd_World ict_World), isl_World⟩)
    (cici_World : PySem.W.codeIn K icd_World "World.__init__" = true)
    (cikp_World : PySem.W.keepIn K (.ref if_World) = true)
    (cga__World : PySem.W.findIn K (.ref C_World) "__getitem__" = some (some (.ref gf_World)))
    (cgfn_World : PySem.W.isFn K (.ref gf_World) = true)
    (cgfi_World : PySem.W.fnIn K gf_World = true)
    (cglk_World : K.lookup gf_World = some ⟨goc_World, god_World, .func (PySem.W.fnOf "__getitem__" "World.__getitem__" (defArgs s_World___getitem__) (defBody s_World___getitem__) (defScope s_World___getitem__) .none gkV_World gdc_World gpm_World gan_World gcd_World gct_World), gsl_World⟩)
    (cgci_World : PySem.W.codeIn K gcd_World "World.__getitem__" = true)
    (cgkp_World : PySem.W.keepIn K (.ref gf_World) = true)
    (cna__World : PySem.W.findIn K (.ref C_World) "__contains__" = some (some (.ref nf_World)))
    (cnfn_World : PySem.W.isFn K (.ref nf_World) = true)
    (cnlk_World : K.lookup nf_World = some ⟨noc_World, nod_World, .func (PySem.W.fnOf "__contains__" "World.__contains__" (defArgs s_World___contains__) (defBody s_World___contains__) (defScope s_World___contains__) .none nkV_World ndc_World npm_World nan_World ncd_World nct_World), nsl_World⟩)
    (cnci_World : PySem.W.codeIn K ncd_World "World.__contains__" = true)
    (cnkp_World : PySem.W.keepIn K (.ref nf_World) = true)
    (cr0a_World : PySem.W.findIn K (.ref C_World) "is_watched" = some (some (.ref r0p_World)))
    (cr0g_World : PySem.W.specialIn K (.ref r0p_World) "__get__" = some (some (.builtin "property.__get__")))
    (cr0t_World : PySem.W.takesIn K (.ref r0p_World) = some true)
    (cr0c_World : PySem.W.recIn K r0p_World "property" = some (.ref r0f_World :: r0r_World))
    (cr0lk_World : K.lookup r0f_World = some ⟨r0oc_World, r0od_World, .func (PySem.W.fnOf "is_watched" "World.is_watched" (defArgs s_World_is_watched) (defBody s_World_is_watched) (defScope s_World_is_watched) .none r0kV_World r0dc_World r0pm_World r0an_World r0cd_World r0ct_World), r0sl_World⟩)
    (cr0ci_World : PySem.W.codeIn K r0cd_World "World.is_watched" = true)
    (cr0kp_World : PySem.W.keepIn K (.ref r0f_World) = true)
    (ra_QuietError : PySem.W.nsIn K mainGlobals "QuietError" = some (some (.ref C_QuietError)))
    (s_tm_tw : PySem.W.subIn K (.ref C_TooMany) (.ref C_Twice) = some false)
    (s_nt_tw : PySem.W.subIn K (.ref C_NoThing) (.ref C_Twice) = some false)
    (s_tm_nt : PySem.W.subIn K (.ref C_TooMany) (.ref C_NoThing) = some false) :
    ∃ fd : FuncData, (∀ (s : Shared) (v : Value), BindsTo s fd ⟨[v], []⟩ [("_law_script", v)]) ∧ ∀ base : Heap, K.In base → base.Ns mainGlobals mg → FnOk l.prog w K mg base CX0 10 fa fd ["_law_script"] (spLaw K) := by
  have D__wall : Dfn K mg "_wall" s__wall ["k"] := dfn_mk X G a0 l0 c0 k0 fun _ _ _ _ _ _ us hl => match us, hl with | [_], _ => rfl
  have D_is_name : Dfn K mg "is_name" s_is_name ["value"] := dfn_mk X G a1 l1 c1 k1 fun _ _ _ _ _ _ us hl => match us, hl with | [_], _ => rfl
  have D_need_names : Dfn K mg "need_names" s_need_names ["values"] := dfn_mk X G a2 l2 c2 k2 fun _ _ _ _ _ _ us hl => match us, hl with | [_], _ => rfl
  have D_need_unlike : Dfn K mg "need_unlike" s_need_unlike ["names"] := dfn_mk X G a3 l3 c3 k3 fun _ _ _ _ _ _ us hl => match us, hl with | [_], _ => rfl
  have D_need_things : Dfn K mg "need_things" s_need_things ["things"] := dfn_mk X G a4 l4 c4 k4 fun _ _ _ _ _ _ us hl => match us, hl with | [_], _ => rfl
  have D__law_draw : Dfn K mg "_law_draw" s__law_draw ["_law_pool_here", "_law_many"] := dfn_mk X G a5 l5 c5 k5 fun _ _ _ _ _ _ us hl => match us, hl with | [_, _], _ => rfl
  have D__law_names : Dfn K mg "_law_names" s__law_names ["_law_pool_here", "_law_many"] := dfn_mk X G a6 l6 c6 k6 fun _ _ _ _ _ _ us hl => match us, hl with | [_, _], _ => rfl
  have D__law_word : Dfn K mg "_law_word" s__law_word ["_law_pool_here"] := dfn_mk X G a7 l7 c7 k7 fun _ _ _ _ _ _ us hl => match us, hl with | [_], _ => rfl
  have D__law_pool : Dfn K mg "_law_pool" s__law_pool ["_law_script"] := dfn_mk X G a8 l8 c8 k8 fun _ _ _ _ _ _ us hl => match us, hl with | [_], _ => rfl
  have D__law_thing : Dfn K mg "_law_thing" s__law_thing ["_law_thing_here"] := dfn_mk X G a9 l9 c9 k9 fun _ _ _ _ _ _ us hl => match us, hl with | [_], _ => rfl
  have D__law_same : Dfn K mg "_law_same" s__law_same ["_law_actual", "_law_due_here"] := dfn_mk X G a10 l10 c10 k10 fun _ _ _ _ _ _ us hl => match us, hl with | [_, _], _ => rfl
  have D__law_object : Dfn K mg "_law_object" s__law_object ["_law_pool_here", "_law_depth"] := dfn_mk X G a11 l11 c11 k11 fun _ _ _ _ _ _ us hl => match us, hl with | [_, _], _ => rfl
  have D__law_maybe : Dfn K mg "_law_maybe" s__law_maybe ["_law_pool_here", "_law_names_here"] := dfn_mk X G a12 l12 c12 k12 fun _ _ _ _ _ _ us hl => match us, hl with | [_, _], _ => rfl
  have D__law_is_name : Dfn K mg "_law_is_name" s__law_is_name ["_law_value"] := dfn_mk X G a13 l13 c13 k13 fun _ _ _ _ _ _ us hl => match us, hl with | [_], _ => rfl
  have D__law_make : Dfn K mg "_law_make" s__law_make ["_law_t"] := dfn_mk X G a14 l14 c14 k14 fun _ _ _ _ _ _ us hl => match us, hl with | [_], _ => rfl
  have D__law_try : Dfn K mg "_law_try" s__law_try ["_law_things"] := dfn_mk X G a15 l15 c15 k15 fun _ _ _ _ _ _ us hl => match us, hl with | [_], _ => rfl
  have D__law_due : Dfn K mg "_law_due" s__law_due ["_law_things"] := dfn_mk X G a16 l16 c16 k16 fun _ _ _ _ _ _ us hl => match us, hl with | [_], _ => rfl
  have D__law_item : Dfn K mg "_law_item" s__law_item ["_law_world", "_law_name"] := dfn_mk X G a17 l17 c17 k17 fun _ _ _ _ _ _ us hl => match us, hl with | [_, _], _ => rfl
  have D__law_things_of : Dfn K mg "_law_things_of" s__law_things_of ["_law_pool_here"] := dfn_mk X G a18 l18 c18 k18 fun _ _ _ _ _ _ us hl => match us, hl with | [_], _ => rfl
  have B : Bl mg := ⟨PySem.W.mg_none_of X G z_len, PySem.W.mg_none_of X G z_int, PySem.W.mg_none_of X G z_list, PySem.W.mg_none_of X G z_tuple, PySem.W.mg_none_of X G z_isi, PySem.W.mg_none_of X G z_range, PySem.W.mg_none_of X G z_all, PySem.W.mg_none_of X G z_any, PySem.W.mg_none_of X G z_str, PySem.W.mg_none_of X G z_bool, PySem.W.mg_none_of X G z_enum, PySem.W.mg_none_of X G z_zip, PySem.W.mg_none_of X G z_sum, PySem.W.mg_none_of X G z_max, PySem.W.mg_none_of X G z_min, PySem.W.mg_none_of X G z_sorted, PySem.W.mg_none_of X G z_set, PySem.W.mg_none_of X G z_dict⟩
  have G_LETTERS : GS mg "LETTERS" abc := ⟨_, PySem.W.mg_of X G sa_LETTERS⟩
  have G_MOST_LETTERS : GI mg "MOST_LETTERS" 8 := ⟨_, PySem.W.mg_of X G ia_MOST_LETTERS⟩
  have G_MOST_THINGS : GI mg "MOST_THINGS" 8 := ⟨_, PySem.W.mg_of X G ia_MOST_THINGS⟩
  have G_MOST_KEYS : GI mg "MOST_KEYS" 4 := ⟨_, PySem.W.mg_of X G ia_MOST_KEYS⟩
  have X_BadName : ∀ base, ErrX l.prog w K mg base "BadName" C_BadName "name" := fun base => errX_mk (st := s_BadName___init__) X G ecg_BadName exL_BadName esa_BadName eex_BadName ety_BadName ekC_BadName ei1_BadName ei2_BadName emr_BadName esv_BadName esu_BadName oq z_super elk_BadName ehc_BadName eno_BadName eco_BadName ece_BadName ega_BadName egg_BadName ehd_BadName ese_BadName ebm_BadName evs_BadName efl_BadName tsup rfl ⟨_, rfl, rfl⟩ ⟨rfl, rfl, rfl, rfl⟩ (by decide +kernel) ⟨rfl, rfl, rfl⟩ (by decide) ⟨by decide, by decide⟩ (fun L => rfl) (fun L => rfl) (fun L => ⟨_, rfl⟩) (fun L => rfl) (fun us hl => match us, hl with | [_, _], _ => rfl)
  have X_NoThing : ∀ base, ErrX l.prog w K mg base "NoThing" C_NoThing "name" := fun base => errX_mk (st := s_NoThing___init__) X G ecg_NoThing exL_NoThing esa_NoThing eex_NoThing ety_NoThing ekC_NoThing ei1_NoThing ei2_NoThing emr_NoThing esv_NoThing esu_NoThing oq z_super elk_NoThing ehc_NoThing eno_NoThing eco_NoThing ece_NoThing ega_NoThing egg_NoThing ehd_NoThing ese_NoThing ebm_NoThing evs_NoThing efl_NoThing tsup rfl ⟨_, rfl, rfl⟩ ⟨rfl, rfl, rfl, rfl⟩ (by decide +kernel) ⟨rfl, rfl, rfl⟩ (by decide) ⟨by decide, by decide⟩ (fun L => rfl) (fun L => rfl) (fun L => ⟨_, rfl⟩) (fun L => rfl) (fun us hl => match us, hl with | [_, _], _ => rfl)
  have X_Twice : ∀ base, ErrX l.prog w K mg base "Twice" C_Twice "name" := fun base => errX_mk (st := s_Twice___init__) X G ecg_Twice exL_Twice esa_Twice eex_Twice ety_Twice ekC_Twice ei1_Twice ei2_Twice emr_Twice esv_Twice esu_Twice oq z_super elk_Twice ehc_Twice eno_Twice eco_Twice ece_Twice ega_Twice egg_Twice ehd_Twice ese_Twice ebm_Twice evs_Twice efl_Twice tsup rfl ⟨_, rfl, rfl⟩ ⟨rfl, rfl, rfl, rfl⟩ (by decide +kernel) ⟨rfl, rfl, rfl⟩ (by decide) ⟨by decide, by decide⟩ (fun L => rfl) (fun L => rfl) (fun L => ⟨_, rfl⟩) (fun L => rfl) (fun us hl => match us, hl with | [_, _], _ => rfl)
  have X_TooMany : ∀ base, ErrX l.prog w K mg base "TooMany" C_TooMany "limit" := fun base => errX_mk (st := s_TooMany___init__) X G ecg_TooMany exL_TooMany esa_TooMany eex_TooMany ety_TooMany ekC_TooMany ei1_TooMany ei2_TooMany emr_TooMany esv_TooMany esu_TooMany oq z_super elk_TooMany ehc_TooMany eno_TooMany eco_TooMany ece_TooMany ega_TooMany egg_TooMany ehd_TooMany ese_TooMany ebm_TooMany evs_TooMany efl_TooMany tsup rfl ⟨_, rfl, rfl⟩ ⟨rfl, rfl, rfl, rfl⟩ (by decide +kernel) ⟨rfl, rfl, rfl⟩ (by decide) ⟨by decide, by decide⟩ (fun L => rfl) (fun L => rfl) (fun L => ⟨_, rfl⟩) (fun L => rfl) (fun us hl => match us, hl with | [_, _], _ => rfl)
  have K_Stock : KCls K mg "Stock" C_Stock ["things", "held", "spools", "bindings", "counts"] := ⟨PySem.W.mg_of X G ccg_Stock, ⟨⟨cpg_Stock, chd_Stock, cpo_Stock, csa_Stock⟩, ckl_Stock, gtc, tkc, cmr_Stock, ((fm_cons csstr_Stock (fm_cons csint_Stock (fm_cons csbool_Stock (fm_cons cslist_Stock (fm_cons cstuple_Stock fm_nil))))))⟩, ((fm_cons cn0_Stock (fm_cons cn1_Stock (fm_cons cn2_Stock (fm_cons cn3_Stock (fm_cons cn4_Stock fm_nil)))))), ⟨cic_Stock, cty_Stock, ((fm_cons ctNoneType_Stock (fm_cons ctbool_Stock (fm_cons ctint_Stock (fm_cons ctstr_Stock (fm_cons ctlist_Stock (fm_cons cttuple_Stock (fm_cons ctdict_Stock fm_nil))))))))⟩⟩
  have D_Stock___init__ : DfN K C_Stock "Stock.__init__" s_Stock___init__ ["self", "things"] [] := ⟨_, _, ⟨⟨_, _, _, _, _, _, _, _, _, _, rfl, cilk_Stock, cici_Stock⟩⟩, ⟨cmk_Stock, cii_Stock, cifn_Stock, cikc_Stock⟩, fun _ _ => ⟨[], [], (.all fun us hl => match us, hl with | [_, _], _ => rfl), .nil, fun _ _ => by rw [List.drop_nil]; exact .nil⟩⟩
  have D_Stock_content_of : DfM K C_Stock "content_of" "Stock.content_of" s_Stock_content_of ["self", "name"] := ⟨_, _, ⟨⟨_, _, _, _, _, _, _, _, _, _, rfl, cm0lk_Stock, cm0ci_Stock⟩⟩, ⟨cm0a_Stock, cm0fn_Stock, cm0kp_Stock⟩, (.all fun us hl => match us, hl with | [_, _], _ => rfl)⟩
  have K_Thing : KCls K mg "Thing" C_Thing ["kind", "name", "parts"] := ⟨PySem.W.mg_of X G ccg_Thing, ⟨⟨cpg_Thing, chd_Thing, cpo_Thing, csa_Thing⟩, ckl_Thing, gtc, tkc, cmr_Thing, ((fm_cons csstr_Thing (fm_cons csint_Thing (fm_cons csbool_Thing (fm_cons cslist_Thing (fm_cons cstuple_Thing fm_nil))))))⟩, ((fm_cons cn0_Thing (fm_cons cn1_Thing (fm_cons cn2_Thing fm_nil)))), ⟨cic_Thing, cty_Thing, ((fm_cons ctNoneType_Thing (fm_cons ctbool_Thing (fm_cons ctint_Thing (fm_cons ctstr_Thing (fm_cons ctlist_Thing (fm_cons cttuple_Thing (fm_cons ctdict_Thing fm_nil))))))))⟩⟩
  subst cidv_Thing
  have D_Thing___init__ : DfN K C_Thing "Thing.__init__" s_Thing___init__ ["self", "kind", "name", "parts"] [.tup []] := ⟨_, _, ⟨⟨_, _, _, _, _, _, _, _, _, _, rfl, cilk_Thing, cici_Thing⟩⟩, ⟨cmk_Thing, cii_Thing, cifn_Thing, cikc_Thing⟩, fun j hj => match j, hj with | 0, _ => by exact dflt_one (dvs := [.ref ide0_Thing]) cidl_Thing cidi_Thing (.cons rfl (.nil)) (fun M H => .cons (isK_tup cidel0_Thing cidev0_Thing (by decide +kernel) (by decide) _ _) (.nil)) 0 (fun us its h1 h2 => match us, its, h1, h2 with | [_, _, _], [_], _, _ => ⟨_, rfl, rfl⟩) | 1, _ => by exact dflt_one (dvs := [.ref ide0_Thing]) cidl_Thing cidi_Thing (.cons rfl (.nil)) (fun M H => .cons (isK_tup cidel0_Thing cidev0_Thing (by decide +kernel) (by decide) _ _) (.nil)) 1 (fun us its h1 h2 => match us, its, h1, h2 with | [_, _, _, _], [_], _, _ => ⟨_, rfl, rfl⟩)⟩
  have D_Thing___eq__ : DfE K C_Thing "Thing.__eq__" s_Thing___eq__ ["self", "other"] := ⟨_, _, ⟨⟨_, _, _, _, _, _, _, _, _, _, rfl, celk_Thing, ceci_Thing⟩⟩, ⟨cea_Thing, cefn_Thing, K_Thing.isk.nf, cene_Thing⟩, (.all fun us hl => match us, hl with | [_, _], _ => rfl)⟩
  have D_Thing_feed : DfS K C_Thing "feed" "Thing.feed" s_Thing_feed ["name"] := ⟨_, _, _, _, ⟨⟨_, _, _, _, _, _, _, _, _, _, rfl, cs0lk_Thing, cs0ci_Thing⟩⟩, ⟨⟨crd_Thing, cga_Thing⟩, cs0a_Thing, ⟨_, cs0c_Thing⟩, cs0kp_Thing⟩, (.all fun us hl => match us, hl with | [_], _ => rfl)⟩
  have D_Thing_dice : DfS K C_Thing "dice" "Thing.dice" s_Thing_dice ["name"] := ⟨_, _, _, _, ⟨⟨_, _, _, _, _, _, _, _, _, _, rfl, cs1lk_Thing, cs1ci_Thing⟩⟩, ⟨⟨crd_Thing, cga_Thing⟩, cs1a_Thing, ⟨_, cs1c_Thing⟩, cs1kp_Thing⟩, (.all fun us hl => match us, hl with | [_], _ => rfl)⟩
  have D_Thing_source : DfS K C_Thing "source" "Thing.source" s_Thing_source ["name"] := ⟨_, _, _, _, ⟨⟨_, _, _, _, _, _, _, _, _, _, rfl, cs2lk_Thing, cs2ci_Thing⟩⟩, ⟨⟨crd_Thing, cga_Thing⟩, cs2a_Thing, ⟨_, cs2c_Thing⟩, cs2kp_Thing⟩, (.all fun us hl => match us, hl with | [_], _ => rfl)⟩
  have D_Thing_flag : DfS K C_Thing "flag" "Thing.flag" s_Thing_flag ["name"] := ⟨_, _, _, _, ⟨⟨_, _, _, _, _, _, _, _, _, _, rfl, cs3lk_Thing, cs3ci_Thing⟩⟩, ⟨⟨crd_Thing, cga_Thing⟩, cs3a_Thing, ⟨_, cs3c_Thing⟩, cs3kp_Thing⟩, (.all fun us hl => match us, hl with | [_], _ => rfl)⟩
  have D_Thing_slot : DfS K C_Thing "slot" "Thing.slot" s_Thing_slot ["name"] := ⟨_, _, _, _, ⟨⟨_, _, _, _, _, _, _, _, _, _, rfl, cs4lk_Thing, cs4ci_Thing⟩⟩, ⟨⟨crd_Thing, cga_Thing⟩, cs4a_Thing, ⟨_, cs4c_Thing⟩, cs4kp_Thing⟩, (.all fun us hl => match us, hl with | [_], _ => rfl)⟩
  have D_Thing_field : DfS K C_Thing "field" "Thing.field" s_Thing_field ["name", "over"] := ⟨_, _, _, _, ⟨⟨_, _, _, _, _, _, _, _, _, _, rfl, cs5lk_Thing, cs5ci_Thing⟩⟩, ⟨⟨crd_Thing, cga_Thing⟩, cs5a_Thing, ⟨_, cs5c_Thing⟩, cs5kp_Thing⟩, (.all fun us hl => match us, hl with | [_, _], _ => rfl)⟩
  have D_Thing_table : DfSS K C_Thing "table" "Thing.table" s_Thing_table ["name"] "keys" := ⟨_, _, _, _, ⟨⟨_, _, _, _, _, _, _, _, _, _, rfl, cs6lk_Thing, cs6ci_Thing⟩⟩, ⟨⟨crd_Thing, cga_Thing⟩, cs6a_Thing, ⟨_, cs6c_Thing⟩, cs6kp_Thing⟩, fun us rest hl => match us, hl, rest with | [_], _, [] => rfl | [_], _, _ :: _ => rfl⟩
  have K_World : KCls K mg "World" C_World ["things", "stock", "record"] := ⟨PySem.W.mg_of X G ccg_World, ⟨⟨cpg_World, chd_World, cpo_World, csa_World⟩, ckl_World, gtc, tkc, cmr_World, ((fm_cons csstr_World (fm_cons csint_World (fm_cons csbool_World (fm_cons cslist_World (fm_cons cstuple_World fm_nil))))))⟩, ((fm_cons cn0_World (fm_cons cn1_World (fm_cons cn2_World fm_nil)))), ⟨cic_World, cty_World, ((fm_cons ctNoneType_World (fm_cons ctbool_World (fm_cons ctint_World (fm_cons ctstr_World (fm_cons ctlist_World (fm_cons cttuple_World (fm_cons ctdict_World fm_nil))))))))⟩⟩
  have D_World___init__ : DfNS K C_World "World.__init__" s_World___init__ ["self"] "things" := ⟨_, _, ⟨⟨_, _, _, _, _, _, _, _, _, _, rfl, cilk_World, cici_World⟩⟩, ⟨cmk_World, cii_World, cifn_World, cikc_World⟩, fun us rest hl => match us, hl, rest with | [_], _, [] => rfl | [_], _, _ :: _ => rfl⟩
  have D_World___getitem__ : DfG K C_World "__getitem__" "World.__getitem__" s_World___getitem__ ["self", "name"] := ⟨_, _, ⟨⟨_, _, _, _, _, _, _, _, _, _, rfl, cglk_World, cgci_World⟩⟩, ⟨cga__World, cgfi_World, cgfn_World⟩, (.all fun us hl => match us, hl with | [_, _], _ => rfl)⟩
  have D_World___contains__ : DfI K C_World "World.__contains__" s_World___contains__ ["self", "name"] := ⟨_, _, ⟨⟨_, _, _, _, _, _, _, _, _, _, rfl, cnlk_World, cnci_World⟩⟩, ⟨cna__World, cnfn_World⟩, (.all fun us hl => match us, hl with | [_, _], _ => rfl)⟩
  have D_World_is_watched : DfP K C_World "is_watched" "World.is_watched" s_World_is_watched ["self"] := ⟨_, _, _, ⟨⟨_, _, _, _, _, _, _, _, _, _, rfl, cr0lk_World, cr0ci_World⟩⟩, ⟨cr0a_World, cr0g_World, cr0t_World, ⟨_, cr0c_World⟩⟩, (.all fun us hl => match us, hl with | [_], _ => rfl)⟩
  have R_QuietError : mg "QuietError" = some (.ref C_QuietError) := PySem.W.mg_of X G ra_QuietError
  refine law_end (st := s_law) X G hfa a19 l19 c19 k19 (fun _ => rfl) (fun base fd F => ?_)
  have c_draw := c__law_draw (P := l.prog) (w := w) (base := base) B D__law_draw
  obtain ⟨fp, fdp, GP, gP, kP, bP⟩ := c__law_pool (P := l.prog) (w := w) (base := base) B D__law_pool
  have c_isname := c_is_name (P := l.prog) (w := w) (base := base) B G_LETTERS G_MOST_LETTERS D_is_name
  have xB := X_BadName base
  have xN := X_NoThing base
  have x2 := X_Twice base
  have xM := X_TooMany base
  have c_need := c_need_names xB c_isname D_need_names
  have c_unl := c_need_unlike x2 D_need_unlike
  have n_thing := c_Thing_init (P := l.prog) (w := w) (mg := mg) (base := base) K_Thing D_Thing___init__
  have e_thing := c_Thing_eq (P := l.prog) (w := w) (base := base) B K_Thing D_Thing___eq__
  have c_nth := c_need_things B G_MOST_THINGS xN xM K_Thing c_unl D_need_things
  have n_stock := c_Stock_init (P := l.prog) (w := w) (base := base) B K_Thing K_Stock D_Stock___init__
  have n_world := c_World_init K_Thing K_Stock K_World c_nth n_stock D_World___init__
  have i_in := c_World_contains (P := l.prog) (w := w) (base := base) (CS := C_Stock) K_Thing K_World D_World___contains__
  have i_get := c_World_getitem xN K_Thing K_Stock K_World i_in (c_Stock_content_of K_Stock D_Stock_content_of) D_World___getitem__
  have p_wat := c_World_is_watched (P := l.prog) (w := w) (base := base) (CT := C_Thing) (CS := C_Stock) K_World D_World_is_watched
  have s_table := c_Thing_table B G_MOST_KEYS xM K_Thing c_need c_unl n_thing D_Thing_table
  have c_thing := c__law_thing B K_Thing (c_Thing_feed K_Thing c_need n_thing D_Thing_feed) (c_Thing_dice K_Thing c_need n_thing D_Thing_dice) (c_Thing_source K_Thing c_need n_thing D_Thing_source) (c_Thing_flag K_Thing c_need n_thing D_Thing_flag) (c_Thing_slot K_Thing c_need n_thing D_Thing_slot) (c_Thing_field K_Thing c_need n_thing D_Thing_field) s_table D__law_thing
  have c_names := c__law_names B c_draw D__law_names
  have c_word := c__law_word B c_draw D__law_word
  have c_try := c__law_try B x2 xN xM R_QuietError s_tm_tw s_nt_tw s_tm_nt (c__law_make B K_World n_world D__law_make) D__law_try
  exact ok_law F GP gP kP bP B K_Thing K_World e_thing i_in p_wat (c__law_things_of B c_draw c_names c_word D__law_things_of) c_thing c_try (c__law_due (P := l.prog) (w := w) (base := base) B D__law_due) (c__law_item B K_World xN i_get D__law_item) (c__law_maybe B c_draw c_word (c__law_object B c_draw c_word D__law_object 2) D__law_maybe) (c__law_is_name (P := l.prog) (w := w) (base := base) B D__law_is_name) (c__law_same (P := l.prog) (w := w) (base := base) B D__law_same 9)
theorem walk {l : PySem.W.OpenLaw} {q : Program} {loose : List Str} {XP : (Str → Option Value) → Heap → Prop} {YP : World → Heap → Prop} {d : DefRec} {K : Params → PySem.W.Frag} (hn : l.most = some 63) (hdf : d.params.defaults = [])
    (hY : ∀ (w : World) (h : Heap), YP w h → (K w.params).In h)
    (F : ∀ (w : World) (mg : Str → Option Value) (fa : Addr) (h : Heap), (K w.params).In h → h.Ns mainGlobals mg → mg d.name = some (.ref fa) →
      ∃ fd : FuncData, (∀ (s : Shared) (u : Value), BindsTo s fd ⟨[u], []⟩ [("_law_script", u)]) ∧ ∀ base : Heap, (K w.params).In base → base.Ns mainGlobals mg → FnOk l.prog w (K w.params) mg base CX0 10 fa fd ["_law_script"] (spLaw (K w.params))) :
    PySem.W.WalkO q loose XP YP l.row.toRowW d [] (fun f vs => PySem.call f vs) :=
  L2.walk_of (n := 63) (k := 10) (x := "_law_script") (CX := fun _ => CX0) (sp := fun w => spLaw (K w.params)) hn (by decide) hdf ⟨rfl, by decide, by decide⟩ hY F (fun _ _ a ns hl _ hS => ⟨a, ns, rfl, hS, hl, fun _ => rfl⟩) fun _ _ _ _ _ z => z
end Q
open PySem PySem.W PyProof.Rows
set_option maxRecDepth 100000 in
set_option maxHeartbeats 0 in
theorem PySem.Challenge.cw_quietprobes_k06_worlds_made_holds : PySem.Challenge.rw_quietprobes_k06_worlds_made.Holds := by
  w_on; o_law
  refine HandSHeadRun.head_any (r := OpenLaw.row PySem.Challenge.rw_quietprobes_k06_worlds_made) (q := Q.qv) (H := PySem.W.kHook Q.KF Q.KA Q.KA_eq) (ob := Q.obK) (M := 9046) (loose := Q.loo) (d := HandSHeadRun.topDef (OpenLaw.row PySem.Challenge.rw_quietprobes_k06_worlds_made).prog 36) (kwd := []) Q.obK_eq (by kernel_rfl) (fun s => by kernel_rfl) Q.run_all (by kernel_rfl) (by kernel_rfl) (by kernel_rfl) (by rfl) (by first | assumption | decide +kernel) (by decide +kernel) ⟨rfl, rfl, rfl, rfl, rfl, by decide +kernel⟩ ?hw ?hc
  case hw => w_witness2
  k_fill
  refine Q.walk (l := PySem.Challenge.rw_quietprobes_k06_worlds_made) rfl (by kernel_rfl) (fun w h Y => PySem.W.kIn_of Y) ?F
  case F =>
    intro w mg fa h KX G hmg0
    have hmg : mg ("law" : PySem.Str) = some (.ref fa) := by
      have e : (HandSHeadRun.topDef (OpenLaw.row PySem.Challenge.rw_quietprobes_k06_worlds_made).prog 36).name = ("law" : PySem.Str) := by kernel_rfl
      rw [← e]
      exact hmg0
    refine' Q.all_mk KX G hmg ?a0 ?l0 ?c0 ?k0 ?a1 ?l1 ?c1 ?k1 ?a2 ?l2 ?c2 ?k2 ?a3 ?l3 ?c3 ?k3 ?a4 ?l4 ?c4 ?k4 ?a5 ?l5 ?c5 ?k5 ?a6 ?l6 ?c6 ?k6 ?a7 ?l7 ?c7 ?k7 ?a8 ?l8 ?c8 ?k8 ?a9 ?l9 ?c9 ?k9 ?a10 ?l10 ?c10 ?k10 ?a11 ?l11 ?c11 ?k11 ?a12 ?l12 ?c12 ?k12 ?a13 ?l13 ?c13 ?k13 ?a14 ?l14 ?c14 ?k14 ?a15 ?l15 ?c15 ?k15 ?a16 ?l16 ?c16 ?k16 ?a17 ?l17 ?c17 ?k17 ?a18 ?l18 ?c18 ?k18 ?a19 ?l19 ?c19 ?k19 ?z_len ?z_int ?z_list ?z_tuple ?z_isi ?z_range ?z_all ?z_any ?z_str ?z_bool ?z_enum ?z_zip ?z_sum ?z_max ?z_min ?z_sorted ?z_set ?z_dict ?sa_LETTERS ?ia_MOST_LETTERS ?ia_MOST_THINGS ?ia_MOST_KEYS ?oq ?z_super ?gtc ?tkc ?tsup ?ecg_BadName ?exL_BadName ?esa_BadName ?eex_BadName ?ety_BadName ?ekC_BadName ?ei1_BadName ?ei2_BadName ?emr_BadName ?esv_BadName ?esu_BadName ?elk_BadName ?ehc_BadName ?eno_BadName ?eco_BadName ?ece_BadName ?ega_BadName ?egg_BadName ?ehd_BadName ?ese_BadName ?ebm_BadName ?evs_BadName ?efl_BadName ?ecg_NoThing ?exL_NoThing ?esa_NoThing ?eex_NoThing ?ety_NoThing ?ekC_NoThing ?ei1_NoThing ?ei2_NoThing ?emr_NoThing ?esv_NoThing ?esu_NoThing ?elk_NoThing ?ehc_NoThing ?eno_NoThing ?eco_NoThing ?ece_NoThing ?ega_NoThing ?egg_NoThing ?ehd_NoThing ?ese_NoThing ?ebm_NoThing ?evs_NoThing ?efl_NoThing ?ecg_Twice ?exL_Twice ?esa_Twice ?eex_Twice ?ety_Twice ?ekC_Twice ?ei1_Twice ?ei2_Twice ?emr_Twice ?esv_Twice ?esu_Twice ?elk_Twice ?ehc_Twice ?eno_Twice ?eco_Twice ?ece_Twice ?ega_Twice ?egg_Twice ?ehd_Twice ?ese_Twice ?ebm_Twice ?evs_Twice ?efl_Twice ?ecg_TooMany ?exL_TooMany ?esa_TooMany ?eex_TooMany ?ety_TooMany ?ekC_TooMany ?ei1_TooMany ?ei2_TooMany ?emr_TooMany ?esv_TooMany ?esu_TooMany ?elk_TooMany ?ehc_TooMany ?eno_TooMany ?eco_TooMany ?ece_TooMany ?ega_TooMany ?egg_TooMany ?ehd_TooMany ?ese_TooMany ?ebm_TooMany ?evs_TooMany ?efl_TooMany ?ccg_Stock ?cpg_Stock ?chd_Stock ?cpo_Stock ?csa_Stock ?ckl_Stock ?cmr_Stock ?cic_Stock ?cty_Stock ?csstr_Stock ?csint_Stock ?csbool_Stock ?cslist_Stock ?cstuple_Stock ?ctNoneType_Stock ?ctbool_Stock ?ctint_Stock ?ctstr_Stock ?ctlist_Stock ?cttuple_Stock ?ctdict_Stock ?cn0_Stock ?cn1_Stock ?cn2_Stock ?cn3_Stock ?cn4_Stock ?cmk_Stock ?cii_Stock ?cifn_Stock ?cikc_Stock ?cilk_Stock ?cici_Stock ?cikp_Stock ?cm0a_Stock ?cm0fn_Stock ?cm0lk_Stock ?cm0ci_Stock ?cm0kp_Stock ?ccg_Thing ?cpg_Thing ?chd_Thing ?cpo_Thing ?csa_Thing ?ckl_Thing ?cmr_Thing ?cic_Thing ?cty_Thing ?csstr_Thing ?csint_Thing ?csbool_Thing ?cslist_Thing ?cstuple_Thing ?ctNoneType_Thing ?ctbool_Thing ?ctint_Thing ?ctstr_Thing ?ctlist_Thing ?cttuple_Thing ?ctdict_Thing ?cn0_Thing ?cn1_Thing ?cn2_Thing ?cmk_Thing ?cii_Thing ?cifn_Thing ?cikc_Thing ?cilk_Thing ?cici_Thing ?cikp_Thing ?cidv_Thing ?cidl_Thing ?cidi_Thing ?cidel0_Thing ?cidev0_Thing ?cea_Thing ?cefn_Thing ?cene_Thing ?celk_Thing ?ceci_Thing ?cekp_Thing ?crd_Thing ?cga_Thing ?cs0a_Thing ?cs0c_Thing ?cs0lk_Thing ?cs0ci_Thing ?cs0kp_Thing ?cs1a_Thing ?cs1c_Thing ?cs1lk_Thing ?cs1ci_Thing ?cs1kp_Thing ?cs2a_Thing ?cs2c_Thing ?cs2lk_Thing ?cs2ci_Thing ?cs2kp_Thing ?cs3a_Thing ?cs3c_Thing ?cs3lk_Thing ?cs3ci_Thing ?cs3kp_Thing ?cs4a_Thing ?cs4c_Thing ?cs4lk_Thing ?cs4ci_Thing ?cs4kp_Thing ?cs5a_Thing ?cs5c_Thing ?cs5lk_Thing ?cs5ci_Thing ?cs5kp_Thing ?cs6a_Thing ?cs6c_Thing ?cs6lk_Thing ?cs6ci_Thing ?cs6kp_Thing ?ccg_World ?cpg_World ?chd_World ?cpo_World ?csa_World ?ckl_World ?cmr_World ?cic_World ?cty_World ?csstr_World ?csint_World ?csbool_World ?cslist_World ?cstuple_World ?ctNoneType_World ?ctbool_World ?ctint_World ?ctstr_World ?ctlist_World ?cttuple_World ?ctdict_World ?cn0_World ?cn1_World ?cn2_World ?cmk_World ?cii_World ?cifn_World ?cikc_World ?cilk_World ?cici_World ?cikp_World ?cga__World ?cgfn_World ?cgfi_World ?cglk_World ?cgci_World ?cgkp_World ?cna__World ?cnfn_World ?cnlk_World ?cnci_World ?cnkp_World ?cr0a_World ?cr0g_World ?cr0t_World ?cr0c_World ?cr0lk_World ?cr0ci_World ?cr0kp_World ?ra_QuietError ?s_tm_tw ?s_nt_tw ?s_tm_nt
    case a0 => k_is
    case l0 => k_is
    case c0 => k_is
    case k0 => k_is
    case a1 => k_is
    case l1 => k_is
    case c1 => k_is
    case k1 => k_is
    case a2 => k_is
    case l2 => k_is
    case c2 => k_is
    case k2 => k_is
    case a3 => k_is
    case l3 => k_is
    case c3 => k_is
    case k3 => k_is
    case a4 => k_is
    case l4 => k_is
    case c4 => k_is
    case k4 => k_is
    case a5 => k_is
    case l5 => k_is
    case c5 => k_is
    case k5 => k_is
    case a6 => k_is
    case l6 => k_is
    case c6 => k_is
    case k6 => k_is
    case a7 => k_is
    case l7 => k_is
    case c7 => k_is
    case k7 => k_is
    case a8 => k_is
    case l8 => k_is
    case c8 => k_is
    case k8 => k_is
    case a9 => k_is
    case l9 => k_is
    case c9 => k_is
    case k9 => k_is
    case a10 => k_is
    case l10 => k_is
    case c10 => k_is
    case k10 => k_is
    case a11 => k_is
    case l11 => k_is
    case c11 => k_is
    case k11 => k_is
    case a12 => k_is
    case l12 => k_is
    case c12 => k_is
    case k12 => k_is
    case a13 => k_is
    case l13 => k_is
    case c13 => k_is
    case k13 => k_is
    case a14 => k_is
    case l14 => k_is
    case c14 => k_is
    case k14 => k_is
    case a15 => k_is
    case l15 => k_is
    case c15 => k_is
    case k15 => k_is
    case a16 => k_is
    case l16 => k_is
    case c16 => k_is
    case k16 => k_is
    case a17 => k_is
    case l17 => k_is
    case c17 => k_is
    case k17 => k_is
    case a18 => k_is
    case l18 => k_is
    case c18 => k_is
    case k18 => k_is
    case a19 => k_is
    case l19 => k_is
    case c19 => k_is
    case k19 => k_is
    case z_len => k_is
    case z_int => k_is
    case z_list => k_is
    case z_tuple => k_is
    case z_isi => k_is
    case z_range => k_is
    case z_all => k_is
    case z_any => k_is
    case z_str => k_is
    case z_bool => k_is
    case z_enum => k_is
    case z_zip => k_is
    case z_sum => k_is
    case z_max => k_is
    case z_min => k_is
    case z_sorted => k_is
    case z_set => k_is
    case z_dict => k_is
    case sa_LETTERS => k_is
    case ia_MOST_LETTERS => k_is
    case ia_MOST_THINGS => k_is
    case ia_MOST_KEYS => k_is
    case oq => k_is
    case z_super => k_is
    case gtc => k_is
    case tkc => k_is
    case tsup => first | rfl | decide +kernel
    case ecg_BadName => k_is
    case exL_BadName => k_is
    case esa_BadName => k_is
    case eex_BadName => k_is
    case ety_BadName => k_is
    case ekC_BadName => k_is
    case ei1_BadName => k_is
    case ei2_BadName => k_is
    case emr_BadName => k_is
    case esv_BadName => k_is
    case esu_BadName => ks_is
    case elk_BadName => k_is
    case ehc_BadName => k_is
    case eno_BadName => k_is
    case eco_BadName => k_is
    case ece_BadName => k_is
    case ega_BadName => k_is
    case egg_BadName => k_is
    case ehd_BadName => k_is
    case ese_BadName => k_is
    case ebm_BadName => first | rfl | decide +kernel
    case evs_BadName => rfl
    case efl_BadName => first | rfl | decide +kernel
    case ecg_NoThing => k_is
    case exL_NoThing => k_is
    case esa_NoThing => k_is
    case eex_NoThing => k_is
    case ety_NoThing => k_is
    case ekC_NoThing => k_is
    case ei1_NoThing => k_is
    case ei2_NoThing => k_is
    case emr_NoThing => k_is
    case esv_NoThing => k_is
    case esu_NoThing => ks_is
    case elk_NoThing => k_is
    case ehc_NoThing => k_is
    case eno_NoThing => k_is
    case eco_NoThing => k_is
    case ece_NoThing => k_is
    case ega_NoThing => k_is
    case egg_NoThing => k_is
    case ehd_NoThing => k_is
    case ese_NoThing => k_is
    case ebm_NoThing => first | rfl | decide +kernel
    case evs_NoThing => rfl
    case efl_NoThing => first | rfl | decide +kernel
    case ecg_Twice => k_is
    case exL_Twice => k_is
    case esa_Twice => k_is
    case eex_Twice => k_is
    case ety_Twice => k_is
    case ekC_Twice => k_is
    case ei1_Twice => k_is
    case ei2_Twice => k_is
    case emr_Twice => k_is
    case esv_Twice => k_is
    case esu_Twice => ks_is
    case elk_Twice => k_is
    case ehc_Twice => k_is
    case eno_Twice => k_is
    case eco_Twice => k_is
    case ece_Twice => k_is
    case ega_Twice => k_is
    case egg_Twice => k_is
    case ehd_Twice => k_is
    case ese_Twice => k_is
    case ebm_Twice => first | rfl | decide +kernel
    case evs_Twice => rfl
    case efl_Twice => first | rfl | decide +kernel
    case ecg_TooMany => k_is
    case exL_TooMany => k_is
    case esa_TooMany => k_is
    case eex_TooMany => k_is
    case ety_TooMany => k_is
    case ekC_TooMany => k_is
    case ei1_TooMany => k_is
    case ei2_TooMany => k_is
    case emr_TooMany => k_is
    case esv_TooMany => k_is
    case esu_TooMany => ks_is
    case elk_TooMany => k_is
    case ehc_TooMany => k_is
    case eno_TooMany => k_is
    case eco_TooMany => k_is
    case ece_TooMany => k_is
    case ega_TooMany => k_is
    case egg_TooMany => k_is
    case ehd_TooMany => k_is
    case ese_TooMany => k_is
    case ebm_TooMany => first | rfl | decide +kernel
    case evs_TooMany => rfl
    case efl_TooMany => first | rfl | decide +kernel
    case ccg_Stock => k_is
    case cpg_Stock => k_is
    case chd_Stock => k_is
    case cpo_Stock => k_is
    case csa_Stock => k_is
    case ckl_Stock => k_is
    case cmr_Stock => k_is
    case cic_Stock => k_is
    case cty_Stock => k_is
    case csstr_Stock => k_is
    case csint_Stock => k_is
    case csbool_Stock => k_is
    case cslist_Stock => k_is
    case cstuple_Stock => k_is
    case ctNoneType_Stock => k_is
    case ctbool_Stock => k_is
    case ctint_Stock => k_is
    case ctstr_Stock => k_is
    case ctlist_Stock => k_is
    case cttuple_Stock => k_is
    case ctdict_Stock => k_is
    case cn0_Stock => k_is
    case cn1_Stock => k_is
    case cn2_Stock => k_is
    case cn3_Stock => k_is
    case cn4_Stock => k_is
    case cmk_Stock => k_is
    case cii_Stock => k_is
    case cifn_Stock => k_is
    case cikc_Stock => k_is
    case cilk_Stock => k_is
    case cici_Stock => k_is
    case cikp_Stock => k_is
    case cm0a_Stock => k_is
    case cm0fn_Stock => k_is
    case cm0lk_Stock => k_is
    case cm0ci_Stock => k_is
    case cm0kp_Stock => k_is
    case ccg_Thing => k_is
    case cpg_Thing => k_is
    case chd_Thing => k_is
    case cpo_Thing => k_is
    case csa_Thing => k_is
    case ckl_Thing => k_is
    case cmr_Thing => k_is
    case cic_Thing => k_is
    case cty_Thing => k_is
    case csstr_Thing => k_is
    case csint_Thing => k_is
    case csbool_Thing => k_is
    case cslist_Thing => k_is
    case cstuple_Thing => k_is
    case ctNoneType_Thing => k_is
    case ctbool_Thing => k_is
    case ctint_Thing => k_is
    case ctstr_Thing => k_is
    case ctlist_Thing => k_is
    case cttuple_Thing => k_is
    case ctdict_Thing => k_is
    case cn0_Thing => k_is
    case cn1_Thing => k_is
    case cn2_Thing => k_is
    case cmk_Thing => k_is
    case cii_Thing => k_is
    case cifn_Thing => k_is
    case cikc_Thing => k_is
    case cilk_Thing => k_is
    case cici_Thing => k_is
    case cikp_Thing => k_is
    case cidv_Thing => rfl
    case cidl_Thing => k_is
    case cidi_Thing => rfl
    case cidel0_Thing => k_is
    case cidev0_Thing => rfl
    case cea_Thing => k_is
    case cefn_Thing => k_is
    case cene_Thing => k_is
    case celk_Thing => k_is
    case ceci_Thing => k_is
    case cekp_Thing => k_is
    case crd_Thing => k_is
    case cga_Thing => k_is
    case cs0a_Thing => k_is
    case cs0c_Thing => k_is
    case cs0lk_Thing => k_is
    case cs0ci_Thing => k_is
    case cs0kp_Thing => k_is
    case cs1a_Thing => k_is
    case cs1c_Thing => k_is
    case cs1lk_Thing => k_is
    case cs1ci_Thing => k_is
    case cs1kp_Thing => k_is
    case cs2a_Thing => k_is
    case cs2c_Thing => k_is
    case cs2lk_Thing => k_is
    case cs2ci_Thing => k_is
    case cs2kp_Thing => k_is
    case cs3a_Thing => k_is
    case cs3c_Thing => k_is
    case cs3lk_Thing => k_is
    case cs3ci_Thing => k_is
    case cs3kp_Thing => k_is
    case cs4a_Thing => k_is
    case cs4c_Thing => k_is
    case cs4lk_Thing => k_is
    case cs4ci_Thing => k_is
    case cs4kp_Thing => k_is
    case cs5a_Thing => k_is
    case cs5c_Thing => k_is
    case cs5lk_Thing => k_is
    case cs5ci_Thing => k_is
    case cs5kp_Thing => k_is
    case cs6a_Thing => k_is
    case cs6c_Thing => k_is
    case cs6lk_Thing => k_is
    case cs6ci_Thing => k_is
    case cs6kp_Thing => k_is
    case ccg_World => k_is
    case cpg_World => k_is
    case chd_World => k_is
    case cpo_World => k_is
    case csa_World => k_is
    case ckl_World => k_is
    case cmr_World => k_is
    case cic_World => k_is
    case cty_World => k_is
    case csstr_World => k_is
    case csint_World => k_is
    case csbool_World => k_is
    case cslist_World => k_is
    case cstuple_World => k_is
    case ctNoneType_World => k_is
    case ctbool_World => k_is
    case ctint_World => k_is
    case ctstr_World => k_is
    case ctlist_World => k_is
    case cttuple_World => k_is
    case ctdict_World => k_is
    case cn0_World => k_is
    case cn1_World => k_is
    case cn2_World => k_is
    case cmk_World => k_is
    case cii_World => k_is
    case cifn_World => k_is
    case cikc_World => k_is
    case cilk_World => k_is
    case cici_World => k_is
    case cikp_World => k_is
    case cga__World => k_is
    case cgfn_World => k_is
    case cgfi_World => k_is
    case cglk_World => k_is
    case cgci_World => k_is
    case cgkp_World => k_is
    case cna__World => k_is
    case cnfn_World => k_is
    case cnlk_World => k_is
    case cnci_World => k_is
    case cnkp_World => k_is
    case cr0a_World => k_is
    case cr0g_World => k_is
    case cr0t_World => k_is
    case cr0c_World => k_is
    case cr0lk_World => k_is
    case cr0ci_World => k_is
    case cr0kp_World => k_is
    case ra_QuietError => k_is
    case s_tm_tw => k_is
    case s_nt_tw => k_is
    case s_tm_nt => k_is
