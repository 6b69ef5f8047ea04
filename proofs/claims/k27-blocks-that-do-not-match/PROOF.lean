import PyProof.Rows.All
import Wide.All
import OpenK.AllK
import Wide.FinOn
import HandS.Base
import HandS.Call
import HandS.List
import HandS.Comp
import HandS.Ends
import HandS.Dict
import HandS.Iter
import HandS.Text
import HandS.Deep
import HandS.IsInst
import HandS.Star
import HandS.Words
import HandS.Wide
import HandS.Exc
import HandS.More
import HandS.TupAny
import KE.KUnpackStar
import HandS.ForMost
import HandS.ForExc
import HandS.Zip
import PyProof.RulesMatch
import KE.KExcSuper
import HandS.ExcInit
import HandS.ClsMeth
import HandS.SlotsOwn
import HandS.TryMany
import HandS.WordsExc
import HandS.ExcField
import PyProof.InstNe
import HandS.Defaults
import HandS.ExcIs
import KE.RegKSuper
import KE.KCallOwn
import HandS.DictComp
import KE.GoesEnum
import OpenK.KMeth
import HandS.Flow
import HandS.Small
import HandS.Style
import HandS.Zip0
import HandS.TryOnly
import HandS.Head0
import HandS.Head1
import HandS.Head2
import HandS.Evl
import PySem.Challenge.RW_quietprobes_k27_blocks_that_do_not_match
set_option Elab.async false
set_option linter.all false
set_option maxRecDepth 100000
set_option autoImplicit false
namespace G
open PySem PySem.Spec L2
/-- a value told as data; adr: an address of which the assertion speaks -/
inductive D where
  | non | bl (b : Bool) | int (i : Int) | str (x : Str) | adr (a : Addr) | lst (ds : List D) | tup (ds : List D)
  /-- an instance that stays as it is: its class, its fields' names, what they hold -/
  | ins (C : Addr) (fs : List Str) (ds : List D)
  /-- a dict that stays as it is -/
  | dct (ks : List Key) (ds : List D)
/-- a text whose signs are signs, and that isn't long -/
def sok (x : Str) : Prop := PyData.strOk x = true ∧ x.length ≤ 1000000
def ks6 : List String := ["NoneType", "bool", "int", "str", "list", "tuple", "dict"]
def ks5 : List String := ["str", "int", "bool", "list", "tuple"]
/-- a class whose fields are plainly read and stored, none of these names being the class's own -/
structure Plain (K : PySem.W.Frag) (C : Addr) : Prop where
  cls : Cls K C
  kls : PySem.W.findIn K (.ref C) "__class__" = some (some (.builtin "object.__class__"))
  get : PySem.W.specialIn K (.builtin "object.__class__") "__get__" = some (some (.builtin "getset_descriptor.__get__"))
  tak : PySem.W.takesIn K (.builtin "object.__class__") = some true
  mro : PySem.W.mroIn K C (.type "object") = some true
  sub : ∀ T ∈ ks5, PySem.W.subIn K (.ref C) (.type T) = some false
structure Good (K : PySem.W.Frag) (C : Addr) (fs : List Str) : Prop where
  p : Plain K C
  no : ∀ f ∈ fs, NoAttr K C f
theorem Good.cls {K : PySem.W.Frag} {C : Addr} {fs : List Str} (g : Good K C fs) : Cls K C := g.p.cls
/-- what may be changed, and is data while nobody owns it -/
def Dat : HO → Prop
  | .lst _ => True
  | .ins _ _ _ => True
  | .dK _ => True
  | _ => False
mutual
/-- v is d in the heap H; no list, dict, instance of it is among M -/
inductive Is (K : PySem.W.Frag) (M : Addr → Prop) (H : Hp) : V → D → Prop
  | non : Is K M H .non .non
  | bl (b : Bool) : Is K M H (.bl b) (.bl b)
  | int (i : Int) : Is K M H (.int i) (.int i)
  | str {x : Str} : sok x → Is K M H (.str x) (.str x)
  | adr (a : Addr) : Is K M H (.ref a) (.adr a)
  | lst {a : Addr} {xs : List V} {ds : List D} : ¬ M a → H a = some (.lst xs) → IsAll K M H xs ds → Is K M H (.ref a) (.lst ds)
  | tup {a : Addr} {xs : List V} {ds : List D} : SqT K H a xs → IsAll K M H xs ds → Is K M H (.ref a) (.tup ds)
  | ins {a C dx : Addr} {kvs : List (Str × V)} {fs : List Str} {ds : List D} : ¬ M a → H a = some (.ins C dx kvs) → kvs.map (·.1) = fs → Good K C fs → IsAll K M H (kvs.map (·.2)) ds → Is K M H (.ref a) (.ins C fs ds)
  | dct {a : Addr} {kvs : List (Key × V)} {ks : List Key} {ds : List D} : ¬ M a → H a = some (.dK kvs) → kvs.map (·.1) = ks → IsAll K M H (kvs.map (·.2)) ds → Is K M H (.ref a) (.dct ks ds)
inductive IsAll (K : PySem.W.Frag) (M : Addr → Prop) (H : Hp) : List V → List D → Prop
  | nil : IsAll K M H [] []
  | cons {v : V} {vs : List V} {d : D} {ds : List D} : Is K M H v d → IsAll K M H vs ds → IsAll K M H (v :: vs) (d :: ds)
end
section
variable {K : PySem.W.Frag} {M M' : Addr → Prop} {H H' : Hp}
mutual
theorem Is.go (hl : ∀ a o, Dat o → ¬ M a → H a = some o → ¬ M' a ∧ H' a = some o) (ht : ∀ a xs, SqT K H a xs → SqT K H' a xs) : ∀ (d : D) (v : V), Is K M H v d → Is K M' H' v d
  | .non, _, h => by cases h; exact .non
  | .bl b, _, h => by cases h; exact .bl b
  | .int i, _, h => by cases h; exact .int i
  | .str x, _, h => by cases h with | str o => exact .str o
  | .adr a, _, h => by cases h; exact .adr a
  | .lst ds, _, h => by
    cases h with
    | lst n s h => exact .lst (hl _ (.lst _) True.intro n s).1 (hl _ (.lst _) True.intro n s).2 (IsAll.go hl ht ds _ h)
  | .tup ds, _, h => by
    cases h with
    | tup s h => exact .tup (ht _ _ s) (IsAll.go hl ht ds _ h)
  | .ins C fs ds, _, h => by
    cases h with
    | ins n s e g h => exact .ins (hl _ (.ins _ _ _) True.intro n s).1 (hl _ (.ins _ _ _) True.intro n s).2 e g (IsAll.go hl ht ds _ h)
  | .dct ks ds, _, h => by
    cases h with
    | dct n s e h => exact .dct (hl _ (.dK _) True.intro n s).1 (hl _ (.dK _) True.intro n s).2 e (IsAll.go hl ht ds _ h)
theorem IsAll.go (hl : ∀ a o, Dat o → ¬ M a → H a = some o → ¬ M' a ∧ H' a = some o) (ht : ∀ a xs, SqT K H a xs → SqT K H' a xs) : ∀ (ds : List D) (vs : List V), IsAll K M H vs ds → IsAll K M' H' vs ds
  | [], _, h => by cases h; exact .nil
  | d :: ds, _, h => by
    cases h with
    | cons h1 h2 => exact .cons (Is.go hl ht d _ h1) (IsAll.go hl ht ds _ h2)
end
theorem IsAll.length : ∀ {vs : List V} {ds : List D}, IsAll K M H vs ds → vs.length = ds.length
  | _, _, .nil => rfl
  | _, _, .cons _ h => by rw [List.length_cons, List.length_cons, IsAll.length h]
theorem IsAll.get : ∀ {vs : List V} {ds : List D} {i : Nat} {v : V}, IsAll K M H vs ds → vs[i]? = some v → ∃ d, ds[i]? = some d ∧ Is K M H v d
  | _, _, i, v, .nil, e => by simp at e
  | _, _, 0, v, .cons h _, e => by simp at e; subst e; exact ⟨_, rfl, h⟩
  | _, _, i + 1, v, .cons _ t, e => by
    obtain ⟨d, h1, h2⟩ := IsAll.get (i := i) (v := v) t (by simpa using e)
    exact ⟨d, by simpa using h1, h2⟩
theorem IsAll.getD : ∀ {vs : List V} {ds : List D} {i : Nat} {d : D}, IsAll K M H vs ds → ds[i]? = some d → ∃ v, vs[i]? = some v ∧ Is K M H v d
  | _, _, i, v, .nil, e => by simp at e
  | _, _, 0, v, .cons h _, e => by simp at e; subst e; exact ⟨_, rfl, h⟩
  | _, _, i + 1, d, .cons _ t, e => by
    obtain ⟨v, h1, h2⟩ := IsAll.getD (i := i) (d := d) t (by simpa using e)
    exact ⟨v, by simpa using h1, h2⟩
theorem IsAll.append : ∀ {vs ws : List V} {ds es : List D}, IsAll K M H vs ds → IsAll K M H ws es → IsAll K M H (vs ++ ws) (ds ++ es)
  | _, _, _, _, .nil, s => s
  | _, _, _, _, .cons r t, s => .cons r (IsAll.append t s)
theorem IsAll.take : ∀ {vs : List V} {ds : List D} (n : Nat), IsAll K M H vs ds → IsAll K M H (vs.take n) (ds.take n)
  | _, _, 0, _ => .nil
  | _, _, _ + 1, .nil => .nil
  | _, _, n + 1, .cons r t => .cons r (IsAll.take n t)
theorem IsAll.drop : ∀ {vs : List V} {ds : List D} (n : Nat), IsAll K M H vs ds → IsAll K M H (vs.drop n) (ds.drop n)
  | _, _, 0, r => r
  | _, _, _ + 1, .nil => .nil
  | _, _, n + 1, .cons r t => IsAll.drop n t
end
def Ext (H H' : Hp) : Prop := ∀ b o, H b = some o → H' b = some o
theorem Ext.refl (H : Hp) : Ext H H := fun _ _ h => h
theorem Ext.new {H : Hp} {p : Addr} {o : HO} (h : H p = none) : Ext H (upd H p o) := fun a u e => by
  rw [upd_ne (ne_of_none e h)]
  exact e
theorem Ext.sqt {K : PySem.W.Frag} {H H' : Hp} (e : Ext H H') {a : Addr} {xs : List V} (h : SqT K H a xs) : SqT K H' a xs := by
  rcases h with (h | ⟨o, h⟩) | h
  · exact .inl (.inl (e _ _ h))
  · exact .inl (.inr ⟨o, e _ _ h⟩)
  · exact .inr h
theorem is_ext {K : PySem.W.Frag} {N : Addr → Prop} {H H' : Hp} (e : Ext H H') (v : V) (d : D) (h : Is K N H v d) : Is K N H' v d := Is.go (fun a o _ n s => ⟨n, e _ _ s⟩) (fun a xs s => e.sqt s) d v h
theorem is_anti {K : PySem.W.Frag} {N N' : Addr → Prop} {H : Hp} (e : ∀ a, N' a → N a) {v : V} {d : D} (h : Is K N H v d) : Is K N' H v d := Is.go (fun a o _ n s => ⟨fun z => n (e a z), s⟩) (fun a xs s => s) d v h
/-- nothing that may be changed stands there -/
def NoDat (H : Hp) (p : Addr) : Prop := ∀ o, H p = some o → ¬ Dat o
theorem nodat {H : Hp} {p : Addr} (hp : H p = none) : NoDat H p := fun o e => by rw [hp] at e; cases e
theorem is_growD {K : PySem.W.Frag} {N : Addr → Prop} {H : Hp} {p : Addr} (hp : NoDat H p) {v : V} {d : D} (h : Is K N H v d) : Is K (fun a => N a ∨ a = p) H v d :=
  Is.go (fun a o dt n s => ⟨fun z => z.elim n fun e => (by rw [e] at s; exact hp o s dt), s⟩) (fun a xs s => s) d v h
theorem is_grow {K : PySem.W.Frag} {N : Addr → Prop} {H : Hp} {p : Addr} (hp : H p = none) {v : V} {d : D} (h : Is K N H v d) : Is K (fun a => N a ∨ a = p) H v d := is_growD (nodat hp) h
theorem all_of {K : PySem.W.Frag} {N N' : Addr → Prop} {H H' : Hp} (f : ∀ v d, Is K N H v d → Is K N' H' v d) : ∀ {vs : List V} {ds : List D}, IsAll K N H vs ds → IsAll K N' H' vs ds
  | _, _, .nil => .nil
  | _, _, .cons h t => .cons (f _ _ h) (all_of f t)
/-- a piece of what the heap is known to hold: it owns the objects at M, and speaks besides of data alone -/
structure At where
  M : Addr → Prop
  R : PySem.W.Frag → (Addr → Prop) → Hp → Prop
  loc : ∀ {K : PySem.W.Frag} {N : Addr → Prop} {H H' : Hp}, (∀ b o, M b → H b = some o → H' b = some o) → (∀ v d, Is K N H v d → Is K N H' v d) → R K N H → R K N H'
  anti : ∀ {K : PySem.W.Frag} {N N' : Addr → Prop} {H : Hp}, (∀ a, N' a → N a) → R K N H → R K N' H
  grow : ∀ {K : PySem.W.Frag} {N : Addr → Prop} {H : Hp} {p : Addr}, NoDat H p → R K N H → R K (fun a => N a ∨ a = p) H
  al : ∀ {K : PySem.W.Frag} {N : Addr → Prop} {H : Hp}, R K N H → ∀ a, M a → ∃ o, H a = some o
abbrev Rs := List (At)
section
variable {K : PySem.W.Frag}
def mem : Rs → Addr → Prop
  | [], _ => False
  | t :: r, a => t.M a ∨ mem r a
def hold (K : PySem.W.Frag) (N : Addr → Prop) : Rs → Hp → Prop
  | [], _ => True
  | t :: r, H => t.R K N H ∧ (∀ a, t.M a → ¬ mem r a) ∧ hold K N r H
theorem hold_ext {N : Addr → Prop} {H H' : Hp} (e : Ext H H') : ∀ {r : Rs}, hold K N r H → hold K N r H'
  | [], _ => True.intro
  | t :: r, h => ⟨t.loc (fun b o _ q => e b o q) (is_ext e) h.1, h.2.1, hold_ext e h.2.2⟩
theorem hold_loc {N : Addr → Prop} {H H' : Hp} : ∀ {r : Rs}, (∀ b o, mem r b → H b = some o → H' b = some o) → (∀ v d, Is K N H v d → Is K N H' v d) → hold K N r H → hold K N r H'
  | [], _, _, _ => True.intro
  | t :: r, f, g, h => ⟨t.loc (fun b o z q => f b o (.inl z) q) g h.1, h.2.1, hold_loc (fun b o z q => f b o (.inr z) q) g h.2.2⟩
theorem hold_anti {N N' : Addr → Prop} {H : Hp} (e : ∀ a, N' a → N a) : ∀ {r : Rs}, hold K N r H → hold K N' r H
  | [], _ => True.intro
  | t :: r, h => ⟨t.anti e h.1, h.2.1, hold_anti e h.2.2⟩
theorem hold_growD {N : Addr → Prop} {H : Hp} {p : Addr} (hp : NoDat H p) : ∀ {r : Rs}, hold K N r H → hold K (fun a => N a ∨ a = p) r H
  | [], _ => True.intro
  | t :: r, h => ⟨t.grow hp h.1, h.2.1, hold_growD hp h.2.2⟩
theorem hold_grow {N : Addr → Prop} {H : Hp} {p : Addr} (hp : H p = none) {r : Rs} (h : hold K N r H) : hold K (fun a => N a ∨ a = p) r H := hold_growD (nodat hp) h
theorem hold_al {N : Addr → Prop} {H : Hp} : ∀ {r : Rs}, hold K N r H → ∀ a, mem r a → ∃ o, H a = some o
  | [], _, _, z => z.elim
  | t :: r, h, a, .inl z => t.al h.1 a z
  | t :: r, h, a, .inr z => hold_al h.2.2 a z
theorem mem_append {r r' : Rs} {a : Addr} : mem (r ++ r') a ↔ mem r a ∨ mem r' a := by
  induction r with
  | nil => exact ⟨.inr, fun z => z.elim False.elim id⟩
  | cons t r ih =>
    show (t.M a ∨ mem (r ++ r') a) ↔ ((t.M a ∨ mem r a) ∨ mem r' a)
    rw [ih, or_assoc]
theorem hold_append {N : Addr → Prop} {r r' : Rs} {H : Hp} : hold K N (r ++ r') H ↔ hold K N r H ∧ hold K N r' H ∧ ∀ a, mem r a → ¬ mem r' a := by
  induction r with
  | nil => exact ⟨fun h => ⟨True.intro, h, fun _ z => z.elim⟩, fun h => h.2.1⟩
  | cons t r ih =>
    constructor
    · rintro ⟨h1, h2, h3⟩
      obtain ⟨i1, i2, i3⟩ := ih.mp h3
      exact ⟨⟨h1, fun a z y => h2 a z (mem_append.mpr (.inl y)), i1⟩, i2, fun a z => z.elim (fun z y => h2 a z (mem_append.mpr (.inr y))) (i3 a)⟩
    · rintro ⟨⟨h1, h2, h3⟩, h4, h5⟩
      exact ⟨h1, fun a z y => (mem_append.mp y).elim (h2 a z) (h5 a (.inl z)), ih.mpr ⟨h3, h4, fun a z => h5 a (.inr z)⟩⟩
/-- a list of our own at l that is being filled -/
def lstA (l : Addr) (ds : List D) : At where
  M := fun a => a = l
  R := fun K N H => ∃ vs, H l = some (.lst vs) ∧ IsAll K N H vs ds
  loc := fun f g ⟨vs, h, i⟩ => ⟨vs, f _ _ rfl h, all_of g i⟩
  anti := fun e ⟨vs, h, i⟩ => ⟨vs, h, all_of (fun _ _ => is_anti e) i⟩
  grow := fun hp ⟨vs, h, i⟩ => ⟨vs, h, all_of (fun _ _ => is_growD hp) i⟩
  al := fun ⟨vs, h, _⟩ a z => ⟨.lst vs, by rw [show a = l from z]; exact h⟩
end
/-- what r tells is so -/
def Rok (K : PySem.W.Frag) (r : Rs) (H : Hp) : Prop := hold K (mem r) r H
theorem Rok.ext {K : PySem.W.Frag} {r : Rs} {H H' : Hp} (h : Rok K r H) (e : Ext H H') : Rok K r H' := hold_ext e h
/-- all data stand as they stood -/
def Kp (K : PySem.W.Frag) (r : Rs) (H : Hp) (r' : Rs) (H' : Hp) : Prop := ∀ v d, Is K (mem r) H v d → Is K (mem r') H' v d
section
variable {K : PySem.W.Frag} {r r' r1 r2 : Rs} {H H' H1 H2 : Hp}
theorem Kp.refl : Kp K r H r H := fun _ _ h => h
theorem Kp.trans (a : Kp K r H r1 H1) (b : Kp K r1 H1 r2 H2) : Kp K r H r2 H2 := fun v d h => b v d (a v d h)
theorem Kp.ext (e : Ext H H') : Kp K r H r H' := is_ext e
theorem Kp.all (k : Kp K r H r' H') {vs : List V} {ds : List D} (h : IsAll K (mem r) H vs ds) : IsAll K (mem r') H' vs ds := all_of k h
/-- r knows more than r' -/
structure le (r r' : Rs) : Prop where
  m : ∀ a, mem r' a → mem r a
  r : ∀ K H, Rok K r H → Rok K r' H
theorem le.refl : le r r := ⟨fun _ h => h, fun _ _ h => h⟩
theorem le.trans (a : le r r1) (b : le r1 r2) : le r r2 := ⟨fun x h => a.m x (b.m x h), fun K H h => b.r K H (a.r K H h)⟩
theorem le.kp (l : le r r') : Kp K r H r' H := fun _ _ h => is_anti l.m h
theorem le.drop {t : Rs} : le (r ++ t) r := ⟨fun a h => mem_append.mpr (.inl h), fun K H h => hold_anti (fun a z => mem_append.mpr (.inl z)) (hold_append.mp h).1⟩
end
abbrev Dl := List (Option D)
def lk : Dl → Nat → Option D
  | [], _ => none
  | x :: _, 0 => x
  | _ :: l, n + 1 => lk l n
theorem lk_get : ∀ {δ : Dl} {i : Nat} {d : D}, lk δ i = some d → δ[i]? = some (some d)
  | [], i, d, h => by simp [lk] at h
  | x :: l, 0, d, h => by simp only [lk] at h; simp [h]
  | x :: l, n + 1, d, h => by
    simp only [lk] at h
    have := lk_get h
    simpa using this
/-- the names' slots hold the data -/
structure Okb (K : PySem.W.Frag) (r : Rs) (δ : Dl) (σ : St) (H : Hp) : Prop where
  env : ∀ (i : Nat) (d : D), δ[i]? = some (some d) → ∃ v, σ[i]? = some (some v) ∧ Is K (mem r) H v d
  r : Rok K r H
  len : δ.length = σ.length
theorem Okb.step {K : PySem.W.Frag} {r r' : Rs} {δ : Dl} {σ : St} {H H' : Hp} (o : Okb K r δ σ H) (k : Kp K r H r' H') (hr : Rok K r' H') : Okb K r' δ σ H' :=
  ⟨fun i d e => let ⟨v, h1, h2⟩ := o.env i d e; ⟨v, h1, k v d h2⟩, hr, o.len⟩
theorem Okb.set {K : PySem.W.Frag} {r : Rs} {δ : Dl} {σ : St} {H : Hp} (o : Okb K r δ σ H) {i : Nat} {v : V} {d : D} (h : Is K (mem r) H v d) : Okb K r (δ.set i (some d)) (σ.set i (some v)) H := by
  refine ⟨fun j e he => ?_, o.r, by rw [List.length_set, List.length_set]; exact o.len⟩
  by_cases hj : j = i
  · subst hj
    have hl : j < δ.length := by
      have := (List.getElem?_eq_some_iff.mp he).1
      rwa [List.length_set] at this
    rw [List.getElem?_set_self hl] at he
    cases he
    exact ⟨v, List.getElem?_set_self (o.len ▸ hl), h⟩
  · rw [List.getElem?_set_ne (Ne.symm hj)] at he ⊢
    exact o.env j e he
theorem Okb.drop {K : PySem.W.Frag} {r : Rs} {δ : Dl} {σ : St} {H : Hp} (o : Okb K r δ σ H) {i : Nat} : Okb K r (δ.set i none) (σ.set i none) H := by
  refine ⟨fun j e he => ?_, o.r, by rw [List.length_set, List.length_set]; exact o.len⟩
  by_cases hj : j = i
  · subst hj
    have hl : j < δ.length := by
      have := (List.getElem?_eq_some_iff.mp he).1
      rwa [List.length_set] at this
    rw [List.getElem?_set_self hl] at he
    cases he
  · rw [List.getElem?_set_ne (Ne.symm hj)] at he ⊢
    exact o.env j e he
/-- what is told of an exception: its class, its fields' names, what they hold; the slots, the pieces -/
abbrev XT := Addr → List Str → List D → Dl → Rs → Prop
/-- an exception's own dict -/
def ExAt (K : PySem.W.Frag) (r : Rs) (H : Hp) (a : Option Addr) (fs : List Str) (ds : List D) : Prop := match a with
  | some a => ¬ mem r a ∧ ∃ kvs : List (Str × V), H a = some (.xd kvs) ∧ kvs.map Prod.fst = fs ∧ IsAll K (mem r) H (kvs.map Prod.snd) ds
  | none => fs = [] ∧ ds = []
/-- what is wanted where an exception leaves -/
def Xc (K : PySem.W.Frag) (W : WX) (XR : XT) (r : Rs) (H : Hp) : Prop := ∀ C fs ds δ' r' σ' a H', XR C fs ds δ' r' → Okb K r' δ' σ' H' → Kp K r H r' H' → ExAt K r' H' a fs ds → W (.ref C) a σ' H'
theorem Xc.step {K : PySem.W.Frag} {W : WX} {XR : XT} {r r' : Rs} {H H' : Hp} (x : Xc K W XR r H) (k : Kp K r H r' H') : Xc K W XR r' H' := fun C fs ds δ' r2 σ' a H2 q o k2 e => x C fs ds δ' r2 σ' a H2 q o (k.trans k2) e
structure Ok (K : PySem.W.Frag) (W : WX) (XR : XT) (r : Rs) (δ : Dl) (σ : St) (H : Hp) : Prop where
  b : Okb K r δ σ H
  x : Xc K W XR r H
theorem Ok.r {K : PySem.W.Frag} {W : WX} {XR : XT} {p : Rs} {δ : Dl} {σ : St} {H : Hp} (o : Ok K W XR p δ σ H) : Rok K p H := o.b.r
section
variable {K : PySem.W.Frag} {W : WX} {XR : XT} {r r' : Rs} {δ : Dl} {σ : St} {H H' : Hp}
theorem Ok.env (o : Ok K W XR r δ σ H) : ∀ (i : Nat) (d : D), δ[i]? = some (some d) → ∃ v, σ[i]? = some (some v) ∧ Is K (mem r) H v d := o.b.env
theorem Ok.len (o : Ok K W XR r δ σ H) : δ.length = σ.length := o.b.len
theorem Ok.step (o : Ok K W XR r δ σ H) (k : Kp K r H r' H') (hr : Rok K r' H') : Ok K W XR r' δ σ H' := ⟨o.b.step k hr, o.x.step k⟩
theorem Ok.set (o : Ok K W XR r δ σ H) {i : Nat} {v : V} {d : D} (h : Is K (mem r) H v d) : Ok K W XR r (δ.set i (some d)) (σ.set i (some v)) H := ⟨o.b.set h, o.x⟩
theorem Ok.drop (o : Ok K W XR r δ σ H) {i : Nat} : Ok K W XR r (δ.set i none) (σ.set i none) H := ⟨o.b.drop, o.x⟩
end
abbrev PK1 := D → Rs → Prop
/-- readings over data: of an expression, of arguments, of a test -/
abbrev AT := XT → Dl → Rs → PK1 → Prop
abbrev AL := XT → Dl → Rs → (List D → Rs → Prop) → Prop
abbrev AB := XT → Dl → Rs → (Bool → Rs → Prop) → Prop
def TD (K : PySem.W.Frag) (W : WX) (t : AT) : TE := fun σ H Q => ∃ XR δ r P, Ok K W XR r δ σ H ∧ t XR δ r P ∧ ∀ d r' v H', P d r' → Ok K W XR r' δ σ H' → Kp K r H r' H' → Is K (mem r') H' v d → Q v H'
def TDL (K : PySem.W.Frag) (W : WX) (t : AL) : TA := fun σ H Q => ∃ XR δ r P, Ok K W XR r δ σ H ∧ t XR δ r P ∧ ∀ ds r' vs H', P ds r' → Ok K W XR r' δ σ H' → Kp K r H r' H' → IsAll K (mem r') H' vs ds → Q vs H'
def TDB (K : PySem.W.Frag) (W : WX) (t : AB) : TT := fun σ H Q => ∃ XR δ r P, Ok K W XR r δ σ H ∧ t XR δ r P ∧ ∀ b r' H', P b r' → Ok K W XR r' δ σ H' → Kp K r H r' H' → Q b H'
def PD (X : Cx) (W : WX) (e : Expr) (t : AT) : Prop := PE X e (TD X.K W t)
def PDL (X : Cx) (W : WX) (es : List Expr) (t : AL) : Prop := PA X es (TDL X.K W t)
def PDB (X : Cx) (W : WX) (e : Expr) (t : AB) : Prop := PT X e (TDB X.K W t)
def PDW (X : Cx) (W : WX) (e : Expr) (t : AB) : Prop := PW X e (TDB X.K W t)
theorem imE {X : Cx} {e : Expr} {t t' : TE} (h : PE X e t) (i : ∀ σ H Q, t' σ H Q → t σ H Q) : PE X e t' := ⟨fun pins s σ H Q I q => h.run pins s σ H Q I (i σ H Q q)⟩
theorem imA {X : Cx} {e : List Expr} {t t' : TA} (h : PA X e t) (i : ∀ σ H Q, t' σ H Q → t σ H Q) : PA X e t' := ⟨fun pos pins s σ H Q I q => h.run pos pins s σ H Q I (i σ H Q q)⟩
theorem imT {X : Cx} {e : Expr} {t t' : TT} (h : PT X e t) (i : ∀ σ H Q, t' σ H Q → t σ H Q) : PT X e t' := ⟨fun pins s σ H Q I q => h.run pins s σ H Q I (i σ H Q q)⟩
theorem imW {X : Cx} {e : Expr} {t t' : TT} (h : PW X e t) (i : ∀ σ H Q, t' σ H Q → t σ H Q) : PW X e t' := ⟨fun wh pins s σ H Q I q => h.run wh pins s σ H Q I (i σ H Q q)⟩
theorem imS {X : Cx} {e : Stmt} {t t' : TS} (h : PS X e t) (i : ∀ D σ H, t' D σ H → t D σ H) : PS X e t' := ⟨fun pins s σ H D I q => h.run pins s σ H D I (i D σ H q)⟩
theorem imSs {X : Cx} {e : List Stmt} {t t' : TS} (h : PSs X e t) (i : ∀ D σ H, t' D σ H → t D σ H) : PSs X e t' := ⟨fun pins s σ H D I q => h.run pins s σ H D I (i D σ H q)⟩
def aVar (i : Nat) : AT := fun x δ r P => match lk δ i with | some d => P d r | none => False
def aC (d : D) : AT := fun x _ r P => P d r
section
variable {X : Cx} {W : WX}
theorem td_var {K : PySem.W.Frag} {W : WX} {i : Nat} {σ : St} {H : Hp} {Q : VK} (q : TD K W (aVar i) σ H Q) : tVar i σ H Q := by
  obtain ⟨XR, δ, r, P, o, h, k⟩ := q
  unfold aVar at h
  split at h
  · rename_i d hd
    obtain ⟨v, h1, h2⟩ := o.env i d (lk_get hd)
    exact ⟨v, h1, k d r v H h o Kp.refl h2⟩
  · exact h.elim
theorem dv (i : Nat) {x : Str} {pos : Pos} (hN : X.N[i]? = some x := by rfl) (hv : Vis X.env.scope x := by first | exact Or.inl rfl | exact Or.inr (Or.inl rfl) | exact Or.inr (Or.inr rfl)) (hd : (x == ("__debug__" : Str)) = false := by decide)
    (hcd : (x == ("__classdict__" : Str)) = false := by decide) : PD X W (.Name x pos) (aVar i) := imE (pe_var hN hv hd hcd) fun _ _ _ q => td_var q
theorem td_c {K : PySem.W.Frag} {W : WX} {d : D} {v : V} {σ : St} {H : Hp} {Q : VK} (hv : ∀ M H, Is K M H v d) (q : TD K W (aC d) σ H Q) : tC v σ H Q := by
  obtain ⟨XR, δ, r, P, o, h, k⟩ := q
  exact k d r v H h o Kp.refl (hv _ _)
theorem d_int {i j pos} : PD X W (.Constant (.int i) j pos) (aC (.int i)) := imE pe_int fun _ _ _ q => td_c (fun _ _ => .int i) q
theorem d_bl {i j pos} : PD X W (.Constant (.bool i) j pos) (aC (.bl i)) := imE pe_bl fun _ _ _ q => td_c (fun _ _ => .bl i) q
theorem d_non {j pos} : PD X W (.Constant .none j pos) (aC .non) := imE pe_non fun _ _ _ q => td_c (fun _ _ => .non) q
def sokB (x : Str) : Bool := PyData.strOk x && decide (x.length ≤ 1000000)
theorem sok_of {x : Str} (h : sokB x = true) : sok x := by
  unfold sokB at h
  rw [Bool.and_eq_true, decide_eq_true_eq] at h
  exact h
theorem d_str {x j pos} (h : sokB x = true := by decide +kernel) : PD X W (.Constant (.str x) j pos) (aC (.str x)) := imE pe_str fun _ _ _ q => td_c (fun _ _ => .str (sok_of h)) q
/-- a constant of the module: a text, a number -/
theorem d_glob {x : Str} {v : V} {d : D} {u : Value} {pos : Pos} (hg : Gl X x) (hm : X.mg x = some u) (r : RelV v u) (hd : ∀ M H, Is X.K M H v d) (hdb : (x == ("__debug__" : Str)) = false := by decide) : PD X W (.Name x pos) (aC d) :=
  imE (pe_glob hg hm r hdb) fun _ _ _ q => td_c hd q
def aNil : AL := fun x _ r P => P [] r
def aCons (t : AT) (l : AL) : AL := fun x δ r P => t x δ r fun d r1 => l x δ r1 fun ds r2 => P (d :: ds) r2
theorem dl_nil : PDL X W [] aNil := imA pa_nil fun σ H Q q => by
  obtain ⟨XR, δ, r, P, o, h, k⟩ := q
  exact k [] r [] H h o Kp.refl .nil
theorem td_bind {K : PySem.W.Frag} {W : WX} {XR : XT} {σ : St} {H : Hp} {δ : Dl} {r : Rs} {t : AT} {P : PK1} {Q : VK} (o : Ok K W XR r δ σ H) (h : t XR δ r P) (k : ∀ d r' v H', P d r' → Ok K W XR r' δ σ H' → Kp K r H r' H' → Is K (mem r') H' v d → Q v H') : TD K W t σ H Q := ⟨XR, δ, r, P, o, h, k⟩
theorem tdl_bind {K : PySem.W.Frag} {W : WX} {XR : XT} {σ : St} {H : Hp} {δ : Dl} {r : Rs} {t : AL} {P : List D → Rs → Prop} {Q : List V → Hp → Prop} (o : Ok K W XR r δ σ H) (h : t XR δ r P) (k : ∀ d r' v H', P d r' → Ok K W XR r' δ σ H' → Kp K r H r' H' → IsAll K (mem r') H' v d → Q v H') : TDL K W t σ H Q := ⟨XR, δ, r, P, o, h, k⟩
theorem dl_cons {e : Expr} {es : List Expr} {t : AT} {l : AL} (ha : PD X W e t) (hr : PDL X W es l) (hs : starEach (e :: es) X.env = (false, eval e X.env) :: starEach es X.env := by rfl) : PDL X W (e :: es) (aCons t l) := imA (pa_cons ha hr hs) fun σ H Q q => by
  obtain ⟨XR, δ, r, P, o, h, k⟩ := q
  refine td_bind o h fun d r1 v H1 h1 o1 k1 i1 => tdl_bind o1 h1 fun ds r2 vs H2 h2 o2 k2 i2 => ?_
  exact k (d :: ds) r2 _ H2 h2 o2 (k1.trans k2) (.cons (k2 _ _ i1) i2)
/-- *e in an argument list -/
def aStar (t : AT) (l : AL) : AL := fun x δ r P => t x δ r fun d r1 => match d with
  | .lst xs => l x δ r1 fun ds r2 => P (xs ++ ds) r2
  | .tup xs => l x δ r1 fun ds r2 => P (xs ++ ds) r2
  | _ => False
theorem dl_star {e : Expr} {es : List Expr} {p : Pos} {t : AT} {l : AL} (ha : PD X W e t) (hr : PDL X W es l) (hs : starEach (.Starred e p :: es) X.env = (true, eval e X.env) :: starEach es X.env := by rfl) : PDL X W (.Starred e p :: es) (aStar t l) := imA (StX.pa_star ha hr hs) fun σ H Q q => by
  obtain ⟨XR, δ, r, P, o, h, k⟩ := q
  refine td_bind o h fun d r1 v H1 h1 o1 k1 i1 => ?_
  cases i1 with
  | lst n s a => exact ⟨_, _, rfl, .inr (SqL.of s), tdl_bind o1 h1 fun ds r2 vs H2 h2 o2 k2 i2 => k _ r2 _ H2 h2 o2 (k1.trans k2) ((k2.all a).append i2)⟩
  | tup s a => exact ⟨_, _, rfl, .inl s, tdl_bind o1 h1 fun ds r2 vs H2 h2 o2 k2 i2 => k _ r2 _ H2 h2 o2 (k1.trans k2) ((k2.all a).append i2)⟩
  | _ => exact h1.elim
def small (n : Nat) : Prop := n ≤ 1000000
theorem small.sz {n : Nat} (h : small n) : n ≤ sizeLine := Nat.le_trans h (by decide)
theorem not_al {K : PySem.W.Frag} {r : Rs} {H : Hp} {p : Addr} (h : Rok K r H) (hp : H p = none) : ¬ mem r p := fun z => by
  obtain ⟨o, e⟩ := hold_al h p z
  rw [hp] at e
  cases e
def aTup (l : AL) : AT := fun x δ r P => l x δ r fun ds r1 => small ds.length ∧ P (.tup ds) r1
def aLst (l : AL) : AT := fun x δ r P => l x δ r fun ds r1 => small ds.length ∧ P (.lst ds) r1
theorem new_tup {K : PySem.W.Frag} {r : Rs} {H : Hp} {p : Addr} {vs : List V} {ds : List D} (hp : H p = none) (i : IsAll K (mem r) H vs ds) : Is K (mem r) (upd H p (.tup vs)) (.ref p) (.tup ds) :=
  .tup (SqT.of upd_same) (Kp.all (r := r) (r' := r) (Kp.ext (Ext.new hp)) i)
theorem new_lst {K : PySem.W.Frag} {r : Rs} {H : Hp} {p : Addr} {vs : List V} {ds : List D} (hr : Rok K r H) (hp : H p = none) (i : IsAll K (mem r) H vs ds) : Is K (mem r) (upd H p (.lst vs)) (.ref p) (.lst ds) :=
  .lst (not_al hr hp) upd_same (Kp.all (r := r) (r' := r) (Kp.ext (Ext.new hp)) i)
theorem Ok.new {K : PySem.W.Frag} {W : WX} {XR : XT} {r : Rs} {δ : Dl} {σ : St} {H : Hp} {p : Addr} {u : HO} (o : Ok K W XR r δ σ H) (hp : H p = none) : Ok K W XR r δ σ (upd H p u) := o.step (Kp.ext (Ext.new hp)) (o.r.ext (Ext.new hp))
theorem d_tup {es : List Expr} {x1} {pos : Pos} {l : AL} (ha : PDL X W es l) : PD X W (.Tuple es x1 pos) (aTup l) := imE (pe_tup ha) fun σ H Q q => by
  obtain ⟨XR, δ, r, P, o, h, k⟩ := q
  refine tdl_bind o h fun ds r1 vs H1 h1 o1 k1 i1 => ⟨by rw [i1.length]; exact h1.1.sz, fun p hp => ?_⟩
  exact k _ r1 _ _ h1.2 (o1.new hp) (k1.trans (Kp.ext (Ext.new hp))) (new_tup hp i1)
theorem d_lst {es : List Expr} {pos : Pos} {l : AL} (ha : PDL X W es l) : PD X W (.List es pos) (aLst l) := imE (pe_lst ha) fun σ H Q q => by
  obtain ⟨XR, δ, r, P, o, h, k⟩ := q
  refine tdl_bind o h fun ds r1 vs H1 h1 o1 k1 i1 => ⟨by rw [i1.length]; exact h1.1.sz, fun p hp => ?_⟩
  exact k _ r1 _ _ h1.2 (o1.new hp) (k1.trans (Kp.ext (Ext.new hp))) (new_lst o1.r hp i1)
end
end G
namespace G
open PySem PySem.Spec L2
abbrev O2 := D → D → (D → Prop) → Prop
def rD (K : PySem.W.Frag) (o : O2) : R2 := fun x y H Q => ∃ (r : Rs) (d1 d2 : D) (P : D → Prop), Rok K r H ∧ Is K (mem r) H x d1 ∧ Is K (mem r) H y d2 ∧ o d1 d2 P ∧ ∀ d v H', P d → Ext H H' → Is K (mem r) H' v d → Q v H'
def aOp (o : O2) (ta tb : AT) : AT := fun x δ r P => ta x δ r fun d1 r1 => tb x δ r1 fun d2 r2 => o d1 d2 fun d => P d r2
section
variable {X : Cx} {W : WX} {a b c : Expr} {ta tb tc : AT} {pos : Pos}
theorem Ok.ext {K : PySem.W.Frag} {W : WX} {XR : XT} {r : Rs} {δ : Dl} {σ : L2.St} {H H' : Hp} (o : Ok K W XR r δ σ H) (e : Ext H H') : Ok K W XR r δ σ H' := o.step (Kp.ext e) (o.r.ext e)
theorem td_op {K : PySem.W.Frag} {W : WX} {o : O2} {ta tb : AT} {σ : L2.St} {H : Hp} {Q : VK} (q : TD K W (aOp o ta tb) σ H Q) : tOp (rD K o) (TD K W ta) (TD K W tb) σ H Q := by
  obtain ⟨XR, δ, r, P, ok, h, k⟩ := q
  refine td_bind ok h fun d1 r1 v1 H1 h1 o1 k1 i1 => td_bind o1 h1 fun d2 r2 v2 H2 h2 o2 k2 i2 => ?_
  exact ⟨r2, d1, d2, fun d => P d r2, o2.r, k2 _ _ i1, i2, h2, fun d v H' p e i => k d r2 v H' p (o2.ext e) ((k1.trans k2).trans (Kp.ext e)) i⟩
theorem d_bin {op : Operator} {o : O2} (ho : OpR X (binaryOp op) (rD X.K o)) (ha : PD X W a ta) (hb : PD X W b tb) : PD X W (.BinOp a op b pos) (aOp o ta tb) := imE (pe_op ho ha hb) fun _ _ _ q => td_op q
theorem d_cmp {op : CmpOp} {o : O2} (ho : OpR X (compareOp op) (rD X.K o)) (ha : PD X W a ta) (hb : PD X W b tb) (hm : behindInMarks op b = false := by first | exact nomark _ | with_unfolding_all rfl) : PD X W (.Compare a [op] [b] pos) (aOp o ta tb) :=
  imE (pe_cmpR ho ha hb hm) fun _ _ _ q => td_op q
/-- a value as a test: True or False -/
def aTest (t : AT) : AB := fun x δ r P => t x δ r fun d r1 => match d with | .bl b => P b r1 | _ => False
theorem tdb_test {K : PySem.W.Frag} {W : WX} {t : AT} {t0 : TE} {σ : L2.St} {H : Hp} {Q : Bool → Hp → Prop} (im : ∀ Q, TD K W t σ H Q → t0 σ H Q) (q : TDB K W (aTest t) σ H Q) : t0 σ H fun x H' => ∃ k, x = .bl k ∧ Q k H' := by
  obtain ⟨XR, δ, r, P, ok, h, k⟩ := q
  refine im _ (td_bind ok h fun d r1 v H1 h1 o1 k1 i1 => ?_)
  cases i1 with
  | bl b => exact ⟨b, rfl, k b r1 H1 h1 o1 k1⟩
  | _ => exact h1.elim
theorem b_cmp {op : CmpOp} {o : O2} (ho : OpR X (compareOp op) (rD X.K o)) (ha : PD X W a ta) (hb : PD X W b tb) (hm : behindInMarks op b = false := by first | exact nomark _ | with_unfolding_all rfl) : PDB X W (.Compare a [op] [b] pos) (aTest (aOp o ta tb)) :=
  imT (pt_cmpR ho ha hb hm) fun _ _ _ q => tdb_test (fun _ q => td_op q) q
/-- a value as a test: its truth -/
def truD : D → Option Bool
  | .non => some false | .bl b => some b | .int i => some (i != 0) | .str x => some ((x.length : Int) != 0) | .lst xs => some (!xs.isEmpty) | .tup xs => some (!xs.isEmpty) | _ => none
def aTru (t : AT) : AB := fun x δ r P => t x δ r fun d r1 => match truD d with | some b => P b r1 | none => False
theorem isEmpty_all {K : PySem.W.Frag} {N : Addr → Prop} {H : Hp} {xs : List V} {ds : List D} (h : IsAll K N H xs ds) : xs.isEmpty = ds.isEmpty := by cases h <;> rfl
theorem b_tru (ha : PD X W a ta) (he : ∀ whole, isTrue a X.env whole = (do let v ← whole; standAt a.pos; holding [v] (truthy v)) := by intro _; rfl) : PDB X W a (aTru ta) :=
  imT (pt_truth ha he) fun σ H Q q => by
    obtain ⟨XR, δ, r, P, ok, h, k⟩ := q
    refine td_bind ok h fun d r1 v H1 h1 o1 k1 i1 => ?_
    cases i1 with
    | non => exact ⟨false, rfl, k _ r1 H1 h1 o1 k1⟩
    | bl b => exact ⟨b, rfl, k _ r1 H1 h1 o1 k1⟩
    | int i => exact ⟨i != 0, rfl, k _ r1 H1 h1 o1 k1⟩
    | str s => exact ⟨_, ⟨Nat.le_trans s.2 (by decide), rfl⟩, k _ r1 H1 h1 o1 k1⟩
    | adr a => exact h1.elim
    | ins _ _ _ _ _ => exact h1.elim
    | dct _ _ _ _ => exact h1.elim
    | lst n s i => exact ⟨_, Or.inl ⟨_, SqL.of s, rfl⟩, k _ r1 H1 (by rw [isEmpty_all i]; exact h1) o1 k1⟩
    | tup s i => exact ⟨_, Or.inr (Or.inl ⟨_, s, rfl⟩), k _ r1 H1 (by rw [isEmpty_all i]; exact h1) o1 k1⟩
def oAdd : O2 := fun x y k => match x, y with
  | .int i, .int j => k (.int (i + j))
  | .str i, .str j => small (i.length + j.length) ∧ k (.str (i ++ j))
  | .lst i, .lst j => small (i.length + j.length) ∧ k (.lst (i ++ j))
  | .tup i, .tup j => small (i.length + j.length) ∧ k (.tup (i ++ j))
  | _, _ => False
theorem sok_append {i j : Str} (hi : sok i) (hj : sok j) (h : small (i.length + j.length)) : sok (i ++ j) := by
  obtain ⟨a, b⟩ := hi
  obtain ⟨c, d⟩ := hj
  refine ⟨?_, ?_⟩
  · show (i.cps ++ j.cps).all _ = true
    rw [Array.all_append]
    exact Bool.and_eq_true_iff.mpr ⟨a, c⟩
  · show (i.cps ++ j.cps).size ≤ _
    rw [Array.size_append]
    exact h
theorem all_nil {K : PySem.W.Frag} {N : Addr → Prop} {H : Hp} {xs : List V} {ds : List D} (h : IsAll K N H xs ds) : xs = [] ↔ ds = [] := by cases h <;> simp
theorem p_add : OpR X (binaryOp .Add) (rD X.K oAdd) := by
  rintro pins s σ H x y v u Q I rx ry ⟨r, d1, d2, P, hr, i1, i2, ho, k⟩
  cases i1 <;> cases i2 <;> try exact ho.elim
  · exact op_add pins s σ H _ _ v u Q I rx ry ⟨_, _, rfl, rfl, k _ _ H ho (Ext.refl H) (.int _)⟩
  · rename_i s1 _ s2
    exact op_add_str pins s σ H _ _ v u Q I rx ry ⟨_, _, rfl, rfl, ho.1.sz, k _ _ H ho.2 (Ext.refl H) (.str (sok_append s1 s2 ho.1))⟩
  · rename_i n1 h1 a1 _ _ _ n2 h2 a2
    exact op_cat pins s σ H _ _ v u Q I rx ry ⟨_, _, _, _, rfl, rfl, h1, h2, by rw [a1.length, a2.length]; exact ho.1.sz, fun p hp => k _ _ _ ho.2 (Ext.new hp) (new_lst hr hp (a1.append a2))⟩
  · rename_i h1 a1 _ _ _ h2 a2
    refine op_catA pins s σ H _ _ v u Q I rx ry ⟨_, _, _, _, rfl, rfl, h1, h2, by rw [a1.length, a2.length]; exact ho.1.sz, fun z => ?_, fun _ z => ?_, fun _ z p hp => k _ _ _ ho.2 (Ext.new hp) (new_tup hp (a1.append a2))⟩
    · have e := (all_nil a1).mp z
      subst e
      exact k _ _ H ho.2 (Ext.refl H) (.tup h2 a2)
    · have e := (all_nil a2).mp z
      subst e
      have q := ho.2
      rw [List.append_nil] at q
      exact k _ _ H q (Ext.refl H) (.tup h1 a1)
def oSub : O2 := fun x y k => match x, y with | .int i, .int j => k (.int (i - j)) | _, _ => False
theorem p_sub : OpR X (binaryOp .Sub) (rD X.K oSub) := by
  rintro pins s σ H x y v u Q I rx ry ⟨r, d1, d2, P, hr, i1, i2, ho, k⟩
  cases i1 <;> cases i2 <;> try exact ho.elim
  exact op_sub pins s σ H _ _ v u Q I rx ry ⟨_, _, rfl, rfl, k _ _ H ho (Ext.refl H) (.int _)⟩
def oCmp (f : Int → Int → Bool) (g : Str → Str → Bool) : O2 := fun x y k => match x, y with | .int i, .int j => k (.bl (f i j)) | .str i, .str j => k (.bl (g i j)) | _, _ => False
abbrev oLt : O2 := oCmp (fun i j => decide (i < j)) (fun i j => decide (i.cps.toList < j.cps.toList))
abbrev oLe : O2 := oCmp (fun i j => decide (i ≤ j)) (fun i j => !decide (j.cps.toList < i.cps.toList))
abbrev oGt : O2 := oCmp (fun i j => decide (j < i)) (fun i j => decide (j.cps.toList < i.cps.toList))
theorem p_lt : OpR X (compareOp .Lt) (rD X.K oLt) := by
  rintro pins s σ H x y v u Q I rx ry ⟨r, d1, d2, P, hr, i1, i2, ho, k⟩
  cases i1 <;> cases i2 <;> try exact ho.elim
  · exact op_lt pins s σ H _ _ v u Q I rx ry ⟨_, _, rfl, rfl, k _ _ H ho (Ext.refl H) (.bl _)⟩
  · exact op_lt_str pins s σ H _ _ v u Q I rx ry ⟨_, _, rfl, rfl, k _ _ H ho (Ext.refl H) (.bl _)⟩
theorem p_le : OpR X (compareOp .LtE) (rD X.K oLe) := by
  rintro pins s σ H x y v u Q I rx ry ⟨r, d1, d2, P, hr, i1, i2, ho, k⟩
  cases i1 <;> cases i2 <;> try exact ho.elim
  · exact op_le pins s σ H _ _ v u Q I rx ry ⟨_, _, rfl, rfl, k _ _ H ho (Ext.refl H) (.bl _)⟩
  · exact op_le_str pins s σ H _ _ v u Q I rx ry ⟨_, _, rfl, rfl, k _ _ H ho (Ext.refl H) (.bl _)⟩
theorem p_gt : OpR X (compareOp .Gt) (rD X.K oGt) := by
  rintro pins s σ H x y v u Q I rx ry ⟨r, d1, d2, P, hr, i1, i2, ho, k⟩
  cases i1 <;> cases i2 <;> try exact ho.elim
  · exact op_gt pins s σ H _ _ v u Q I rx ry ⟨_, _, rfl, rfl, k _ _ H ho (Ext.refl H) (.bl _)⟩
  · exact op_gt_str pins s σ H _ _ v u Q I rx ry ⟨_, _, rfl, rfl, k _ _ H ho (Ext.refl H) (.bl _)⟩
def isNonD : D → Bool | .non => true | _ => false
def oIs : O2 := fun x y k => match y with | .non => k (.bl (isNonD x)) | _ => False
theorem dec_non {K : PySem.W.Frag} {N : Addr → Prop} {H : Hp} {v : V} {d : D} (h : Is K N H v d) : decide (v = V.non) = isNonD d := by cases h <;> rfl
theorem p_is : OpR X (compareOp .Is) (rD X.K oIs) := by
  rintro pins s σ H x y v u Q I rx ry ⟨r, d1, d2, P, hr, i1, i2, ho, k⟩
  cases i2 <;> try exact ho.elim
  exact op_isN pins s σ H _ _ v u Q I rx ry ⟨rfl, by rw [dec_non i1]; exact k _ _ H ho (Ext.refl H) (.bl _)⟩
mutual
def py : D → PyData
  | .non => .none | .bl b => .bool b | .int i => .int i | .str x => .str x | .adr _ => .dict [] | .ins _ _ _ => .dict [] | .dct _ _ => .dict [] | .lst ds => .list (pys ds) | .tup ds => .tuple (pys ds)
def pys : List D → List PyData
  | [] => []
  | d :: ds => py d :: pys ds
end
mutual
def dep : D → Nat
  | .adr _ => 1000 | .ins _ _ _ => 1000 | .dct _ _ => 1000 | .lst ds => deps ds + 1 | .tup ds => deps ds + 1 | _ => 0
def deps : List D → Nat
  | [] => 0
  | d :: ds => max (dep d) (deps ds)
end
mutual
theorem dep_py {K : PySem.W.Frag} {N : Addr → Prop} {H : Hp} : ∀ (d : D) (v : V), Is K N H v d → dep d ≤ 64 → Dp K H v (py d) ∧ (py d).canLay0 = true ∧ (py d).depth ≤ dep d
  | .non, _, h, _ => by cases h; exact ⟨.non, rfl, by simp [py, PyData.depth]⟩
  | .bl b, _, h, _ => by cases h; exact ⟨.bl b, rfl, by simp [py, PyData.depth]⟩
  | .int i, _, h, _ => by cases h; exact ⟨.int i, rfl, by simp [py, PyData.depth]⟩
  | .str x, _, h, _ => by cases h with | str o => exact ⟨.str x, by simp only [py, PyData.canLay0]; exact o.1, by simp [py, PyData.depth]⟩
  | .adr a, _, h, l => by simp [dep] at l
  | .ins _ _ _, _, h, l => by simp [dep] at l
  | .dct _ _, _, h, l => by simp [dep] at l
  | .lst ds, _, h, l => by
    cases h with
    | lst n s i =>
      have l' : deps ds ≤ 64 := by simp only [dep] at l; omega
      obtain ⟨a, b, c⟩ := deps_py ds _ i l'
      exact ⟨by simp only [py]; exact .lst (SqL.of s) a, by simp only [py, PyData.canLay0]; exact b, by simp only [py, PyData.depth, dep]; omega⟩
  | .tup ds, _, h, l => by
    cases h with
    | tup s i =>
      have l' : deps ds ≤ 64 := by simp only [dep] at l; omega
      obtain ⟨a, b, c⟩ := deps_py ds _ i l'
      exact ⟨by simp only [py]; exact .tup s a, by simp only [py, PyData.canLay0]; exact b, by simp only [py, PyData.depth, dep]; omega⟩
theorem deps_py {K : PySem.W.Frag} {N : Addr → Prop} {H : Hp} : ∀ (ds : List D) (vs : List V), IsAll K N H vs ds → deps ds ≤ 64 → DpAll K H vs (pys ds) ∧ PyData.canLayAll0 (pys ds) = true ∧ PyData.depthAll (pys ds) ≤ deps ds
  | [], _, h, _ => by cases h; exact ⟨by simp only [pys]; exact .nil, rfl, by simp [pys, PyData.depthAll]⟩
  | d :: ds, _, h, l => by
    cases h with
    | cons h1 h2 =>
      have l1 : dep d ≤ 64 := by simp only [deps] at l; omega
      have l2 : deps ds ≤ 64 := by simp only [deps] at l; omega
      obtain ⟨a, b, c⟩ := dep_py d _ h1 l1
      obtain ⟨a', b', c'⟩ := deps_py ds _ h2 l2
      exact ⟨by simp only [pys]; exact .cons a a', by simp only [pys, PyData.canLayAll0]; rw [b, b']; rfl, by simp only [pys, PyData.depthAll, deps]; omega⟩
end
theorem shaped_py {K : PySem.W.Frag} {N : Addr → Prop} {H : Hp} {d : D} {v : V} (h : Is K N H v d) (l : dep d ≤ 64) : Dp K H v (py d) ∧ SeqAt.shaped (py d) = true := by
  obtain ⟨a, b, c⟩ := dep_py d v h l
  exact ⟨a, by unfold SeqAt.shaped; rw [b]; exact decide_eq_true (by omega)⟩
def eqD (a b : D) : Bool := PyData.eqv (py a) (py b)
def oEq : O2 := fun x y k => dep x ≤ 64 ∧ dep y ≤ 64 ∧ k (.bl (eqD x y))
def oNe : O2 := fun x y k => dep x ≤ 64 ∧ dep y ≤ 64 ∧ k (.bl (!eqD x y))
theorem p_eq (hu : X.A.units + 64 < cLine) : OpR X (compareOp .Eq) (rD X.K oEq) := by
  rintro pins s σ H x y v u Q I rx ry ⟨r, d1, d2, P, hr, i1, i2, ho, k⟩
  obtain ⟨a1, b1⟩ := shaped_py i1 ho.1
  obtain ⟨a2, b2⟩ := shaped_py i2 ho.2.1
  exact op_eqD hu pins s σ H _ _ v u Q I rx ry ⟨_, _, a1, a2, b1, b2, k _ _ H ho.2.2 (Ext.refl H) (.bl _)⟩
theorem p_ne (hu : X.A.units + 64 < cLine) : OpR X (compareOp .NotEq) (rD X.K oNe) := by
  rintro pins s σ H x y v u Q I rx ry ⟨r, d1, d2, P, hr, i1, i2, ho, k⟩
  obtain ⟨a1, b1⟩ := shaped_py i1 ho.1
  obtain ⟨a2, b2⟩ := shaped_py i2 ho.2.1
  exact op_neD hu pins s σ H _ _ v u Q I rx ry ⟨_, _, a1, a2, b1, b2, k _ _ H ho.2.2 (Ext.refl H) (.bl _)⟩
def flat : D → Bool | .non => true | .bl _ => true | .int _ => true | .str _ => true | _ => false
theorem flat_V {K : PySem.W.Frag} {N : Addr → Prop} {H : Hp} {v : V} {d : D} (h : Is K N H v d) (f : flat d = true) : flatV v = true := by cases h <;> first | rfl | cases f
theorem flat_all {K : PySem.W.Frag} {N : Addr → Prop} {H : Hp} : ∀ {vs : List V} {ds : List D}, IsAll K N H vs ds → ds.all flat = true → vs.all flatV = true
  | _, _, .nil, _ => rfl
  | _, _, .cons h t, f => by
    rw [List.all_cons, Bool.and_eq_true] at f ⊢
    exact ⟨flat_V h f.1, flat_all t f.2⟩
theorem eqV_D {K : PySem.W.Frag} {N : Addr → Prop} {H : Hp} {v w : V} {d e : D} (h : Is K N H v d) (g : Is K N H w e) (f : flat d = true) (f' : flat e = true) : eqV v w = eqD d e := by
  cases h <;> cases g <;> first | rfl | cases f | cases f' | (simp [eqV, eqD, py, PyData.eqv])
theorem any_D {K : PySem.W.Frag} {N : Addr → Prop} {H : Hp} {v : V} {d : D} (h : Is K N H v d) (f : flat d = true) : ∀ {vs : List V} {ds : List D}, IsAll K N H vs ds → ds.all flat = true → inV v vs = ds.any fun z => eqD z d
  | _, _, .nil, _ => rfl
  | _, _, .cons g t, q => by
    rw [List.all_cons, Bool.and_eq_true] at q
    have ih := any_D h f t q.2
    unfold inV at ih ⊢
    rw [List.any_cons, List.any_cons, ih, eqV_D g h q.1 f]
theorem any_pys (d : D) : ∀ ds : List D, ((pys ds).any fun z => PyData.eqv z (py d)) = ds.any fun z => eqD z d
  | [] => rfl
  | e :: ds => by simp only [pys, List.any_cons]; rw [any_pys d ds]; rfl
def memD (d : D) (ds : List D) : Bool := ds.any fun z => eqD z d
def sub1 : Str → Option Nat | ⟨⟨[c]⟩⟩ => some c | _ => none
/-- in: flat things in a tuple or list; anything in a list; one sign in a text -/
def oInP (neg : Bool) : O2 := fun x y k => match y with
  | .lst ds => dep x ≤ 64 ∧ deps ds ≤ 63 ∧ k (.bl (cond neg (!memD x ds) (memD x ds)))
  | .tup ds => flat x = true ∧ ds.all flat = true ∧ k (.bl (cond neg (!memD x ds) (memD x ds)))
  | .str z => match x with
    | .str w => match sub1 w with
      | some c => k (.bl (cond neg (!decide (c ∈ z.cps.toList)) (decide (c ∈ z.cps.toList))))
      | none => k (.bl (cond neg (!(!(Builtin.Str.occurrences z w 0 z.length 1).isEmpty)) (!(Builtin.Str.occurrences z w 0 z.length 1).isEmpty)))
    | _ => False
  | _ => False
structure oIn (neg : Bool) (x y : D) (k : D → Prop) : Prop where
  ex : oInP neg x y k
theorem sub1_some {w : Str} {c : Nat} (h : sub1 w = some c) : w = ⟨#[c]⟩ := by
  obtain ⟨⟨l⟩⟩ := w
  match l, h with
  | [x], h => simp only [sub1] at h; cases h; rfl
theorem p_in (hu : X.A.units + 65 < cLine) : OpR X (compareOp .In) (rD X.K (oIn false)) := by
  rintro pins s σ H x y v u Q I rx ry ⟨r, d1, d2, P, hr, i1, i2, ho, k⟩
  obtain ⟨ho⟩ := ho
  cases i2 <;> try exact ho.elim
  · rename_i z hz
    cases i1 <;> try exact ho.elim
    rename_i w hw
    simp only [oInP] at ho
    split at ho
    · rename_i c hc
      have e := sub1_some hc
      subst e
      exact op_in_sign pins s σ H _ _ v u Q I rx ry ⟨_, _, rfl, rfl, k _ _ H ho (Ext.refl H) (.bl _)⟩
    · exact op_in_str pins s σ H _ _ v u Q I rx ry ⟨_, _, rfl, rfl, k _ _ H ho (Ext.refl H) (.bl _)⟩
  · rename_i n h a
    obtain ⟨a1, b1⟩ := shaped_py i1 ho.1
    obtain ⟨a2, b2⟩ := shaped_py (N := mem r) (.lst n h a) (by simp only [dep]; have := ho.2.1; omega)
    simp only [py] at a2 b2
    refine op_inD hu pins s σ H _ _ v u Q I rx ry ⟨_, _, a1, a2, b1, b2, ?_⟩
    rw [any_pys]
    exact k _ _ H ho.2.2 (Ext.refl H) (.bl _)
  · rename_i h a
    refine op_in_seq pins s σ H _ _ v u Q I rx ry ⟨_, _, rfl, .inr h, flat_V i1 ho.1, flat_all a ho.2.1, ?_⟩
    rw [if_neg Bool.false_ne_true, any_D i1 ho.1 a ho.2.1]
    exact k _ _ H ho.2.2 (Ext.refl H) (.bl _)
theorem p_notIn (hu : X.A.units + 65 < cLine) : OpR X (compareOp .NotIn) (rD X.K (oIn true)) := by
  rintro pins s σ H x y v u Q I rx ry ⟨r, d1, d2, P, hr, i1, i2, ho, k⟩
  obtain ⟨ho⟩ := ho
  cases i2 <;> try exact ho.elim
  · rename_i z hz
    cases i1 <;> try exact ho.elim
    rename_i w hw
    simp only [oInP] at ho
    split at ho
    · rename_i c hc
      have e := sub1_some hc
      subst e
      exact op_notIn_sign pins s σ H _ _ v u Q I rx ry ⟨_, _, rfl, rfl, k _ _ H ho (Ext.refl H) (.bl _)⟩
    · exact op_notin_str pins s σ H _ _ v u Q I rx ry ⟨_, _, rfl, rfl, k _ _ H ho (Ext.refl H) (.bl _)⟩
  · rename_i n h a
    obtain ⟨a1, b1⟩ := shaped_py i1 ho.1
    obtain ⟨a2, b2⟩ := shaped_py (N := mem r) (.lst n h a) (by simp only [dep]; have := ho.2.1; omega)
    simp only [py] at a2 b2
    refine op_notInD hu pins s σ H _ _ v u Q I rx ry ⟨_, _, a1, a2, b1, b2, ?_⟩
    rw [any_pys]
    exact k _ _ H ho.2.2 (Ext.refl H) (.bl _)
  · rename_i h a
    refine op_notIn_seq pins s σ H _ _ v u Q I rx ry ⟨_, _, rfl, .inr h, flat_V i1 ho.1, flat_all a ho.2.1, ?_⟩
    rw [if_pos rfl, any_D i1 ho.1 a ho.2.1]
    exact k _ _ H ho.2.2 (Ext.refl H) (.bl _)
end
end G
namespace G
open PySem PySem.Spec L2
section
variable {X : Cx} {W : WX} {a b c : Expr} {ta tb tc : AT} {pos : Pos}
theorem tdb_bind {K : PySem.W.Frag} {W : WX} {XR : XT} {σ : L2.St} {H : Hp} {δ : Dl} {r : Rs} {t : AB} {P : Bool → Rs → Prop} {Q : Bool → Hp → Prop} (o : Ok K W XR r δ σ H) (h : t XR δ r P) (k : ∀ d r' H', P d r' → Ok K W XR r' δ σ H' → Kp K r H r' H' → Q d H') : TDB K W t σ H Q := ⟨XR, δ, r, P, o, h, k⟩
section
variable {K : PySem.W.Frag}
def bAnd (t u : AB) : AB := fun x δ r P => t x δ r fun b r1 => (b = true → u x δ r1 P) ∧ (b = false → P false r1)
def bOr (t u : AB) : AB := fun x δ r P => t x δ r fun b r1 => (b = true → P true r1) ∧ (b = false → u x δ r1 P)
def bNot (t : AB) : AB := fun x δ r P => t x δ r fun b r1 => P (!b) r1
def aAnd (t u : AT) : AT := fun x δ r P => t x δ r fun d r1 => match d with | .bl b => (b = true → u x δ r1 P) ∧ (b = false → P (.bl false) r1) | _ => False
def aNot (t : AT) : AT := fun x δ r P => t x δ r fun d r1 => match d with | .bl b => P (.bl (!b)) r1 | _ => False
def aIf (t : AB) (u w : AT) : AT := fun x δ r P => t x δ r fun b r1 => (b = true → u x δ r1 P) ∧ (b = false → w x δ r1 P)
end
variable {bA bB : AB} {rest : List Expr}
theorem w_and1 (ha : PDB X W a bA) : PDW X W (.BoolOp .And [a] pos) bA := pw_and1 ha
theorem w_or1 (ha : PDB X W a bA) : PDW X W (.BoolOp .Or [a] pos) bA := pw_or1 ha
theorem w_and (ha : PDB X W a bA) (hb : PDW X W (.BoolOp .And (b :: rest) pos) bB) : PDW X W (.BoolOp .And (a :: b :: rest) pos) (bAnd bA bB) := imW (pw_and ha hb) fun σ H Q q => by
  obtain ⟨XR, δ, r, P, ok, h, k⟩ := q
  refine tdb_bind ok h fun d r1 H1 h1 o1 k1 => ?_
  cases d with
  | true => exact tdb_bind o1 (h1.1 rfl) fun d r2 H2 h2 o2 k2 => k d r2 H2 h2 o2 (k1.trans k2)
  | false => exact k _ r1 H1 (h1.2 rfl) o1 k1
theorem w_or (ha : PDB X W a bA) (hb : PDW X W (.BoolOp .Or (b :: rest) pos) bB) : PDW X W (.BoolOp .Or (a :: b :: rest) pos) (bOr bA bB) := imW (pw_or ha hb) fun σ H Q q => by
  obtain ⟨XR, δ, r, P, ok, h, k⟩ := q
  refine tdb_bind ok h fun d r1 H1 h1 o1 k1 => ?_
  cases d with
  | false => exact tdb_bind o1 (h1.2 rfl) fun d r2 H2 h2 o2 k2 => k d r2 H2 h2 o2 (k1.trans k2)
  | true => exact k _ r1 H1 (h1.1 rfl) o1 k1
theorem b_w (h : PDW X W a bA) : PDB X W a bA := PW.pt h
theorem b_not (ha : PDB X W a bA) : PDB X W (.UnaryOp .Not a pos) (bNot bA) := imT (pt_not ha) fun σ H Q q => by
  obtain ⟨XR, δ, r, P, ok, h, k⟩ := q
  exact tdb_bind ok h fun d r1 H1 h1 o1 k1 => k _ r1 H1 h1 o1 k1
theorem d_one {op} (h : PD X W a ta) : PD X W (.BoolOp op [a] pos) ta := pe_one h
theorem d_and (ha : PD X W a ta) (hb : PD X W (.BoolOp .And (b :: rest) pos) tb) : PD X W (.BoolOp .And (a :: b :: rest) pos) (aAnd ta tb) := imE (pe_and ha hb) fun σ H Q q => by
  obtain ⟨XR, δ, r, P, ok, h, k⟩ := q
  refine td_bind ok h fun d r1 v H1 h1 o1 k1 i1 => ?_
  cases i1 <;> try exact h1.elim
  rename_i d
  refine ⟨d, rfl, ?_⟩
  cases d with
  | true => exact td_bind o1 (h1.1 rfl) fun d r2 v H2 h2 o2 k2 i2 => k d r2 v H2 h2 o2 (k1.trans k2) i2
  | false => exact k _ r1 _ H1 (h1.2 rfl) o1 k1 (.bl _)
theorem d_not (ha : PD X W a ta) : PD X W (.UnaryOp .Not a pos) (aNot ta) := imE (pe_not ha) fun σ H Q q => by
  obtain ⟨XR, δ, r, P, ok, h, k⟩ := q
  refine td_bind ok h fun d r1 v H1 h1 o1 k1 i1 => ?_
  cases i1 <;> try exact h1.elim
  exact ⟨_, rfl, k _ r1 _ H1 h1 o1 k1 (.bl _)⟩
theorem d_if (hc : PDB X W c bA) (ha : PD X W a ta) (hb : PD X W b tb) : PD X W (.IfExp c a b pos) (aIf bA ta tb) := imE (pe_ifExp hc ha hb) fun σ H Q q => by
  obtain ⟨XR, δ, r, P, ok, h, k⟩ := q
  refine tdb_bind ok h fun d r1 H1 h1 o1 k1 => ?_
  cases d with
  | true => exact td_bind o1 (h1.1 rfl) fun d r2 v H2 h2 o2 k2 i2 => k d r2 v H2 h2 o2 (k1.trans k2) i2
  | false => exact td_bind o1 (h1.2 rfl) fun d r2 v H2 h2 o2 k2 i2 => k d r2 v H2 h2 o2 (k1.trans k2) i2
def oNeg (x : D) (k : D → Prop) : Prop := match x with | .int i => k (.int (-i)) | _ => False
def aNeg (t : AT) : AT := fun x δ r P => t x δ r fun d r1 => oNeg d fun d => P d r1
theorem d_neg (ha : PD X W a ta) : PD X W (.UnaryOp .USub a pos) (aNeg ta) := imE (pe_un un_neg ha) fun σ H Q q => by
  obtain ⟨XR, δ, r, P, ok, h, k⟩ := q
  refine td_bind ok h fun d r1 v H1 h1 o1 k1 i1 => ?_
  cases i1 <;> try exact h1.elim
  exact ⟨_, rfl, k _ r1 _ H1 h1 o1 k1 (.int _)⟩
/-- a < b <= c -/
def aChain (o o' : O2) (ta tb tc : AT) : AT := fun x δ r P => ta x δ r fun d1 r1 => tb x δ r1 fun d2 r2 => o d1 d2 fun d => match d with
  | .bl b => (b = true → tc x δ r2 fun d3 r3 => o' d2 d3 fun d => P d r3) ∧ (b = false → P (.bl false) r2)
  | _ => False
theorem td_chain {K : PySem.W.Frag} {W : WX} {o o' : O2} {ta tb tc : AT} {σ : L2.St} {H : Hp} {Q : VK} (q : TD K W (aChain o o' ta tb tc) σ H Q) : tChain (rD K o) (rD K o') (TD K W ta) (TD K W tb) (TD K W tc) σ H Q := by
  obtain ⟨XR, δ, r, P, ok, h, k⟩ := q
  refine td_bind ok h fun d1 r1 v1 H1 h1 o1 k1 i1 => td_bind o1 h1 fun d2 r2 v2 H2 h2 o2 k2 i2 => ?_
  refine ⟨r2, d1, d2, _, o2.r, k2 _ _ i1, i2, h2, fun d v H' p e i => ?_⟩
  cases i <;> try exact p.elim
  rename_i d
  refine ⟨d, rfl, ?_⟩
  cases d with
  | true =>
    show TD K W tc σ H' _
    refine td_bind (o2.ext e) (p.1 rfl) fun d3 r3 v3 H3 h3 o3 k3 i3 => ?_
    exact ⟨r3, d2, d3, fun d => P d r3, o3.r, k3 _ _ (is_ext e _ _ i2), i3, h3, fun d v H' p e' i => k d r3 v H' p (o3.ext e') ((((k1.trans k2).trans (Kp.ext e)).trans k3).trans (Kp.ext e')) i⟩
  | false => exact k _ r2 _ H' (p.2 rfl) (o2.ext e) ((k1.trans k2).trans (Kp.ext e)) (.bl _)
theorem d_chain {op op' : CmpOp} {o o' : O2} (ho : OpR X (compareOp op) (rD X.K o)) (ho' : OpR X (compareOp op') (rD X.K o')) (ha : PD X W a ta) (hb : PD X W b tb) (hc : PD X W c tc)
    (hm : lastMarks [op, op'] [b, c] = false := by with_unfolding_all rfl) : PD X W (.Compare a [op, op'] [b, c] pos) (aChain o o' ta tb tc) := imE (pe_chain ho ho' ha hb hc hm) fun _ _ _ q => td_chain q
theorem b_chain {op op' : CmpOp} {o o' : O2} (ho : OpR X (compareOp op) (rD X.K o)) (ho' : OpR X (compareOp op') (rD X.K o')) (ha : PD X W a ta) (hb : PD X W b tb) (hc : PD X W c tc)
    (hm : lastMarks [op, op'] [b, c] = false := by with_unfolding_all rfl) : PDB X W (.Compare a [op, op'] [b, c] pos) (aTest (aChain o o' ta tb tc)) := imT (pt_chain ho ho' ha hb hc hm) fun _ _ _ q => tdb_test (fun _ q => td_chain q) q
def oIxP : O2 := fun x y k => match x, y with
  | .lst ds, .int i => match atI ds i with | some d => k d | none => False
  | .tup ds, .int i => match atI ds i with | some d => k d | none => False
  | .str z, .int i => match atI z.cps.toList i with | some c => k (.str ⟨#[c]⟩) | none => False
  | _, _ => False
structure oIx (x y : D) (k : D → Prop) : Prop where
  ex : oIxP x y k
theorem at_all {K : PySem.W.Frag} {N : Addr → Prop} {H : Hp} {vs : List V} {ds : List D} {i : Int} {d : D} (h : IsAll K N H vs ds) (e : atI ds i = some d) : ∃ v, atI vs i = some v ∧ Is K N H v d := by
  unfold atI at e ⊢
  rw [h.length]
  cases q : ixN ds.length i with
  | none => rw [q] at e; cases e
  | some j =>
    rw [q] at e
    exact h.getD e
theorem sok_sign {z : Str} {i : Int} {c : Nat} (h : sok z) (e : atI z.cps.toList i = some c) : sok ⟨#[c]⟩ := by
  refine ⟨?_, by show 1 ≤ 1000000; decide⟩
  unfold atI at e
  cases q : ixN z.cps.toList.length i with
  | none => rw [q] at e; cases e
  | some j =>
    rw [q] at e
    have hm := List.mem_of_getElem? e
    have h1 : z.cps.all (fun c => decide (c < 0x110000)) = true := h.1
    rw [← Array.all_toList, List.all_eq_true] at h1
    show (#[c] : Array Nat).all _ = true
    simpa using h1 c hm
theorem p_ix : IxR X (rD X.K oIx) := by
  rintro value slice pins s σ H x y v u Q I rx ry ⟨r, d1, d2, P, hr, i1, i2, ho, k⟩ hs
  obtain ⟨ho⟩ := ho
  cases i1 <;> cases i2 <;> try exact ho.elim
  · rename_i z hz i
    simp only [oIxP] at ho
    split at ho
    · rename_i c hc
      exact ix_str value slice pins s σ H _ _ v u Q I rx ry ⟨_, _, _, rfl, rfl, Nat.le_trans hz.2 (by decide), hc, k _ _ H ho (Ext.refl H) (.str (sok_sign hz hc))⟩ hs
    · exact ho.elim
  · rename_i n h a i
    simp only [oIxP] at ho
    split at ho
    · rename_i d hd
      obtain ⟨w, hw, iw⟩ := at_all a hd
      exact ix_list value slice pins s σ H _ _ v u Q I rx ry ⟨_, _, _, _, rfl, rfl, SqL.of h, hw, k _ _ H ho (Ext.refl H) iw⟩ hs
    · exact ho.elim
  · rename_i h a i
    simp only [oIxP] at ho
    split at ho
    · rename_i d hd
      obtain ⟨w, hw, iw⟩ := at_all a hd
      exact ix_tup value slice pins s σ H _ _ v u Q I rx ry ⟨_, _, _, _, rfl, rfl, h, hw, k _ _ H ho (Ext.refl H) iw⟩ hs
    · exact ho.elim
theorem d_ix (ha : PD X W a ta) (hb : PD X W b tb) (hs : PlainIx b := by exact fun _ _ => rfl) : PD X W (.Subscript a b pos) (aOp oIx ta tb) := imE (pe_ix p_ix ha hb hs) fun _ _ _ q => td_op q
abbrev AO := XT → Dl → Rs → (Option Int → Rs → Prop) → Prop
section
variable {K : PySem.W.Frag}
def aNo : AO := fun x _ r P => P none r
def aPart (t : AT) : AO := fun x δ r P => t x δ r fun d r1 => match d with | .int i => P (some i) r1 | _ => False
def TDO (K : PySem.W.Frag) (W : WX) (t : AO) : TO := fun σ H Q => ∃ XR δ r P, Ok K W XR r δ σ H ∧ t XR δ r P ∧ ∀ o r' H', P o r' → Ok K W XR r' δ σ H' → Kp K r H r' H' → Q o H'
end
def PDO (X : Cx) (W : WX) (e : Option Expr) (t : AO) : Prop := PO X e (TDO X.K W t)
theorem imO {X : Cx} {e : Option Expr} {t t' : TO} (h : PO X e t) (i : ∀ σ H Q, t' σ H Q → t σ H Q) : PO X e t' := ⟨fun pins s σ H Q I q => h.run pins s σ H Q I (i σ H Q q)⟩
theorem o_no : PDO X W none aNo := imO po_none fun σ H Q q => by
  obtain ⟨XR, δ, r, P, ok, h, k⟩ := q
  exact k _ r H h ok Kp.refl
theorem o_some (h : PD X W a ta) : PDO X W (some a) (aPart ta) := imO (po_some h) fun σ H Q q => by
  obtain ⟨XR, δ, r, P, ok, h, k⟩ := q
  refine td_bind ok h fun d r1 v H1 h1 o1 k1 i1 => ?_
  cases i1 <;> try exact h1.elim
  exact ⟨_, rfl, k _ r1 H1 h1 o1 k1⟩
def cutD (xs : List D) (lo hi : Option Int) : List D := (xs.drop (HT.sIx xs.length 0 lo)).take (HT.sIx xs.length xs.length hi - HT.sIx xs.length 0 lo)
/-- x[lo:hi] -/
def oSlP (x : D) (lo hi : Option Int) (k : D → Prop) : Prop := match x with
  | .lst ds => k (.lst (cutD ds lo hi))
  | .tup ds => k (.tup (cutD ds lo hi))
  | .str z => k (.str (cutS z lo hi))
  | _ => False
structure oSl (x : D) (lo hi : Option Int) (k : D → Prop) : Prop where
  ex : oSlP x lo hi k
def aSl (t : AT) (lo hi : AO) : AT := fun x δ r P => t x δ r fun d r1 => lo x δ r1 fun l r2 => hi x δ r2 fun u r3 => oSl d l u fun d => P d r3
def rSlD (K : PySem.W.Frag) : V → Option Int → Option Int → Hp → VK → Prop := fun x lo hi H Q => ∃ (r : Rs) (d : D) (P : D → Prop), Rok K r H ∧ Is K (mem r) H x d ∧ oSl d lo hi P ∧ ∀ d v H', P d → Ext H H' → Is K (mem r) H' v d → Q v H'
theorem cut_all {K : PySem.W.Frag} {N : Addr → Prop} {H : Hp} {vs : List V} {ds : List D} (lo hi : Option Int) (h : IsAll K N H vs ds) : IsAll K N H (cutV vs lo hi) (cutD ds lo hi) := by
  unfold cutV cutD
  rw [h.length]
  exact (h.drop _).take _
theorem sok_cut {z : Str} (h : sok z) (lo hi : Option Int) : sok (cutS z lo hi) := by
  refine ⟨?_, ?_⟩
  · have h1 : z.cps.all (fun c => decide (c < 0x110000)) = true := h.1
    rw [← Array.all_toList, List.all_eq_true] at h1
    show (cutS z lo hi).cps.all (fun c => decide (c < 0x110000)) = true
    rw [← Array.all_toList, List.all_eq_true]
    intro c hc
    unfold cutS at hc
    exact h1 c (List.mem_of_mem_drop (List.mem_of_mem_take (by simpa using hc)))
  · have := h.2
    unfold cutS Str.length at *
    simp only [List.size_toArray, List.length_take, List.length_drop, Array.length_toList]
    omega
theorem p_sl : SlR X (rSlD X.K) := by
  rintro pins s σ H x v vl vu lo hi sl Q I rx hs pl pu ⟨r, d, P, hr, i, ho, k⟩
  obtain ⟨ho⟩ := ho
  cases i <;> try exact ho.elim
  · rename_i hz
    exact sl_str pins s σ H _ v vl vu lo hi sl Q I rx hs pl pu ⟨_, rfl, Nat.le_trans hz.2 (by decide), k _ _ H ho (Ext.refl H) (.str (sok_cut hz lo hi))⟩
  · rename_i n h a
    exact sl_list pins s σ H _ v vl vu lo hi sl Q I rx hs pl pu ⟨_, _, rfl, SqL.of h, fun p hp => k _ _ _ ho (Ext.new hp) (new_lst hr hp (cut_all lo hi a))⟩
  · rename_i h a
    refine sl_tupA pins s σ H _ v vl vu lo hi sl Q I rx hs pl pu ⟨_, _, rfl, h, fun z => ?_, fun _ p hp => k _ _ _ ho (Ext.new hp) (new_tup hp (cut_all lo hi a))⟩
    have e : ∀ ds : List D, HT.sIx ds.length 0 lo = 0 ∧ HT.sIx ds.length ds.length hi = ds.length → cutD ds lo hi = ds := fun ds ⟨z1, z2⟩ => by
      unfold cutD
      rw [z1, z2]
      simp
    rw [a.length] at z
    have ho : P (.tup (cutD _ lo hi)) := ho
    rw [e _ z] at ho
    exact k _ _ H ho (Ext.refl H) (.tup h a)
theorem d_sl {lo hi : Option Expr} {tl th : AO} {p2 : Pos} (ha : PD X W a ta) (hl : PDO X W lo tl) (hh : PDO X W hi th) : PD X W (.Subscript a (.Slice lo hi none p2) pos) (aSl ta tl th) := imE (pe_slice p_sl ha hl hh) fun σ H Q q => by
  obtain ⟨XR, δ, r, P, ok, h, k⟩ := q
  refine td_bind ok h fun d r1 v H1 h1 o1 k1 i1 => ⟨_, δ, r1, _, o1, h1, fun l r2 H2 h2 o2 k2 => ⟨_, δ, r2, _, o2, h2, fun u r3 H3 h3 o3 k3 => ?_⟩⟩
  exact ⟨r3, d, fun d => P d r3, o3.r, k3 _ _ (k2 _ _ i1), h3, fun d v H' p e i => k d r3 v H' p (o3.ext e) (((k1.trans k2).trans k3).trans (Kp.ext e)) i⟩
abbrev OC := List D → (D → Prop) → Prop
def rC (K : PySem.W.Frag) (o : OC) : List V → Hp → VK → Prop := fun vs H Q => ∃ (r : Rs) (ds : List D) (P : D → Prop), Rok K r H ∧ IsAll K (mem r) H vs ds ∧ o ds P ∧ ∀ d v H', P d → Ext H H' → Is K (mem r) H' v d → Q v H'
def aBlt (o : OC) (l : AL) : AT := fun x δ r P => l x δ r fun ds r1 => o ds fun d => P d r1
variable {e : Expr} {es : List Expr} {x : Str} {p : Pos} {l : AL} {o : OC} {bid T : String}
theorem tcb {K : PySem.W.Frag} {W : WX} {o : OC} {l : AL} {σ : L2.St} {H : Hp} {Q : VK} (q : TD K W (aBlt o l) σ H Q) : tCB (rC K o) (TDL K W l) σ H Q := by
  obtain ⟨XR, δ, r, P, ok, h, k⟩ := q
  refine tdl_bind ok h fun ds r1 vs H1 h1 o1 k1 i1 => ⟨r1, ds, fun d => P d r1, o1.r, i1, h1, fun d v H' p e i => k d r1 v H' p (o1.ext e) (k1.trans (Kp.ext e)) i⟩
theorem d_blt (hc : CallR X (.builtin bid) (rC X.K o)) (hg : Gl X x) (hm : X.mg x = none) (ha : PDL X W (e :: es) l) (hv : bootBuiltins x = some (.builtin bid) := by decide +kernel) (hn : x ≠ "__name__" := by decide) (hdb : (x == ("__debug__" : Str)) = false := by decide)
    (he : starEach (e :: es) X.env = (false, eval e X.env) :: starEach es X.env := by rfl) (hpl : (backTo pos (starEach es X.env)).any (·.1) = false := by rfl) : PD X W (.Call (.Name x p) (e :: es) [] pos) (aBlt o l) :=
  imE (pe_callB hc hg hm hv ha hn hdb he hpl) fun _ _ _ q => tcb q
theorem d_ty (hc : CallR X (.type T) (rC X.K o)) (hg : Gl X x) (hm : X.mg x = none) (ha : PDL X W (e :: es) l) (hv : bootBuiltins x = some (.type T) := by decide +kernel) (hn : x ≠ "__name__" := by decide) (hdb : (x == ("__debug__" : Str)) = false := by decide)
    (he : starEach (e :: es) X.env = (false, eval e X.env) :: starEach es X.env := by rfl) (hpl : (backTo pos (starEach es X.env)).any (·.1) = false := by rfl) : PD X W (.Call (.Name x p) (e :: es) [] pos) (aBlt o l) :=
  imE (pe_callTy hc hg hm hv ha hn hdb he hpl) fun _ _ _ q => tcb q
def oLen : OC := fun ds k => match ds with
  | [.lst xs] => xs.length ≤ sizeLine → k (.int xs.length) | [.tup xs] => xs.length ≤ sizeLine → k (.int xs.length) | [.str z] => k (.int z.length) | _ => False
theorem c_len : CallR X (.builtin "len") (rC X.K oLen) := by
  rintro pins s σ H vs us Q I rv ⟨r, ds, P, hr, i, ho, k⟩
  cases i with
  | nil => exact ho.elim
  | cons i t =>
    cases t with
    | cons _ _ => cases i <;> exact ho.elim
    | nil =>
      cases i <;> try exact ho.elim
      · rename_i hz
        exact call_len pins s σ H _ us Q I rv ⟨_, _, rfl, ⟨Nat.le_trans hz.2 (by decide), rfl⟩, k _ _ H ho (Ext.refl H) (.int _)⟩
      · rename_i n h a
        obtain ⟨_, _, _, hz⟩ := I.list (SqL.of h)
        exact call_len pins s σ H _ us Q I rv ⟨_, _, rfl, .inl ⟨_, SqL.of h, rfl⟩, by rw [a.length] at hz ⊢; exact k _ _ H (ho hz) (Ext.refl H) (.int _)⟩
      · rename_i h a
        obtain ⟨_, _, _, hz⟩ := I.tuple h
        exact call_len pins s σ H _ us Q I rv ⟨_, _, rfl, .inr ⟨_, h, rfl⟩, by rw [a.length] at hz ⊢; exact k _ _ H (ho hz) (Ext.refl H) (.int _)⟩
def oList : OC := fun ds k => match ds with | [.lst xs] => k (.lst xs) | [.tup xs] => k (.lst xs) | _ => False
theorem c_list : CallR X (.type "list") (rC X.K oList) := by
  rintro pins s σ H vs us Q I rv ⟨r, ds, P, hr, i, ho, k⟩
  cases i with
  | nil => exact ho.elim
  | cons i t =>
    cases t with
    | cons _ _ => cases i <;> exact ho.elim
    | nil =>
      cases i <;> try exact ho.elim
      · rename_i n h a
        exact call_list_of pins s σ H _ us Q I rv ⟨_, _, rfl, .inl (SqL.of h), fun p hp => k _ _ _ ho (Ext.new hp) (new_lst hr hp a)⟩
      · rename_i h a
        exact call_list_of pins s σ H _ us Q I rv ⟨_, _, rfl, .inr h, fun p hp => k _ _ _ ho (Ext.new hp) (new_lst hr hp a)⟩
def oTuple : OC := fun ds k => match ds with | [.lst xs] => k (.tup xs) | [.tup xs] => k (.tup xs) | _ => False
theorem c_tuple : CallR X (.type "tuple") (rC X.K oTuple) := by
  rintro pins s σ H vs us Q I rv ⟨r, ds, P, hr, i, ho, k⟩
  cases i with
  | nil => exact ho.elim
  | cons i t =>
    cases t with
    | cons _ _ => cases i <;> exact ho.elim
    | nil =>
      cases i <;> try exact ho.elim
      · rename_i n h a
        exact call_tuple_of pins s σ H _ us Q I rv ⟨_, _, rfl, .inl ⟨SqL.of h, fun p hp => k _ _ _ ho (Ext.new hp) (new_tup hp a)⟩⟩
      · rename_i h a
        exact call_tuple_of pins s σ H _ us Q I rv ⟨_, _, rfl, .inr ⟨h, k _ _ H ho (Ext.refl H) (.tup h a)⟩⟩
def bls : List D → Option (List Bool)
  | [] => some []
  | .bl b :: r => (bls r).map (b :: ·)
  | _ :: _ => none
theorem bls_map : ∀ (bs : List Bool), bls (bs.map .bl) = some bs
  | [] => rfl
  | b :: bs => by simp [bls, bls_map bs]
theorem bls_all {K : PySem.W.Frag} {N : Addr → Prop} {H : Hp} : ∀ {vs : List V} {ds : List D} {bs : List Bool}, IsAll K N H vs ds → bls ds = some bs → vs = bs.map V.bl
  | _, _, _, .nil, e => by cases e; rfl
  | _, d :: ds, bs, .cons i t, e => by
    cases i <;> try (simp [bls] at e; done)
    simp only [bls] at e
    cases q : bls ds with
    | none => rw [q] at e; cases e
    | some cs =>
      rw [q] at e
      cases e
      rw [bls_all t q]
      rfl
def oAllP (f : List Bool → Bool) : OC := fun ds k => match ds with | [.lst xs] => (match bls xs with | some bs => k (.bl (f bs)) | none => False) | _ => False
structure oAll (f : List Bool → Bool) (ds : List D) (k : D → Prop) : Prop where
  ex : oAllP f ds k
theorem c_all (hc : X.calm = true := by rfl) : CallR X (.builtin "all") (rC X.K (oAll fun bs => bs.all id)) := by
  rintro pins s σ H vs us Q I rv ⟨r, ds, P, hr, i, ho, k⟩
  obtain ⟨ho⟩ := ho
  cases i with
  | nil => exact ho.elim
  | cons i t =>
    cases t with
    | cons _ _ => cases i <;> exact ho.elim
    | nil =>
      cases i <;> try exact ho.elim
      rename_i n h a
      simp only [oAllP] at ho
      split at ho
      · rename_i bs hb
        have e := bls_all a hb
        subst e
        exact cr_all hc pins s σ H _ us Q I rv ⟨_, _, rfl, SqL.of h, k _ _ H ho (Ext.refl H) (.bl _)⟩
      · exact ho.elim
def tyD : D → String
  | .non => "NoneType" | .bl _ => "bool" | .int _ => "int" | .str _ => "str" | .lst _ => "list" | .tup _ => "tuple" | .dct _ _ => "dict" | _ => ""
def nad : D → Bool | .adr _ => false | .ins _ _ _ => false | _ => true
theorem tyX {K : PySem.W.Frag} {N : Addr → Prop} {H : Hp} {v : V} {d : D} (h : Is K N H v d) (n : nad d = true) : TyX K H v (.type (tyD d)) := by
  cases h with
  | non => exact .base .non
  | bl b => exact .base (.bl b)
  | int i => exact .base (.int i)
  | str _ => exact .base (.str _)
  | adr a => cases n
  | ins _ _ _ _ _ => cases n
  | dct n0 s e a => exact .base (.dK s)
  | lst _ h _ => exact .base (.lst h)
  | tup h _ =>
    rcases h with (h | ⟨o, h⟩) | ⟨o, its, k, h1, h2, _⟩
    · exact .base (.tup h)
    · exact .fTuple h
    · exact .kTuple h1 h2
inductive Ty5 : String → Prop | str : Ty5 "str" | int : Ty5 "int" | bool : Ty5 "bool" | list : Ty5 "list" | tuple : Ty5 "tuple"
def tyB (T n : String) : Bool := T == n || (T == "int" && n == "bool")
def isTy (T : String) (d : D) : Bool := tyB T (tyD d)
theorem kk6 : (ks6.all fun n => ks5.all fun T => decide (kitB n T = some (tyB T n))) = true := by decide +kernel
theorem kk {n T : String} (h : n ∈ ks6) (g : T ∈ ks5) : kitB n T = some (tyB T n) := by
  have q := List.all_eq_true.mp (List.all_eq_true.mp kk6 n h) T g
  exact of_decide_eq_true q
theorem kit5 {K : PySem.W.Frag} {T : String} (t : Ty5 T) (d : D) (n : nad d = true) : PySem.W.kitOne K (.type (tyD d)) (.type T) = some (isTy T d) := by
  refine kit_ty (kk ?_ ?_)
  · cases d <;> first | (cases n; done) | simp [tyD, ks6]
  · cases t <;> simp [ks5]
def noAdr : D → Bool | .adr _ => false | _ => true
theorem kit_own {K : PySem.W.Frag} {C : Addr} {T : String} (t : Ty5 T) (h : ∀ T ∈ ks5, PySem.W.subIn K (.ref C) (.type T) = some false) : PySem.W.kitOne K (.ref C) (.type T) = some false := by
  have hm : T ∈ ks5 := by cases t <;> simp [ks5]
  have km : PySem.W.kitMeta T = true := by cases t <;> decide +kernel
  unfold PySem.W.kitOne
  rw [if_neg (show ¬ ((Value.ref C == Value.type T) = true) by intro e; cases (beq_iff_eq.mp e))]
  show (if PySem.W.kitMeta T = true then PySem.W.subIn K (.ref C) (.type T) else none) = some false
  rw [if_pos km]
  exact h T hm
theorem tyX2 {K : PySem.W.Frag} {N : Addr → Prop} {H : Hp} {v : V} {d : D} (h : Is K N H v d) (n : noAdr d = true) : ∃ t, TyX K H v t ∧ ∀ T, Ty5 T → PySem.W.kitOne K t (.type T) = some (isTy T d) := by
  cases d with
  | adr a => cases n
  | ins C fs ds =>
    cases h with
    | ins n s e g a =>
      refine ⟨_, .base (.ins s g.cls g.p.kls g.p.get g.p.tak g.p.mro), fun T t => ?_⟩
      rw [kit_own t g.p.sub]
      cases t <;> rfl
  | non => exact ⟨_, tyX h rfl, fun T t => kit5 t _ rfl⟩
  | bl b => exact ⟨_, tyX h rfl, fun T t => kit5 t _ rfl⟩
  | int i => exact ⟨_, tyX h rfl, fun T t => kit5 t _ rfl⟩
  | str x => exact ⟨_, tyX h rfl, fun T t => kit5 t _ rfl⟩
  | lst ds => exact ⟨_, tyX h rfl, fun T t => kit5 t _ rfl⟩
  | tup ds => exact ⟨_, tyX h rfl, fun T t => kit5 t _ rfl⟩
  | dct ks ds => exact ⟨_, tyX h rfl, fun T t => kit5 t _ rfl⟩
/-- isinstance(x, T) -/
def aIsi (T : String) (t : AT) : AT := fun x δ r P => t x δ r fun d r1 => match d with | .adr _ => False | d => P (.bl (isTy T d)) r1
theorem d_isi {q : Pos} {y : Str} (ht : Ty5 T) (hg : Gl X "isinstance") (hm : X.mg "isinstance" = none) (ha : PD X W a ta) (gy : Gl X y) (my : X.mg y = none) (by_ : bootBuiltins y = some (.type T) := by decide +kernel) (hny : y ≠ "__name__" := by decide) (hdy : (y == ("__debug__" : Str)) = false := by decide)
    (he : starEach [a, .Name y q] X.env = (false, eval a X.env) :: starEach [.Name y q] X.env := by rfl) (hpl : (backTo pos (starEach [.Name y q] X.env)).any (·.1) = false := by rfl) (he2 : starEach [.Name y q] X.env = (false, eval (.Name y q) X.env) :: starEach [] X.env := by rfl) :
    PD X W (.Call (.Name "isinstance" p) [a, .Name y q] [] pos) (aIsi T ta) := imE (pe_callB call_isi hg hm (by decide +kernel) (pa_cons ha (pa_cons (pe_bltn (v := .ty T) gy my by_ rfl hny hdy) pa_nil he2) he) (by decide) (by decide) he hpl) fun σ H Q q => by
  obtain ⟨XR, δ, r, P, ok, h, k⟩ := q
  refine td_bind ok h fun d r1 v H1 h1 o1 k1 i1 => ?_
  have n : noAdr d = true := by cases d <;> first | exact h1.elim | rfl
  obtain ⟨t0, ty0, kt0⟩ := tyX2 i1 n
  have h2 : P (.bl (isTy T d)) r1 := by cases d <;> first | exact h1.elim | exact h1
  exact ⟨v, .ty T, _, _, _, rfl, .ty T, ty0, kt0 T ht, k _ r1 _ H1 h2 o1 k1 (.bl _)⟩
end
end G
namespace G
open PySem PySem.Spec L2
/-- what follows a statement -/
structure An where
  nx : Dl → Rs → Prop
  rt : D → Rs → Prop := fun _ _ => False
  bk : Dl → Rs → Prop := fun _ _ => False
  ct : Dl → Rs → Prop := fun _ _ => False
  xr : XT := fun _ _ _ _ _ => False
abbrev AS := An → Dl → Rs → Prop
structure Fin (K : PySem.W.Frag) (W : WX) (A : An) (r : Rs) (H : Hp) (D : Ends) : Prop where
  nx : ∀ δ' r' σ' H', A.nx δ' r' → Ok K W A.xr r' δ' σ' H' → Kp K r H r' H' → D.nx σ' H'
  rt : ∀ d r' v H', A.rt d r' → Rok K r' H' → Kp K r H r' H' → Is K (mem r') H' v d → D.rt v H'
  bk : ∀ δ' r' σ' H', A.bk δ' r' → Ok K W A.xr r' δ' σ' H' → Kp K r H r' H' → D.bk σ' H'
  ct : ∀ δ' r' σ' H', A.ct δ' r' → Ok K W A.xr r' δ' σ' H' → Kp K r H r' H' → D.ct σ' H'
theorem Fin.step {K : PySem.W.Frag} {W : WX} {A : An} {r r1 : Rs} {H H1 : Hp} {D : Ends} (f : Fin K W A r H D) (k : Kp K r H r1 H1) : Fin K W A r1 H1 D :=
  ⟨fun δ r' σ H' a o q => f.nx δ r' σ H' a o (k.trans q), fun d r' v H' a o q i => f.rt d r' v H' a o (k.trans q) i, fun δ r' σ H' a o q => f.bk δ r' σ H' a o (k.trans q), fun δ r' σ H' a o q => f.ct δ r' σ H' a o (k.trans q)⟩
def TSD (K : PySem.W.Frag) (W : WX) (t : AS) : TS := fun D σ H => ∃ δ r A, Ok K W A.xr r δ σ H ∧ t A δ r ∧ Fin K W A r H D
def PSD (X : Cx) (W : WX) (st : Stmt) (t : AS) : Prop := PS X st (TSD X.K W t)
def PBD (X : Cx) (W : WX) (st : List Stmt) (t : AS) : Prop := PSs X st (TSD X.K W t)
section
variable {K : PySem.W.Frag}
def sNext : AS := fun A δ r => A.nx δ r
def sSeq (t u : AS) : AS := fun A δ r => t { A with nx := fun δ' r' => u A δ' r' } δ r
def sExpr (t : AT) : AS := fun A δ r => t A.xr δ r fun _ r1 => A.nx δ r1
def sRet (t : AT) : AS := fun A δ r => t A.xr δ r A.rt
def sIf (c : AB) (t u : AS) : AS := fun A δ r => c A.xr δ r fun b r1 => (b = true → t A δ r1) ∧ (b = false → u A δ r1)
def sAsg (i : Nat) (t : AT) : AS := fun A δ r => t A.xr δ r fun d r1 => A.nx (δ.set i (some d)) r1
def setAll : Dl → List Nat → List D → Dl
  | δ, i :: is, d :: ds => setAll (δ.set i (some d)) is ds
  | δ, _, _ => δ
def sTup (is : List Nat) (t : AT) : AS := fun A δ r => t A.xr δ r fun d r1 => match d with | .tup ds => ds.length = is.length ∧ A.nx (setAll δ is ds) r1 | _ => False
def sAug (i : Nat) (o : O2) (t : AT) : AS := fun A δ r => match lk δ i with | some d0 => t A.xr δ r fun d r1 => o d0 d fun d2 => A.nx (δ.set i (some d2)) r1 | none => False
end
section
variable {X : Cx} {W : WX} {st : Stmt} {rest : List Stmt} {t u : AS} {e c : Expr} {te : AT} {tc : AB} {pos : Pos}
theorem ss_nil : PBD X W [] sNext := imSs pss_nil fun D σ H ⟨δ, r, A, o, h, f⟩ => f.nx _ _ _ _ h o Kp.refl
theorem ss_one (h : PSD X W st t) : PBD X W [st] t := pss_one h
theorem ss_cons (h1 : PSD X W st t) (h2 : PBD X W rest u) : PBD X W (st :: rest) (sSeq t u) := imSs (pss_cons h1 h2) fun D σ H ⟨δ, r, A, o, h, f⟩ =>
  ⟨δ, r, { A with nx := fun δ' r' => u A δ' r' }, o, h, ⟨fun δ' r' σ' H' a o' k => ⟨δ', r', A, o', a, f.step k⟩, f.rt, f.bk, f.ct⟩⟩
theorem s_expr (he : PD X W e te) (hs : swapsWith e none pos.line X.env = pure false := by rfl) : PSD X W (.Expr e pos) (sExpr te) := imS (ps_expr he hs) fun D σ H ⟨δ, r, A, o, h, f⟩ =>
  td_bind o h fun d r1 v H1 h1 o1 k1 i1 => f.nx _ _ _ _ h1 o1 k1
theorem s_ret (he : PD X W e te) : PSD X W (.Return (some e) pos) (sRet te) := imS (ps_ret he) fun D σ H ⟨δ, r, A, o, h, f⟩ =>
  td_bind o h fun d r1 v H1 h1 o1 k1 i1 => f.rt _ _ _ _ h1 o1.r k1 i1
theorem s_if {a b : List Stmt} (hc : PDB X W c tc) (ha : PBD X W a t) (hb : PBD X W b u) : PSD X W (.If c a b pos) (sIf tc t u) := imS (ps_if hc ha hb) fun D σ H ⟨δ, r, A, o, h, f⟩ =>
  tdb_bind o h fun d r1 H1 h1 o1 k1 => by
    cases d with
    | true => exact ⟨δ, r1, A, o1, h1.1 rfl, f.step k1⟩
    | false => exact ⟨δ, r1, A, o1, h1.2 rfl, f.step k1⟩
theorem s_set {i : Nat} {x : Str} {pos' : Pos} (hN : X.N.Nodup) (he : PD X W e te) (hi : X.N[i]? = some x := by rfl) (hx : Loc X.env.scope x := by first | exact Or.inl rfl | exact Or.inr rfl) (hs : swapsWith e (some (.Name x pos')) pos.line X.env = pure false := by rfl)
    (hf : X.fn x = true ∨ X.env.scope.names.lookup x = some .local := by first | exact .inl rfl | exact .inr rfl | assumption) : PSD X W (.Assign [.Name x pos'] e pos) (sAsg i te) := imS (ps_set hN hi hx he hs hf) fun D σ H ⟨δ, r, A, o, h, f⟩ =>
  td_bind o h fun d r1 v H1 h1 o1 k1 i1 => f.nx _ _ _ _ h1 (o1.set i1) k1
def gNames : List Nat → TGs
  | [] => gNil
  | i :: is => gCons (gName i) (gNames is)
theorem names_all {K : PySem.W.Frag} {W : WX} {XR : XT} {r : Rs} {H : Hp} {Q : L2.St → Hp → Prop} : ∀ {is : List Nat} {vs : List V} {ds : List D} {δ : Dl} {σ : L2.St}, Ok K W XR r δ σ H → IsAll K (mem r) H vs ds → ds.length = is.length → (∀ σ', Ok K W XR r (setAll δ is ds) σ' H → Q σ' H) → gNames is vs σ H Q
  | [], _, _, δ, σ, o, .nil, _, k => ⟨rfl, k σ o⟩
  | [], _, _, δ, σ, o, .cons _ _, l, k => by cases l
  | i :: is, _, _, δ, σ, o, .nil, l, k => by cases l
  | i :: is, _, _, δ, σ, o, .cons h t, l, k => ⟨_, _, rfl, names_all (is := is) (o.set h) t (by simpa using l) k⟩
theorem s_tup {is : List Nat} {ts : List Expr} {kk : Nat} {p2 : Pos} (he : PD X W e te) (hg : PGs X ts (gNames is)) (hc : X.calm = true := by rfl) (hn : (assignEach ts X.env).length = is.length := by rfl) (hst : (assignEach ts X.env).findIdx? (·.1) = none := by rfl)
    (hs : swapsWithSole [.Tuple ts kk p2] e pos.line X.env = pure false := by rfl) (hw : swappedStores [.Tuple ts kk p2] e X.env = pure none := by rfl)
    (h1 : (assignEach [.Tuple ts kk p2] X.env).map (·.2) = [assign (.Tuple ts kk p2) X.env] := by rfl) : PSD X W (.Assign [.Tuple ts kk p2] e pos) (sTup is te) :=
  imS (ps_asg he (pg_tup hc hg hn hst) hs hw h1) fun D σ H ⟨δ, r, A, o, h, f⟩ => td_bind o h fun d r1 v H1 h1 o1 k1 i1 => by
    cases i1 with
    | tup s a => exact ⟨_, _, rfl, s, by rw [a.length]; exact h1.1, names_all o1 a h1.1 fun σ' o' => f.nx _ _ _ _ h1.2 o' k1⟩
    | _ => exact h1.elim
theorem pip_of {op : Operator} {o : O2} (h : OpR X (inplaceOp op) (rD X.K o)) : PIp X op (rD X.K o) := fun pins s σ H x y v u Q I rx ry q => h pins s σ H x y v u Q I rx ry q
theorem s_aug {i : Nat} {x : Str} {op : Operator} {o : O2} {pos' : Pos} (hN : X.N.Nodup) (ho : OpR X (inplaceOp op) (rD X.K o)) (he : PD X W e te) (hi : X.N[i]? = some x := by rfl) (hx : Loc X.env.scope x := by first | exact Or.inl rfl | exact Or.inr rfl)
    (hf : X.fn x = true ∨ X.env.scope.names.lookup x = some .local := by first | exact .inl rfl | exact .inr rfl | assumption) : PSD X W (.AugAssign (.Name x pos') op e pos) (sAug i o te) := imS (ps_aug hN hi hx he (pip_of ho) hf) fun D σ H ⟨δ, r, A, ok, h, f⟩ => by
  unfold sAug at h
  split at h
  · rename_i d0 hd
    obtain ⟨v, h1, h2⟩ := ok.env i d0 (lk_get hd)
    refine ⟨v, h1, td_bind ok h fun d r1 w H1 h1 o1 k1 i1 => ?_⟩
    exact ⟨r1, d0, d, _, o1.r, k1 _ _ h2, i1, h1, fun d2 v2 H' p e i => f.nx _ _ _ _ p ((o1.ext e).set i) (k1.trans (Kp.ext e))⟩
  · exact h.elim
def oIAdd : O2 := fun x y k => match x, y with | .int i, .int j => k (.int (i + j)) | _, _ => False
theorem p_iadd : OpR X (inplaceOp .Add) (rD X.K oIAdd) := by
  rintro pins s σ H x y v u Q I rx ry ⟨r, d1, d2, P, hr, i1, i2, ho, k⟩
  cases i1 <;> cases i2 <;> try exact ho.elim
  exact iop_add pins s σ H _ _ v u Q I rx ry ⟨_, _, rfl, rfl, k _ _ H ho (Ext.refl H) (.int _)⟩
end
/-- the turns of J yield the data ds, whatever else happens -/
def Walks (K : PySem.W.Frag) (J : It) (ds : List D) (r : Rs) (H : Hp) : Prop := ∀ i r1 H1, Kp K r H r1 H1 → Rok K r1 H1 →
  (i < ds.length → J.go i H1 ∧ ∀ x H2, J.yld i H1 x H2 → Ext H1 H2 ∧ ∃ d, ds[i]? = some d ∧ Is K (mem r1) H2 x d) ∧ (i = ds.length → J.stop i H1)
abbrev AI := XT → Dl → Rs → (List D → Rs → Prop) → Prop
def TDI (K : PySem.W.Frag) (W : WX) (t : AI) : TI := fun σ H R => ∃ XR δ r P, Ok K W XR r δ σ H ∧ t XR δ r P ∧ ∀ ds r' J H', P ds r' → Ok K W XR r' δ σ H' → Kp K r H r' H' → Walks K J ds r' H' → R J H'
def PDI (X : Cx) (W : WX) (tg iter : Expr) (t : AI) : Prop := PI X tg iter (TDI X.K W t)
theorem imI {X : Cx} {tg e : Expr} {t t' : TI} (h : PI X tg e t) (i : ∀ σ H Q, t' σ H Q → t σ H Q) : PI X tg e t' := ⟨fun pins s σ H Q I q => h.run pins s σ H Q I (i σ H Q q)⟩
section
variable {X : Cx} {W : WX} {tg e : Expr} {te : AT} {pos : Pos}
def iSeqL (t : AT) : AI := fun x δ r P => t x δ r fun d r1 => match d with | .lst ds => P ds r1 | _ => False
def iSeqT (t : AT) : AI := fun x δ r P => t x δ r fun d r1 => match d with | .tup ds => P ds r1 | _ => False
theorem walks_l {K : PySem.W.Frag} {r : Rs} {H : Hp} {a : Addr} {ds : List D} (h : Is K (mem r) H (.ref a) (.lst ds)) : Walks K (Itl K a) ds r H := by
  intro i r1 H1 k _
  cases k _ _ h with
  | lst n s al =>
    rename_i xs
    refine ⟨fun hi => ⟨⟨xs, xs[i]'(by rw [al.length]; exact hi), SqL.of s, by simp⟩, ?_⟩, fun hi => ⟨xs, SqL.of s, by rw [al.length, hi] <;> exact Nat.le_refl _⟩⟩
    rintro x H2 ⟨rfl, hx⟩
    obtain ⟨d, h1, h2⟩ := al.get (hx xs (SqL.of s))
    exact ⟨Ext.refl _, d, h1, h2⟩
theorem walks_t {K : PySem.W.Frag} {r : Rs} {H : Hp} {a : Addr} {ds : List D} (h : Is K (mem r) H (.ref a) (.tup ds)) : Walks K (Itt K a) ds r H := by
  intro i r1 H1 k _
  cases k _ _ h with
  | tup s al =>
    rename_i xs
    refine ⟨fun hi => ⟨⟨xs, xs[i]'(by rw [al.length]; exact hi), s, by simp⟩, ?_⟩, fun hi => ⟨xs, s, by rw [al.length, hi] <;> exact Nat.le_refl _⟩⟩
    rintro x H2 ⟨rfl, hx⟩
    obtain ⟨d, h1, h2⟩ := al.get (hx xs s)
    exact ⟨Ext.refl _, d, h1, h2⟩
theorem i_list (h : PD X W e te) : PDI X W tg e (iSeqL te) := imI (pi_list h) fun σ H Q ⟨XR, δ, r, P, o, q, k⟩ => td_bind o q fun d r1 v H1 h1 o1 k1 i1 => by
  cases i1 with
  | lst n s al => exact ⟨_, rfl, ⟨_, SqL.of s⟩, k _ _ _ _ h1 o1 k1 (walks_l (.lst n s al))⟩
  | _ => exact h1.elim
theorem i_tup (h : PD X W e te) : PDI X W tg e (iSeqT te) := imI (pi_tup h) fun σ H Q ⟨XR, δ, r, P, o, q, k⟩ => td_bind o q fun d r1 v H1 h1 o1 k1 i1 => by
  cases i1 with
  | tup s al => exact ⟨_, rfl, ⟨_, s⟩, k _ _ _ _ h1 o1 k1 (walks_t (.tup s al))⟩
  | _ => exact h1.elim
def iStrD (t : AT) : AI := fun x δ r P => t x δ r fun d r1 => match d with | .str z => P (z.cps.toList.map fun c => .str ⟨#[c]⟩) r1 | _ => False
theorem sok_mem {z : Str} {c : Nat} (h : sok z) (e : c ∈ z.cps.toList) : sok ⟨#[c]⟩ := by
  refine ⟨?_, by show 1 ≤ 1000000; decide⟩
  have h1 : z.cps.all (fun c => decide (c < 0x110000)) = true := h.1
  rw [← Array.all_toList, List.all_eq_true] at h1
  show (#[c] : Array Nat).all _ = true
  simpa using h1 c e
theorem i_str (h : PD X W e te) : PDI X W tg e (iStrD te) := imI (pi_str h) fun σ H Q ⟨XR, δ, r, P, o, q, k⟩ => td_bind o q fun d r1 v H1 h1 o1 k1 i1 => by
  cases i1 with
  | str s =>
    rename_i z
    refine ⟨_, rfl, k _ _ _ _ h1 o1 k1 ?_⟩
    intro i r2 H2 _ _
    refine ⟨fun hi => ⟨(show i < z.cps.size by simpa using hi), ?_⟩, fun hi => ?_⟩
    · rintro x H3 ⟨rfl, c, hc, rfl⟩
      have hm : c ∈ z.cps.toList := by
        have := Array.mem_of_getElem? hc
        simpa using this
      refine ⟨Ext.refl _, .str ⟨#[c]⟩, ?_, .str (sok_mem s hm)⟩
      rw [List.getElem?_map, Array.getElem?_toList, hc]
      rfl
    · show z.cps.size ≤ i
      rw [hi]
      simp
  | _ => exact h1.elim
def iR1 (l : AL) : AI := fun x δ r P => l x δ r fun ds r1 => match ds with | [.int n] => (-(2 ^ 62) ≤ n ∧ n < 2 ^ 62) ∧ P ((List.range n.toNat).map fun i => .int (i : Nat)) r1 | _ => False
theorem walks_r {K : PySem.W.Frag} {r : Rs} {H : Hp} {lo : Int} {n : Nat} : Walks K (Itr lo n) ((List.range n).map fun i => .int (lo + (i : Nat))) r H := by
  intro i r1 H1 _ _
  refine ⟨fun hi => ⟨(show i < n by simpa using hi), ?_⟩, fun hi => ?_⟩
  · rintro x H2 ⟨rfl, rfl⟩
    have hi' : i < n := by simpa using hi
    refine ⟨Ext.refl _, .int (lo + i), ?_, .int _⟩
    rw [List.getElem?_map, List.getElem?_range hi']
    rfl
  · show n ≤ i
    rw [hi]
    simp
theorem i_r1 {p : Pos} {l : AL} (hg : Gl X "range") (hm : X.mg "range" = none) (ha : PDL X W [e] l) (hs : starEach [e] X.env = [(false, eval e X.env)] := by rfl) : PDI X W tg (.Call (.Name "range" p) [e] [] pos) (iR1 l) :=
  imI (pi_range1 hg hm ha hs) fun σ H Q ⟨XR, δ, r, P, o, q, k⟩ => tdl_bind o q fun ds r1 vs H1 h1 o1 k1 i1 => by
    match ds, h1, i1 with
    | [.int n], h1, .cons (.int _) .nil =>
      refine ⟨_, rfl, h1.1.1, h1.1.2, k _ _ _ _ h1.2 o1 k1 ?_⟩
      have w := walks_r (K := X.K) (r := r1) (H := H1) (lo := 0) (n := n.toNat)
      simp only [Int.zero_add] at w
      exact w
abbrev AG := D → Dl → (Dl → Prop) → Prop
def gN (i : Nat) : AG := fun d δ Q => Q (δ.set i (some d))
def gT (is : List Nat) : AG := fun d δ Q => match d with | .tup ds => ds.length = is.length ∧ Q (setAll δ is ds) | _ => False
def Agree (js : List Nat) (σ σ' : L2.St) : Prop := σ'.length = σ.length ∧ ∀ k : Nat, k ∉ js → σ'[k]? = σ[k]?
theorem Agree.refl {js : List Nat} {σ : L2.St} : Agree js σ σ := ⟨rfl, fun _ _ => rfl⟩
theorem Agree.trans {js : List Nat} {σ σ1 σ2 : L2.St} (a : Agree js σ σ1) (b : Agree js σ1 σ2) : Agree js σ σ2 := ⟨b.1.trans a.1, fun k h => (b.2 k h).trans (a.2 k h)⟩
theorem Agree.set {js : List Nat} {σ : L2.St} {i : Nat} {x : Option V} (h : i ∈ js) : Agree js σ (σ.set i x) := ⟨List.length_set, fun k hk => List.getElem?_set_ne (fun (e : i = k) => hk (e ▸ h))⟩
theorem names_agree {K : PySem.W.Frag} {W : WX} {XR : XT} {r : Rs} {H : Hp} {Q : L2.St → Hp → Prop} {js : List Nat} : ∀ {is : List Nat} {vs : List V} {ds : List D} {δ : Dl} {σ : L2.St}, (∀ i ∈ is, i ∈ js) → Ok K W XR r δ σ H → IsAll K (mem r) H vs ds → ds.length = is.length → (∀ σ', Ok K W XR r (setAll δ is ds) σ' H → Agree js σ σ' → Q σ' H) → gNames is vs σ H Q
  | [], _, _, δ, σ, _, o, .nil, _, k => ⟨rfl, k σ o Agree.refl⟩
  | [], _, _, δ, σ, _, o, .cons _ _, l, k => by cases l
  | i :: is, _, _, δ, σ, _, o, .nil, l, k => by cases l
  | i :: is, _, _, δ, σ, hj, o, .cons h t, l, k => ⟨_, _, rfl, names_agree (is := is) (fun i h => hj i (List.mem_cons_of_mem _ h)) (o.set h) t (by simpa using l) fun σ' o' a => k σ' o' ((Agree.set (hj i List.mem_cons_self)).trans a)⟩
def TDG (K : PySem.W.Frag) (js : List Nat) (g : AG) : TG := fun v σ H Q => ∃ (W : WX) (XR : XT) (δ : Dl) (r : Rs) (d : D) (P : Dl → Prop), Ok K W XR r δ σ H ∧ Is K (mem r) H v d ∧ g d δ P ∧ ∀ δ' σ', P δ' → Ok K W XR r δ' σ' H → Agree js σ σ' → Q σ' H
def PDG (X : Cx) (target : Expr) (js : List Nat) (g : AG) : Prop := PG X target (TDG X.K js g)
theorem imG {X : Cx} {e : Expr} {t t' : TG} (h : PG X e t) (i : ∀ v σ H Q, t' v σ H Q → t v σ H Q) : PG X e t' := ⟨fun pins s σ H v u Q I rv q => h.run pins s σ H v u Q I rv (i v σ H Q q)⟩
theorem g_name {i : Nat} {x : Str} (hN : X.N.Nodup) (hi : X.N[i]? = some x := by rfl) (hx : Loc X.env.scope x := by first | exact Or.inl rfl | exact Or.inr rfl) (hf : X.fn x = true ∨ X.env.scope.names.lookup x = some .local := by first | exact .inl rfl | exact .inr rfl | assumption) : PDG X (.Name x pos) [i] (gN i) :=
  imG (pg_name hN hi hx hf) fun v σ H Q ⟨_, _, δ, r, d, P, o, i, g, k⟩ => k _ _ g (o.set i) (Agree.set List.mem_cons_self)
theorem g_tup {is : List Nat} {ts : List Expr} {kk : Nat} (hg : PGs X ts (gNames is)) (hc : X.calm = true := by rfl) (hn : (assignEach ts X.env).length = is.length := by rfl) (hst : (assignEach ts X.env).findIdx? (·.1) = none := by rfl) : PDG X (.Tuple ts kk pos) is (gT is) :=
  imG (pg_tup hc hg hn hst) fun v σ H Q ⟨_, _, δ, r, d, P, o, i, g, k⟩ => by
    cases i with
    | tup s al => exact ⟨_, _, rfl, s, by rw [al.length]; exact g.1, names_agree (fun _ h => h) o al g.1 fun σ' o' a => k _ _ g.2 o' a⟩
    | _ => exact g.elim
theorem pgs_n {i : Nat} {is : List Nat} {x : Str} {ts : List Expr} (hN : X.N.Nodup) (hr : PGs X ts (gNames is)) (hi : X.N[i]? = some x := by rfl) (hx : Loc X.env.scope x := by first | exact Or.inl rfl | exact Or.inr rfl) (hf : X.fn x = true ∨ X.env.scope.names.lookup x = some .local := by first | exact .inl rfl | exact .inr rfl | assumption)
    (hs : (assignEach (.Name x pos :: ts) X.env).map (·.2) = assign (.Name x pos) X.env :: (assignEach ts X.env).map (·.2) := by rfl) : PGs X (.Name x pos :: ts) (gNames (i :: is)) := pgs_cons (pg_name hN hi hx hf) hr hs
def sForK (g : AG) (tb : AS) (A : An) (ds : List D) (δ : Dl) (r1 : Rs) : Prop := ∃ I : Nat → Dl → Rs → Prop, I 0 δ r1 ∧
  (∀ i d δ' r', ds[i]? = some d → I i δ' r' → g d δ' fun δ2 => tb { A with nx := I (i + 1), ct := I (i + 1), bk := A.nx } δ2 r') ∧ ∀ δ' r', I ds.length δ' r' → A.nx δ' r'
def sFor (ti : AI) (g : AG) (tb : AS) : AS := fun A δ r => ti A.xr δ r fun ds r1 => sForK g tb A ds δ r1
theorem s_for {body : List Stmt} {js : List Nat} {wi : AI} {g : AG} {tb : AS} (hi : PDI X W tg e wi) (hg : PDG X tg js g) (hb : PBD X W body tb) (hp : PassesOwn (model X.prog X.w) X.A X.env X.xe) (hc : X.calm = true := by rfl)
    (hs : ∀ x, foldedSetIterable e X.env x = pure x := by intro _; rfl) : PSD X W (.For tg e body [] pos) (sFor wi g tb) := imS (ps_for hp hc hi hg hb hs) fun D σ H ⟨δ, r, A, o, h, f⟩ =>
  ⟨A.xr, δ, r, _, o, h, fun ds r1 J H1 ⟨I, h0, hst, hd⟩ o1 k1 w => by
    refine ⟨fun i m σ' H' => m = ds.length - i ∧ i ≤ ds.length ∧ ∃ δ' r', I i δ' r' ∧ Ok X.K W A.xr r' δ' σ' H' ∧ Kp X.K r1 H1 r' H', ⟨ds.length, by simp, Nat.zero_le _, δ, r1, h0, o1, Kp.refl⟩, ?_⟩
    rintro i m σ' H' ⟨rfl, hi, δ', r', hI, o', k'⟩
    by_cases hlt : i < ds.length
    · obtain ⟨hgo, hy⟩ := (w i r' H' k' o'.r).1 hlt
      refine .inr ⟨hgo, fun σ2 H2 => ∃ δ2 r2, I (i + 1) δ2 r2 ∧ Ok X.K W A.xr r2 δ2 σ2 H2 ∧ Kp X.K r1 H1 r2 H2, fun σ2 H2 ⟨δ2, r2, q1, q2, q3⟩ => ⟨ds.length - (i + 1), by omega, rfl, hlt, δ2, r2, q1, q2, q3⟩, fun x H2 y => ?_⟩
      obtain ⟨ex, d, hd', ix⟩ := hy x H2 y
      refine ⟨W, A.xr, δ', r', d, _, o'.ext ex, ix, hst i d δ' r' hd' hI, fun δ2 σ2 q o2 _ => ⟨δ2, r', { A with nx := I (i + 1), ct := I (i + 1), bk := A.nx }, o2, q, ?_⟩⟩
      have kk := k'.trans (Kp.ext ex)
      have fk := f.step (k1.trans kk)
      exact ⟨fun δ3 r3 σ3 H3 a o3 k3 => ⟨δ3, r3, a, o3, kk.trans k3⟩, fk.rt, fun δ3 r3 σ3 H3 a o3 k3 => fk.nx δ3 r3 σ3 H3 a o3 k3, fun δ3 r3 σ3 H3 a o3 k3 => ⟨δ3, r3, a, o3, kk.trans k3⟩⟩
    · have e : i = ds.length := by omega
      exact .inl ⟨(w i r' H' k' o'.r).2 e, f.nx _ _ _ _ (hd δ' r' (e ▸ hI)) o' (k1.trans k')⟩⟩
end
end G
namespace G
open PySem PySem.Spec L2
def wipeD (δ : Dl) : List Nat → Dl
  | [] => δ
  | v :: vs => (wipeD δ vs).set v none
theorem Ok.wipe {K : PySem.W.Frag} {W : WX} {XR : XT} {r : Rs} {δ : Dl} {σ : L2.St} {H : Hp} (o : Ok K W XR r δ σ H) : ∀ vs : List Nat, Ok K W XR r (wipeD δ vs) (wipe σ vs) H
  | [] => o
  | v :: vs => (Ok.wipe o vs).drop
theorem wipe_get (σ : L2.St) : ∀ (vs : List Nat) (k : Nat), (wipe σ vs)[k]? = if k ∈ vs ∧ k < σ.length then some none else σ[k]?
  | [], k => by simp [wipe]
  | v :: vs, k => by
    unfold wipe
    rw [List.getElem?_set]
    by_cases e : v = k
    · subst e
      rw [if_pos rfl, wipe_length]
      by_cases h : v < σ.length
      · rw [if_pos h, if_pos ⟨List.mem_cons_self, h⟩]
      · rw [if_neg h, if_neg (fun z => h z.2), List.getElem?_eq_none (by omega)]
    · rw [if_neg e, wipe_get σ vs k]
      have : (k ∈ v :: vs) ↔ k ∈ vs := ⟨fun z => (List.mem_cons.mp z).elim (fun q => absurd q.symm e) id, List.mem_cons_of_mem _⟩
      simp only [this]
theorem wipe_agree {σ σ' : L2.St} {js vs : List Nat} (a : Agree js (wipe σ vs) σ') (h : ∀ j ∈ js, j ∈ vs) : wipe σ' vs = wipe σ vs := by
  apply List.ext_getElem?
  intro k
  rw [wipe_get, wipe_get]
  have hl : σ'.length = σ.length := by rw [a.1, wipe_length]
  rw [hl]
  by_cases c : k ∈ vs ∧ k < σ.length
  · rw [if_pos c, if_pos c]
  · rw [if_neg c, if_neg c]
    by_cases hk : k ∈ vs
    · have h1 : σ.length ≤ k := Nat.le_of_not_lt fun z => c ⟨hk, z⟩
      rw [List.getElem?_eq_none (by omega), List.getElem?_eq_none h1]
    · rw [a.2 k (fun z => hk (h k z)), wipe_get, if_neg c]
section
variable {K : PySem.W.Frag}
theorem rok_plus {r : Rs} {H : Hp} {p : Addr} (h : Rok K r H) (hp : H p = none) : Rok K (r ++ [lstA p []]) (upd H p (.lst [])) ∧ Kp K r H (r ++ [lstA p []]) (upd H p (.lst [])) := by
  have e : ∀ a, mem (r ++ [lstA p []]) a → mem r a ∨ a = p := fun a z => (mem_append.mp z).elim .inl fun z => z.elim .inr False.elim
  refine ⟨hold_append.mpr ⟨hold_anti e (hold_ext (Ext.new hp) (hold_grow hp h)), ⟨⟨[], upd_same, .nil⟩, fun _ _ z => z, True.intro⟩, fun a m z => ?_⟩, fun v d i => is_anti e (is_ext (Ext.new hp) _ _ (is_grow hp i))⟩
  have : a = p := z.elim (fun z => z) False.elim
  subst this
  exact not_al h hp m
theorem is_otherO {N : Addr → Prop} {H : Hp} {q : Addr} {u u' : HO} (hN : N q) (hD : H q = some u) (nt : ∀ xs, u ≠ .tup xs ∧ ∀ o : Obj, u ≠ .frz o (.tup xs)) {v : V} {d : D} (h : Is K N H v d) : Is K N (upd H q u') v d := by
  refine Is.go (fun a o _ n s => ⟨n, by rw [upd_ne (fun (e : a = q) => n (e ▸ hN))]; exact s⟩) (fun a xs s => ?_) d v h
  rcases s with (s | ⟨o, s⟩) | s
  · exact .inl (.inl (by rw [upd_ne (fun e => by subst e; rw [hD] at s; exact (nt xs).1 (Option.some.inj s))]; exact s))
  · exact .inl (.inr ⟨o, by rw [upd_ne (fun e => by subst e; rw [hD] at s; exact (nt xs).2 o (Option.some.inj s))]; exact s⟩)
  · exact .inr s
theorem is_other {N : Addr → Prop} {H : Hp} {q : Addr} {ys : List V} (hN : N q) {xs : List V} (hD : H q = some (.lst xs)) {v : V} {d : D} (h : Is K N H v d) : Is K N (upd H q (.lst ys)) v d := is_otherO hN hD (fun _ => ⟨(fun e => by cases e), (fun _ e => by cases e)⟩) h
theorem rok_more {r : Rs} {H : Hp} {p : Addr} {acc : List D} {v : V} {d : D} (h : Rok K (r ++ [lstA p acc]) H) (i : Is K (mem (r ++ [lstA p acc])) H v d) : ∃ vs, H p = some (.lst vs) ∧ vs.length = acc.length ∧
    Rok K (r ++ [lstA p (acc ++ [d])]) (upd H p (.lst (vs ++ [v]))) ∧ ∀ w e, Is K (mem (r ++ [lstA p acc])) H w e → Is K (mem (r ++ [lstA p (acc ++ [d])])) (upd H p (.lst (vs ++ [v]))) w e := by
  obtain ⟨h1, ⟨⟨vs, h2, h3⟩, _, _⟩, h5⟩ := hold_append.mp h
  have me : mem (r ++ [lstA p acc]) = mem (r ++ [lstA p (acc ++ [d])]) := by
    funext a
    exact propext ((mem_append).trans (mem_append (r := r) (r' := [lstA p (acc ++ [d])])).symm)
  have hN : mem (r ++ [lstA p acc]) p := mem_append.mpr (.inr (.inl rfl))
  have go : ∀ w e, Is K (mem (r ++ [lstA p acc])) H w e → Is K (mem (r ++ [lstA p acc])) (upd H p (.lst (vs ++ [v]))) w e := fun w e q => is_other hN h2 q
  refine ⟨vs, h2, h3.length, ?_, fun w e q => me ▸ go w e q⟩
  refine hold_append.mpr ⟨?_, ⟨⟨vs ++ [v], upd_same, ?_⟩, fun _ _ z => z, True.intro⟩, h5⟩
  · rw [← me]
    refine hold_loc (fun b o m q => ?_) go h1
    rw [upd_ne (fun e => h5 b m (.inl e))]
    exact q
  · rw [← me]
    exact (all_of go h3).append (.cons (go _ _ i) .nil)
theorem le_rok {r r' : Rs} (l : le r r') {H : Hp} (h : Rok K r H) : Rok K r' H := l.r _ H h
/-- our own list is a list like others -/
theorem rok_done {r : Rs} {H : Hp} {p : Addr} {acc : List D} (h : Rok K (r ++ [lstA p acc]) H) : Rok K r H ∧ Is K (mem r) H (.ref p) (.lst acc) ∧ Kp K (r ++ [lstA p acc]) H r H := by
  obtain ⟨h1, ⟨⟨vs, h2, h3⟩, _, _⟩, h5⟩ := hold_append.mp h
  have an : ∀ a, mem r a → mem (r ++ [lstA p acc]) a := fun a z => mem_append.mpr (.inl z)
  exact ⟨hold_anti an h1, .lst (fun z => h5 p z (.inl rfl)) h2 (all_of (fun _ _ => is_anti an) h3), fun _ _ => is_anti an⟩
def bYes : AB := fun x _ r P => P true r
structure aLcK (x : XT) (g : AG) (tt : AB) (te : AT) (δw : Dl) (ds : List D) (r1 : Rs) (P : PK1) : Prop where
  ex : ∃ I : Nat → List D → Rs → Prop, I 0 [] r1 ∧
  (∀ (p : Addr) i d acc r', ds[i]? = some d → I i acc r' → g d δw fun δ2 => tt x δ2 (r' ++ [lstA p acc]) fun b r2 =>
    (b = true → te x δ2 r2 fun y r3 => small (acc.length + 1) ∧ ∃ r4, le r3 (r4 ++ [lstA p acc]) ∧ I (i + 1) (acc ++ [y]) r4) ∧ (b = false → ∃ r4, le r2 (r4 ++ [lstA p acc]) ∧ I (i + 1) acc r4)) ∧
  ∀ acc r', I ds.length acc r' → P (.lst acc) r'
def aLc (ti : AI) (g : AG) (tt : AB) (te : AT) (vs : List Nat) : AT := fun x δ r P => ti x δ r fun ds r1 => aLcK x g tt te (wipeD δ vs) ds r1 P
theorem td_lc {W : WX} {ti : AI} {g : AG} {tt : AB} {te : AT} {vs js : List Nat} (hj : ∀ j ∈ js, j ∈ vs) {σ : L2.St} {H : Hp} {Q : VK} (q : TD K W (aLc ti g tt te vs) σ H Q) : tLc (TDI K W ti) (TDG K js g) (TDB K W tt) (TD K W te) vs σ H Q := by
  obtain ⟨XR, δ, r, P, o, h, k⟩ := q
  refine ⟨XR, δ, r, _, o, h, fun ds r1 J H1 ⟨⟨I, h0, hst, hd⟩⟩ o1 k1 w p hp => ?_⟩
  obtain ⟨s1, s2⟩ := rok_plus o1.r hp
  refine ⟨fun i m H' => m = ds.length - i ∧ i ≤ ds.length ∧ ∃ acc r', I i acc r' ∧ Rok K (r' ++ [lstA p acc]) H' ∧ Kp K r1 H1 (r' ++ [lstA p acc]) H', ⟨ds.length, by simp, Nat.zero_le _, [], r1, h0, s1, s2⟩, ?_⟩
  rintro i m H' ⟨rfl, hi, acc, r', hI, ro, kp⟩
  by_cases hlt : i < ds.length
  · obtain ⟨hgo, hy⟩ := (w i _ H' kp ro).1 hlt
    refine .inr ⟨hgo, fun H2 => ∃ acc r2, I (i + 1) acc r2 ∧ Rok K (r2 ++ [lstA p acc]) H2 ∧ Kp K r1 H1 (r2 ++ [lstA p acc]) H2, fun H2 ⟨acc, r2, q1, q2, q3⟩ => ⟨ds.length - (i + 1), by omega, rfl, hlt, acc, r2, q1, q2, q3⟩, fun x H2 y => ?_⟩
    obtain ⟨ex, d, hd', ix⟩ := hy x H2 y
    have k2 := kp.trans (Kp.ext ex)
    have o2 : Ok K W XR (r' ++ [lstA p acc]) (wipeD δ vs) (wipe σ vs) H2 := (o1.step k2 (ro.ext ex)).wipe vs
    refine ⟨W, XR, wipeD δ vs, _, d, _, o2, ix, hst p i d acc r' hd' hI, fun δ2 σ2 q o3 ag => ⟨wipe_agree ag hj, XR, δ2, _, _, o3, q, fun b r3 H3 q3 o4 k4 => ?_⟩⟩
    cases b with
    | true =>
      show TD K W te σ2 H3 _
      refine td_bind o4 (q3.1 rfl) fun y r5 v H5 ⟨sz, r6, l6, h5⟩ o5 k5 i5 => ?_
      obtain ⟨ws, e1, e2, e3, e4⟩ := rok_more (le_rok l6 o5.r) (is_anti l6.m i5)
      refine ⟨ws, e1, by rw [e2]; exact Nat.lt_of_lt_of_le (Nat.lt_succ_self _) sz.sz, acc ++ [y], r6, h5, e3, fun v' d' z => e4 _ _ (is_anti l6.m (k5 _ _ (k4 _ _ (k2 _ _ z))))⟩
    | false =>
      show ∃ acc r2, _
      obtain ⟨r6, l6, h5⟩ := q3.2 rfl
      exact ⟨acc, r6, h5, le_rok l6 o4.r, fun v' d' z => is_anti l6.m (k4 _ _ (k2 _ _ z))⟩
  · have e : i = ds.length := by omega
    obtain ⟨d1, d2, d3⟩ := rok_done ro
    exact .inl ⟨(w i _ H' kp ro).2 e, k _ r' _ H' (hd acc r' (e ▸ hI)) (o1.step (kp.trans d3) d1) ((k1.trans kp).trans d3) d2⟩
end
section
variable {X : Cx} {W : WX}
theorem pts_no : PTs X [] (TDB X.K W bYes) := ⟨fun pins s σ H Q I ⟨XR, δ, r, P, o, h, k⟩ => pts_nil.run pins s σ H Q I (k true r H h o Kp.refl)⟩
theorem pts_1 {c : Expr} {t : AB} (h : PDB X W c t) : PTs X [c] (TDB X.K W t) := pts_one h
theorem d_lc {elt tg iter : Expr} {ifs : List Expr} {scope : Scope} {own : List (Str × Nat)} {pos : Pos} {js : List Nat} {wi : AI} {g : AG} {tt : AB} {te : AT} (hN : X.N.Nodup) (hi : PDI X W tg iter wi) (ok : BlkOk X.N X.env.scope scope own)
    (hg : ∀ (s : Shared) (H : Hp) (C : Addr) (cl : List (Str × Addr)) (fp : List Addr), PDG (X.blk s H scope (compEnvC scope cl C X.env) fp) tg js g) (ht : ∀ (s : Shared) (H : Hp) (C : Addr) (cl : List (Str × Addr)) (fp : List Addr), PTs (X.blk s H scope (compEnvC scope cl C X.env) fp) ifs (TDB X.K W tt))
    (he : ∀ (s : Shared) (H : Hp) (C : Addr) (cl : List (Str × Addr)) (fp : List Addr), PD (X.blk s H scope (compEnvC scope cl C X.env) fp) W elt te) (hj : ∀ j ∈ js, j ∈ own.map (·.2) := by decide) (hc : X.calm = true := by rfl) (hs : ∀ x, foldedSetIterable iter X.env x = pure x := by intro _; rfl) :
    PD X W (.ListComp elt [⟨tg, iter, ifs, 0⟩] scope pos) (aLc wi g tt te (own.map (·.2))) :=
  imE (pe_lc (g := TDG X.K js g) (tt := TDB X.K W tt) (te := TD X.K W te) hc hN hi ok hg ht he hs) fun _ _ _ q => td_lc hj q
theorem s_setLc {i : Nat} {y : Str} {py : Pos} {elt tg iter : Expr} {ifs : List Expr} {scope : Scope} {own : List (Str × Nat)} {pos spos : Pos} {js : List Nat} {wi : AI} {g : AG} {tt : AB} {te : AT} (hN : X.N.Nodup) (hi : PDI X W tg iter wi) (ok : BlkOk X.N X.env.scope scope own)
    (hg : ∀ (s : Shared) (H : Hp) (C : Addr) (cl : List (Str × Addr)) (fp : List Addr), PDG (X.blk s H scope (compEnvC scope cl C X.env) fp) tg js g) (ht : ∀ (s : Shared) (H : Hp) (C : Addr) (cl : List (Str × Addr)) (fp : List Addr), PTs (X.blk s H scope (compEnvC scope cl C X.env) fp) ifs (TDB X.K W tt))
    (he : ∀ (s : Shared) (H : Hp) (C : Addr) (cl : List (Str × Addr)) (fp : List Addr), PD (X.blk s H scope (compEnvC scope cl C X.env) fp) W elt te) (hsw : swapsWith (.ListComp elt [⟨tg, iter, ifs, 0⟩] scope pos) (some (.Name y py)) spos.line X.env = pure true) (hj : ∀ j ∈ js, j ∈ own.map (·.2) := by decide)
    (hc : X.calm = true := by rfl) (hy : X.N[i]? = some y := by rfl) (hyl : X.env.scope.names.lookup y = some .local := by rfl) (hs : ∀ x, foldedSetIterable iter X.env x = pure x := by intro _; rfl) :
    PSD X W (.Assign [.Name y py] (.ListComp elt [⟨tg, iter, ifs, 0⟩] scope pos) spos) (sAsg i (aLc wi g tt te (own.map (·.2)))) :=
  imS (ps_setLc (g := TDG X.K js g) (tt := TDB X.K W tt) (te := TD X.K W te) hc hN hy hyl hsw hi ok hg ht he hs) fun D σ H ⟨δ, r, A, o, h, f⟩ => td_lc hj (td_bind o h fun d r1 v H1 h1 o1 k1 i1 => f.nx _ _ _ _ h1 (o1.set i1) k1)
end
section
variable {K : PySem.W.Frag} {x : XT} {g : AG} {te : AT} {tt : AB} {δw : Dl} {ds : List D} {r1 : Rs} {P : PK1}
theorem lc_map (f : D → D) (hz : small ds.length) (he : ∀ d ∈ ds, ∀ (r' : Rs) (P' : PK1), P' (f d) r' → g d δw fun δ2 => te x δ2 r' P') (hP : P (.lst (ds.map f)) r1) : aLcK x g bYes te δw ds r1 P := by
  refine ⟨fun i acc r' => acc = (ds.take i).map f ∧ r' = r1, ⟨rfl, rfl⟩, ?_, ?_⟩
  · rintro p i d acc r' hd ⟨rfl, rfl⟩
    have hi := (List.getElem?_eq_some_iff.mp hd).1
    refine Eq.mp ?_ (he d (List.mem_of_getElem? hd) (r' ++ [lstA p ((ds.take i).map f)]) (fun y r3 => small (((ds.take i).map f).length + 1) ∧ ∃ r4, le r3 (r4 ++ [lstA p ((ds.take i).map f)]) ∧ ((ds.take i).map f ++ [y] = (ds.take (i + 1)).map f ∧ r4 = r')) ?_)
    · congr 1
      funext δ2
      unfold bYes
      simp
    · refine ⟨?_, r', le.refl, ?_, rfl⟩
      · rw [List.length_map, List.length_take]
        have : small ds.length := hz
        unfold small at *
        omega
      · rw [List.take_add_one, hd, List.map_append]
        rfl
  · rintro acc r' ⟨rfl, rfl⟩
    rw [List.take_length]
    exact hP
end
end G
namespace G
open PySem PySem.Spec L2
open PyProof.Rows (envOfC)
abbrev XD := Addr → List Str → List D → Rs → Prop
abbrev SpX := List D → Rs → PK1 → XD → Prop
/-- a promise over data as a promise of the hand layer -/
def lift (K : PySem.W.Frag) (sd : SpX) : Sp := fun vs H Q E => ∃ (r : Rs) (ds : List D) (P : PK1) (XR : XD), Rok K r H ∧ IsAll K (mem r) H vs ds ∧ sd ds r P XR ∧
  (∀ d r' v H', P d r' → Rok K r' H' → Kp K r H r' H' → Is K (mem r') H' v d → Q v H') ∧
  (∀ C fs es r' a H', XR C fs es r' → Rok K r' H' → Kp K r H r' H' → ExAt K r' H' a fs es → E (.ref C) a H')
def noX : XD := fun _ _ _ _ => False
/-- the def at f keeps the promise sd -/
abbrev FO (P : Program) (w : World) (K : PySem.W.Frag) (mg : Str → Option Value) (base : Heap) (k : Nat) (f : Addr) (fd : FuncData) (ps : List Str) (sd : SpX) : Prop := FnOk P w K mg base (L2.CX P w) k f fd ps (lift K sd)
abbrev FR (P : Program) (w : World) (K : PySem.W.Frag) (mg : Str → Option Value) (base : Heap) (k : Nat) (f : Addr) (sd : SpX) : Prop := FnR P w K mg base (L2.CX P w) k f (lift K sd)
theorem lift_imp {K : PySem.W.Frag} {sd sd' : SpX} (h : ∀ ds r P XR, sd' ds r P XR → sd ds r P XR) : ∀ vs H Q E, lift K sd' vs H Q E → lift K sd vs H Q E := fun vs H Q E ⟨r, ds, P, XR, h1, h2, h3, h4⟩ => ⟨r, ds, P, XR, h1, h2, h _ _ _ _ h3, h4⟩
theorem fr_of {P : Program} {w : World} {K : PySem.W.Frag} {mg : Str → Option Value} {base : Heap} {k : Nat} {f : Addr} {fd : FuncData} {ps : List Str} {sd : SpX} (F : FO P w K mg base k f fd ps sd) (hb : Binds K fd ps []) : FR P w K mg base k f sd := by
  have q := F.raw hb .nil
  exact q.imp fun vs H Q E h => by rw [List.append_nil]; exact h
section
variable {X : Cx} {W : WX} {k : Nat} {f : Addr} {sd : SpX} {pins : List (Addr × Obj)} {σ : L2.St} {H : Hp} {s : Shared} {us : List Value} {vs : List V}
theorem run_at {sp : Sp} {E : XK} {Q : VK} (F : FnR X.prog X.w X.K X.mg X.base (L2.CX X.prog X.w) k f sp) (hr : Room k X.A) (hx : PassesAt (L2.CX X.prog X.w) X σ E) (I : L2.Inv X pins σ H s) (r : Vals vs us) (h : sp vs H Q E) :
    codeAny (model X.prog X.w) X.A (.call (.ref f) ⟨us, []⟩) (fun r s' => match r with | .ok (.ret v) => EP X pins σ Q v s' | .ok _ => False | .error e => X.xe e s') s := by
  refine codeAny_mono (F X.A X.stack s H us vs Q E hr I.env0 r h) fun r s' hq => ?_
  cases r with
  | error e => exact hx pins H s e s' I hq
  | ok fl =>
    cases fl with
    | ret u => exact I.after hq
    | next => exact False.elim hq
    | brk => exact False.elim hq
    | cont => exact False.elim hq
/-- nothing is let out -/
theorem passN {E : XK} (h : ∀ c d H, ¬ E c d H) : PassesAt (L2.CX X.prog X.w) X σ E := fun _ _ _ _ _ _ hh => by
  obtain ⟨_, _, _, _, _, _, _, _, _, _, _, _, z⟩ := hh
  exact (h _ _ _ z).elim
theorem lift_at {XR : XT} {r : Rs} {δ : Dl} {P : PK1} {ds : List D} {Q : VK} (o : Ok X.K W XR r δ σ H) (i : IsAll X.K (mem r) H vs ds) (h : sd ds r P fun C fs es r' => XR C fs es δ r')
    (k : ∀ d r' v H', P d r' → Ok X.K W XR r' δ σ H' → Kp X.K r H r' H' → Is X.K (mem r') H' v d → Q v H') : lift X.K sd vs H Q (WE W σ) :=
  ⟨r, ds, P, _, o.r, i, h, fun d r' v H' a b c i => k d r' v H' a (o.step c b) c i, fun C fs es r' a H' x ro kk e => o.x C fs es δ r' σ a H' x (o.b.step kk ro) kk e⟩
theorem lift_n {XR : XT} {r : Rs} {δ : Dl} {P : PK1} {ds : List D} {Q : VK} (o : Ok X.K W XR r δ σ H) (i : IsAll X.K (mem r) H vs ds) (h : sd ds r P noX)
    (k : ∀ d r' v H', P d r' → Ok X.K W XR r' δ σ H' → Kp X.K r H r' H' → Is X.K (mem r') H' v d → Q v H') : lift X.K sd vs H Q E0 :=
  ⟨r, ds, P, _, o.r, i, h, fun d r' v H' a b c i => k d r' v H' a (o.step c b) c i, fun _ _ _ _ _ _ x => x.elim⟩
theorem passE : PassesAt (L2.CX X.prog X.w) X σ E0 := passN fun _ _ _ z => z
end
/-- a call's reading: what is raised goes on; nothing is raised -/
def aCall (sd : SpX) (l : AL) : AT := fun x δ r P => l x δ r fun ds r1 => sd ds r1 P fun C fs es r' => x C fs es δ r'
def aCallN (sd : SpX) (l : AL) : AT := fun x δ r P => l x δ r fun ds r1 => sd ds r1 P noX
section
variable {X : Cx} {W : WX} {k : Nat} {f : Addr} {sd : SpX} {x : Str} {p pos : Pos} {e : Expr} {es : List Expr} {l : AL}
theorem call_P {sp : Sp} {E : XK} {Q : VK} {pins : List (Addr × Obj)} {σ : L2.St} {H : Hp} {s : Shared} {us : List Value} {vs : List V} (F : FnR X.prog X.w X.K X.mg X.base (L2.CX X.prog X.w) k f sp) (hr : Room k X.A) (hx : PassesAt (L2.CX X.prog X.w) X σ E) (I : L2.Inv X pins σ H s) (r : Vals vs us) (h : sp vs H Q E) :
    wpAny (model X.prog X.w) X.A (call (.ref f) us) (EP X pins σ Q) X.xe s := wpAny_call (run_at F hr hx I r h)
/-- x(e, ..) -/
theorem call_any (F : FR X.prog X.w X.K X.mg X.base k f sd) (hr : Room k X.A) (hk : PySem.W.keepIn X.K (.ref f) = true) (hm : X.mg x = some (.ref f)) (tr : AT) (ha : PDL X W (e :: es) l)
    (im : ∀ {pins : List (Addr × Obj)} {σ : L2.St} {H : Hp} {s : Shared} {Q : VK}, TD X.K W tr σ H Q → L2.Inv X pins σ H s → TDL X.K W l σ H fun vs H1 => ∃ E : XK, PassesAt (L2.CX X.prog X.w) X σ E ∧ lift X.K sd vs H1 Q E)
    (hg : Gl X x) (hdb : (x == ("__debug__" : Str)) = false) (he : starEach (e :: es) X.env = (false, eval e X.env) :: starEach es X.env) (hpl : (backTo pos (starEach es X.env)).any (·.1) = false) : PD X W (.Call (.Name x p) (e :: es) [] pos) tr := by
  refine ⟨fun pins s σ H Q I h => ?_⟩
  refine wpAny_Call_Name_kw (ld_glob I hg hm ?_ hdb)
  refine PySem.W.callWith_K (h₀ := X.base) I.ok.mod.kin hk (thn (ha.run pos pins s σ H _ I (im h I)) fun us s1 ⟨vs, H1, I1, r, E, hx, q⟩ => ⟨I1.kIn, ?_⟩) he hpl
  exact call_P F hr hx I1 r q
theorem d_call (F : FR X.prog X.w X.K X.mg X.base k f sd) (tk : Takes X W) (hr : Room k X.A) (hm : X.mg x = some (.ref f)) (hk : PySem.W.keepIn X.K (.ref f) = true)
    (ha : PDL X W (e :: es) l) (hg : Gl X x := by rfl) (hdb : (x == ("__debug__" : Str)) = false := by decide) (he : starEach (e :: es) X.env = (false, eval e X.env) :: starEach es X.env := by rfl) (hpl : (backTo pos (starEach es X.env)).any (·.1) = false := by rfl) :
    PD X W (.Call (.Name x p) (e :: es) [] pos) (aCall sd l) := call_any F hr hk hm _ ha (fun q I => by
  obtain ⟨XR, δ, r, P, ok, h, kk⟩ := q
  exact tdl_bind ok h fun ds r1 vs H1 h1 o1 k1 i1 => ⟨_, passAt tk _, lift_at o1 i1 h1 fun d r' v H' a b c i => kk d r' v H' a b (k1.trans c) i⟩) hg hdb he hpl
theorem d_callN (F : FR X.prog X.w X.K X.mg X.base k f sd) (hr : Room k X.A) (hm : X.mg x = some (.ref f)) (hk : PySem.W.keepIn X.K (.ref f) = true)
    (ha : PDL X W (e :: es) l) (hg : Gl X x := by rfl) (hdb : (x == ("__debug__" : Str)) = false := by decide) (he : starEach (e :: es) X.env = (false, eval e X.env) :: starEach es X.env := by rfl) (hpl : (backTo pos (starEach es X.env)).any (·.1) = false := by rfl) :
    PD X W (.Call (.Name x p) (e :: es) [] pos) (aCallN sd l) := call_any F hr hk hm _ ha (fun q I => by
  obtain ⟨XR, δ, r, P, ok, h, kk⟩ := q
  exact tdl_bind ok h fun ds r1 vs H1 h1 o1 k1 i1 => ⟨_, passE, lift_n o1 i1 h1 fun d r' v H' a b c i => kk d r' v H' a b (k1.trans c) i⟩) hg hdb he hpl
end
def startD (N : List Str) (ds : List D) : Dl := ds.map some ++ List.replicate (N.length - ds.length) none
/-- a promise that any heap is told by, kept -/
def fit (P : PK1) : PK1 := fun d r' => ∃ r0, le r' r0 ∧ P d r0
theorem fit.of {P : PK1} {d : D} {r : Rs} (h : P d r) : fit P d r := ⟨r, le.refl, h⟩
def fitX (XR : XD) : XT := fun C fs es _ r' => ∃ r0, le r' r0 ∧ XR C fs es r0
theorem fitX.of {XR : XD} {C : Addr} {fs : List Str} {es : List D} {δ : Dl} {r : Rs} (h : XR C fs es r) : fitX XR C fs es δ r := ⟨r, le.refl, h⟩
theorem ExAt.anti {K : PySem.W.Frag} {r r' : Rs} {H : Hp} {a : Option Addr} {fs : List Str} {ds : List D} (h : ∀ a, mem r' a → mem r a) (e : ExAt K r H a fs ds) : ExAt K r' H a fs ds := by
  cases a with
  | none => exact e
  | some a =>
    obtain ⟨h0, kvs, h1, h2, h3⟩ := e
    exact ⟨fun z => h0 (h _ z), kvs, h1, h2, all_of (fun _ _ => is_anti h) h3⟩
abbrev WK (E : XK) : WX := fun cls d _ H => E cls d H
abbrev W0 : WX := fun _ _ _ _ => False
section
variable {P : Program} {w : World} {K : PySem.W.Frag} {mg : Str → Option Value} {base : Heap}
theorem start_ok {W : WX} {XR : XT} {N : List Str} {vs : List V} {ds : List D} {r : Rs} {H : Hp} (ro : Rok K r H) (hi : IsAll K (mem r) H vs ds) (x : Xc K W XR r H) : Ok K W XR r (startD N ds) (L2.start N vs) H := by
  refine ⟨⟨fun i d e => ?_, ro, ?_⟩, x⟩
  · unfold startD at e
    unfold L2.start
    rcases Nat.lt_or_ge i ds.length with hlt | hge
    · rw [List.getElem?_append_left (by simpa using hlt), List.getElem?_map] at e
      cases q : ds[i]? with
      | none => rw [q] at e; cases e
      | some d0 =>
        rw [q] at e
        cases e
        obtain ⟨v, h1, h2⟩ := hi.getD q
        exact ⟨v, by rw [List.getElem?_append_left (by rw [List.length_map, hi.length]; exact hlt), List.getElem?_map, h1] <;> rfl, h2⟩
    · rw [List.getElem?_append_right (by simpa using hge), List.getElem?_replicate] at e
      split at e <;> cases e
  · unfold startD L2.start
    rw [List.length_append, List.length_append, List.length_map, List.length_map, List.length_replicate, List.length_replicate, hi.length]
/-- THE RULE for a def -/
theorem fn_d {x qual : Str} {st : Stmt} {f : Addr} {fd : FuncData} {N ps : List Str} {k : Nat} {sd : SpX} (F : Fun K x qual st f fd) (S : FnScope N ps (defScope st)) (len : ∀ ds r P' XR, sd ds r P' XR → ds.length = ps.length)
    (hbody : ∀ (cdv : Value) (A : Around) (outer : List Env) (s : Shared) (H : Hp) (E : XK), Room k (A.deeper (envOfC qual (defScope st) s.heap.objs.size f cdv)) → Takes (cxOf (L2.CX P w) P w K mg base N qual (defScope st) f cdv A outer s H E) (WK E) →
      PassesOwn (model P w) (cxOf (L2.CX P w) P w K mg base N qual (defScope st) f cdv A outer s H E).A (cxOf (L2.CX P w) P w K mg base N qual (defScope st) f cdv A outer s H E).env (cxOf (L2.CX P w) P w K mg base N qual (defScope st) f cdv A outer s H E).xe →
      ∃ t : AS, PBD (cxOf (L2.CX P w) P w K mg base N qual (defScope st) f cdv A outer s H E) (WK E) (defBody st) t ∧
      ∀ ds r P' XR, sd ds r P' XR → t { nx := fun _ r' => fit P' .non r', rt := fit P', xr := fitX XR } (startD N ds) r) : FO P w K mg base (k + 1) f fd ps sd := by
  refine F.okX S (fun vs H Q E h => ?_) (fun cdv A outer s H vs Q E hr h => ?_)
  · obtain ⟨r, ds, P', XR, hr, hi, hs, _, _⟩ := h
    rw [hi.length]
    exact len _ _ _ _ hs
  · obtain ⟨r, ds, P', XR, ro, hi, hs, hq, hx⟩ := h
    obtain ⟨t, ht, hread⟩ := hbody cdv A outer s H E hr (takes_of rfl rfl rfl rfl) (passes_of rfl)
    refine ⟨_, ht, startD N ds, r, { nx := fun _ r' => fit P' .non r', rt := fit P', xr := fitX XR }, start_ok ro hi ?_, hread ds r P' XR hs, ⟨fun δ' r' σ' H' a o k => ?_, fun d r' v H' a o k i => ?_, fun _ _ _ _ z => z.elim, fun _ _ _ _ z => z.elim⟩⟩
    · rintro C fs es δ' r' σ' a H' ⟨r0, l, q⟩ o k e
      exact hx C fs es r0 a H' q (l.r _ _ o.r) (k.trans l.kp) (e.anti l.m)
    · obtain ⟨r0, l, a⟩ := a
      exact hq _ r0 _ H' a (l.r _ _ o.r) (k.trans l.kp) .non
    · obtain ⟨r0, l, a⟩ := a
      exact hq _ r0 _ H' a (l.r _ _ o) (k.trans l.kp) (is_anti l.m i)
end
section
variable {X : Cx} {W : WX}
structure KD (K : PySem.W.Frag) (w : World) (d : Addr) (tbl : List (Str × D)) : Prop where
  at_ : ∃ es n, K.lookup d = some ⟨.type "dict", none, .dict es n, #[]⟩ ∧ PySem.W.KeysLit w.params es.toList
  low : (d == sysModules) = false
  get : ∀ z : Str, match tbl.lookup z with
    | some dd => ∃ u v, PySem.W.nsIn K d z = some (some u) ∧ RelV v u ∧ ∀ M H, Is K M H v dd
    | none => PySem.W.nsIn K d z = some none
variable {dk : Addr} {tbl : List (Str × D)}
def oKin (d : Addr) (tbl : List (Str × D)) (neg : Bool) : O2 := fun x y k => match x with | .str z => y = .adr d ∧ k (.bl (cond neg (!(tbl.lookup z).isSome) (tbl.lookup z).isSome)) | _ => False
theorem p_kin (T : KD X.K X.w dk tbl) : OpR X (compareOp .In) (rD X.K (oKin dk tbl false)) := by
  rintro pins s σ H x y v u Q I rx ry ⟨r, d1, d2, P, hr, i1, i2, ho, k⟩
  cases i1 <;> try exact ho.elim
  rename_i z hz
  obtain ⟨rfl, ho⟩ := ho
  cases i2
  obtain ⟨es, n, hl, hk⟩ := T.at_
  have g := T.get z
  split at g
  · rename_i dd e
    obtain ⟨u0, v0, h1, h2, h3⟩ := g
    rw [e] at ho
    exact op_in_kd ⟨hl, hk, T.low⟩ pins s σ H _ _ v u Q I rx ry ⟨z, _, rfl, rfl, h1, k _ _ H ho (Ext.refl H) (.bl _)⟩
  · rename_i e
    rw [e] at ho
    exact op_in_kd ⟨hl, hk, T.low⟩ pins s σ H _ _ v u Q I rx ry ⟨z, _, rfl, rfl, g, k _ _ H ho (Ext.refl H) (.bl _)⟩
theorem d_adr {x : Str} {a : Addr} {pos : Pos} (hm : X.mg x = some (.ref a)) (hg : Gl X x := by rfl) (hdb : (x == ("__debug__" : Str)) = false := by decide) : PD X W (.Name x pos) (aC (.adr a)) := d_glob (v := .ref a) hg hm rfl (fun _ _ => .adr a) hdb
theorem kd_find {P : Program} {K : PySem.W.Frag} {w : World} {h : Heap} {d : Addr} {tbl : List (Str × D)} (T : KD K w d tbl) (X : K.In h) : ∃ f, h.MapOf (strKind P w) d f ∧ ∀ z, PySem.W.nsIn K d z = some (f z) := by
  obtain ⟨es, n, hl, hk⟩ := T.at_
  refine ⟨_, PySem.W.mapOf_K (prog := P) X hl hk, fun z => ?_⟩
  have g := T.get z
  split at g
  · obtain ⟨u, v, h1, _⟩ := g
    rw [h1, PySem.W.find_K hl h1]
  · rw [g, PySem.W.find_K hl g]
theorem kd_type' {pins : List (Addr × Obj)} {σ : L2.St} {H : Hp} {s : Shared} (T : KD X.K X.w dk tbl) (I : Inv X pins σ H s) : s.TypeIs (.ref dk) "dict" ∧ ∀ a, (Value.ref dk) = .ref a → ∃ ob, s.heap.get? a = some ob ∧ ob.dict = none := by
  obtain ⟨es, n, hl, hk⟩ := T.at_
  refine ⟨(PySem.W.mapOf_K (prog := X.prog) (w := X.w) I.kIn hl hk).typeIs, fun a e => ?_⟩
  cases e
  exact ⟨_, I.kIn _ _ hl, rfl⟩
end
end G
namespace G
open PySem PySem.Spec L2
open PyProof.Rows (envOfC)
/-- the def st stands under the module's name x -/
def Dfn (K : PySem.W.Frag) (mg : Str → Option Value) (x : Str) (st : Stmt) (ps : List Str) : Prop := ∃ f fd, Fun K x x st f fd ∧ mg x = some (.ref f) ∧ Binds K fd ps []
/-- the module's name x may be called by the promise sd -/
def Cl (P : Program) (w : World) (K : PySem.W.Frag) (mg : Str → Option Value) (base : Heap) (k : Nat) (x : Str) (ps : List Str) (sd : SpX) : Prop :=
  ∃ f fd, FO P w K mg base k f fd ps sd ∧ mg x = some (.ref f) ∧ PySem.W.keepIn K (.ref f) = true ∧ Binds K fd ps []
theorem cl_of {P : Program} {w : World} {K : PySem.W.Frag} {mg : Str → Option Value} {base : Heap} {x : Str} {st : Stmt} {N ps : List Str} {k : Nat} {sd : SpX} (Dx : Dfn K mg x st ps) (S : FnScope N ps (defScope st)) (len : ∀ ds r P' XR, sd ds r P' XR → ds.length = ps.length)
    (hbody : ∀ (f : Addr) (cdv : Value) (A : Around) (outer : List Env) (s : Shared) (H : Hp) (E : XK), Room k (A.deeper (envOfC x (defScope st) s.heap.objs.size f cdv)) → Takes (cxOf (L2.CX P w) P w K mg base N x (defScope st) f cdv A outer s H E) (WK E) →
      PassesOwn (model P w) (cxOf (L2.CX P w) P w K mg base N x (defScope st) f cdv A outer s H E).A (cxOf (L2.CX P w) P w K mg base N x (defScope st) f cdv A outer s H E).env (cxOf (L2.CX P w) P w K mg base N x (defScope st) f cdv A outer s H E).xe →
      ∃ t : AS, PBD (cxOf (L2.CX P w) P w K mg base N x (defScope st) f cdv A outer s H E) (WK E) (defBody st) t ∧
      ∀ ds r P' XR, sd ds r P' XR → t { nx := fun _ r' => fit P' .non r', rt := fit P', xr := fitX XR } (startD N ds) r) : Cl P w K mg base (k + 1) x ps sd := by
  obtain ⟨f, fd, F, g, b⟩ := Dx
  exact ⟨f, fd, fn_d F S len (hbody f), g, F.kp, b⟩
/-- a promise that is never asked -/
theorem cl_never {P : Program} {w : World} {K : PySem.W.Frag} {mg : Str → Option Value} {base : Heap} {x : Str} {st : Stmt} {ps : List Str} {k : Nat} {sd : SpX} (Dx : Dfn K mg x st ps) (h : ∀ ds r P' XR, ¬ sd ds r P' XR) : Cl P w K mg base k x ps sd := by
  obtain ⟨f, fd, F, g, b⟩ := Dx
  exact ⟨f, fd, ⟨fun vs H Q E ⟨r, ds, P', XR, _, _, z, _⟩ => (h _ _ _ _ z).elim, fun A outer s H args us vs Q E _ _ _ _ ⟨r, ds, P', XR, _, _, z, _⟩ => (h _ _ _ _ z).elim⟩, g, F.kp, b⟩
theorem Cl.imp {P : Program} {w : World} {K : PySem.W.Frag} {mg : Str → Option Value} {base : Heap} {x : Str} {ps : List Str} {k : Nat} {sd sd' : SpX} (c : Cl P w K mg base k x ps sd) (h : ∀ ds r P XR, sd' ds r P XR → sd ds r P XR) : Cl P w K mg base k x ps sd' := by
  obtain ⟨f, fd, F, g, kp, b⟩ := c
  exact ⟨f, fd, FnOk.imp F (lift_imp h), g, kp, b⟩
theorem Cl.mono {P : Program} {w : World} {K : PySem.W.Frag} {mg : Str → Option Value} {base : Heap} {x : Str} {ps : List Str} {j k : Nat} {sd : SpX} (c : Cl P w K mg base j x ps sd) (h : j ≤ k) : Cl P w K mg base k x ps sd := by
  obtain ⟨f, fd, F, g, kp, b⟩ := c
  exact ⟨f, fd, FnOk.mono F h, g, kp, b⟩
/-- a def that was walked as one that lets nothing out -/
theorem cl_cx0 {P : Program} {w : World} {K : PySem.W.Frag} {mg : Str → Option Value} {base : Heap} {x : Str} {ps : List Str} {k : Nat} {sd : SpX} {f : Addr} {fd : FuncData} (F : FnOk P w K mg base CX0 k f fd ps (lift K sd)) (g : mg x = some (.ref f)) (kp : PySem.W.keepIn K (.ref f) = true) (b : Binds K fd ps []) : Cl P w K mg base k x ps sd := by
  refine ⟨f, fd, ⟨F.len, fun A outer s H args us vs Q E hr he hb hv hs => codeAny_mono (F.run A outer s H args us vs Q E hr he hb hv hs) fun r s' h => ?_⟩, g, kp, b⟩
  cases r with
  | ok fl => cases fl <;> exact h
  | error e => exact h.elim
section
variable {X : Cx} {W : WX} {k j : Nat} {ps : List Str} {sd : SpX} {x : Str} {p pos : Pos} {e : Expr} {es : List Expr} {l : AL}
theorem d_fn (C : Cl X.prog X.w X.K X.mg X.base k x ps sd) (tk : Takes X W) (hr : Room j X.A) (ha : PDL X W (e :: es) l) (hj : k ≤ j := by first | decide | exact Nat.le_refl _ | omega) (hg : Gl X x := by rfl) (hdb : (x == ("__debug__" : Str)) = false := by decide)
    (he : starEach (e :: es) X.env = (false, eval e X.env) :: starEach es X.env := by rfl) (hpl : (backTo pos (starEach es X.env)).any (·.1) = false := by rfl) : PD X W (.Call (.Name x p) (e :: es) [] pos) (aCall sd l) := by
  obtain ⟨f, fd, F, g, kp, b⟩ := C
  exact d_call (fr_of F b) tk (hr.mono hj) g kp ha hg hdb he hpl
theorem d_fnN (C : Cl X.prog X.w X.K X.mg X.base k x ps sd) (hr : Room j X.A) (ha : PDL X W (e :: es) l) (hj : k ≤ j := by first | decide | exact Nat.le_refl _ | omega) (hg : Gl X x := by rfl) (hdb : (x == ("__debug__" : Str)) = false := by decide)
    (he : starEach (e :: es) X.env = (false, eval e X.env) :: starEach es X.env := by rfl) (hpl : (backTo pos (starEach es X.env)).any (·.1) = false := by rfl) : PD X W (.Call (.Name x p) (e :: es) [] pos) (aCallN sd l) := by
  obtain ⟨f, fd, F, g, kp, b⟩ := C
  exact d_callN (fr_of F b) (hr.mono hj) g kp ha hg hdb he hpl
end
/-- names that the module does not bind -/
structure Bl (mg : Str → Option Value) : Prop where
  len : mg "len" = none
  int : mg "int" = none
  list : mg "list" = none
  tuple : mg "tuple" = none
  isi : mg "isinstance" = none
  range : mg "range" = none
  all : mg "all" = none
  any : mg "any" = none
  str : mg "str" = none
  bool : mg "bool" = none
  enum : mg "enumerate" = none
  zip : mg "zip" = none
  sum : mg "sum" = none
  max : mg "max" = none
  min : mg "min" = none
  sorted : mg "sorted" = none
  set : mg "set" = none
  dict : mg "dict" = none
theorem own_step {K : PySem.W.Frag} {t t' : At} {X : Rs} {H H' : Hp} (h : Rok K (t :: X) H) (hm : t'.M = t.M) (hk : ∀ b o, ¬ t.M b → H b = some o → H' b = some o) (hT : ∀ b, t.M b → ∀ u, Rd H b u → ∀ xs, u ≠ .tup xs) (ht : t'.R K (mem (t' :: X)) H') : Rok K (t' :: X) H' ∧ Kp K (t :: X) H (t' :: X) H' := by
  have me : mem (t' :: X) = mem (t :: X) := by
    show (fun a => t'.M a ∨ mem X a) = (fun a => t.M a ∨ mem X a)
    rw [hm]
  have go : Kp K (t :: X) H (t' :: X) H' := fun v d q => by
    rw [me]
    refine Is.go (fun a o _ n s => ⟨n, hk a _ (fun z => n (.inl z)) s⟩) (fun a xs s => ?_) _ _ q
    rcases s with s | s
    · have na : ¬ t.M a := fun z => hT a z _ s xs rfl
      rcases s with s | ⟨o, s⟩
      · exact .inl (.inl (hk a _ na s))
      · exact .inl (.inr ⟨o, hk a _ na s⟩)
    · exact .inr s
  obtain ⟨h1, h2, h3⟩ := h
  have go' : ∀ v d, Is K (mem (t :: X)) H v d → Is K (mem (t :: X)) H' v d := by
    have g := go
    unfold Kp at g
    rw [me] at g
    exact g
  refine ⟨⟨ht, by rw [hm]; exact h2, ?_⟩, go⟩
  rw [me]
  exact hold_loc (fun b o m q => hk b o (fun z => h2 b z m) q) go' h3
/-- the pool of draws at p, its script's rest at a; fewer than N draws so far -/
def poolA (p a : Addr) (N : Nat) : At where
  M := fun b => b = p ∨ b = a
  R := fun _ _ H => p ≠ a ∧ ∃ (ns : List Int) (c1 c2 c3 : Int), H p = some (.lst [.ref a, .int c1, .int c2, .int c3]) ∧ H a = some (.lst (ns.map V.int)) ∧ 0 ≤ c1 ∧ 0 ≤ c2 ∧ c2 ≤ N ∧ 0 ≤ c3 ∧ c3 < 2147483629 ∧ ns.length ≤ 63
  loc := fun f _ ⟨ne, ns, c1, c2, c3, h1, h2, h⟩ => ⟨ne, ns, c1, c2, c3, f _ _ (.inl rfl) h1, f _ _ (.inr rfl) h2, h⟩
  anti := fun _ h => h
  grow := fun _ h => h
  al := fun ⟨ne, ns, c1, c2, c3, h1, h2, h⟩ b z => z.elim (fun e => ⟨_, e.symm ▸ h1⟩) fun e => ⟨_, e.symm ▸ h2⟩
theorem pool_mono {p a : Addr} {N N' : Nat} (h : N ≤ N') {X : Rs} : le (poolA p a N :: X) (poolA p a N' :: X) :=
  ⟨fun b z => z, fun K H ⟨⟨ne, ns, c1, c2, c3, h1, h2, h3, h4, h5, h6⟩, q, q2⟩ => ⟨⟨ne, ns, c1, c2, c3, h1, h2, h3, h4, by omega, h6⟩, q, q2⟩⟩
/-- a draw below m -/
def spDraw : SpX := fun ds r P _ => ∃ p a m N X, ds = [.adr p, .int m] ∧ r = poolA p a N :: X ∧ (0 < m ∧ m ≤ 10000000000000000000000000000000000000000) ∧ N < 1000000000000 ∧ ∀ k, 0 ≤ k → k < m → P (.int k) (poolA p a (N + 1) :: X)
theorem pool_step {K : PySem.W.Frag} {p a : Addr} {N N' : Nat} {X : Rs} {H H' : Hp} (h : Rok K (poolA p a N :: X) H) (hk : ∀ b o, b ≠ p → b ≠ a → H b = some o → H' b = some o) (ht : (poolA p a N').R K (mem (poolA p a N' :: X)) H') : Rok K (poolA p a N' :: X) H' ∧ Kp K (poolA p a N :: X) H (poolA p a N' :: X) H' := by
  obtain ⟨⟨ne, ns, c1, c2, c3, h1, h2, _⟩, _, _⟩ := id h
  refine own_step h rfl (fun b o n q => hk b o (fun e => n (.inl e)) (fun e => n (.inr e)) q) (fun b z u q xs e => ?_) ht
  subst e
  rcases z with rfl | rfl
  · rcases q with q | ⟨o, q⟩
    · rw [h1] at q; cases q
    · rw [h1] at q; cases q
  · rcases q with q | ⟨o, q⟩
    · rw [h2] at q; cases q
    · rw [h2] at q; cases q
theorem pget_list {X : Cx} : PGet X (fun o i H Q => ∃ (p : Addr) (xs : List V) (j : Nat) (v : V), o = .ref p ∧ i = .int (j : Nat) ∧ j < 1000000 ∧ SqL X.K H p xs ∧ xs[j]? = some v ∧ Q v H) := by
  rintro pins s σ H o i ov iv Q I ro ri ⟨p, xs, j, v, rfl, rfl, hj, hq, hv, q⟩
  cases ro
  obtain ⟨t, rfl⟩ := ri
  obtain ⟨its, r, pl, hz⟩ := I.list hq
  obtain ⟨u, hu, ru⟩ := r.get hv
  exact wpAny_getItem_list pl.isList (by omega) (by omega) (by simpa using hu) ⟨v, H, I, ru, q⟩
theorem brT {A B : Prop} (h : A) : (true = true → A) ∧ (true = false → B) := ⟨fun _ => h, fun e => (by cases e)⟩
theorem brF {A B : Prop} (h : B) : (false = true → A) ∧ (false = false → B) := ⟨fun e => (by cases e), fun _ => h⟩
theorem brt {b : Bool} {A B : Prop} (e : b = true) (h : A) : (b = true → A) ∧ (b = false → B) := ⟨fun _ => h, fun q => by rw [e] at q; cases q⟩
theorem brf {b : Bool} {A B : Prop} (e : b = false) (h : B) : (b = true → A) ∧ (b = false → B) := ⟨fun q => (by rw [e] at q; cases q), fun _ => h⟩
end G
namespace G
open PySem PySem.Spec L2
open PyProof.Rows (envOfC)
abbrev tl (x : Str) : List Nat := x.cps.toList
def strL : List D → Option (List Str)
  | [] => some []
  | .str z :: r => (strL r).map (z :: ·)
  | _ :: _ => none
theorem strL_map : ∀ (l : List Str), strL (l.map .str) = some l
  | [] => rfl
  | b :: bs => by simp [strL, strL_map bs]
theorem strL_all {K : PySem.W.Frag} {N : Addr → Prop} {H : Hp} : ∀ {vs : List V} {ds : List D} {ys : List Str}, IsAll K N H vs ds → strL ds = some ys → vs = ys.map V.str ∧ ∀ y ∈ ys, sok y
  | _, _, _, .nil, e => by cases e; exact ⟨rfl, fun _ h => by cases h⟩
  | _, d :: ds, bs, .cons i t, e => by
    cases i <;> try (simp [strL] at e; done)
    rename_i z hz
    simp only [strL] at e
    cases q : strL ds with
    | none => rw [q] at e; cases e
    | some cs =>
      rw [q] at e
      cases e
      obtain ⟨h1, h2⟩ := strL_all t q
      rw [h1]
      exact ⟨rfl, fun y hy => (List.mem_cons.mp hy).elim (fun e => e ▸ hz) (h2 y)⟩
theorem sok_iff {z : Str} : sok z ↔ (∀ c ∈ tl z, c < 1114112) ∧ (tl z).length ≤ 1000000 := by
  unfold sok PyData.strOk Str.length
  rw [← Array.all_toList, List.all_eq_true, Array.length_toList]
  simp only [decide_eq_true_eq]
theorem joinL_mem {S : List Nat} {c : Nat} : ∀ {ps : List (List Nat)}, c ∈ TL.joinL S ps → c ∈ S ∨ ∃ p ∈ ps, c ∈ p
  | [], h => by cases h
  | [p], h => .inr ⟨p, List.mem_cons_self, h⟩
  | p :: q :: r, h => by
    rcases List.mem_append.mp h with h | h
    · exact .inr ⟨p, List.mem_cons_self, h⟩
    · rcases List.mem_append.mp h with h | h
      · exact .inl h
      · rcases joinL_mem (ps := q :: r) h with h | ⟨x, h1, h2⟩
        · exact .inl h
        · exact .inr ⟨x, List.mem_cons_of_mem _ h1, h2⟩
theorem joinL_len {S : List Nat} : ∀ {ps : List (List Nat)}, (TL.joinL S ps).length ≤ (ps.map List.length).sum + ps.length * S.length
  | [] => by simp [TL.joinL]
  | [p] => by simp [TL.joinL]
  | p :: q :: r => by
    have ih := joinL_len (S := S) (ps := q :: r)
    simp only [TL.joinL, List.length_append, List.map_cons, List.sum_cons, List.length_cons, Nat.add_mul, Nat.one_mul] at ih ⊢
    omega
def tJoin (a : Str) (ys : List Str) : Str := Txt.join a ys
theorem tl_tJoin (a : Str) (ys : List Str) : tl (tJoin a ys) = TL.joinL (tl a) (ys.map tl) := by
  unfold tJoin
  rw [TL.join_eq]
  exact TL.tl_join a ys
theorem tl_len (ys : List Str) : (ys.map tl).map List.length = ys.map (·.length) := by
  rw [List.map_map]
  rfl
def oJoinP (x y : D) (k : D → Prop) : Prop := match x with
  | .str a => match y with
    | .lst ds => (match strL ds with | some ys => (ys.map (·.length)).sum + ys.length * a.length ≤ 1000000 ∧ k (.str (tJoin a ys)) | none => False)
    | .tup ds => (match strL ds with | some ys => (ys.map (·.length)).sum + ys.length * a.length ≤ 1000000 ∧ k (.str (tJoin a ys)) | none => False)
    | _ => False
  | _ => False
structure oJoin (x y : D) (k : D → Prop) : Prop where
  ex : oJoinP x y k
def aM1 (o : O2) (ta tb : AT) : AT := fun x δ r P => ta x δ r fun d1 r1 => match d1 with | .str z => tb x δ r1 fun d2 r2 => o (.str z) d2 fun d => P d r2 | _ => False
theorem sok_join {a : Str} {ys : List Str} (ha : sok a) (hy : ∀ y ∈ ys, sok y) (hz : (ys.map (·.length)).sum + ys.length * a.length ≤ 1000000) : sok (tJoin a ys) := by
  rw [sok_iff, tl_tJoin]
  refine ⟨fun c hc => ?_, ?_⟩
  · rcases joinL_mem hc with h | ⟨p, hp, h⟩
    · exact (sok_iff.mp ha).1 c h
    · obtain ⟨y, h1, rfl⟩ := List.mem_map.mp hp
      exact (sok_iff.mp (hy y h1)).1 c h
  · have := joinL_len (S := tl a) (ps := ys.map tl)
    rw [tl_len, List.length_map] at this
    exact Nat.le_trans this hz
section
variable {X : Cx} {W : WX} {o e : Expr} {ta tb : AT} {apos pos : Pos}
theorem d_join (ho : PD X W o ta) (he : PD X W e tb) (hs : starEach [e] X.env = [(false, eval e X.env)] := by rfl) (hbase : attributeBase o "join" X.env (eval o X.env) = eval o X.env := by rfl) (hline : (apos.endLine == pos.line) = true := by rfl) :
    PD X W (.Call (.Attribute o "join" apos) [e] [] pos) (aM1 oJoin ta tb) := imE (pe_join ho he hs hbase hline) fun σ H Q q => by
  obtain ⟨XR, δ, r, P, ok, h, k⟩ := q
  refine td_bind ok h fun d1 r1 v1 H1 h1 o1 k1 i1 => ?_
  cases i1 <;> try exact h1.elim
  rename_i z hz
  refine ⟨⟨z, rfl⟩, td_bind o1 h1 fun d2 r2 v2 H2 h2 o2 k2 i2 => ?_⟩
  obtain ⟨h2⟩ := h2
  cases i2 <;> try exact h2.elim
  · rename_i n hl al
    simp only [oJoinP] at h2
    split at h2
    · rename_i ys hys
      obtain ⟨e1, e2⟩ := strL_all al hys
      subst e1
      exact ⟨z, _, ys, rfl, rfl, .inl (SqL.of hl), Nat.le_trans h2.1 (by decide), k _ r2 _ H2 h2.2 o2 (k1.trans k2) (.str (sok_join hz e2 h2.1))⟩
    · exact h2.elim
  · rename_i hl al
    simp only [oJoinP] at h2
    split at h2
    · rename_i ys hys
      obtain ⟨e1, e2⟩ := strL_all al hys
      subst e1
      exact ⟨z, _, ys, rfl, rfl, .inr hl, Nat.le_trans h2.1 (by decide), k _ r2 _ H2 h2.2 o2 (k1.trans k2) (.str (sok_join hz e2 h2.1))⟩
    · exact h2.elim
end
def isLet (c : Nat) : Bool := decide (97 ≤ c) && decide (c ≤ 122)
/-- 1 to 8 letters a to z -/
def isNm (z : Str) : Bool := decide (1 ≤ z.length) && decide (z.length ≤ 8) && (tl z).all isLet
/-- a word is drawn -/
def spWord : SpX := fun ds r P _ => ∃ p a N X, ds = [.adr p] ∧ r = poolA p a N :: X ∧ N < 100000000000 ∧ ∀ z, isNm z = true → P (.str z) (poolA p a (N + 9) :: X)
/-- the pool is made of a script -/
def spPool (K : PySem.W.Frag) : Sp := fun vs H Q _ => ∃ (s : Addr) (ns : List Int), vs = [.ref s] ∧ SqL K H s (ns.map V.int) ∧ ns.length ≤ 63 ∧ ∀ p a H', Rok K [poolA p a 0] H' → Q (.ref p) H'
/-- a law: a list of at most 63 ints is handed in, True comes out -/
def spLaw (K : PySem.W.Frag) : Sp := fun vs H Q _ => ∃ (a : Addr) (ns : List Int), vs = [.ref a] ∧ SqL K H a (ns.map V.int) ∧ ns.length ≤ 63 ∧ ∀ H', Q (.bl true) H'
end G
namespace G
open PySem PySem.Spec L2
theorem ix_s {z : Str} {i : Int} {c : Nat} {k : D → Prop} (h : atI (tl z) i = some c) (q : k (.str ⟨#[c]⟩)) : oIx (.str z) (.int i) k := by
  refine ⟨?_⟩
  show (match atI (tl z) i with | some c => k (.str ⟨#[c]⟩) | none => False)
  rw [h]
  exact q
theorem ix_l {z : List D} {i : Int} {c : D} {k : D → Prop} (h : atI z i = some c) (q : k c) : oIx (.lst z) (.int i) k := by
  refine ⟨?_⟩
  show (match atI z i with | some c => k c | none => False)
  rw [h]
  exact q
theorem ix_t {z : List D} {i : Int} {c : D} {k : D → Prop} (h : atI z i = some c) (q : k c) : oIx (.tup z) (.int i) k := by
  refine ⟨?_⟩
  show (match atI z i with | some c => k c | none => False)
  rw [h]
  exact q
theorem join_l {a : Str} {ds : List D} {ys : List Str} {k : D → Prop} (h : strL ds = some ys) (hz : (ys.map (·.length)).sum + ys.length * a.length ≤ 1000000) (q : k (.str (tJoin a ys))) : oJoin (.str a) (.lst ds) k := by
  refine ⟨?_⟩
  show (match strL ds with | some ys => (ys.map (·.length)).sum + ys.length * a.length ≤ 1000000 ∧ k (.str (tJoin a ys)) | none => False)
  rw [h]
  exact ⟨hz, q⟩
def sg (c : Nat) : Str := ⟨#[c]⟩
theorem joinL_sg : ∀ cs : List Nat, TL.joinL [] (cs.map fun c => [c]) = cs
  | [] => rfl
  | [c] => rfl
  | c :: d :: r => by
    have ih := joinL_sg (d :: r)
    show [c] ++ ([] ++ TL.joinL [] ((d :: r).map fun c => [c])) = _
    rw [ih]
    rfl
theorem tl_signs (cs : List Nat) : tl (tJoin ⟨#[]⟩ (cs.map sg)) = cs := by
  rw [tl_tJoin, List.map_map]
  exact joinL_sg cs
theorem len_tl (z : Str) : z.length = (tl z).length := by unfold Str.length tl; simp
theorem sum_ones : ∀ cs : List Nat, ((cs.map sg).map (·.length)).sum = cs.length
  | [] => rfl
  | c :: cs => by
    rw [List.map_cons, List.map_cons, List.sum_cons, sum_ones cs, List.length_cons]
    show 1 + cs.length = _
    omega
theorem nm_signs {cs : List Nat} (h1 : 1 ≤ cs.length) (h8 : cs.length ≤ 8) (h : ∀ c ∈ cs, isLet c = true) : isNm (tJoin ⟨#[]⟩ (cs.map sg)) = true := by
  unfold isNm
  rw [len_tl, tl_signs]
  simp only [Bool.and_eq_true, decide_eq_true_eq, List.all_eq_true]
  exact ⟨⟨h1, h8⟩, h⟩
theorem strL_sg (cs : List Nat) : strL (cs.map fun c => D.str (sg c)) = some (cs.map sg) := by
  have h := strL_map (cs.map sg)
  rw [List.map_map] at h
  exact h
def abc : Str := "abcdefghijklmnopqrstuvwxyz"
theorem abc_all : ((List.range 26).all fun n => match atI (tl abc) ((n : Nat) : Int) with | some c => isLet c | none => false) = true := by decide +kernel
theorem abc_at {k : Int} (h0 : 0 ≤ k) (h1 : k < 26) : ∃ c, atI (tl abc) k = some c ∧ isLet c = true := by
  have h := List.all_eq_true.mp abc_all k.toNat (List.mem_range.mpr (by omega))
  rw [Int.toNat_of_nonneg h0] at h
  cases e : atI (tl abc) k with
  | none => rw [e] at h; cases h
  | some c => rw [e] at h; exact ⟨c, rfl, h⟩
mutual
/-- no address in it, nothing long -/
def plain : D → Bool
  | .adr _ => false | .ins _ _ _ => false | .dct _ _ => false | .lst ds => decide (ds.length ≤ 1000000) && plains ds | .tup ds => decide (ds.length ≤ 1000000) && plains ds | _ => true
def plains : List D → Bool
  | [] => true
  | d :: ds => plain d && plains ds
end
mutual
/-- the same, True no 1 -/
def same : D → D → Bool
  | .non, .non => true
  | .bl a, .bl b => a == b
  | .int a, .int b => a == b
  | .str a, .str b => a == b
  | .lst a, .lst b => sames a b
  | .tup a, .tup b => sames a b
  | _, _ => false
def sames : List D → List D → Bool
  | [], [] => true
  | a :: as, b :: bs => same a b && sames as bs
  | _, _ => false
end
mutual
theorem same_refl : ∀ d : D, plain d = true → same d d = true
  | .non, _ => rfl
  | .bl b, _ => by simp [same]
  | .int b, _ => by simp [same]
  | .str b, _ => by simp [same]
  | .adr _, h => by cases h
  | .ins _ _ _, h => by cases h
  | .dct _ _, h => by cases h
  | .lst ds, h => by simp only [same]; exact sames_refl ds (by simp only [plain, Bool.and_eq_true] at h; exact h.2)
  | .tup ds, h => by simp only [same]; exact sames_refl ds (by simp only [plain, Bool.and_eq_true] at h; exact h.2)
theorem sames_refl : ∀ ds : List D, plains ds = true → sames ds ds = true
  | [], _ => rfl
  | d :: ds, h => by
    simp only [plains, Bool.and_eq_true] at h
    simp only [sames, same_refl d h.1, sames_refl ds h.2]
    rfl
end
theorem plain_tup {ds : List D} (h : plain (.tup ds) = true) : ds.length ≤ 1000000 ∧ plains ds = true := by
  simp only [plain, Bool.and_eq_true, decide_eq_true_eq] at h
  exact h
theorem plain_lst {ds : List D} (h : plain (.lst ds) = true) : ds.length ≤ 1000000 ∧ plains ds = true := by
  simp only [plain, Bool.and_eq_true, decide_eq_true_eq] at h
  exact h
theorem plain_of_tup {ds : List D} (h : ds.length ≤ 1000000) (g : plains ds = true) : plain (.tup ds) = true := by
  simp only [plain, Bool.and_eq_true, decide_eq_true_eq]
  exact ⟨h, g⟩
theorem plains_mem : ∀ {ds : List D} {d : D}, plains ds = true → d ∈ ds → plain d = true
  | [], _, _, m => by cases m
  | a :: as, d, h, m => by
    simp only [plains, Bool.and_eq_true] at h
    rcases List.mem_cons.mp m with rfl | m
    · exact h.1
    · exact plains_mem h.2 m
theorem plains_of : ∀ {ds : List D}, (∀ d ∈ ds, plain d = true) → plains ds = true
  | [], _ => rfl
  | a :: as, h => by
    simp only [plains, Bool.and_eq_true]
    exact ⟨h a List.mem_cons_self, plains_of fun d m => h d (List.mem_cons_of_mem _ m)⟩
theorem sames_len : ∀ {a b : List D}, sames a b = true → a.length = b.length
  | [], [], _ => rfl
  | _ :: _, _ :: _, h => by
    simp only [sames, Bool.and_eq_true] at h
    rw [List.length_cons, List.length_cons, sames_len h.2]
  | [], _ :: _, h => by simp [sames] at h
  | _ :: _, [], h => by simp [sames] at h
theorem eqD_int (a b : Int) : eqD (.int a) (.int b) = (a == b) := rfl
theorem ne_len {m n : Nat} (h : m ≠ n) : (!eqD (.int m) (.int n)) = true := by
  rw [eqD_int]
  simp
  omega
theorem eq_len {m n : Nat} (h : m = n) : (!eqD (.int m) (.int n)) = false := by
  rw [eqD_int, h]
  simp
theorem sames_at : ∀ {xs ys : List D} {j : Nat} {x y : D}, sames xs ys = true → xs[j]? = some x → ys[j]? = some y → same x y = true
  | [], _, j, x, y, _, e, _ => by simp at e
  | _ :: _, [], j, x, y, h, _, _ => by simp [sames] at h
  | a :: as, b :: bs, 0, x, y, h, e, f => by
    simp only [sames, Bool.and_eq_true] at h
    simp at e f
    rw [← e, ← f]
    exact h.1
  | a :: as, b :: bs, j + 1, x, y, h, e, f => by
    simp only [sames, Bool.and_eq_true] at h
    exact sames_at (j := j) h.2 (by simpa using e) (by simpa using f)
theorem sames_of : ∀ {xs ys : List D}, xs.length = ys.length → (∀ (j : Nat) (x y : D), xs[j]? = some x → ys[j]? = some y → same x y = true) → sames xs ys = true
  | [], [], _, _ => rfl
  | [], _ :: _, h, _ => by cases h
  | _ :: _, [], h, _ => by cases h
  | a :: as, b :: bs, h, f => by
    simp only [sames, Bool.and_eq_true]
    exact ⟨f 0 a b rfl rfl, sames_of (by simpa using h) fun j x y e g => f (j + 1) x y (by simpa using e) (by simpa using g)⟩
theorem plains_at : ∀ {xs : List D} {j : Nat} {x : D}, plains xs = true → xs[j]? = some x → plain x = true
  | [], j, x, _, e => by simp at e
  | a :: as, 0, x, h, e => by
    simp only [plains, Bool.and_eq_true] at h
    simp at e
    rw [← e]
    exact h.1
  | a :: as, j + 1, x, h, e => by
    simp only [plains, Bool.and_eq_true] at h
    exact plains_at (j := j) h.2 (by simpa using e)
theorem deps_at : ∀ {xs : List D} {j : Nat} {x : D}, xs[j]? = some x → dep x ≤ deps xs
  | [], j, x, e => by simp at e
  | a :: as, 0, x, e => by
    simp at e
    rw [← e]
    simp only [deps]
    omega
  | a :: as, j + 1, x, e => by
    have := deps_at (xs := as) (j := j) (x := x) (by simpa using e)
    simp only [deps]
    omega
/-- the loop of _law_same -/
theorem same_sides {xs ys : List D} {j : Nat} {y : D} (hl : xs.length = ys.length) (e : ys[j]? = some y) : ∃ x, xs[j]? = some x := by
  have := (List.getElem?_eq_some_iff.mp e).1
  exact ⟨xs[j]'(by omega), by simp⟩
/-- _law_same: two data, depth below n -/
def spSame (n : Nat) : SpX := fun ds r P _ => ∃ a b, ds = [a, b] ∧ plain a = true ∧ plain b = true ∧ dep a ≤ 64 ∧ dep b < n ∧ P (.bl (same a b)) r
end G
namespace G
open PySem PySem.Spec L2
open PyProof.Rows (envOfC)
/-- the pairs of a written dict with text keys -/
def KdL (K : PySem.W.Frag) (P : Params) : List DictEntry → List (Str × D) → Prop
  | [], [] => True
  | e :: r, (x, d) :: t => (∃ tk, e.key = .str x tk ∧ e.hash = PyData.keyHash P x ∧ ∃ v, RelV v e.val ∧ ∀ M H, Is K M H v d) ∧ KdL K P r t
  | _, _ => False
theorem KdL.lit {K : PySem.W.Frag} {P : Params} : ∀ {es : List DictEntry} {tbl : List (Str × D)}, KdL K P es tbl → PySem.W.KeysLit P es
  | [], [], _ => trivial
  | e :: r, (x, d) :: t, ⟨⟨tk, h1, h2, _⟩, h⟩ => ⟨⟨x, tk, h1, h2⟩, h.lit⟩
  | [], _ :: _, h => h.elim
  | _ :: _, [], h => h.elim
theorem isStr_str (x z : Str) (t : Tok) : (Value.str x t).isStr z = (x == z) := by
  rw [PySem.W.isStr_of]
  rfl
theorem KdL.find {K : PySem.W.Frag} {P : Params} (z : Str) : ∀ {es : List DictEntry} {tbl : List (Str × D)}, KdL K P es tbl → match tbl.lookup z with
    | some d => ∃ e v, es.find? (·.key.isStr z) = some e ∧ RelV v e.val ∧ ∀ M H, Is K M H v d
    | none => es.find? (·.key.isStr z) = none ∧ es.any (·.refKey) = false
  | [], [], _ => ⟨rfl, rfl⟩
  | [], _ :: _, h => h.elim
  | _ :: _, [], h => h.elim
  | e :: r, (x, d) :: t, ⟨⟨tk, h1, h2, v, h3, h4⟩, h⟩ => by
    have ih := KdL.find z h
    rw [List.lookup_cons, List.find?_cons, h1, isStr_str]
    by_cases hz : x = z
    · subst hz
      have e1 : (x == x) = true := by simp
      rw [e1]
      exact ⟨e, v, rfl, h3, h4⟩
    · have e1 : (x == z) = false := by simpa using hz
      have e2 : (z == x) = false := by simpa using fun q => hz q.symm
      rw [e1, e2]
      dsimp only
      have e3 : e.refKey = false := by unfold DictEntry.refKey; rw [h1]
      cases q : t.lookup z with
      | some d0 => rw [q] at ih; exact ih
      | none =>
        rw [q] at ih
        refine ⟨ih.1, ?_⟩
        rw [List.any_cons, e3, ih.2]
        rfl
theorem kd_of {K : PySem.W.Frag} {w : World} {d : Addr} {es : Array DictEntry} {n : Nat} {tbl : List (Str × D)} (hl : K.lookup d = some ⟨.type "dict", none, .dict es n, #[]⟩) (low : (d == sysModules) = false) (ht : KdL K w.params es.toList tbl) : KD K w d tbl := by
  refine ⟨⟨es, n, hl, ht.lit⟩, low, fun z => ?_⟩
  have h := ht.find z
  unfold PySem.W.nsIn
  rw [hl]
  dsimp only
  cases q : tbl.lookup z with
  | some d0 =>
    rw [q] at h
    obtain ⟨e, v, h1, h2, h3⟩ := h
    rw [h1]
    exact ⟨e.val, v, rfl, h2, h3⟩
  | none =>
    rw [q] at h
    show (match es.toList.find? _ with | some e => _ | none => _) = _
    rw [h.1]
    dsimp only
    rw [h.2]
    rfl
theorem law_go {K : PySem.W.Frag} {W : WX} {t : AS} {N : List Str} {Dd : Ends} {s p a : Addr} {H' : Hp} (ro : Rok K [poolA p a 0] H') (hD : ∀ H', Dd.rt (.bl true) H')
    (h : t { nx := fun _ _ => False, rt := fun d _ => d = .bl true } (none :: some (.adr p) :: List.replicate (N.length - 2) none) [poolA p a 0]) (hN : 2 ≤ N.length := by decide) : TSD K W t Dd ((L2.start N [.ref s]).set 1 (some (.ref p))) H' := by
  refine ⟨_, _, { nx := fun _ _ => False, rt := fun d _ => d = .bl true }, ⟨⟨fun i d e => ?_, ro, ?_⟩, fun _ _ _ _ _ _ _ _ z => z.elim⟩, h, ⟨fun _ _ _ _ z => z.elim, fun d r' v H2 e _ _ i => ?_, fun _ _ _ _ z => z.elim, fun _ _ _ _ z => z.elim⟩⟩
  · match i with
    | 0 => cases e
    | 1 =>
      cases e
      refine ⟨.ref p, ?_, .adr p⟩
      rw [List.getElem?_set_self]
      unfold L2.start
      simp
      omega
    | i + 2 =>
      have e : (List.replicate (N.length - 2) (none : Option D))[i]? = some (some d) := e
      rw [List.getElem?_replicate] at e
      split at e <;> cases e
  · unfold L2.start
    simp
    omega
  · subst e
    cases i
    exact hD _
theorem dfn_mk {K : PySem.W.Frag} {h : Heap} {mg : Str → Option Value} (X : K.In h) (G : h.Ns mainGlobals mg) {x : Str} {st : Stmt} {ps : List Str} {f : Addr} {oc : Value} {od an : Option Addr} {osl : Array (Option Value)} {kV doc pm cdv ct : Value}
    (a : PySem.W.nsIn K mainGlobals x = some (some (.ref f))) (l : K.lookup f = some ⟨oc, od, .func (PySem.W.fnOf x x (defArgs st) (defBody st) (defScope st) .none kV doc pm an cdv ct), osl⟩) (c : PySem.W.codeIn K cdv x = true) (k : PySem.W.keepIn K (.ref f) = true)
    (b : ∀ (kV doc pm : Value) (an : Option Addr) (cdv ct : Value) (us : List Value), us.length = ps.length → bindArgs (PySem.W.fnOf x x (defArgs st) (defBody st) (defScope st) .none kV doc pm an cdv ct) ⟨us, []⟩ = pure (ps.zip us)) : Dfn K mg x st ps :=
  have F := fun_mk (st := st) l c k
  ⟨f, _, F, PySem.W.mg_of X G a, F.binds b⟩
theorem law_end {P : Program} {w : World} {K : PySem.W.Frag} {h : Heap} {mg : Str → Option Value} (X : K.In h) (G : h.Ns mainGlobals mg) {fa f : Addr} {st : Stmt} {n : Nat} (hfa : mg "law" = some (.ref fa)) {oc : Value} {od an : Option Addr} {osl : Array (Option Value)} {kV doc pm cdv ct : Value}
    (a : PySem.W.nsIn K mainGlobals "law" = some (some (.ref f))) (l : K.lookup f = some ⟨oc, od, .func (PySem.W.fnOf "law" "law" (defArgs st) (defBody st) (defScope st) .none kV doc pm an cdv ct), osl⟩) (c : PySem.W.codeIn K cdv "law" = true) (k : PySem.W.keepIn K (.ref f) = true)
    (b : ∀ v : Value, bindArgs (PySem.W.fnOf "law" "law" (defArgs st) (defBody st) (defScope st) .none kV doc pm an cdv ct) ⟨[v], []⟩ = pure [(("_law_script" : Str), v)])
    (ok : ∀ (base : Heap) (fd : FuncData), Fun K "law" "law" st f fd → FnOk P w K mg base CX0 n f fd ["_law_script"] (spLaw K)) :
    ∃ fd : FuncData, (∀ (s : Shared) (v : Value), BindsTo s fd ⟨[v], []⟩ [("_law_script", v)]) ∧ ∀ base : Heap, K.In base → base.Ns mainGlobals mg → FnOk P w K mg base CX0 n fa fd ["_law_script"] (spLaw K) := by
  have e := hfa.symm.trans (PySem.W.mg_of X G a)
  cases e
  exact ⟨_, fun s v => .of_eq (b v), fun base _ _ => ok base _ (fun_mk (st := st) l c k)⟩
theorem at0 {α : Type} {z : α} {l : List α} : atI (z :: l) 0 = some z := L2.atI_nat (j := 0) rfl
theorem at1 {α : Type} {z y : α} {l : List α} : atI (z :: y :: l) 1 = some y := L2.atI_nat (j := 1) rfl
theorem at2 {α : Type} {z y x : α} {l : List α} : atI (z :: y :: x :: l) 2 = some x := L2.atI_nat (j := 2) rfl
theorem sl_t {xs : List D} {lo hi : Option Int} {k : D → Prop} (h : k (.tup (cutD xs lo hi))) : oSl (.tup xs) lo hi k := ⟨h⟩
theorem sl_l {xs : List D} {lo hi : Option Int} {k : D → Prop} (h : k (.lst (cutD xs lo hi))) : oSl (.lst xs) lo hi k := ⟨h⟩
theorem cutD_from (n : Nat) (xs : List D) : cutD xs (some (n : Int)) none = xs.drop n := by
  unfold cutD
  have e : HT.sIx xs.length 0 (some (n : Int)) = min n xs.length := HT.sIx_nat xs.length 0 n
  rw [e, HT.sIx_none]
  rcases Nat.le_total n xs.length with h | h
  · rw [Nat.min_eq_left h]
    exact List.take_of_length_le (by rw [List.length_drop]; exact Nat.le_refl _)
  · rw [Nat.min_eq_right h, List.drop_eq_nil_of_le h, List.drop_eq_nil_of_le (Nat.le_refl _)]
    exact List.take_nil
theorem oSl_n (n : Nat) {vs : List D} {k : D → Prop} (h : k (.tup (vs.drop n))) : oSl (.tup vs) (some (n : Int)) none k := sl_t (by rw [cutD_from]; exact h)
theorem oSl_1 {v : D} {vs : List D} {k : D → Prop} (h : k (.tup vs)) : oSl (.tup (v :: vs)) (some 1) none k := oSl_n 1 h
end G
namespace G
open PySem PySem.Spec L2
open PyProof.Rows (envOfC)
structure PMt (X : Cx) (p : Pattern) (f : Str → Bool) : Prop where
  run : ∀ (pins : List (Addr × Obj)) (s : Shared) (σ : L2.St) (H : Hp) (z : Str) (t : Tok) (Q : Option (List (Str × Value)) → Shared → Prop), Inv X pins σ H s → sok z →
    (∀ s', Inv X pins σ H s' → Q (cond (f z) (some []) none) s') → wpAny (model X.prog X.w) X.A (matchPattern p X.env (.str z t)) Q X.xe s
structure PMf (X : Cx) (ps : List Pattern) (f : Str → Bool) : Prop where
  run : ∀ (pins : List (Addr × Obj)) (s : Shared) (σ : L2.St) (H : Hp) (z : Str) (t : Tok) (Q : Option (List (Str × Value)) → Shared → Prop), Inv X pins σ H s → sok z →
    (∀ s', Inv X pins σ H s' → Q (cond (f z) (some []) none) s') → wpAny (model X.prog X.w) X.A (matchFirst ps X.env (.str z t)) Q X.xe s
section
variable {X : Cx} {W : WX}
theorem pm_v {c : Str} {j : Nat} {p1 pos : Pos} (hu : X.A.units + 64 < cLine) (h : sokB c = true := by decide +kernel) : PMt X (.MatchValue (.Constant (.str c) j p1) pos) (fun z => z == c) := by
  refine ⟨fun pins s σ H z t Q I hz k => wpAny_matchPattern_Value ?_⟩
  refine thn ((pe_str (X := X) (x := c) (j := j) (pos := p1)).run pins s σ H (fun v H' => v = .str c ∧ H' = H) I ⟨rfl, rfl⟩) fun x s1 ⟨v, H1, I1, r1, e1, e2⟩ => ?_
  subst e1
  subst e2
  have i1 : Is X.K (fun _ => False) H1 (.str z) (.str z) := .str hz
  have i2 : Is X.K (fun _ => False) H1 (.str c) (.str c) := .str (sok_of h)
  obtain ⟨a1, b1⟩ := shaped_py i1 (Nat.zero_le _)
  obtain ⟨a2, b2⟩ := shaped_py i2 (Nat.zero_le _)
  refine thn (op_eqD hu pins s1 σ H1 (.str z) (.str c) (.str z t) x (fun v H' => v = .bl (z == c) ∧ H' = H1) I1 ⟨t, rfl⟩ r1 ⟨_, _, a1, a2, b1, b2, rfl, rfl⟩) fun cc s2 ⟨v, H2, I2, r2, e1, e2⟩ => ?_
  subst e1
  subst e2
  cases r2
  refine wpAny_truthy_bool ?_
  have := k s2 I2
  cases q : (z == c) <;> rw [q] at this <;> exact this
theorem pm_any {pos : Pos} : PMt X (.MatchAs none none pos) (fun _ => true) := ⟨fun pins s σ H z t Q I hz k => wpAny_matchPattern_Capture (k s I)⟩
theorem pf_nil : PMf X [] (fun _ => false) := ⟨fun pins s σ H z t Q I hz k => wpAny_matchFirst_nil (k s I)⟩
theorem pf_cons {p : Pattern} {ps : List Pattern} {f g : Str → Bool} (h : PMt X p f) (h2 : PMf X ps g) : PMf X (p :: ps) (fun z => f z || g z) := by
  refine ⟨fun pins s σ H z t Q I hz k => wpAny_matchFirst_cons (h.run pins s σ H z t _ I hz fun s1 I1 => ?_)⟩
  cases q : f z with
  | true =>
    have := fun s' I' => k s' I'
    simp only [q, Bool.true_or, cond_true] at this
    exact this s1 I1
  | false =>
    refine h2.run pins s1 σ H z t Q I1 hz fun s2 I2 => ?_
    have := k s2 I2
    rw [q, Bool.false_or] at this
    exact this
theorem pm_or {ps : List Pattern} {pos : Pos} {f : Str → Bool} (h : PMf X ps f) : PMt X (.MatchOr ps pos) f := by
  refine ⟨fun pins s σ H z t Q I hz k => wpAny_matchPattern_Or (h.run pins s σ H z t _ I hz fun s1 I1 => ?_)⟩
  have := k s1 I1
  cases q : f z with
  | true =>
    rw [q] at this
    have e : ((namesOfAll (ps.take 1)).filterMap fun n => (([] : List (Str × Value)).lookup n).map (n, ·)) = [] := by
      induction namesOfAll (ps.take 1) with
      | nil => rfl
      | cons a l ih => exact ih
    show Q (some ((namesOfAll (ps.take 1)).filterMap fun n => (([] : List (Str × Value)).lookup n).map (n, ·))) s1
    rw [e]
    exact this
  | false =>
    rw [q] at this
    exact this
/-- the cases at a text -/
def PCs (X : Cx) (W : WX) (cs : List MatchCase) (t : Str → AS) : Prop := ∀ (first : Bool) (pins : List (Addr × Obj)) (s : Shared) (σ : L2.St) (H : Hp) (D : Ends) (z : Str) (tk : Tok), Inv X pins σ H s → sok z → TSD X.K W (t z) D σ H →
  wpAny (model X.prog X.w) X.A (matchCases cs X.env (.str z tk) first) (SP X pins D) X.xe s
def sMc (f : Str → Bool) (u : AS) (v : Str → AS) : Str → AS := fun z A δ r => (f z = true → u A δ r) ∧ (f z = false → v z A δ r)
theorem pc_nil : PCs X W [] (fun _ => sNext) := fun first pins s σ H D z tk I hz ⟨δ, r, A, o, h, f⟩ => wpAny_matchCases_nil ⟨σ, H, I, f.nx _ _ _ _ h o Kp.refl⟩
theorem pc_cons {p : Pattern} {body : List Stmt} {cs : List MatchCase} {f : Str → Bool} {u : AS} {v : Str → AS} (h : PMt X p f) (hb : PBD X W body u) (hc : PCs X W cs v) : PCs X W (⟨p, none, body⟩ :: cs) (sMc f u v) :=
  fun first pins s σ H D z tk I hz ⟨δ, r, A, o, q, fi⟩ => wpAny_matchCases_cons (h.run pins s σ H z tk _ I hz fun s1 I1 => by
    cases e : f z with
    | true => exact wpAny_assignInOrder_none (hb.run pins s1 σ H D I1 ⟨δ, r, A, o, q.1 e, fi⟩)
    | false => exact hc false pins s1 σ H D z tk I1 hz ⟨δ, r, A, o, q.2 e, fi⟩)
def sMatch (te : AT) (t : Str → AS) : AS := fun A δ r => te A.xr δ r fun d r1 => match d with | .str z => t z A δ r1 | _ => False
theorem s_match {e : Expr} {cs : List MatchCase} {pos : Pos} {te : AT} {t : Str → AS} (he : PD X W e te) (hc : PCs X W cs t) : PSD X W (.Match e cs pos) (sMatch te t) := by
  refine ⟨fun pins s σ H D I ⟨δ, r, A, o, h, f⟩ => wpAny_Match ?_⟩
  refine thn (he.run pins s σ H (fun v H1 => ∃ z, v = .str z ∧ sok z ∧ TSD X.K W (t z) D σ H1) I (td_bind o h fun d r1 v H1 h1 o1 k1 i1 => ?_)) fun u s1 ⟨v, H1, I1, r1, z, e1, hz, q⟩ => ?_
  · cases i1 <;> try exact h1.elim
    rename_i z hz
    exact ⟨z, rfl, hz, δ, r1, A, o1, h1, f.step k1⟩
  · subst e1
    obtain ⟨tk, rfl⟩ := r1
    exact hc true pins s1 σ H1 D z tk I1 hz q
def zipD (xs ys : List D) : List D := (xs.zip ys).map fun e => .tup [e.1, e.2]
def iZp (l : AL) : AI := fun x δ r P => l x δ r fun ds r1 => match ds with
  | [.lst xs, .lst ys] => xs.length = ys.length ∧ P (zipD xs ys) r1
  | [.tup xs, .tup ys] => xs.length = ys.length ∧ P (zipD xs ys) r1
  | _ => False
theorem zipD_at {xs ys : List D} {i : Nat} {x y : D} (h1 : xs[i]? = some x) (h2 : ys[i]? = some y) : (zipD xs ys)[i]? = some (.tup [x, y]) := by
  unfold zipD
  rw [List.getElem?_map]
  have : (xs.zip ys)[i]? = some (x, y) := by
    rw [List.getElem?_zip_eq_some]
    exact ⟨h1, h2⟩
  rw [this]
  rfl
theorem zipD_len {xs ys : List D} (h : xs.length = ys.length) : (zipD xs ys).length = xs.length := by
  unfold zipD
  rw [List.length_map, List.length_zip, h, Nat.min_self]
theorem walks_zT {K : PySem.W.Frag} {r : Rs} {H : Hp} {a b : Addr} {ds es : List D} (hl : ds.length = es.length) (h : Is K (mem r) H (.ref a) (.tup ds)) (g : Is K (mem r) H (.ref b) (.tup es)) : Walks K (RZ.ItzT K a b) (zipD ds es) r H := by
  intro i r1 H1 k _
  cases k _ _ h with
  | tup s al =>
    cases k _ _ g with
    | tup s2 al2 =>
      rename_i xs ys
      refine ⟨fun hi => ?_, fun hi => ⟨xs, ys, s, s2, .inl (by rw [al.length, hi, zipD_len hl] <;> exact Nat.le_refl _)⟩⟩
      rw [zipD_len hl] at hi
      refine ⟨⟨xs, ys, xs[i]'(by rw [al.length]; exact hi), ys[i]'(by rw [al2.length, ← hl]; exact hi), s, s2, by simp, by simp⟩, ?_⟩
      rintro x H2 ⟨T, x1, y1, rfl, hT, rfl, hx, hy⟩
      obtain ⟨d1, h1, j1⟩ := al.get (hx xs s)
      obtain ⟨d2, h2, j2⟩ := al2.get (hy ys s2)
      exact ⟨Ext.new hT, .tup [d1, d2], zipD_at h1 h2, new_tup hT (.cons j1 (.cons j2 .nil))⟩
theorem walks_zL {K : PySem.W.Frag} {r : Rs} {H : Hp} {a b : Addr} {ds es : List D} (hl : ds.length = es.length) (h : Is K (mem r) H (.ref a) (.lst ds)) (g : Is K (mem r) H (.ref b) (.lst es)) : Walks K (Itz K a b) (zipD ds es) r H := by
  intro i r1 H1 k _
  cases k _ _ h with
  | lst n s al =>
    cases k _ _ g with
    | lst n2 s2 al2 =>
      rename_i xs ys
      refine ⟨fun hi => ?_, fun hi => ⟨xs, ys, SqL.of s, SqL.of s2, .inl (by rw [al.length, hi, zipD_len hl] <;> exact Nat.le_refl _)⟩⟩
      rw [zipD_len hl] at hi
      refine ⟨⟨xs, ys, xs[i]'(by rw [al.length]; exact hi), ys[i]'(by rw [al2.length, ← hl]; exact hi), SqL.of s, SqL.of s2, by simp, by simp⟩, ?_⟩
      rintro x H2 ⟨T, x1, y1, rfl, hT, rfl, hx, hy⟩
      obtain ⟨d1, h1, j1⟩ := al.get (hx xs (SqL.of s))
      obtain ⟨d2, h2, j2⟩ := al2.get (hy ys (SqL.of s2))
      exact ⟨Ext.new hT, .tup [d1, d2], zipD_at h1 h2, new_tup hT (.cons j1 (.cons j2 .nil))⟩
theorem i_zip {e e2 : Expr} {elts : List Expr} {kk : Nat} {p pos tpos : Pos} {l : AL} (hg : Gl X "zip") (hm : X.mg "zip" = none) (ha : PDL X W [e, e2] l)
    (hs : starEach [e, e2] X.env = (false, eval e X.env) :: starEach [e2] X.env := by rfl) (hpl : (backTo pos (starEach [e2] X.env)).any (·.1) = false := by rfl) : PDI X W (.Tuple elts kk tpos) (.Call (.Name "zip" p) [e, e2] [] pos) (iZp l) :=
  imI (RZ.pi_zipA hg hm ha hs hpl) fun σ H Q ⟨XR, δ, r, P, o, q, k⟩ => tdl_bind o q fun ds r1 vs H1 h1 o1 k1 i1 => by
    match ds, h1, i1 with
    | [.lst xs, .lst ys], h1, .cons (.lst n s al) (.cons (.lst n2 s2 al2) .nil) => exact ⟨_, _, _, _, rfl, .inl ⟨SqL.of s, SqL.of s2, k _ _ _ _ h1.2 o1 k1 (walks_zL h1.1 (.lst n s al) (.lst n2 s2 al2))⟩⟩
    | [.tup xs, .tup ys], h1, .cons (.tup s al) (.cons (.tup s2 al2) .nil) => exact ⟨_, _, _, _, rfl, .inr ⟨s, s2, k _ _ _ _ h1.2 o1 k1 (walks_zT h1.1 (.tup s al) (.tup s2 al2))⟩⟩
variable {dk : Addr} {tbl : List (Str × D)}
def oKix (d : Addr) (tbl : List (Str × D)) : O2 := fun x y k => x = .adr d ∧ match y with | .str z => (match tbl.lookup z with | some v => k v | none => False) | _ => False
theorem p_kix (T : KD X.K X.w dk tbl) : IxR X (rD X.K (oKix dk tbl)) := by
  rintro value slice pins s σ H x y v u Q I rx ry ⟨r, d1, d2, P, hr, i1, i2, ho, k⟩ hs
  obtain ⟨rfl, ho⟩ := ho
  cases i2 <;> try exact ho.elim
  rename_i z hz
  cases i1
  obtain ⟨es, n, hl, hk⟩ := T.at_
  have g := T.get z
  cases e : tbl.lookup z with
  | none => simp only [e] at ho
  | some d0 =>
    simp only [e] at ho g
    obtain ⟨u0, v0, h1, h2, h3⟩ := g
    exact ix_kdict value slice pins s σ H _ _ v u Q I rx ry ⟨dk, z, v0, rfl, rfl, ⟨es, n, u0, hl, hk, h1, h2⟩, k d0 v0 H ho (Ext.refl H) (h3 _ _)⟩ hs
theorem d_kix {a b : Expr} {ta tb : AT} {pos : Pos} (T : KD X.K X.w dk tbl) (ha : PD X W a ta) (hb : PD X W b tb) (hs : PlainIx b := by exact fun _ _ => rfl) : PD X W (.Subscript a b pos) (aOp (oKix dk tbl) ta tb) := imE (pe_ix (p_kix T) ha hb hs) fun _ _ _ q => td_op q
def aKGet1 (tbl : List (Str × D)) (te : AT) : AT := fun x δ r P => te x δ r fun k r1 => match k with | .str z => P ((tbl.lookup z).getD .non) r1 | _ => False
theorem d_kget1 {x : Str} {p apos cpos : Pos} {e : Expr} {te : AT} (T : KD X.K X.w dk tbl) (hm : X.mg x = some (.ref dk)) (he : PD X W e te) (m : M1 X (.Name x p) "get" apos e cpos) (hg : Gl X x := by rfl) (hdb : (x == ("__debug__" : Str)) = false := by decide) :
    PD X W (.Call (.Attribute (.Name x p) "get" apos) [e] [] cpos) (aKGet1 tbl te) := by
  refine ⟨fun pins s σ H Q I h => ?_⟩
  obtain ⟨XR, δ, r, P, o, h, k⟩ := h
  refine wpAny_Call_method m.base m.few m.line PySem.F.plainAttrs_dict PySem.F.slot_dict_get PySem.F.type_dict_get (ld_glob I hg hm ?_ hdb)
  obtain ⟨t1, t2⟩ := kd_type' T I
  refine ⟨t1, t2, ?_⟩
  rw [m.trees]
  refine Calls.callWith_builtin rfl (Calls.evalArgs_plain (Calls.spliced_cons (thn (he.run pins s σ H (fun v H3 => ∃ (w0 : V) (zz : Str), v = .str zz ∧ (∃ w1, RelV w0 w1 ∧ w1 = (match PySem.W.nsIn X.K dk zz with | some (some u0) => u0 | _ => Value.none)) ∧ Q w0 H3) I (td_bind o h fun kd r1 v H1 h1 o1 k1 i1 => ?_)) fun iv s2 ⟨y, H3, I3, ry, ⟨w0, zz, ey, hw, q3⟩⟩ => Calls.spliced_nil ?_)))
  · cases i1 <;> try exact h1.elim
    rename_i zz hz
    have h2 : P ((tbl.lookup zz).getD .non) r1 := h1
    have g := T.get zz
    split at g
    · rename_i dd e
      obtain ⟨u0, v0, g1, g2, g3⟩ := g
      rw [e] at h2
      exact ⟨v0, zz, rfl, ⟨u0, g2, by rw [g1]⟩, k dd r1 v0 H1 h2 o1 k1 (g3 _ _)⟩
    · rename_i e
      rw [e] at h2
      exact ⟨.non, zz, rfl, ⟨Value.none, rfl, by rw [g]⟩, k .non r1 .non H1 h2 o1 k1 .non⟩
  · subst ey
    obtain ⟨t, rfl⟩ := ry
    obtain ⟨fm, hmap, hfm⟩ := kd_find (P := X.prog) T I3.kIn
    obtain ⟨w1, hw1, ew⟩ := hw
    refine call_meetsIn PySem.F.slot_dict_get hmap.typeIs PySem.F.entry_dict_get (PySem.F.args_dict_get_2 _ _) (meets_dict_get (strKind X.prog X.w) dk (PySem.strKind_is X.prog X.w zz t) T.low) ⟨_, hmap, ⟨w0, H3, I3.tok _, ?_, q3⟩⟩
    have : w1 = (fm zz).getD Value.none := by
      rw [ew, hfm zz]
      cases fm zz <;> rfl
    rw [← this]
    exact hw1
end
end G
namespace G
open PySem PySem.Spec L2
def GS (mg : Str → Option Value) (x z : Str) : Prop := ∃ t, mg x = some (.str z t)
def GI (mg : Str → Option Value) (x : Str) (n : Int) : Prop := ∃ t, mg x = some (.int n t)
def GT (K : PySem.W.Frag) (mg : Str → Option Value) (x : Str) (xs : List Str) : Prop := ∃ a, mg x = some (.ref a) ∧ ∀ M H, Is K M H (.ref a) (.tup (xs.map .str))
def GD (K : PySem.W.Frag) (w : World) (mg : Str → Option Value) (x : Str) (tbl : List (Str × D)) : Prop := ∃ d, mg x = some (.ref d) ∧ KD K w d tbl
section
variable {X : Cx} {W : WX} {x : Str} {pos : Pos}
theorem d_gS {z : Str} (h : GS X.mg x z) (hz : sokB z = true := by decide +kernel) (hg : Gl X x := by rfl) (hdb : (x == ("__debug__" : Str)) = false := by decide) : PD X W (.Name x pos) (aC (.str z)) := by
  obtain ⟨t, h⟩ := h
  exact d_glob (v := .str z) hg h ⟨t, rfl⟩ (fun _ _ => .str (sok_of hz)) hdb
theorem d_gI {n : Int} (h : GI X.mg x n) (hg : Gl X x := by rfl) (hdb : (x == ("__debug__" : Str)) = false := by decide) : PD X W (.Name x pos) (aC (.int n)) := by
  obtain ⟨t, h⟩ := h
  exact d_glob (v := .int n) hg h ⟨t, rfl⟩ (fun _ _ => .int n) hdb
theorem d_gT {xs : List Str} (h : GT X.K X.mg x xs) (hg : Gl X x := by rfl) (hdb : (x == ("__debug__" : Str)) = false := by decide) : PD X W (.Name x pos) (aC (.tup (xs.map .str))) := by
  obtain ⟨a, h, i⟩ := h
  exact d_glob (v := .ref a) hg h rfl i hdb
end
/-- the texts of a written tuple -/
def strVs : List Value → Option (List Str)
  | [] => some []
  | .str x _ :: r => (strVs r).map (x :: ·)
  | _ :: _ => none
theorem strVs_vals : ∀ {l : List Value} {xs : List Str}, strVs l = some xs → Vals (xs.map V.str) l
  | [], _, e => by cases e; exact .nil
  | .str x t :: r, xs, e => by
    simp only [strVs] at e
    cases q : strVs r with
    | none => rw [q] at e; cases e
    | some ys =>
      rw [q] at e
      cases e
      exact .cons ⟨t, rfl⟩ (strVs_vals q)
theorem all_strs {K : PySem.W.Frag} {M : Addr → Prop} {H : Hp} : ∀ {xs : List Str}, xs.all sokB = true → IsAll K M H (xs.map V.str) (xs.map D.str)
  | [], _ => .nil
  | x :: xs, h => by
    rw [List.all_cons, Bool.and_eq_true] at h
    exact .cons (.str (sok_of h.1)) (all_strs h.2)
theorem isK_tup {K : PySem.W.Frag} {a : Addr} {od : Option Addr} {its : Array Value} {n : Nat} {sl : Array (Option Value)} {xs : List Str} (hl : K.lookup a = some ⟨.type "tuple", od, .seq its n, sl⟩) (h : strVs its.toList = some xs) (hs : xs.all sokB = true) (hn : xs.length ≤ 1000000) (M : Addr → Prop) (H : Hp) : Is K M H (.ref a) (.tup (xs.map .str)) := by
  have v := strVs_vals h
  refine .tup (xs := xs.map V.str) (.inr ⟨_, its, n, hl, rfl, rfl, ?_, v⟩) (all_strs hs)
  have e := v.length
  rw [List.length_map] at e
  have e2 : its.size = xs.length := by rw [← Array.length_toList]; exact e.symm
  rw [e2, sizeLine_eq]
  omega
theorem u65 {k : Nat} {A : Around} (r : Room k A) : A.units + 65 < cLine := by have := r.un; omega
theorem memD_str (z : Str) (xs : List Str) : memD (.str z) (xs.map .str) = xs.any fun y => y == z := by
  unfold memD
  rw [List.any_map]
  congr 1
theorem flat_strs (xs : List Str) : (xs.map D.str).all flat = true := by
  rw [List.all_map, List.all_eq_true]
  exact fun _ _ => rfl
theorem oIn_t {z : Str} {xs : List Str} {k : D → Prop} (h : k (.bl (xs.any fun y => y == z))) : oIn false (.str z) (.tup (xs.map .str)) k := ⟨⟨rfl, flat_strs xs, by rw [cond_false, memD_str]; exact h⟩⟩
theorem oNi_t {z : Str} {xs : List Str} {k : D → Prop} (h : k (.bl (!(xs.any fun y => y == z)))) : oIn true (.str z) (.tup (xs.map .str)) k := ⟨⟨rfl, flat_strs xs, by rw [cond_true, memD_str]; exact h⟩⟩
theorem oAll_of {f : List Bool → Bool} {xs : List D} {bs : List Bool} {k : D → Prop} (h : bls xs = some bs) (q : k (.bl (f bs))) : oAll f [.lst xs] k := by
  refine ⟨?_⟩
  show (match bls xs with | some bs => k (.bl (f bs)) | none => False)
  rw [h]
  exact q
theorem bls_of {α : Type} (f : α → Bool) (xs : List α) : bls (xs.map fun x => D.bl (f x)) = some (xs.map f) := by
  have := bls_map (xs.map f)
  rw [List.map_map] at this
  exact this
theorem abc_in : ((List.range 123).all fun c => isLet c == decide (c ∈ tl abc)) = true := by decide +kernel
theorem abc_max : ((tl abc).all fun c => decide (c < 123)) = true := by decide +kernel
theorem isLet_abc (c : Nat) : decide (c ∈ tl abc) = isLet c := by
  by_cases h : c < 123
  · exact (eq_of_beq (List.all_eq_true.mp abc_in c (List.mem_range.mpr h))).symm
  · have h1 : c ∉ tl abc := fun m => h (of_decide_eq_true (List.all_eq_true.mp abc_max c m))
    rw [decide_eq_false h1]
    unfold isLet
    have : ¬ c ≤ 122 := by omega
    simp [this]
def isNameD : D → Bool | .str z => isNm z | _ => false
def spIsName : SpX := fun ds r P _ => ∃ d, ds = [d] ∧ plain d = true ∧ P (.bl (isNameD d)) r
end G
namespace G
open PySem PySem.Spec L2
open PyProof.Rows (envOfC)
def Own (r : Rs) (l : Addr) (ds : List D) : Prop := ∃ pre post, r = pre ++ lstA l ds :: post
theorem Own.hd {r : Rs} {l : Addr} {ds : List D} : Own (lstA l ds :: r) l ds := ⟨[], r, rfl⟩
section
variable {K : PySem.W.Frag} {r pre post : Rs} {H : Hp} {l p : Addr} {ds es : List D} {vs ws : List V}
theorem mem_mid {x y : At} (h : x.M = y.M) : mem (pre ++ x :: post) = mem (pre ++ y :: post) := by
  funext a
  refine propext ((mem_append (r := pre) (r' := x :: post)).trans (Iff.trans ?_ (mem_append (r := pre) (r' := y :: post)).symm))
  show (mem pre a ∨ (x.M a ∨ mem post a)) ↔ (mem pre a ∨ (y.M a ∨ mem post a))
  rw [h]
theorem own_mid (h : Rok K (pre ++ lstA l ds :: post) H) : ∃ vs, H l = some (.lst vs) ∧ IsAll K (mem (pre ++ lstA l ds :: post)) H vs ds := by
  obtain ⟨_, ⟨h2, _⟩, _⟩ := hold_append.mp h
  exact h2
theorem own_get (h : Rok K r H) (o : Own r l ds) : ∃ vs, H l = some (.lst vs) ∧ IsAll K (mem r) H vs ds := by
  obtain ⟨pre, post, rfl⟩ := o
  exact own_mid h
theorem own_mem : mem (pre ++ lstA l ds :: post) l := mem_append.mpr (.inr (.inl rfl))
theorem own_put (h : Rok K (pre ++ lstA l ds :: post) H) (i : IsAll K (mem (pre ++ lstA l ds :: post)) H ws es) : Rok K (pre ++ lstA l es :: post) (upd H l (.lst ws)) ∧ Kp K (pre ++ lstA l ds :: post) H (pre ++ lstA l es :: post) (upd H l (.lst ws)) := by
  obtain ⟨vs, e1, _⟩ := own_mid h
  obtain ⟨h1, ⟨h2, h3, h4⟩, h5⟩ := hold_append.mp h
  have me : mem (pre ++ lstA l ds :: post) = mem (pre ++ lstA l es :: post) := mem_mid rfl
  have go : ∀ w e, Is K (mem (pre ++ lstA l ds :: post)) H w e → Is K (mem (pre ++ lstA l ds :: post)) (upd H l (.lst ws)) w e := fun w e q => is_other own_mem e1 q
  refine ⟨hold_append.mpr ⟨?_, ⟨⟨ws, upd_same, ?_⟩, h3, ?_⟩, h5⟩, fun w e q => me ▸ go w e q⟩
  · rw [← me]
    exact hold_loc (fun b o m q => by rw [upd_ne (fun e => h5 b m (.inl e))]; exact q) go h1
  · rw [← me]
    exact all_of go i
  · rw [← me]
    exact hold_loc (fun b o m q => by rw [upd_ne (fun e => h3 b e m)]; exact q) go h4
theorem own_drop (h : Rok K (pre ++ lstA l ds :: post) H) : Rok K (pre ++ post) H ∧ Is K (mem (pre ++ post)) H (.ref l) (.lst ds) ∧ Kp K (pre ++ lstA l ds :: post) H (pre ++ post) H := by
  obtain ⟨h1, ⟨h2, h3, h4⟩, h5⟩ := hold_append.mp h
  have an : ∀ a, mem (pre ++ post) a → mem (pre ++ lstA l ds :: post) a := fun a z => (mem_append.mp z).elim (fun z => mem_append.mpr (.inl z)) fun z => mem_append.mpr (.inr (.inr z))
  obtain ⟨vs, e1, e2⟩ := h2
  refine ⟨hold_append.mpr ⟨hold_anti an h1, hold_anti an h4, fun a m z => h5 a m (.inr z)⟩, .lst (fun z => ?_) e1 (all_of (fun _ _ => is_anti an) e2), fun _ _ => is_anti an⟩
  rcases mem_append.mp z with z | z
  · exact h5 l z (.inl rfl)
  · exact h3 l rfl z
theorem rok_new (h : Rok K r H) (hp : H p = none) (i : IsAll K (mem r) H vs ds) : Rok K (r ++ [lstA p ds]) (upd H p (.lst vs)) ∧ Kp K r H (r ++ [lstA p ds]) (upd H p (.lst vs)) := by
  have e : ∀ a, mem (r ++ [lstA p ds]) a → mem r a ∨ a = p := fun a z => (mem_append.mp z).elim .inl fun z => z.elim .inr False.elim
  have go : Kp K r H (r ++ [lstA p ds]) (upd H p (.lst vs)) := fun v d q => is_anti e (is_ext (Ext.new hp) _ _ (is_grow hp q))
  refine ⟨hold_append.mpr ⟨hold_anti e (hold_ext (Ext.new hp) (hold_grow hp h)), ⟨⟨vs, upd_same, all_of go i⟩, fun _ _ z => z, True.intro⟩, fun a m z => ?_⟩, go⟩
  have : a = p := z.elim (fun z => z) False.elim
  subst this
  exact not_al h hp m
end
def aLstO (l : AL) : AT := fun x δ r P => l x δ r fun ds r1 => small ds.length ∧ ∀ p, P (.adr p) (r1 ++ [lstA p ds])
section
variable {X : Cx} {W : WX} {e : Expr} {es : List Expr} {pos : Pos} {l : AL} {te : AT}
theorem d_lstO (ha : PDL X W es l) : PD X W (.List es pos) (aLstO l) := imE (pe_lst ha) fun σ H Q q => by
  obtain ⟨XR, δ, r, P, o, h, k⟩ := q
  refine tdl_bind o h fun ds r1 vs H1 h1 o1 k1 i1 => ⟨by rw [i1.length]; exact h1.1.sz, fun p hp => ?_⟩
  obtain ⟨q1, q2⟩ := rok_new o1.r hp i1
  exact k _ _ _ _ (h1.2 p) (o1.step q2 q1) (k1.trans q2) (.adr p)
def rC2 (K : PySem.W.Frag) (o : Rs → OC) : List V → Hp → VK → Prop := fun vs H Q => ∃ (r : Rs) (ds : List D) (P : D → Prop), Rok K r H ∧ IsAll K (mem r) H vs ds ∧ o r ds P ∧ ∀ d v H', P d → Ext H H' → Is K (mem r) H' v d → Q v H'
def aBlt2 (o : Rs → OC) (l : AL) : AT := fun x δ r P => l x δ r fun ds r1 => o r1 ds fun d => P d r1
theorem tcb2 {K : PySem.W.Frag} {W : WX} {o : Rs → OC} {l : AL} {σ : L2.St} {H : Hp} {Q : VK} (q : TD K W (aBlt2 o l) σ H Q) : tCB (rC2 K o) (TDL K W l) σ H Q := by
  obtain ⟨XR, δ, r, P, ok, h, k⟩ := q
  refine tdl_bind ok h fun ds r1 vs H1 h1 o1 k1 i1 => ⟨r1, ds, fun d => P d r1, o1.r, i1, h1, fun d v H' p e i => k d r1 v H' p (o1.ext e) (k1.trans (Kp.ext e)) i⟩
theorem d_blt2 {bid : String} {o : Rs → OC} {x : Str} {p : Pos} (hc : CallR X (.builtin bid) (rC2 X.K o)) (hg : Gl X x) (hm : X.mg x = none) (ha : PDL X W (e :: es) l) (hv : bootBuiltins x = some (.builtin bid) := by decide +kernel) (hn : x ≠ "__name__" := by decide) (hdb : (x == ("__debug__" : Str)) = false := by decide)
    (he : starEach (e :: es) X.env = (false, eval e X.env) :: starEach es X.env := by rfl) (hpl : (backTo pos (starEach es X.env)).any (·.1) = false := by rfl) : PD X W (.Call (.Name x p) (e :: es) [] pos) (aBlt2 o l) :=
  imE (pe_callB hc hg hm hv ha hn hdb he hpl) fun _ _ _ q => tcb2 q
structure oLenO (r : Rs) (ds : List D) (k : D → Prop) : Prop where
  ex : ∃ l xs, ds = [.adr l] ∧ Own r l xs ∧ (xs.length ≤ sizeLine → k (.int xs.length))
theorem c_lenO : CallR X (.builtin "len") (rC2 X.K oLenO) := by
  rintro pins s σ H vs us Q I rv ⟨r, ds, P, hr, i, ⟨l, xs, rfl, ow, ho⟩, k⟩
  obtain ⟨ws, h1, h2⟩ := own_get hr ow
  cases i with
  | cons i t =>
    cases t
    cases i
    obtain ⟨_, _, _, hz⟩ := I.list (SqL.of h1)
    exact call_len pins s σ H _ us Q I rv ⟨_, _, rfl, .inl ⟨_, SqL.of h1, rfl⟩, by rw [h2.length] at hz ⊢; exact k _ _ H (ho hz) (Ext.refl H) (.int _)⟩
def rD2 (K : PySem.W.Frag) (o : Rs → O2) : R2 := fun x y H Q => ∃ (r : Rs) (d1 d2 : D) (P : D → Prop), Rok K r H ∧ Is K (mem r) H x d1 ∧ Is K (mem r) H y d2 ∧ o r d1 d2 P ∧ ∀ d v H', P d → Ext H H' → Is K (mem r) H' v d → Q v H'
def aOp2 (o : Rs → O2) (ta tb : AT) : AT := fun x δ r P => ta x δ r fun d1 r1 => tb x δ r1 fun d2 r2 => o r2 d1 d2 fun d => P d r2
theorem td_op2 {K : PySem.W.Frag} {W : WX} {o : Rs → O2} {ta tb : AT} {σ : L2.St} {H : Hp} {Q : VK} (q : TD K W (aOp2 o ta tb) σ H Q) : tOp (rD2 K o) (TD K W ta) (TD K W tb) σ H Q := by
  obtain ⟨XR, δ, r, P, ok, h, k⟩ := q
  refine td_bind ok h fun d1 r1 v1 H1 h1 o1 k1 i1 => td_bind o1 h1 fun d2 r2 v2 H2 h2 o2 k2 i2 => ?_
  exact ⟨r2, d1, d2, fun d => P d r2, o2.r, k2 _ _ i1, i2, h2, fun d v H' p e i => k d r2 v H' p (o2.ext e) ((k1.trans k2).trans (Kp.ext e)) i⟩
structure oIxO (r : Rs) (x y : D) (k : D → Prop) : Prop where
  ex : ∃ l xs i d, x = .adr l ∧ y = .int i ∧ Own r l xs ∧ atI xs i = some d ∧ k d
theorem p_ixO : IxR X (rD2 X.K oIxO) := by
  rintro value slice pins s σ H x y v u Q I rx ry ⟨r, d1, d2, P, hr, i1, i2, ⟨l, xs, i, d, rfl, rfl, ow, hd, ho⟩, k⟩ hs
  cases i1
  cases i2
  obtain ⟨ws, h1, h2⟩ := own_get hr ow
  obtain ⟨w, hw, iw⟩ := at_all h2 hd
  exact ix_list value slice pins s σ H _ _ v u Q I rx ry ⟨_, _, _, _, rfl, rfl, SqL.of h1, hw, k _ _ H ho (Ext.refl H) iw⟩ hs
theorem d_ixO {a b : Expr} {ta tb : AT} (ha : PD X W a ta) (hb : PD X W b tb) (hs : PlainIx b := by exact fun _ _ => rfl) : PD X W (.Subscript a b pos) (aOp2 oIxO ta tb) := imE (pe_ix p_ixO ha hb hs) fun _ _ _ q => td_op2 q
/-- a test of an own list -/
def aTruO (te : AT) : AB := fun x δ r P => te x δ r fun d r1 => ∃ l xs, d = .adr l ∧ Own r1 l xs ∧ P (!xs.isEmpty) r1
theorem b_truO {a : Expr} {ta : AT} (ha : PD X W a ta) (he : ∀ whole, isTrue a X.env whole = (do let v ← whole; standAt a.pos; holding [v] (truthy v)) := by intro _; rfl) : PDB X W a (aTruO ta) := imT (pt_truth ha he) fun σ H Q q => by
  obtain ⟨XR, δ, r, P, ok, h, k⟩ := q
  refine td_bind ok h fun d r1 v H1 h1 o1 k1 i1 => ?_
  obtain ⟨l, xs, rfl, ow, h1⟩ := h1
  cases i1
  obtain ⟨ws, g1, g2⟩ := own_get o1.r ow
  refine ⟨!ws.isEmpty, ?_, ?_⟩
  · exact .inl ⟨ws, SqL.of g1, rfl⟩
  · rw [isEmpty_all g2]
    exact k _ r1 H1 h1 o1 k1
abbrev OM := Rs → Addr → List D → (D → Rs → Prop) → Prop
def aMth (om : OM) (to : AT) (l : AL) : AT := fun x δ r P => to x δ r fun d r1 => ∃ a xs, d = .adr a ∧ Own r1 a xs ∧ l x δ r1 fun ds r2 => om r2 a ds P
def OMok (K : PySem.W.Frag) (om : OM) (rr : V → List V → Hp → VK → Prop) : Prop := ∀ r a ds P H vs Q, Rok K r H → IsAll K (mem r) H vs ds → om r a ds P → (∀ d r' v H', P d r' → Rok K r' H' → Kp K r H r' H' → Is K (mem r') H' v d → Q v H') → rr (.ref a) vs H Q
theorem d_mth {om : OM} {rr : V → List V → Hp → VK → Prop} {o : Expr} {to : AT} {name : Str} {id : String} {apos cpos : Pos} (slot : Slot "list" name id) (hty : typeOf (.builtin id) = pure (.type "method_descriptor")) (hm : MtR X id rr) (hom : OMok X.K om rr) (ho : PD X W o to) (ha : PDL X W (e :: es) l)
    (hbase : attributeBase o name X.env (eval o X.env) = eval o X.env := by rfl)
    (hfew : ((backTo cpos (starEach (e :: es) X.env)).all (fun x => !x.1) && (backToKw cpos (keywordEach [] X.env)).all (fun x => x.1.isSome)
      && decide ((e :: es).length + ([] : List Keyword).length + (if ([] : List Keyword).isEmpty then 0 else 1) < 30)) = true := by rfl)
    (hline : (apos.endLine == cpos.line) = true := by rfl) (hs : starEach (e :: es) X.env = (false, eval e X.env) :: starEach es X.env := by rfl) (hplain : (backTo cpos (starEach es X.env)).any (·.1) = false := by rfl) :
    PD X W (.Call (.Attribute o name apos) (e :: es) [] cpos) (aMth om to l) := imE (pe_bm PySem.F.plainAttrs_list slot hty hm ho ha hbase hfew hline hs hplain) fun σ H Q q => by
  obtain ⟨XR, δ, r, P, ok, h, k⟩ := q
  refine td_bind ok h fun d r1 v H1 h1 o1 k1 i1 => ?_
  obtain ⟨a, xs, rfl, ow, h1⟩ := h1
  cases i1
  obtain ⟨ws, g1, g2⟩ := own_get o1.r ow
  refine ⟨.inl ⟨rfl, ws, SqL.of g1⟩, tdl_bind o1 h1 fun ds r2 vs H2 h2 o2 k2 i2 => ?_⟩
  exact hom r2 a ds P H2 vs Q o2.r i2 h2 fun d r' v H' p ro kk i => k d r' v H' p (o2.step kk ro) ((k1.trans k2).trans kk) i
structure oApp (r : Rs) (a : Addr) (ds : List D) (P : D → Rs → Prop) : Prop where
  ex : ∃ pre xs post y, ds = [y] ∧ r = pre ++ lstA a xs :: post ∧ small (xs.length + 1) ∧ P .non (pre ++ lstA a (xs ++ [y]) :: post)
theorem om_app {K : PySem.W.Frag} : OMok K oApp rAppend := by
  rintro r a ds P H vs Q ro i ⟨pre, xs, post, y, rfl, rfl, hz, hp⟩ k
  cases i with
  | cons i t =>
    cases t
    obtain ⟨ws, e1, e2⟩ := own_mid ro
    obtain ⟨q1, q2⟩ := own_put ro (e2.append (.cons i .nil))
    exact ⟨a, ws, _, rfl, rfl, e1, by rw [e2.length]; exact Nat.lt_of_lt_of_le (Nat.lt_succ_self _) hz.sz, k _ _ _ _ hp q1 q2 .non⟩
theorem d_app {o : Expr} {to : AT} {apos cpos : Pos} (ho : PD X W o to) (ha : PDL X W [e] l) (hbase : attributeBase o "append" X.env (eval o X.env) = eval o X.env := by rfl)
    (hfew : ((backTo cpos (starEach [e] X.env)).all (fun x => !x.1) && (backToKw cpos (keywordEach [] X.env)).all (fun x => x.1.isSome)
      && decide (([e] : List Expr).length + ([] : List Keyword).length + (if ([] : List Keyword).isEmpty then 0 else 1) < 30)) = true := by rfl)
    (hline : (apos.endLine == cpos.line) = true := by rfl) (hs : starEach [e] X.env = (false, eval e X.env) :: starEach [] X.env := by rfl) (hplain : (backTo cpos (starEach [] X.env)).any (·.1) = false := by rfl) : PD X W (.Call (.Attribute o "append" apos) [e] [] cpos) (aMth oApp to l) :=
  d_mth PySem.F.slot_list_append PySem.F.type_list_append mt_append om_app ho ha hbase hfew hline hs hplain
theorem set_all {K : PySem.W.Frag} {N : Addr → Prop} {H : Hp} {v : V} {d : D} (i : Is K N H v d) : ∀ {vs : List V} {ds : List D} (n : Nat), IsAll K N H vs ds → IsAll K N H (vs.set n v) (ds.set n d)
  | _, _, _, .nil => .nil
  | _, _, 0, .cons _ t => .cons i t
  | _, _, n + 1, .cons h t => .cons h (set_all i n t)
section
variable {X : Cx} {W : WX} {e : Expr} {es : List Expr} {l : AL} {o : Expr} {to : AT} {apos cpos : Pos}
/-- x[i] = value, x an own list -/
def sSetO (te to ti : AT) : AS := fun A δ r => te A.xr δ r fun y r1 => to A.xr δ r1 fun d r2 => ti A.xr δ r2 fun di r3 => ∃ a pre xs post, ∃ n : Nat, d = .adr a ∧ di = .int n ∧ r3 = pre ++ lstA a xs :: post ∧ n < xs.length ∧ A.nx δ (pre ++ lstA a (xs.set n y) :: post)
theorem s_setO {i value : Expr} {te ti : AT} {p2 pos : Pos} (he : PD X W value te) (ho : PD X W o to) (hi : PD X W i ti)
    (ha : ∀ v, assign (.Subscript o i p2) X.env v = (do
      let ov ← holding [v] (eval o X.env)
      let iv ← holding [v, ov] (eval i X.env)
      standAt p2
      holding [v, ov, iv] (setItem ov iv v)
      release [v, ov, iv] []) := by intro _; rfl)
    (hs : swapsWithSole [.Subscript o i p2] value pos.line X.env = pure false := by rfl) (hw : swappedStores [.Subscript o i p2] value X.env = pure none := by rfl)
    (h1 : (assignEach [.Subscript o i p2] X.env).map (·.2) = [assign (.Subscript o i p2) X.env] := by rfl) : PSD X W (.Assign [.Subscript o i p2] value pos) (sSetO te to ti) :=
  imS (ps_asg he (pg_sub ho hi set_list ha) hs hw h1) fun Dd σ H ⟨δ, r, A, ok, h, f⟩ => td_bind ok h fun y r1 v H1 h1 o1 k1 i1 => td_bind o1 h1 fun d r2 v2 H2 h2 o2 k2 i2 => td_bind o2 h2 fun di r3 v3 H3 h3 o3 k3 i3 => by
    obtain ⟨a, pre, xs, post, n, rfl, rfl, rfl, hn, h3⟩ := h3
    cases i2
    cases i3
    obtain ⟨ws, e1, e2⟩ := own_mid o3.r
    obtain ⟨q1, q2⟩ := own_put o3.r (set_all (k3 _ _ (k2 _ _ i1)) n e2)
    refine ⟨a, ws, n, n, rfl, rfl, e1, ?_, f.nx _ _ _ _ h3 (o3.step q2 q1) (((k1.trans k2).trans k3).trans q2)⟩
    unfold ixN
    rw [e2.length, if_pos (by omega), if_pos (by omega)]
    rfl
end
end
end G
namespace G
open PySem PySem.Spec L2
theorem deps_le {k : Nat} : ∀ {ds : List D}, (∀ d ∈ ds, dep d ≤ k) → deps ds ≤ k
  | [], _ => Nat.zero_le _
  | d :: ds, h => by
    simp only [deps]
    have h1 := h d List.mem_cons_self
    have h2 := deps_le (ds := ds) fun d m => h d (List.mem_cons_of_mem _ m)
    omega
/-- at a place of a written list of data -/
theorem pick_in {l : List D} {k : Int} (h0 : 0 ≤ k) (h1 : k < (l.length : Nat)) : ∃ d, d ∈ l ∧ atI l k = some d := by
  obtain ⟨n, rfl⟩ : ∃ n : Nat, k = n := ⟨k.toNat, by omega⟩
  have hn : n < l.length := by omega
  exact ⟨l[n], List.getElem_mem _, L2.atI_nat (by simp)⟩
end G
namespace G
open PySem PySem.Spec L2
/-- [e(x) for x in ds if f(x)] -/
theorem lc_fm {x : XT} {g : AG} {te : AT} {tt : AB} {δw : Dl} {ds : List D} {r1 : Rs} {P : PK1} (f : D → Bool) (e : D → D) (hz : small ds.length)
    (he : ∀ d ∈ ds, ∀ (r' : Rs) (Q1 : PK1) (Q2 : Rs → Prop), (f d = true → Q1 (e d) r') → (f d = false → Q2 r') → g d δw fun δ2 => tt x δ2 r' fun b r2 => (b = true → te x δ2 r2 Q1) ∧ (b = false → Q2 r2)) (hP : P (.lst ((ds.filter f).map e)) r1) : aLcK x g tt te δw ds r1 P := by
  refine ⟨fun i acc r' => acc = ((ds.take i).filter f).map e ∧ r' = r1, ⟨rfl, rfl⟩, ?_, ?_⟩
  · rintro p i d acc r' hd ⟨rfl, rfl⟩
    have hi := (List.getElem?_eq_some_iff.mp hd).1
    refine he d (List.mem_of_getElem? hd) _ _ _ (fun q => ⟨?_, r', le.refl, ?_, rfl⟩) (fun q => ⟨r', le.refl, ?_, rfl⟩)
    · rw [List.length_map]
      have h1 := List.length_filter_le f (ds.take i)
      rw [List.length_take] at h1
      have : small ds.length := hz
      unfold small at *
      omega
    · rw [List.take_add_one, hd, List.filter_append, List.map_append]
      show _ = _ ++ List.map e (List.filter f [d])
      rw [List.filter_cons, q]
      rfl
    · rw [List.take_add_one, hd, List.filter_append, List.map_append]
      show _ = _ ++ List.map e (List.filter f [d])
      rw [List.filter_cons, q]
      simp
  · rintro acc r' ⟨rfl, rfl⟩
    rw [List.take_length]
    exact hP
theorem eq_nil (xs : List D) : eqD (.lst xs) (.lst []) = xs.isEmpty := by
  cases xs <;> rfl
end G
namespace G
open PySem PySem.Spec L2
end G
namespace G
open PySem PySem.Spec L2
end G
namespace G
open PySem PySem.Spec L2
end G
namespace G
open PySem PySem.Spec L2
end G
namespace G
open PySem PySem.Spec L2 PySem.W PyProof.Rows
/-- what the written part says of such a class at C: its __init__ at f stores under fld -/
structure ErrK (P : Program) (K : Frag) (mg : Str → Option Value) (C : Addr) : Prop where
  cls : OexC K C
  mro : mroIn K C (.ref C) = some true
  sub : subIn K (.ref C) (.type "ValueError") = some true
  sup : ks_superIn K C C "__init__" = some (some (.builtin "ValueError.__init__"))
  opq : nsIn K cStatics "thirdparty.any" = some none
  mgs : mg "super" = none
  top : (P.main.scope.names.lookup ("super" : Str)).isSome = false
def spEI (C : Addr) (fld : Str) : Sp := fun vs H Q _ => ∃ (a : Addr) (v : V), vs = [.ref a, v] ∧ H a = some (exo a C none) ∧ ∀ dx, H dx = none → dx ≠ a → Q .non (upd (upd H dx (exd dx [(fld, v)])) a (exo a C (some dx)))
def cxE (P : Program) (w : World) (K : Frag) (mg : Str → Option Value) (base : Heap) (N : List Str) (qual : Str) (scope : Scope) (f : Addr) (cda cc : Addr) (A : Around) (outer : List Env) (s : Shared) (H : Hp) (xe : Value → Shared → Prop) : Cx where
  prog := P
  w := w
  K := K
  mg := mg
  base := base
  A := A.deeper (ksEnv qual scope s.heap.objs.size f (.ref cda) cc)
  N := N
  s_0 := s
  H_0 := H
  env := ksEnv qual scope s.heap.objs.size f (.ref cda) cc
  outer := outer
  stack := ksEnv qual scope s.heap.objs.size f (.ref cda) cc :: outer
  ex := []
  calm := true
  fn := fun _ => false
  pn := []
  xe := xe
section
variable {P : Program} {w : World} {K : Frag} {mg : Str → Option Value} {base : Heap}
theorem exinit {C fI cc cda : Addr} {cd0 : ClassData} {prm fld : Str} {qual name : Str} {params : Arguments} {scope : Scope} {dV kV doc pm cdv ct oc ccl cl : Value} {an od cdd cld : Option Addr} {osl ccs csl : Array (Option Value)} {vs0 : Array Value} {file : Str} {tf : Tok}
    {p0 p1 p2 p3 p4 p5 p6 p7 p8 p9 : Pos} {txt : Str} {j : Nat} {jj : _}
    (T : ErrK P K mg C)
    (lk : K.lookup fI = some ⟨oc, od, .func (ksFn name qual params [.Expr (.Call (.Attribute (.Call (.Name "super" p0) [] [] p1) "__init__" p2) [.Constant (.str txt) jj p3] [] p4) p5, .Assign [.Attribute (.Name "self" p6) fld p7] (.Name prm p8) p9] scope dV kV doc pm an (.ref cda) ct cc), osl⟩)
    (hcd : codeIn K (.ref cda) qual = true) (hD : clsIn K C = some cd0) (hno : findIn K (.ref C) fld = some none)
    (hcode : K.lookup cda = some ⟨ccl, cdd, .fields vs0, ccs⟩) (hvs : vs0[2]? = some (.str file tf)) (hfile : ((P.main.file : Str) == file) = true)
    (hcell : K.lookup cc = some ⟨cl, cld, .cell (some (.ref C)), csl⟩)
    (hp : ∃ ar : Arg, (params.posonlyargs ++ params.args).head? = some ar ∧ ar.arg = "self")
    (hnm : scope.names.lookup ("self" : Str) = some .local ∧ scope.names.lookup prm = some .local ∧ scope.names.lookup ("super" : Str) = some .globalImplicit ∧ scope.names.lookup ("__class__" : Str) = some .free)
    (hfree : ∀ x, scope.names.lookup x = some .cell ∨ scope.names.lookup x = some .free → x = "__class__") (hcl : ∀ x ∈ scope.names, x.2 ≠ .cell)
    (hsc : scope.isCoroutine = false ∧ scope.isGenerator = false ∧ scope.kind = .function) (hps : ("self" : Str) ≠ prm) (hcdbg : (prm == ("__debug__" : Str)) = false ∧ (prm == ("__classdict__" : Str)) = false)
    (hin : ∀ L, interactive (ksEnv qual scope L fI (.ref cda) cc) = false)
    (hpl1 : ∀ L, swapsWith (.Call (.Attribute (.Call (.Name "super" p0) [] [] p1) "__init__" p2) [.Constant (.str txt) jj p3] [] p4) none p5.line (ksEnv qual scope L fI (.ref cda) cc) = pure false)
    (hev : ∀ L, ∃ pl : Sem Bool, eval (.Call (.Attribute (.Call (.Name "super" p0) [] [] p1) "__init__" p2) [.Constant (.str txt) jj p3] [] p4) (ksEnv qual scope L fI (.ref cda) cc) = (do
      let ov ← attributeBase (.Call (.Name "super" p0) [] [] p1) "__init__" (ksEnv qual scope L fI (.ref cda) cc) (eval (.Call (.Name "super" p0) [] [] p1) (ksEnv qual scope L fI (.ref cda) cc))
      standAt p2.atName
      let (f, first) ← holding [ov] (getMethod ov "__init__" pl)
      callWith p4 f first (backTo p4 (starEach [.Constant (.str txt) jj p3] (ksEnv qual scope L fI (.ref cda) cc))) []))
    (hpl2 : ∀ L, swapsWith (.Name prm p8) (some (.Attribute (.Name "self" p6) fld p7)) p9.line (ksEnv qual scope L fI (.ref cda) cc) = pure false) :
    FnOk P w K mg base CX0 1 fI (ksFn name qual params [.Expr (.Call (.Attribute (.Call (.Name "super" p0) [] [] p1) "__init__" p2) [.Constant (.str txt) jj p3] [] p4) p5, .Assign [.Attribute (.Name "self" p6) fld p7] (.Name prm p8) p9] scope dV kV doc pm an (.ref cda) ct cc) ["self", prm] (spEI C fld) := by
  refine ⟨fun vs H Q E ⟨a, v, e, _⟩ => by rw [e]; rfl, fun A outer s H args us vs Q E hr e0 hb r hsp => ?_⟩
  obtain ⟨a, v, rfl, hea, hq⟩ := hsp
  obtain ⟨u, rfl, rv⟩ : ∃ u, us = [.ref a, u] ∧ RelV v u := by
    match us, r with
    | [_, u], .cons ra (.cons rv .nil) => exact ⟨u, by rw [show _ = Value.ref a from ra], rv⟩
  have KX : K.In s.heap := e0.mod.kin.keeps fun b o e => (e0.bs b o e).1
  have lim : s.heap.NoLimit := e0.mod.nolimit.keeps fun b o e => (e0.bs b o e).1
  refine ks_codeAny_call_defAt hr.depth (KX _ _ lk) rfl lim (codeRec_of KX hcd) rfl hb hcl (fun x hx => ?_) (fun h₀ hns hk => ?_) hsc.1 hsc.2.1 hsc.2.2
  · simp only [List.zip_cons_cons, List.zip_nil_right, List.mem_cons, List.not_mem_nil, or_false] at hx
    rcases hx with rfl | rfl
    · exact hnm.1
    · exact hnm.2.1
  have kX : K.In h₀ := KX.keeps hk
  have hcc : H cc = none := (e0.bs _ _ (e0.mod.kin _ _ hcell)).2
  have lkc : ∀ {x : Str} {c : Addr}, List.lookup x [(("__class__" : Str), cc)] = some c → x = "__class__" ∧ c = cc := fun {x c} h => by
    by_cases e : x = "__class__"
    · subst e
      simp at h
      exact ⟨rfl, h.symm⟩
    · have e2 : (x == ("__class__" : Str)) = false := by simpa using e
      simp [List.lookup, e2] at h
  have hm1 : ((("self" : Str), Value.ref a) :: (prm, u) :: []).reverse.lookup ("self" : Str) = some (.ref a) := by
    have : (("self" : Str) == prm) = false := by simpa using hps
    simp [List.lookup, this]
  have hm2 : ((("self" : Str), Value.ref a) :: (prm, u) :: []).reverse.lookup prm = some u := by
    simp [List.lookup]
  have hns' : h₀.Ns s.heap.objs.size fun x => ((("self" : Str), Value.ref a) :: (prm, u) :: []).reverse.lookup x := hns
  have I : L2.Inv (cxE P w K mg base ["self", prm] qual scope fI cda cc A outer s H fun _ _ => False) [] [some (.ref a), some v] H { s with heap := h₀, toks := s.toks + 2 } := by
    refine ⟨⟨e0.mod, hsc.2.2, rfl, rfl, Nat.le_refl _, fun x y c h1 h2 => ?_, fun x hx => ?_, fun x c z _ => (by cases z), fun _ => hr.hd, Around.frames_deeper e0.frames, .inr ⟨rfl, rfl⟩, fun b z => (by cases z), e0.bs, e0.bsz, fun b o _ z => (by cases z), fun b z => (by cases z), e0.funs, e0.frf⟩,
      rfl, e0.bare, Un.kept hk, ⟨_, hns', fun i x v' h1 h2 h3 => ?_⟩, fun x c h => ?_, e0.hok.fresh (Nat.le_refl _), fun x c h => ?_, fun p z => (by cases z), e0.hok.kept hk, rfl⟩
    · rw [(lkc h1).1, (lkc h2).1]
    · have := hfree x hx
      subst this
      exact ⟨cc, by simp [cxE, ksEnv, envX]⟩
    · match i, h1, h2 with
      | 0, h1, h2 =>
        cases h1
        cases h2
        exact ⟨_, rfl, .inl ⟨hnm.1, hm1⟩⟩
      | 1, h1, h2 =>
        cases h1
        cases h2
        exact ⟨u, rv, .inl ⟨hnm.2.1, hm2⟩⟩
    · rw [(lkc h).2]
      exact ⟨_, _, kX _ _ hcell, rfl⟩
    · rw [(lkc h).2]
      exact hcc
  obtain ⟨ar, hp1, hp2⟩ := hp
  obtain ⟨pl, hev⟩ := hev s.heap.objs.size
  -- super().__init__(text)
  refine ks_wpAt_execs_cons (ks_wpAt_Expr_any (ks_wpAt_MethodCall (c := _) (ks_wpAt_super_base (env := ksEnv qual scope s.heap.objs.size fI (.ref cda) cc) hnm.2.2.1 hnm.2.2.2 rfl rfl (kX _ _ lk) rfl hp1 rfl (kX _ _ hcode) rfl hvs hfile T.top ?_) hev) (hin _) (hpl1 _))
  obtain ⟨mb, hmb, hmb2⟩ := e0.mod.blt
  have kb : ∀ b o, base.get? b = some o → h₀.get? b = some o := fun b o e => hk _ _ (e0.bs b o e).1
  refine ks_loadName_global hsc.2.2 hnm.2.2.1 (PySem.Calls.loadGlobal_builtin (env := ksEnv qual scope s.heap.objs.size fI (.ref cda) cc) (e0.mod.glob.keeps kb) T.mgs (hmb.keeps kb) ((hmb2 _ (by decide +kernel)).trans PyProof.Rows.Boot.super) ⟨rfl, ?_⟩)
  refine wpAny_loadName_free hsc.2.2 hnm.2.2.2 rfl ⟨_, kX _ _ hcell, rfl⟩ ?_
  rw [hp2]
  refine wpAny_loadName_local hsc.2.2 hnm.1 hns' hm1 ?_
  obtain ⟨t1, ho⟩ := exo_at I.hok hea
  obtain ⟨oD, hD1, hD2⟩ : ∃ oD, h₀.get? C = some oD ∧ oD.data = .cls cd0 := by
    unfold clsIn at hD
    split at hD
    · rename_i c d cd' sl ho
      cases hD
      exact ⟨_, kX _ _ ho, rfl⟩
    · cases hD
  refine ks_wpAny_isType_cls hD1 hD2 ⟨rfl, ?_⟩
  replace ho : h₀.get? a = _ := ho
  refine ks_wpAny_call_super hD1 hD2 ho rfl (fun c e => by cases e) (looks_mroIn kX T.mro) (fun h2 hso k2 => ?_)
  have kX2 : K.In h2 := kX.keeps k2
  have hne : a ≠ C := fun e => by
    subst e
    rw [hD1] at ho
    cases ho
    cases hD2
  have hmro : ∃ l, alongIn K "__init__" l = some (some (.builtin "ValueError.__init__")) ∧ (cd0.mro.dropWhile (· != .ref C)).drop 1 = l := by
    have q := T.sup
    unfold ks_superIn at q
    rw [hD] at q
    exact ⟨_, q, rfl⟩
  obtain ⟨ml, hml, hdl⟩ := hmro
  have ho2 := k2 _ _ ho
  have hI2 : Looks (model P w) h2 (isInstance (.ref a) (.type "ValueError")) true := (InstAt.type (show InstAt h2 a _ C none from ⟨ho2, rfl, rfl, trivial⟩)).andThen (looks_subIn kX2 T.sub)
  refine kxs_getMethod kxs_ValueError hso (looks_opaque kX2 T.opq) (l₀ := cd0.mro) (fun A Q E s k q => wpAny_bind ((looks_clsIn kX2 hD) A _ E s k (wpAny_pure q))) hdl kX2 hml hI2 hne rfl ?_
  have hlt : h₀.objs.size < h2.objs.size := Heap.lt_size hso
  have hsz : h₀.objs.size ≤ h2.objs.size := Nat.le_of_lt hlt
  have k3 : ∀ b o, h₀.get? b = some o → (h2.push (kxs_mw "ValueError.__init__" a)).get? b = some o := fun b o e => Heap.get?_push_of_some _ (k2 b o e)
  have hu3 : (h2.push (kxs_mw "ValueError.__init__" a)).get? h2.objs.size = some (kxs_mw "ValueError.__init__" a) := Heap.get?_push_size h2 rfl
  have J3 := ClX.pin_new (t' := s.toks + 2 + 1) I k3 hsz hu3 (fun v e => by cases e)
  dsimp only
  refine kxs_callWith (i := "ValueError.__init__") (x := a) rfl ?_
  refine PySem.Calls.evalArgs_plain ?_
  refine wpAny_mono (((pa_cons (X := cxE P w K mg base ["self", prm] qual scope fI cda cc A outer s H fun _ _ => False) (e := .Constant (.str txt) jj p3) (es := []) pe_str pa_nil).run p4 _ _ _ H (fun vs H' => vs = [.str txt] ∧ H' = H) J3 ⟨rfl, rfl⟩)) (fun vs s4 ⟨ws, H4, I4, r4, e4, e5⟩ => ?_) (fun _ _ z => False.elim z)
  subst e4
  have e5' := e5.symm
  subst e5'
  have hu4 : s4.heap.get? h2.objs.size = some (kxs_mw "ValueError.__init__" a) := ClX.pin_at I4
  have J4 := ClX.unpin I4
  refine ⟨hu4, ?_⟩
  obtain ⟨t4, ho4⟩ := exo_at J4.hok hea
  obtain ⟨hp4, g4, d4, tk4, os4⟩ := s4
  have hl4 : vs.length ≤ sizeLine := by
    rw [← r4.length]
    show 1 ≤ sizeLine
    rw [sizeLine_eq]
    omega
  obtain ⟨nm, q, N, bs, bm, sn, sub, ab, col, dd, k0, k1, k2', k3', k5, hC, hbm⟩ := T.cls.cls
  refine wpAny_call (codeAny_of_tree ?_)
  show wpAny _ _ (callAny (.ref h2.objs.size) ⟨vs, []⟩) _ _ _
  simp only [callAny]
  refine wpAny_bind (wpAny_load hu4 ?_)
  simp only [kxs_mw, show (Value.type "method-wrapper" == Value.type "method" || Value.type "method-wrapper" == Value.type "builtin_function_or_method" || Value.type "method-wrapper" == Value.type "method-wrapper") = true by decide, if_true]
  refine KFB.if_so (by decide) ?_
  refine wpAny_bind (check_bound_init F.excBase_ValueError.toExcCallFacts (J4.kIn _ _ hC) ho4 rfl ?_)
  refine wpAny_bind (wpAny_pure (wpAny_pure ?_))
  refine ⟨plainId_quiet F.excBase_ValueError.init.plain _, codeAny_builtin F.excBase_ValueError.initEntry ?_⟩
  refine exc_init_tree (cls := .ref C) (t0 := t4) (dv := none) (c2 := .none) (c3 := .none) (b4 := .bool false) ho4 hl4 fun h5 kk5 ho5 _ => ?_
  have J5 := J4.write (t' := tk4) (x := a) (e := a) (o := exo a C none) (by rw [hea]; exact True.intro) (.inl rfl) kk5 ⟨_, ho5⟩ (exo_ok ho5)
  have eu : upd H a (exo a C none) = H := by
    funext b
    by_cases hb : b = a
    · rw [hb, upd_same, hea]
    · rw [upd_ne hb]
  rw [eu] at J5
  dsimp only
  refine wpAt_of_wpAny (wpAny_mono ((pss_one (ps_ost (X := cxE P w K mg base ["self", prm] qual scope fI cda cc A outer s H fun _ _ => False) (pe_var (i := 0) rfl (.inl hnm.1)) (pe_var (i := 1) rfl (.inl hnm.2.1) hcdbg.1 hcdbg.2) (hpl2 _))).run [] _ _ H { nx := fun _ H' => Q .non H', rt := Q } J5 ⟨v, rfl, .ref a, rfl, a, C, rfl, T.cls, hno, .inl ⟨hea, fun dx n1 n2 => hq dx n1 n2⟩⟩) (fun fl s' hs => ?_) fun _ _ z => False.elim z)
  cases fl with
  | next =>
    obtain ⟨σ', H', J, q⟩ := hs
    exact ⟨.non, H', J.os, J.bare, J.base, J.hok, rfl, q⟩
  | ret u =>
    obtain ⟨v, σ', H', J, rv, q⟩ := hs
    exact ⟨v, H', J.os, J.bare, J.base, J.hok, rv, q⟩
  | brk =>
    obtain ⟨_, _, _, q⟩ := hs
    exact False.elim q
  | cont =>
    obtain ⟨_, _, _, q⟩ := hs
    exact False.elim q
end
end G
namespace L2
open PySem PySem.Spec PyProof.Rows
/-- what the clauses wish of an exception of the body, one after the other; some i: the slot of the clause's name -/
def wManyA (K : PySem.W.Frag) (Wout : WX) (D : Ends) : List (Value × Option Nat × (Addr → Value → Option Addr → TS)) → WX
  | [] => Wout
  | (c, none, ts) :: r => fun cls d σ H => ∃ b, PySem.W.exmOne K cls c = some b ∧ (b = true → ∀ a, H a = none → ts a cls d D σ H) ∧ (b = false → wManyA K Wout D r cls d σ H)
  | (c, some i, ts) :: r => fun cls d σ H => ∃ b, PySem.W.exmOne K cls c = some b ∧
      (b = true → ∀ a, H a = none → ts a cls d { nx := fun σ' H' => D.nx (σ'.set i none) H', rt := D.rt, bk := fun σ' H' => D.bk (σ'.set i none) H', ct := fun σ' H' => D.ct (σ'.set i none) H' } (σ.set i (some (.ref a))) H) ∧ (b = false → wManyA K Wout D r cls d σ H)
inductive HdsA (X : Cx) : List ExceptHandler → List (Value × Option Nat × (Addr → Value → Option Addr → TS)) → Prop
  | nil : HdsA X [] []
  | cons {x : Str} {c : Value} {ts : Addr → Value → Option Addr → TS} {b₀ : Stmt} {suite : List Stmt} {np pos' : Pos} {hds : List ExceptHandler} {l : List (Value × Option Nat × (Addr → Value → Option Addr → TS))} (hc : Names X x c)
      (hsu : ∀ (a : Addr) (oe : Obj) (cls : Value) (d : Option Addr) (pn : List (Addr × Obj)), Zc cls d oe → (∃ vs, oe.data = .fields vs) → PSs (X.suite a ((a, oe) :: pn)) (b₀ :: suite) (ts a cls d)) (r : HdsA X hds l) :
      HdsA X (.ExceptHandler (some (.Name x np)) none (b₀ :: suite) pos' :: hds) ((c, none, ts) :: l)
  | as {x n : Str} {i : Nat} {c : Value} {ts : Addr → Value → Option Addr → TS} {b₀ : Stmt} {suite : List Stmt} {np pos' : Pos} {hds : List ExceptHandler} {l : List (Value × Option Nat × (Addr → Value → Option Addr → TS))} (hN : X.N.Nodup) (hi : X.N[i]? = some n) (hln : X.env.kindOf n = some .local) (hc : Names X x c)
      (hsu : ∀ (a : Addr) (oe : Obj) (cls : Value) (d : Option Addr) (pn : List (Addr × Obj)), Zc cls d oe → (∃ vs, oe.data = .fields vs) → PSs (X.suite a ((a, oe) :: pn)) (b₀ :: suite) (ts a cls d)) (r : HdsA X hds l) :
      HdsA X (.ExceptHandler (some (.Name x np)) (some n) (b₀ :: suite) pos' :: hds) ((c, some i, ts) :: l)
section
variable {X : Cx} {body : List Stmt} {h₀ : ExceptHandler} {hds : List ExceptHandler} {l : List (Value × Option Nat × (Addr → Value → Option Addr → TS))} {pos : Pos} {tb : WX → TS} {Wout : WX}
theorem ps_try_manyA (hs : X.stack = X.env :: X.outer) (hf : X.env.frame = some X.env.locals) (tk : Takes X Wout)
    (hb : ∀ (W : WX) (pn : List (Addr × Obj)) (xe : Value → Shared → Prop), Takes (X.tr pn xe) W → PassesOwn (model X.prog X.w) X.A X.env xe → PSs (X.tr pn xe) body (tb W))
    (hh : HdsA X (h₀ :: hds) l) : PS X (.Try body (h₀ :: hds) [] [] pos) (fun D σ H => tb (wManyA X.K Wout D l) D σ H) := by
  refine ⟨fun pins s σ H D I h => ?_⟩
  have ok := I.ok
  have hfr : X.A.frames = some (X.env :: X.outer) := by rw [ok.frames, hs]
  refine wpAny_Try_except ?_
  refine wpAny_mono ((hb (wManyA X.K Wout D l) (X.pn ++ pins) (fun e s₁ => wpAny (model X.prog X.w) X.A (noteFrame e X.env) (fun _ s₂ => wpAny (model X.prog X.w) X.A (setFlight e none) (fun _ s₃ =>
    wpAny (model X.prog X.w) X.A (handleBy e X.env (h₀ :: hds)) (SP X pins D) X.xe s₃) X.xe s₂) X.xe s₁) (fun u s' xx => ?_) PassesOwn.looking).run [] s σ H D (I.toTry _) h) (fun f s1 hsp => ?_) (fun e s1 he => he)
  · obtain ⟨a, B, sI, pins', σ', H', cls, d, rfl, J', nb, up, sky, na, os, ag, w⟩ := xx
    have J : Inv X pins σ' H' sI := J'.ofTry ok
    have sky' : Sky B (X.env :: X.outer) a (Zc cls d) X.env.locals s'.heap := by rw [← hs]; exact sky
    show wpAny (model X.prog X.w) X.A (noteFrame (.ref a) X.env) _ _ _
    refine Sky.land Zc.steady hfr hf sky' fun h3 fl3 up3 => ?_
    have J3 : Inv X pins σ' H' { s' with heap := h3 } := J.landed nb fl3.1 (up.trans up3) os ag
    obtain ⟨oe3, vs3, he3, hz3, hd3⟩ := fl3.there
    have notFr : ∀ {h : Heap} {o : Obj} {vs : Array Value}, h.FunFrames B (X.env :: X.outer) → h.get? a = some o → o.data = .fields vs → a ∉ frs (X.env :: X.outer) := fun {h o vs} ff e dd hm => by
      obtain ⟨_, o', e', hnf⟩ := ff.mem hm
      rw [e] at e'; cases e'
      exact hnf _ dd
    have nfr := notFr fl3.2.2.1 he3 hd3
    have nL : a ≠ X.env.locals := fun z => nfr (List.mem_filterMap.mpr ⟨X.env, List.mem_cons_self, by rw [hf, z]⟩)
    have nF : a ∉ X.fs := fun hm => by
      obtain ⟨e, he, q⟩ := List.mem_filterMap.mp hm
      exact nfr (List.mem_filterMap.mpr ⟨e, List.mem_cons_of_mem _ he, q⟩)
    have S3 := J3.suite he3 hd3 na nL nF
    have go : ∀ {hds' : List ExceptHandler} {l' : List (Value × Option Nat × (Addr → Value → Option Addr → TS))}, HdsA X hds' l' → wManyA X.K Wout D l' cls d σ' H' →
        wpAny (model X.prog X.w) X.A (handleBy (.ref a) X.env hds') (SP X pins D) X.xe { s' with heap := h3 } := by
      intro hds' l' hk
      induction hk with
      | nil =>
        intro w
        refine wpAny_handleBy_nil ?_
        obtain ⟨k1, k2, k3, oe, vs, T, oT, ts', he, hz, hd, h1, hr⟩ := id fl3
        unfold PySem.passOn
        refine wpAny_bind (wpAny_field he hd h1 ?_)
        rw [if_neg (show ¬ ((Value.ref T == Value.none) = true) from by simp)]
        have fin : wpAny (model X.prog X.w) X.A (setFlight (.ref a) X.env.frame) (fun _ s4 => wpAny (model X.prog X.w) X.A (throw (.ref a) : Sem Flow) (SP X pins D) X.xe s4) X.xe { s' with heap := h3 } := by
          rw [hf]
          refine HandSPX.setFlight_upZ fl3 fun h4 hh4 up4 => wpAny_throw (tk _ _ ?_)
          exact ⟨a, B, sI, pins, σ', H', cls, d, rfl, J, nb, (up.trans up3).trans up4, .inr (.inr (by rw [hs]; exact hh4)), na, os, ag, w⟩
        first
          | exact wpAny_bind (wpAny_pure (wpAny_bind fin))
          | exact wpAny_bind fin
      | @cons x c ts b₀ suite np pos' hds2 l2 hc hsu r ih =>
        intro w
        obtain ⟨b, hb1, hyes, hno⟩ := w
        refine wpAny_handleBy_cons (codeAny_handlers_test ?_) (by intro q; cases q)
        have LT : PySem.W.Looks (model X.prog X.w) h3 (typeOf (.ref a)) cls := fun A Q E s k q => wpAny_typeOf_ref (k _ _ he3) (by rw [hz3.1]; exact q)
        have LM := PySem.W.exm_one (M := model X.prog X.w) (J3.kIn) LT hb1
        have test : ∀ {Q : Value → Shared → Prop} {E : Value → Shared → Prop}, Q c { s' with heap := h3 } → wpAny (model X.prog X.w) (X.A.mark (some (.ref a))) (eval (.Name x np) X.env) Q E { s' with heap := h3 } := fun {Q E} q => by
          obtain ⟨hg, hdbg, hm | ⟨hm, hv, hnn⟩⟩ := hc
          · exact ld_glob (X := X.suite a ((a, oe3) :: (X.pn ++ pins))) S3 hg hm q hdbg
          · exact ld_blt (X := X.suite a ((a, oe3) :: (X.pn ++ pins))) S3 hg hm hv q hnn hdbg
        refine test (LM.here ?_)
        cases b with
        | true =>
          refine codeAny_handlers_suite ?_
          refine HandSPX.lands_againZ fl3 fun h4 fl4 up4 => ?_
          have J4 : Inv X pins σ' H' { s' with heap := h4 } := J.landed nb fl4.1 ((up.trans up3).trans up4) os ag
          obtain ⟨oe4, vs4, he4, hz4, hd4⟩ := fl4.there
          have S4 := J4.suite he4 hd4 na nL nF
          refine wpAny_mono ((hsu a oe4 cls d (X.pn ++ pins) hz4 ⟨_, hd4⟩).run [] _ _ H' _ S4 (hyes rfl a na)) (fun f s6 hsp => ?_) (fun _ _ z => False.elim z)
          cases f with
          | next =>
            obtain ⟨σ6, H6, S6, q6⟩ := hsp
            exact ⟨_, _, S6.unsuite ok, q6⟩
          | brk =>
            obtain ⟨σ6, H6, S6, q6⟩ := hsp
            exact ⟨_, _, S6.unsuite ok, q6⟩
          | cont =>
            obtain ⟨σ6, H6, S6, q6⟩ := hsp
            exact ⟨_, _, S6.unsuite ok, q6⟩
          | ret u =>
            obtain ⟨v6, σ6, H6, S6, r6, q6⟩ := hsp
            exact ⟨_, _, _, S6.unsuite ok, r6, q6⟩
        | false =>
          show wpAny _ X.A (handleBy (.ref a) X.env hds2) _ _ _
          exact ih (hno rfl)
      | @as x n i c ts b₀ suite np pos' hds2 l2 hN hi hln hc hsu r ih =>
        intro w
        obtain ⟨b, hb1, hyes, hno⟩ := w
        have hloc : Loc X.env.scope n := .inl hln
        refine wpAny_handleBy_cons (codeAny_handlers_test ?_) (by intro q; cases q)
        have LT : PySem.W.Looks (model X.prog X.w) h3 (typeOf (.ref a)) cls := fun A Q E s k q => wpAny_typeOf_ref (k _ _ he3) (by rw [hz3.1]; exact q)
        have LM := PySem.W.exm_one (M := model X.prog X.w) (J3.kIn) LT hb1
        have test : ∀ {Q : Value → Shared → Prop} {E : Value → Shared → Prop}, Q c { s' with heap := h3 } → wpAny (model X.prog X.w) (X.A.mark (some (.ref a))) (eval (.Name x np) X.env) Q E { s' with heap := h3 } := fun {Q E} q => by
          obtain ⟨hg, hdbg, hm | ⟨hm, hv, hnn⟩⟩ := hc
          · exact ld_glob (X := X.suite a ((a, oe3) :: (X.pn ++ pins))) S3 hg hm q hdbg
          · exact ld_blt (X := X.suite a ((a, oe3) :: (X.pn ++ pins))) S3 hg hm hv q hnn hdbg
        refine test (LM.here ?_)
        cases b with
        | true =>
          refine codeAny_handlers_suite_as ?_
          refine HandSPX.lands_againZ fl3 fun h4 fl4 up4 => ?_
          have J4 : Inv X pins σ' H' { s' with heap := h4 } := J.landed nb fl4.1 ((up.trans up3).trans up4) os ag
          obtain ⟨oe4, vs4, he4, hz4, hd4⟩ := fl4.there
          have S4 := J4.suite he4 hd4 na nL nF
          refine store_ok (X := X.suite a ((a, oe4) :: (X.pn ++ pins))) (v := .ref a) S4 hN hi hloc rfl (fun s5 S5 => ?_) (.inr hln)
          refine wpAny_mono ((hsu a oe4 cls d (X.pn ++ pins) hz4 ⟨_, hd4⟩).run [] s5 _ H' _ S5 (hyes rfl a na)) (fun f s6 hsp => ?_) (fun _ _ z => False.elim z)
          have end_ : ∀ {σ6 : St} {H6 : Hp} {Q : Shared → Prop}, Inv (X.suite a ((a, oe4) :: (X.pn ++ pins))) [] σ6 H6 s6 → (∀ s7, Inv X pins (σ6.set i none) H6 s7 → Q s7) →
              wpAny (model X.prog X.w) X.A (do bindName X.env n .none; unbindBehindTheSuite X.env n pos') (fun _ s7 => Q s7) X.xe s6 := fun {σ6 H6 Q} S6 hq => gone_ok (S6.unsuite ok) hN hi hln hq
          cases f with
          | next =>
            obtain ⟨σ6, H6, S6, q6⟩ := hsp
            exact end_ S6 fun s7 J7 => ⟨_, _, J7, q6⟩
          | brk =>
            obtain ⟨σ6, H6, S6, q6⟩ := hsp
            exact end_ S6 fun s7 J7 => ⟨_, _, J7, q6⟩
          | cont =>
            obtain ⟨σ6, H6, S6, q6⟩ := hsp
            exact end_ S6 fun s7 J7 => ⟨_, _, J7, q6⟩
          | ret u =>
            obtain ⟨v6, σ6, H6, S6, r6, q6⟩ := hsp
            exact end_ S6 fun s7 J7 => ⟨_, _, _, J7, r6, q6⟩
        | false =>
          show wpAny _ X.A (handleBy (.ref a) X.env hds2) _ _ _
          exact ih (hno rfl)
    exact go hh w
  · cases f with
    | next =>
      obtain ⟨σ', H', J', q⟩ := hsp
      exact wpAny_execs_nil ⟨σ', H', J'.ofTry ok, q⟩
    | brk =>
      obtain ⟨σ', H', J', q⟩ := hsp
      exact ⟨σ', H', J'.ofTry ok, q⟩
    | cont =>
      obtain ⟨σ', H', J', q⟩ := hsp
      exact ⟨σ', H', J'.ofTry ok, q⟩
    | ret u =>
      obtain ⟨v, σ', H', J', r, q⟩ := hsp
      exact ⟨v, σ', H', J'.ofTry ok, r, q⟩
end
end L2
namespace G
open PySem PySem.Spec L2
/-- the module's name x is an own error at C; its one argument is its field fld -/
structure ErrC (P : Program) (w : World) (K : PySem.W.Frag) (mg : Str → Option Value) (base : Heap) (x : Str) (C : Addr) (fld : Str) : Prop where
  g : mg x = some (.ref C)
  cls : OexC K C
  init : ∃ fI fd prm, PySem.W.findIn K (.ref C) "__init__" = some (some (.ref fI)) ∧ PySem.W.typeIn K (.ref fI) = some (.type "function") ∧ FnOk P w K mg base CX0 1 fI fd ["self", prm] (spEI C fld) ∧ Binds K fd ["self", prm] []
def sRaise (C : Addr) (fld : Str) (l : AL) : AS := fun A δ r => l A.xr δ r fun ds r1 => ∃ d, ds = [d] ∧ A.xr C [fld] [d] δ r1
section
variable {X : Cx} {W : WX} {x fld : Str} {C : Addr} {e : Expr} {l : AL} {p pos pos2 : Pos} {k : Nat}
theorem s_raise (T : ErrC X.prog X.w X.K X.mg X.base x C fld) (tk : Takes X W) (hr : Room k X.A) (ha : PDL X W [e] l) (hk : 2 ≤ k := by first | decide | omega) (hc : X.calm = true := by rfl) (hg : Gl X x := by rfl) (hdb : (x == ("__debug__" : Str)) = false := by decide)
    (he : starEach [e] X.env = (false, eval e X.env) :: starEach [] X.env := by rfl) (hpl : (backTo pos (starEach [] X.env)).any (·.1) = false := by rfl) : PSD X W (.Raise (some (.Call (.Name x p) [e] [] pos)) none pos2) (sRaise C fld l) := by
  obtain ⟨fI, fd, prm, i1, i2, F, hb⟩ := T.init
  refine imS (ps_raise hc tk (pmk_oex (CX := CX0) T.cls i1 i2 F (hr.mono hk) hb .nil (fun _ _ _ _ _ _ _ z => z.elim) hg T.g ha hdb he hpl)) fun D σ H ⟨δ, r, A, o, h, f⟩ => ?_
  refine tdl_bind o h fun ds r1 vs H1 h1 o1 k1 i1 => ?_
  obtain ⟨d, rfl, h1⟩ := h1
  cases i1 with
  | cons iv it =>
    cases it
    rename_i v
    refine ⟨by show 1 ≤ 1000; decide, fun a na => ⟨a, v, rfl, upd_same, fun dx n1 n2 => ⟨rfl, dx, [(fld, v)], upd_same, ?_, ?_, ?_⟩⟩⟩
    · rw [upd_ne n2, upd_same]
    · rw [upd_ne n2] at n1
      exact n1
    · have nd : H1 dx = none := by rw [upd_ne n2] at n1; exact n1
      have ext : Ext H1 (upd (del (upd (upd (upd H1 a (exo a C none)) dx (exd dx [(fld, v)])) a (exo a C (some dx))) a) dx (.xd [(fld, v)])) := fun b u e => by
        have h1 : b ≠ a := ne_of_none e na
        have h2 : b ≠ dx := ne_of_none e nd
        rw [upd_ne h2, del_ne h1, upd_ne h1, upd_ne h2, upd_ne h1]
        exact e
      exact o1.x C [fld] [d] δ r1 σ (some dx) _ h1 (o1.b.step (Kp.ext ext) (o1.r.ext ext)) (Kp.ext ext) ⟨not_al o1.r nd, [(fld, v)], upd_same, rfl, .cons (is_ext ext _ _ iv) .nil⟩
end
/-- an exception's own dict, while it is held -/
def xdA (dx : Addr) (fs : List Str) (ds : List D) : At where
  M := fun a => a = dx
  R := fun K N H => ∃ kvs : List (Str × V), H dx = some (.xd kvs) ∧ kvs.map Prod.fst = fs ∧ IsAll K N H (kvs.map Prod.snd) ds
  loc := fun f g ⟨vs, h, e, i⟩ => ⟨vs, f _ _ rfl h, e, all_of g i⟩
  anti := fun q ⟨vs, h, e, i⟩ => ⟨vs, h, e, all_of (fun _ _ => is_anti q) i⟩
  grow := fun hp ⟨vs, h, e, i⟩ => ⟨vs, h, e, all_of (fun _ _ => is_growD hp) i⟩
  al := fun ⟨vs, h, _⟩ a z => ⟨.xd vs, by rw [show a = dx from z]; exact h⟩
theorem rok_xd {K : PySem.W.Frag} {r : Rs} {H : Hp} {dx : Addr} {fs : List Str} {ds : List D} (h : Rok K r H) (e : ExAt K r H (some dx) fs ds) : Rok K (r ++ [xdA dx fs ds]) H ∧ Kp K r H (r ++ [xdA dx fs ds]) H := by
  obtain ⟨nm, kvs, h1, h2, h3⟩ := e
  have e : ∀ a, mem (r ++ [xdA dx fs ds]) a → mem r a ∨ a = dx := fun a z => (mem_append.mp z).elim .inl fun z => z.elim .inr False.elim
  have nd : NoDat H dx := fun o q => by rw [h1] at q; cases q; exact fun z => z
  have go : Kp K r H (r ++ [xdA dx fs ds]) H := fun v d q => is_anti e (is_growD nd q)
  refine ⟨hold_append.mpr ⟨hold_anti e (hold_growD nd h), ⟨⟨kvs, h1, h2, all_of go h3⟩, fun _ _ z => z, True.intro⟩, fun a m z => ?_⟩, go⟩
  have : a = dx := z.elim (fun z => z) False.elim
  subst this
  exact nm m
/-- an except clause's reading: what its class answers of the classes that may come (Cs), the slot of its name, its suite's reading -/
structure Cl1 where
  Cs : List (Addr × Bool)
  i : Option Nat
  u : Addr → Value → Option Addr → AS
def held : Option Addr → List Str → List D → Rs
  | some dx, fs, ds => [xdA dx fs ds]
  | none, _, _ => []
def dropR (Q : Dl → Rs → Prop) : Dl → Rs → Prop := fun δ r => ∃ r', le r r' ∧ Q δ r'
def sHds (A : An) : List Cl1 → XT
  | [] => A.xr
  | c :: cs => fun C fs ds δ r => ∃ b, (C, b) ∈ c.Cs ∧ (b = true → ∀ (a : Addr) (d : Option Addr), (d = none → fs = [] ∧ ds = []) → match c.i with
      | none => c.u a (.ref C) d { nx := dropR A.nx, rt := fun v r' => ∃ r2, le r' r2 ∧ A.rt v r2, bk := dropR A.bk, ct := dropR A.ct } δ (r ++ held d fs ds)
      | some i => c.u a (.ref C) d { nx := dropR fun δ' => A.nx (δ'.set i none), rt := fun v r' => ∃ r2, le r' r2 ∧ A.rt v r2, bk := dropR fun δ' => A.bk (δ'.set i none), ct := dropR fun δ' => A.ct (δ'.set i none) } (δ.set i (some (.adr a))) (r ++ held d fs ds)) ∧
    (b = false → sHds A cs C fs ds δ r)
def sTry (tb : AS) (cs : List Cl1) : AS := fun A δ r => tb { A with xr := sHds A cs } δ r
inductive HdsD (X : Cx) : List ExceptHandler → List Cl1 → Prop
  | nil : HdsD X [] []
  | cons {x : Str} {c : Value} {Cs : List (Addr × Bool)} {u : Addr → Value → Option Addr → AS} {b₀ : Stmt} {suite : List Stmt} {np pos' : Pos} {hds : List ExceptHandler} {l : List Cl1} (hc : Names X x c) (hC : ∀ p ∈ Cs, PySem.W.exmOne X.K (.ref p.1) c = some p.2)
      (hsu : ∀ (a : Addr) (oe : Obj) (cls : Value) (d : Option Addr) (pn : List (Addr × Obj)), Zc cls d oe → (∃ vs, oe.data = .fields vs) → PBD (X.suite a ((a, oe) :: pn)) W0 (b₀ :: suite) (u a cls d)) (r : HdsD X hds l) :
      HdsD X (.ExceptHandler (some (.Name x np)) none (b₀ :: suite) pos' :: hds) (⟨Cs, none, u⟩ :: l)
  | as {x n : Str} {i : Nat} {c : Value} {Cs : List (Addr × Bool)} {u : Addr → Value → Option Addr → AS} {b₀ : Stmt} {suite : List Stmt} {np pos' : Pos} {hds : List ExceptHandler} {l : List Cl1} (hN : X.N.Nodup) (hi : X.N[i]? = some n) (hln : X.env.kindOf n = some .local) (hc : Names X x c) (hC : ∀ p ∈ Cs, PySem.W.exmOne X.K (.ref p.1) c = some p.2)
      (hsu : ∀ (a : Addr) (oe : Obj) (cls : Value) (d : Option Addr) (pn : List (Addr × Obj)), Zc cls d oe → (∃ vs, oe.data = .fields vs) → PBD (X.suite a ((a, oe) :: pn)) W0 (b₀ :: suite) (u a cls d)) (r : HdsD X hds l) :
      HdsD X (.ExceptHandler (some (.Name x np)) (some n) (b₀ :: suite) pos' :: hds) (⟨Cs, some i, u⟩ :: l)
theorem held_ok {K : PySem.W.Frag} {r : Rs} {H : Hp} {d : Option Addr} {fs : List Str} {ds : List D} (h : Rok K r H) (e : ExAt K r H d fs ds) : Rok K (r ++ held d fs ds) H ∧ Kp K r H (r ++ held d fs ds) H := by
  cases d with
  | none =>
    show Rok K (r ++ []) H ∧ Kp K r H (r ++ []) H
    rw [List.append_nil]
    exact ⟨h, Kp.refl⟩
  | some dx => exact rok_xd h e
theorem Ok.le {K : PySem.W.Frag} {W : WX} {XR : XT} {r r' : Rs} {δ : Dl} {σ : L2.St} {H : Hp} (o : Ok K W XR r δ σ H) (l : G.le r r') : Ok K W XR r' δ σ H := o.step l.kp (l.r _ _ o.r)
theorem hdsA_of {X : Cx} {W : WX} : ∀ {hds : List ExceptHandler} {cs : List Cl1}, HdsD X hds cs → ∃ l, HdsA X hds l ∧ ∀ (D : Ends) (A : An) (r : Rs) (H : Hp), Xc X.K W A.xr r H → Fin X.K W A r H D → Xc X.K (wManyA X.K W D l) (sHds A cs) r H := by
  intro hds cs h
  induction h with
  | nil => exact ⟨[], .nil, fun D A r H x f => x⟩
  | @cons x c Cs u b₀ suite np pos' hds l hc hC hsu r ih =>
    obtain ⟨l', hl, hx⟩ := ih
    refine ⟨(c, none, fun a cls d => TSD X.K W0 (u a cls d)) :: l', .cons hc hsu hl, fun D A r H x f => ?_⟩
    rintro C fs ds δ' r' σ' a H' ⟨b, hb, ht, hf⟩ o k e
    refine ⟨b, hC _ hb, fun q a0 na => ?_, fun q => hx D A r H x f C fs ds δ' r' σ' a H' (hf q) o k e⟩
    obtain ⟨q1, q2⟩ := held_ok o.r e
    have hh := ht q a0 a (fun z => by subst z; exact e)
    refine ⟨δ', r' ++ held a fs ds, _, ⟨o.step q2 q1, ?_⟩, hh, ?_⟩
    · exact fun _ _ _ _ _ _ _ _ z => z.elim
    refine ⟨?_, ?_, ?_, ?_⟩
    · rintro δ2 r2 σ2 H2 ⟨r3, l3, q3⟩ o2 k2
      exact f.nx _ _ _ _ q3 ⟨o2.b.step l3.kp (l3.r _ _ o2.r), x.step (((k.trans q2).trans k2).trans l3.kp)⟩ (((k.trans q2).trans k2).trans l3.kp)
    · rintro d r2 v H2 ⟨r3, l3, q3⟩ o2 k2 i
      exact f.rt _ _ _ _ q3 (l3.r _ _ o2) (((k.trans q2).trans k2).trans l3.kp) (l3.kp _ _ i)
    · rintro δ2 r2 σ2 H2 ⟨r3, l3, q3⟩ o2 k2
      exact f.bk _ _ _ _ q3 ⟨o2.b.step l3.kp (l3.r _ _ o2.r), x.step (((k.trans q2).trans k2).trans l3.kp)⟩ (((k.trans q2).trans k2).trans l3.kp)
    · rintro δ2 r2 σ2 H2 ⟨r3, l3, q3⟩ o2 k2
      exact f.ct _ _ _ _ q3 ⟨o2.b.step l3.kp (l3.r _ _ o2.r), x.step (((k.trans q2).trans k2).trans l3.kp)⟩ (((k.trans q2).trans k2).trans l3.kp)
  | @as x n i c Cs u b₀ suite np pos' hds l hN hi hln hc hC hsu r ih =>
    obtain ⟨l', hl, hx⟩ := ih
    refine ⟨(c, some i, fun a cls d => TSD X.K W0 (u a cls d)) :: l', .as hN hi hln hc hsu hl, fun D A r H x f => ?_⟩
    rintro C fs ds δ' r' σ' a H' ⟨b, hb, ht, hf⟩ o k e
    refine ⟨b, hC _ hb, fun q a0 na => ?_, fun q => hx D A r H x f C fs ds δ' r' σ' a H' (hf q) o k e⟩
    obtain ⟨q1, q2⟩ := held_ok o.r e
    have hh := ht q a0 a (fun z => by subst z; exact e)
    refine ⟨δ'.set i (some (.adr a0)), r' ++ held a fs ds, _, ⟨(o.step q2 q1).set (.adr a0), ?_⟩, hh, ?_⟩
    · exact fun _ _ _ _ _ _ _ _ z => z.elim
    refine ⟨?_, ?_, ?_, ?_⟩
    · rintro δ2 r2 σ2 H2 ⟨r3, l3, q3⟩ o2 k2
      exact f.nx _ _ _ _ q3 ⟨(o2.b.step l3.kp (l3.r _ _ o2.r)).drop, x.step (((k.trans q2).trans k2).trans l3.kp)⟩ (((k.trans q2).trans k2).trans l3.kp)
    · rintro d r2 v H2 ⟨r3, l3, q3⟩ o2 k2 i
      exact f.rt _ _ _ _ q3 (l3.r _ _ o2) (((k.trans q2).trans k2).trans l3.kp) (l3.kp _ _ i)
    · rintro δ2 r2 σ2 H2 ⟨r3, l3, q3⟩ o2 k2
      exact f.bk _ _ _ _ q3 ⟨(o2.b.step l3.kp (l3.r _ _ o2.r)).drop, x.step (((k.trans q2).trans k2).trans l3.kp)⟩ (((k.trans q2).trans k2).trans l3.kp)
    · rintro δ2 r2 σ2 H2 ⟨r3, l3, q3⟩ o2 k2
      exact f.ct _ _ _ _ q3 ⟨(o2.b.step l3.kp (l3.r _ _ o2.r)).drop, x.step (((k.trans q2).trans k2).trans l3.kp)⟩ (((k.trans q2).trans k2).trans l3.kp)
section
variable {X : Cx} {W : WX} {body : List Stmt} {h₀ : ExceptHandler} {hds : List ExceptHandler} {cs : List Cl1} {pos : Pos} {tb : AS}
theorem s_try (tk : Takes X W) (hb : ∀ (W' : WX) (pn : List (Addr × Obj)) (xe : Value → Shared → Prop), Takes (X.tr pn xe) W' → PassesOwn (model X.prog X.w) X.A X.env xe → PBD (X.tr pn xe) W' body tb)
    (hh : HdsD X (h₀ :: hds) cs) (hs : X.stack = X.env :: X.outer := by rfl) (hf : X.env.frame = some X.env.locals := by rfl) : PSD X W (.Try body (h₀ :: hds) [] [] pos) (sTry tb cs) := by
  obtain ⟨l, hl, hx⟩ := hdsA_of (W := W) hh
  refine imS (ps_try_manyA (tb := fun W' => TSD X.K W' tb) hs hf tk (fun W' pn xe tk' po => hb W' pn xe tk' po) hl) fun D σ H ⟨δ, r, A, o, h, f⟩ => ?_
  refine ⟨δ, r, { A with xr := sHds A cs }, ⟨o.b, hx D A r H o.x f⟩, h, ?_⟩
  have ok : ∀ {r' : Rs} {δ' : Dl} {σ' : L2.St} {H' : Hp} {W' : WX} {XR : XT}, Ok X.K W' XR r' δ' σ' H' → Kp X.K r H r' H' → Ok X.K W A.xr r' δ' σ' H' := fun o' k => ⟨o'.b, o.x.step k⟩
  exact ⟨fun δ' r' σ' H' a o' k => f.nx _ _ _ _ a (ok o' k) k, f.rt, fun δ' r' σ' H' a o' k => f.bk _ _ _ _ a (ok o' k) k, fun δ' r' σ' H' a o' k => f.ct _ _ _ _ a (ok o' k) k⟩
end
end G
namespace G
open PySem PySem.Spec L2
open PyProof.Rows (envOfC)
def ixF : List Str → Str → Option Nat
  | [], _ => none
  | f :: fs, g => if f = g then some 0 else (ixF fs g).map (· + 1)
theorem ixF_mem : ∀ {fs : List Str} {g : Str} {i : Nat}, ixF fs g = some i → g ∈ fs
  | f :: fs, g, i, h => by
    unfold ixF at h
    split at h
    · rename_i e
      subst e
      exact List.mem_cons_self
    · obtain ⟨j, hj, _⟩ := Option.map_eq_some_iff.mp h
      exact List.mem_cons_of_mem _ (ixF_mem hj)
theorem ixF_get : ∀ {kvs : List (Str × V)} {fs : List Str} {g : Str} {i : Nat} {v : V}, kvs.map Prod.fst = fs → ixF fs g = some i → (kvs.map Prod.snd)[i]? = some v → kvs.lookup g = some v
  | [], _, g, i, v, e, h, hv => by simp at hv
  | (f, x) :: kvs, _, g, i, v, e, h, hv => by
    subst e
    unfold List.map ixF at h
    by_cases q : f = g
    · rw [if_pos q] at h
      cases h
      subst q
      have : x = v := by simpa using hv
      rw [← this]
      simp [List.lookup]
    · rw [if_neg q] at h
      obtain ⟨j, hj, rfl⟩ := Option.map_eq_some_iff.mp h
      have hb : (g == f) = false := beq_eq_false_iff_ne.mpr fun e => q e.symm
      rw [List.lookup, hb]
      exact ixF_get rfl hj (by simpa using hv)
theorem ixF_put : ∀ {kvs : List (Str × V)} {g : Str} {i : Nat} {v : V}, ixF (kvs.map Prod.fst) g = some i → (putF g v kvs).map Prod.fst = kvs.map Prod.fst ∧ (putF g v kvs).map Prod.snd = (kvs.map Prod.snd).set i v
  | [], g, i, v, h => by cases h
  | (f, x) :: kvs, g, i, v, h => by
    unfold List.map ixF at h
    unfold putF
    by_cases q : f = g
    · rw [if_pos q] at h ⊢
      cases h
      exact ⟨rfl, rfl⟩
    · rw [if_neg q] at h ⊢
      obtain ⟨j, hj, rfl⟩ := Option.map_eq_some_iff.mp h
      obtain ⟨h1, h2⟩ := ixF_put (v := v) hj
      exact ⟨by rw [List.map_cons, List.map_cons, h1], by rw [List.map_cons, List.map_cons, h2] <;> rfl⟩
theorem ixF_new : ∀ {kvs : List (Str × V)} {g : Str} {v : V}, ixF (kvs.map Prod.fst) g = none → (putF g v kvs).map Prod.fst = kvs.map Prod.fst ++ [g] ∧ (putF g v kvs).map Prod.snd = kvs.map Prod.snd ++ [v]
  | [], g, v, h => ⟨rfl, rfl⟩
  | (f, x) :: kvs, g, v, h => by
    unfold List.map ixF at h
    unfold putF
    by_cases q : f = g
    · rw [if_pos q] at h
      cases h
    · rw [if_neg q] at h ⊢
      have hj := Option.map_eq_none_iff.mp h
      obtain ⟨h1, h2⟩ := ixF_new (v := v) hj
      exact ⟨by rw [List.map_cons, List.map_cons, h1] <;> rfl, by rw [List.map_cons, List.map_cons, h2] <;> rfl⟩
section
variable {K : PySem.W.Frag} {r pre post : Rs} {H : Hp} {l : Addr} {t t' : At} {u u' : HO}
theorem mid_R (h : Rok K (pre ++ t :: post) H) : t.R K (mem (pre ++ t :: post)) H := (hold_append.mp h).2.1.1
theorem mid_mem {a : Addr} (h : t.M a) : mem (pre ++ t :: post) a := mem_append.mpr (.inr (.inl h))
theorem mid_put (hm : t.M = fun b => b = l) (hm' : t'.M = fun b => b = l) (hu : H l = some u) (nt : ∀ xs, u ≠ .tup xs ∧ ∀ o : Obj, u ≠ .frz o (.tup xs)) (h : Rok K (pre ++ t :: post) H)
    (ht : (∀ w e, Is K (mem (pre ++ t :: post)) H w e → Is K (mem (pre ++ t' :: post)) (upd H l u') w e) → t'.R K (mem (pre ++ t' :: post)) (upd H l u')) :
    Rok K (pre ++ t' :: post) (upd H l u') ∧ Kp K (pre ++ t :: post) H (pre ++ t' :: post) (upd H l u') := by
  obtain ⟨h1, ⟨h2, h3, h4⟩, h5⟩ := hold_append.mp h
  have me : mem (pre ++ t :: post) = mem (pre ++ t' :: post) := mem_mid (by rw [hm, hm'])
  have tl : t.M l := by rw [hm]
  have go : ∀ w e, Is K (mem (pre ++ t :: post)) H w e → Is K (mem (pre ++ t :: post)) (upd H l u') w e := fun w e q => is_otherO (mid_mem tl) hu nt q
  refine ⟨hold_append.mpr ⟨?_, ⟨ht fun w e q => me ▸ go w e q, ?_, ?_⟩, ?_⟩, fun w e q => me ▸ go w e q⟩
  · rw [← me]
    exact hold_loc (fun b o m q => by rw [upd_ne (fun e => h5 b m (.inl (by rw [hm]; exact e)))]; exact q) go h1
  · intro a z
    exact h3 a (by rw [hm]; rw [hm'] at z; exact z)
  · rw [← me]
    exact hold_loc (fun b o m q => by rw [upd_ne (fun e => h3 b (by rw [hm]; exact e) m)]; exact q) go h4
  · intro a m z
    refine h5 a m (z.elim (fun z => .inl ?_) .inr)
    rw [hm]; rw [hm'] at z; exact z
theorem mid_anti {a : Addr} (z : mem (pre ++ post) a) : mem (pre ++ t :: post) a := (mem_append.mp z).elim (fun z => mem_append.mpr (.inl z)) fun z => mem_append.mpr (.inr (.inr z))
theorem mid_drop (h : Rok K (pre ++ t :: post) H) : Rok K (pre ++ post) H ∧ Kp K (pre ++ t :: post) H (pre ++ post) H ∧ ∀ a, t.M a → ¬ mem (pre ++ post) a := by
  obtain ⟨h1, ⟨h2, h3, h4⟩, h5⟩ := hold_append.mp h
  refine ⟨hold_append.mpr ⟨hold_anti (fun _ => mid_anti) h1, hold_anti (fun _ => mid_anti) h4, fun a m z => h5 a m (.inr z)⟩, fun _ _ => is_anti fun _ => mid_anti, fun a m z => ?_⟩
  rcases mem_append.mp z with z | z
  · exact h5 a z (.inl m)
  · exact h3 a m z
theorem mid_new {p : Addr} {H' : Hp} (hm : t.M = fun b => b = p) (h : Rok K r H) (hp : H p = none) (e : Ext H H') (ht : (∀ w d, Is K (mem r) H w d → Is K (mem (r ++ [t])) H' w d) → t.R K (mem (r ++ [t])) H') : Rok K (r ++ [t]) H' ∧ Kp K r H (r ++ [t]) H' := by
  have an : ∀ a, mem (r ++ [t]) a → mem r a ∨ a = p := fun a z => (mem_append.mp z).elim .inl fun z => z.elim (fun z => .inr (by rw [hm] at z; exact z)) False.elim
  have go : Kp K r H (r ++ [t]) H' := fun v d q => is_anti an (is_ext e _ _ (is_grow hp q))
  refine ⟨hold_append.mpr ⟨hold_anti an (hold_ext e (hold_grow hp h)), ⟨ht go, fun _ _ z => z, True.intro⟩, fun a m z => ?_⟩, go⟩
  have : a = p := z.elim (fun z => by rw [hm] at z; exact z) False.elim
  subst this
  exact not_al h hp m
end
/-- an instance of our own at a -/
def insA (a C : Addr) (fs : List Str) (ds : List D) : At where
  M := fun b => b = a
  R := fun K N H => Good K C fs ∧ ∃ (dx : Addr) (kvs : List (Str × V)), H a = some (.ins C dx kvs) ∧ kvs.map Prod.fst = fs ∧ IsAll K N H (kvs.map Prod.snd) ds
  loc := fun f g ⟨q, dx, vs, h, e, i⟩ => ⟨q, dx, vs, f _ _ rfl h, e, all_of g i⟩
  anti := fun q ⟨z, dx, vs, h, e, i⟩ => ⟨z, dx, vs, h, e, all_of (fun _ _ => is_anti q) i⟩
  grow := fun hp ⟨z, dx, vs, h, e, i⟩ => ⟨z, dx, vs, h, e, all_of (fun _ _ => is_growD hp) i⟩
  al := fun ⟨z, dx, vs, h, _⟩ b e => ⟨.ins C dx vs, by rw [show b = a from e]; exact h⟩
section
variable {K : PySem.W.Frag} {r pre post : Rs} {H : Hp} {a C : Addr} {fs : List Str} {ds : List D}
theorem ins_drop (h : Rok K (pre ++ insA a C fs ds :: post) H) : Rok K (pre ++ post) H ∧ Is K (mem (pre ++ post)) H (.ref a) (.ins C fs ds) ∧ Kp K (pre ++ insA a C fs ds :: post) H (pre ++ post) H := by
  obtain ⟨h1, h2, h3⟩ := mid_drop h
  obtain ⟨g, dx, kvs, e1, e2, e3⟩ := mid_R h
  exact ⟨h1, .ins (h3 a rfl) e1 e2 g (all_of h2 e3), h2⟩
theorem ins_new {dx : Addr} (h : Rok K r H) (g : Plain K C) (ha : H a = none) (hd : H dx = none) (ne : dx ≠ a) : Ext H (upd (upd H dx (.own a)) a (.ins C dx [])) ∧ Rok K (r ++ [insA a C [] []]) (upd (upd H dx (.own a)) a (.ins C dx [])) ∧ Kp K r H (r ++ [insA a C [] []]) (upd (upd H dx (.own a)) a (.ins C dx [])) := by
  have e : Ext H (upd (upd H dx (.own a)) a (.ins C dx [])) := fun b o q => by
    rw [upd_ne (ne_of_none q ha), upd_ne (ne_of_none q hd)]
    exact q
  exact ⟨e, mid_new rfl h ha e fun _ => ⟨⟨g, fun f z => by cases z⟩, dx, [], upd_same, rfl, .nil⟩⟩
end
inductive oFld (f : Str) : D → Rs → PK1 → Prop
  | fro {C : Addr} {fs : List Str} {ds : List D} {r : Rs} {P : PK1} (i : Nat) (y : D) (h : ixF fs f = some i) (hy : ds[i]? = some y) (p : P y r) : oFld f (.ins C fs ds) r P
  | own {a C : Addr} {fs : List Str} {ds : List D} {r : Rs} {P : PK1} (pre post : Rs) (i : Nat) (y : D) (e : r = pre ++ insA a C fs ds :: post) (h : ixF fs f = some i) (hy : ds[i]? = some y) (p : P y r) : oFld f (.adr a) r P
def aFld (f : Str) (te : AT) : AT := fun x δ r P => te x δ r fun d r1 => oFld f d r1 P
section
variable {X : Cx} {W : WX} {e o value : Expr} {f : Str} {pos pos' : Pos} {te to tv : AT}
theorem d_fld (he : PD X W e te) (hb : attributeBase e f X.env (eval e X.env) = eval e X.env := by rfl) : PD X W (.Attribute e f pos) (aFld f te) := imE (pe_fld he hb) fun σ H Q q => by
  obtain ⟨XR, δ, r, P, ok, h, k⟩ := q
  refine td_bind ok h fun d r1 v H1 h1 o1 k1 i1 => ?_
  cases h1 with
  | @fro C fs ds _ _ i y h hy p =>
    cases i1 with
    | ins n s e2 g a =>
      obtain ⟨v, hv, iv⟩ := a.getD hy
      exact ⟨_, _, _, _, v, rfl, s, g.cls, g.no _ (ixF_mem h), ixF_get e2 h hv, k _ _ _ _ p o1 k1 iv⟩
  | @own a C fs ds _ _ pre post i y e2 h hy p =>
    cases i1
    subst e2
    obtain ⟨g, dx, kvs, s, e3, a⟩ := mid_R o1.r
    obtain ⟨v, hv, iv⟩ := a.getD hy
    exact ⟨_, _, _, _, v, rfl, s, g.cls, g.no _ (ixF_mem h), ixF_get e3 h hv, k _ _ _ _ p o1 k1 iv⟩
/-- o.f = value -/
inductive oPut (C : Addr) (f : Str) (y : D) : D → Rs → (Rs → Prop) → Prop
  | new {a : Addr} {fs : List Str} {ds : List D} {r : Rs} {k : Rs → Prop} (pre post : Rs) (e : r = pre ++ insA a C fs ds :: post) (h : ixF fs f = none) (z : fs.length < 1000) (p : k (pre ++ insA a C (fs ++ [f]) (ds ++ [y]) :: post)) : oPut C f y (.adr a) r k
  | old {a : Addr} {fs : List Str} {ds : List D} {r : Rs} {k : Rs → Prop} (pre post : Rs) (i : Nat) (e : r = pre ++ insA a C fs ds :: post) (h : ixF fs f = some i) (z : fs.length < 1000) (p : k (pre ++ insA a C fs (ds.set i y) :: post)) : oPut C f y (.adr a) r k
def sPut (C : Addr) (f : Str) (to tv : AT) : AS := fun A δ r => tv A.xr δ r fun y r1 => to A.xr δ r1 fun d r2 => oPut C f y d r2 fun r3 => A.nx δ r3
theorem s_put {C : Addr} (n : NoAttr X.K C f) (ho : PD X W o to) (hv : PD X W value tv) (hs : swapsWith value (some (.Attribute o f pos')) pos.line X.env = pure false := by rfl) : PSD X W (.Assign [.Attribute o f pos'] value pos) (sPut C f to tv) :=
  imS (ps_fld ho hv hs) fun Dd σ H ⟨δ, r, A, ok, h, ff⟩ => td_bind ok h fun y r1 v H1 h1 o1 k1 i1 => td_bind o1 h1 fun d r2 v2 H2 h2 o2 k2 i2 => by
    cases h2 with
    | @new a fs ds _ _ pre post e h z p =>
      cases i2
      subst e
      obtain ⟨g, dx, kvs, s, e3, i⟩ := mid_R o2.r
      subst e3
      obtain ⟨q1, q2⟩ := ixF_new (v := v) h
      obtain ⟨z1, z2⟩ := mid_put (t := insA a C _ ds) (t' := insA a C (kvs.map Prod.fst ++ [f]) (ds ++ [y])) (u' := .ins C dx (putF f v kvs)) rfl rfl s (fun xs => ⟨(fun e => by cases e), fun o e => by cases e⟩) o2.r
        (fun go => ⟨⟨g.p, fun x hx => (List.mem_append.mp hx).elim (g.no x) fun hx => by rw [List.mem_singleton.mp hx]; exact n⟩, dx, putF f v kvs, upd_same, q1, by rw [q2]; exact (all_of go i).append (.cons (go _ _ (k2 _ _ i1)) .nil)⟩)
      exact ⟨a, C, dx, kvs, rfl, s, g.cls, n, by rw [List.length_map] at z; exact z, ff.nx _ _ _ _ p (o2.step z2 z1) ((k1.trans k2).trans z2)⟩
    | @old a fs ds _ _ pre post i e h z p =>
      cases i2
      subst e
      obtain ⟨g, dx, kvs, s, e3, i2⟩ := mid_R o2.r
      subst e3
      obtain ⟨q1, q2⟩ := ixF_put (v := v) h
      obtain ⟨z1, z2⟩ := mid_put (t := insA a C _ ds) (t' := insA a C (kvs.map Prod.fst) (ds.set i y)) (u' := .ins C dx (putF f v kvs)) rfl rfl s (fun xs => ⟨(fun e => by cases e), fun o e => by cases e⟩) o2.r
        (fun go => ⟨g, dx, putF f v kvs, upd_same, q1, by rw [q2]; exact set_all (go _ _ (k2 _ _ i1)) i (all_of go i2)⟩)
      exact ⟨a, C, dx, kvs, rfl, s, g.cls, n, by rw [List.length_map] at z; exact z, ff.nx _ _ _ _ p (o2.step z2 z1) ((k1.trans k2).trans z2)⟩
/-- an own instance handed on as data -/
def aFrz (te : AT) : AT := fun x δ r P => te x δ r fun d r1 => ∃ a C fs ds pre post, d = .adr a ∧ r1 = pre ++ insA a C fs ds :: post ∧ P (.ins C fs ds) (pre ++ post)
theorem d_frz (h : PD X W e te) : PD X W e (aFrz te) := imE h fun σ H Q q => by
  obtain ⟨XR, δ, r, P, o, h, k⟩ := q
  refine td_bind o h fun d r1 v H1 h1 o1 k1 i1 => ?_
  obtain ⟨a, C, fs, ds, pre, post, rfl, rfl, h1⟩ := h1
  cases i1
  obtain ⟨q1, q2, q3⟩ := ins_drop o1.r
  exact k _ _ _ _ h1 (o1.step q3 q1) (k1.trans q3) q2
end
def aNew (C : Addr) (sd : SpX) (l : AL) : AT := fun x δ r P => l x δ r fun ds r1 => ∀ a, sd (.adr a :: ds) (r1 ++ [insA a C [] []]) (fun d r2 => d = .non ∧ P (.adr a) r2) fun E fs es r' => x E fs es δ r'
section
variable {X : Cx} {W : WX} {k : Nat} {f C : Addr} {sd : SpX} {x : Str} {p pos : Pos} {e : Expr} {es : List Expr} {l : AL}
theorem run_mk {sp : Sp} {E : XK} {pins : List (Addr × Obj)} {σ : L2.St} {H : Hp} {s : Shared} {Q : VK} {us : List Value} {vs : List V} (M : Mk X.K C f) (F : FnR X.prog X.w X.K X.mg X.base (L2.CX X.prog X.w) k f sp) (hr : Room (k + 1) X.A) (hx : PassesAt (L2.CX X.prog X.w) X σ E) (I : L2.Inv X pins σ H s) (r : Vals vs us)
    (h : ∀ x dx, H x = Option.none → H dx = Option.none → dx ≠ x → sp (V.ref x :: vs) (upd (upd H dx (.own x)) x (.ins C dx [])) (fun v H2 => v = .non ∧ Q (.ref x) H2) E) :
    wpAny (model X.prog X.w) X.A (call (.ref C) us) (EP X pins σ Q) X.xe s := by
  have hq := h (s.heap.objs.size + 1) s.heap.objs.size (I.hok.fresh (Nat.le_succ _)) (I.hok.fresh (Nat.le_refl _)) (Nat.ne_of_lt (Nat.lt_succ_self _))
  have I2 := Inv.made (C := C) I
  have r2 : Vals (V.ref (s.heap.objs.size + 1) :: vs) (Value.ref (s.heap.objs.size + 1) :: us) := .cons rfl r
  refine wpAny_call (make_map (f := f) I.kIn M.makes M.init (beq_iff_eq.mp M.fn) (codeAny_mono (F _ X.stack _ _ (Value.ref (s.heap.objs.size + 1) :: us) _ _ E (hr.make C us []) (I2.env0.make C us []) r2 hq) fun r s' hq' => ?_))
  cases r with
  | error e => exact hx pins _ _ e s' I2 hq'
  | ok fl =>
    cases fl with
    | ret u =>
      obtain ⟨v, H', I3, rv, ev, q3⟩ := I2.after hq'
      subst ev
      exact ⟨rv, ⟨V.ref (s.heap.objs.size + 1), H', I3, rfl, q3⟩⟩
    | next => exact False.elim hq'
    | brk => exact False.elim hq'
    | cont => exact False.elim hq'
theorem d_new (M : Mk X.K C f) (g : Plain X.K C) (F : FR X.prog X.w X.K X.mg X.base k f sd) (tk : Takes X W) (hr : Room (k + 1) X.A) (hm : X.mg x = some (.ref C)) (ha : PDL X W (e :: es) l)
    (hg : Gl X x := by rfl) (hdb : (x == ("__debug__" : Str)) = false := by decide) (he : starEach (e :: es) X.env = (false, eval e X.env) :: starEach es X.env := by rfl) (hpl : (backTo pos (starEach es X.env)).any (·.1) = false := by rfl) :
    PD X W (.Call (.Name x p) (e :: es) [] pos) (aNew C sd l) := by
  refine ⟨fun pins s σ H Q I h => ?_⟩
  refine wpAny_Call_Name_kw (ld_glob I hg hm ?_ hdb)
  obtain ⟨XR, δ, r, P, ok, h, kk⟩ := h
  refine PySem.W.callWith_K (h₀ := X.base) I.ok.mod.kin M.kp (thn (ha.run pos pins s σ H _ I (tdl_bind (Q := fun vs H1 => ∀ x dx, H1 x = Option.none → H1 dx = Option.none → dx ≠ x → lift X.K sd (V.ref x :: vs) (upd (upd H1 dx (.own x)) x (.ins C dx [])) (fun v H2 => v = .non ∧ Q (.ref x) H2) (WE W σ)) ok h fun ds r1 vs H1 h1 o1 k1 i1 x dx hx hd ne => ?_)) fun us s1 ⟨vs, H1, I1, r, q⟩ => ⟨I1.kIn, ?_⟩) he hpl
  · obtain ⟨e1, q1, q2⟩ := ins_new o1.r g hx hd ne
    refine ⟨r1 ++ [insA x C [] []], .adr x :: ds, _, _, q1, .cons (.adr x) (q2.all i1), h1 x, fun d r' v H' ⟨a, b⟩ rr c i => ?_, fun C' fs es r' a H' z ro kk e => ?_⟩
    · subst a
      cases i
      exact ⟨rfl, kk _ r' _ H' b (o1.step (q2.trans c) rr) (k1.trans (q2.trans c)) (.adr x)⟩
    · exact o1.x C' fs es δ r' σ a H' z (o1.b.step (q2.trans kk) ro) (q2.trans kk) e
  · exact run_mk M F hr (passAt tk _) I1 r q
end
inductive isC (C : Addr) : D → Rs → Prop
  | fro {fs : List Str} {ds : List D} {r : Rs} : isC C (.ins C fs ds) r
  | own {a : Addr} {fs : List Str} {ds : List D} {r : Rs} (pre post : Rs) (e : r = pre ++ insA a C fs ds :: post) : isC C (.adr a) r
theorem isC_at {K : PySem.W.Frag} {C : Addr} {d : D} {r : Rs} {v : V} {H : Hp} (h : isC C d r) (ro : Rok K r H) (i : Is K (mem r) H v d) : ∃ a dx kvs, v = .ref a ∧ H a = some (.ins C dx kvs) ∧ Good K C (kvs.map Prod.fst) := by
  cases h with
  | fro =>
    cases i with
    | ins n s e g a => exact ⟨_, _, _, rfl, s, by rw [show List.map Prod.fst _ = _ from e]; exact g⟩
  | own pre post e =>
    cases i
    subst e
    obtain ⟨g, dx, kvs, s, e3, a⟩ := mid_R ro
    exact ⟨_, _, _, rfl, s, by rw [e3]; exact g⟩
theorem lookup_none : ∀ {kvs : List (Str × V)} {m : Str}, m ∉ kvs.map Prod.fst → kvs.lookup m = none
  | [], _, _ => rfl
  | (f, x) :: kvs, m, h => by
    have hb : (m == f) = false := beq_eq_false_iff_ne.mpr fun e => h (by rw [e]; exact List.mem_cons_self)
    rw [List.lookup, hb]
    exact lookup_none fun z => h (List.mem_cons_of_mem _ z)
theorem Meth.free {K : PySem.W.Frag} {C g : Addr} {m : Str} {kvs : List (Str × V)} (k : Meth K C m g) (q : Good K C (kvs.map Prod.fst)) : kvs.lookup m = none := lookup_none fun z => by
  have := (q.no m z).symm.trans k.at_
  cases this
end G
namespace PySem.W
open Sem (wp)
end PySem.W
namespace G
open PySem PySem.Spec L2
open PyProof.Rows (envOfC)
theorem tyC {K : PySem.W.Frag} {C : Addr} {d : D} {r : Rs} {v : V} {H : Hp} (h : isC C d r) (ro : Rok K r H) (i : Is K (mem r) H v d) : TyX K H v (.ref C) := by
  obtain ⟨a, dx, kvs, rfl, s, g⟩ := isC_at h ro i
  exact .base (.ins s g.cls g.p.kls g.p.get g.p.tak g.p.mro)
/-- what isinstance(.., C) finds at plain data -/
structure IsK (K : PySem.W.Frag) (C : Addr) : Prop where
  ic : PySem.W.isClsIn K C = true
  ty : PySem.W.typeIn K (.ref C) = some (.type "type")
  sub : ∀ n ∈ ks6, PySem.W.subIn K (.type n) (.ref C) = some false
theorem IsK.of {K : PySem.W.Frag} {C : Addr} (k : IsK K C) {t : Value} {b : Bool} (h : PySem.W.subIn K t (.ref C) = some b) (ne : t ≠ .ref C) : PySem.W.kitOne K t (.ref C) = some b := by
  unfold PySem.W.kitOne
  rw [if_neg (fun e => ne (beq_iff_eq.mp e))]
  have e : ((PySem.W.clsIn K C).isSome && PySem.W.typeIn K (.ref C) == some (.type "type")) = true := by
    have := k.ic
    unfold PySem.W.isClsIn at this
    rw [this, k.ty] <;> rfl
  show (if ((PySem.W.clsIn K C).isSome && PySem.W.typeIn K (.ref C) == some (.type "type")) = true then PySem.W.subIn K t (.ref C) else none) = some b
  rw [if_pos e]
  exact h
theorem IsK.no {K : PySem.W.Frag} {C : Addr} (k : IsK K C) : ∀ n ∈ ks6, PySem.W.kitOne K (.type n) (.ref C) = some false := fun n hn => k.of (k.sub n hn) (fun e => by cases e)
def aXf (a : Addr) (cls : Value) (d : Option Addr) (Cs : List Addr) (f : Str) (te : AT) : AT := fun x δ r P => te x δ r fun v r1 => v = .adr a ∧ ∃ C dx fs ds i y pre post, C ∈ Cs ∧ cls = .ref C ∧ d = some dx ∧ r1 = pre ++ xdA dx fs ds :: post ∧ ixF fs f = some i ∧ ds[i]? = some y ∧ P y r1
section
theorem d_xf {X : Cx} {W : WX} {a : Addr} {oe : Obj} {cls : Value} {d : Option Addr} {pn : List (Addr × Obj)} {Cs : List Addr} {e : Expr} {te : AT} {pos : Pos} {f : Str} (T : ∀ C ∈ Cs, XfC X.K C ∧ PySem.W.findIn X.K (.ref C) f = some none)
    (hz : Zc cls d oe) (hf : ∃ vs, oe.data = .fields vs) (he : PD (X.suite a ((a, oe) :: pn)) W e te) (hb : attributeBase e f X.env (eval e X.env) = eval e X.env := by rfl) : PD (X.suite a ((a, oe) :: pn)) W (.Attribute e f pos) (aXf a cls d Cs f te) := by
  refine ⟨fun pins s σ H Q I h => ?_⟩
  obtain ⟨XR, δ, r, P, ok, h, kk⟩ := h
  refine attr_of hb (thn (he.run pins s σ H (fun x H1 => x = V.ref a ∧ ∃ C ∈ Cs, cls = .ref C ∧ ∃ (dd : Addr) (fs : List (Str × V)) (v : V), d = some dd ∧ H1 dd = some (.xd fs) ∧ fs.lookup f = some v ∧ Q v H1) I (td_bind ok h fun dv r1 v H1 h1 o1 k1 i1 => ?_)) fun u s1 hh => ?_)
  · obtain ⟨rfl, C, dx, fs, ds, i, y, pre, post, hC, ec, ed, er, hi, hy, p⟩ := h1
    cases i1
    subst er
    obtain ⟨kvs, e1, e2, e3⟩ := mid_R o1.r
    obtain ⟨v, hv, iv⟩ := e3.getD hy
    exact ⟨rfl, C, hC, ec, dx, kvs, v, ed, e1, ixF_get e2 hi hv, kk _ _ _ _ p o1 k1 iv⟩
  · obtain ⟨x, H1, I1, rx, ex, C, hC, ec, dd, fs, v, ed, ea, l, q⟩ := hh
    subst ex
    obtain rfl : u = Value.ref a := rx
    subst ec
    subst ed
    obtain ⟨T1, hno⟩ := T C hC
    obtain ⟨ha, _⟩ := I1.pin (a, oe) (List.mem_append_left _ List.mem_cons_self)
    obtain ⟨vs, hd⟩ := hf
    have hx : ObjOk X.prog X.w H1 s1.heap dd (.xd fs) := I1.hok dd _ ea
    obtain ⟨mA, hns, hr⟩ := hx
    obtain ⟨od, ho, hl⟩ := lookIn_ns hns
    obtain ⟨u, hu, ru⟩ := RelO.some_of (v := v) (o := mA f) (by rw [← l]; exact hr f)
    have J : PySem.W.InstAt s1.heap a oe C (some od) := ⟨ha, hz.1, by unfold PySem.W.notCls; rw [hd] <;> rfl, by rw [hz.2]; exact ho⟩
    exact HandSPX.exc_get I1.kIn J T1.ga T1.gg T1.exC (PySem.W.findObj_own T1.hdC hno rfl (by rw [hl, hu])) (handed_of ru) ⟨v, H1, I1.tok _, ru, q⟩
end
end G
namespace G
open PySem PySem.Spec L2
open PyProof.Rows (envOfC)
/-- a def as it stands behind the top, whatever its defaults are -/
structure FunA (K : PySem.W.Frag) (x qual : Str) (st : Stmt) (f : Addr) (fd : FuncData) : Prop where
  ex : ∃ (oc : Value) (od : Option Addr) (dV kV doc pm : Value) (an : Option Addr) (cdv ct : Value) (osl : Array (Option Value)),
    fd = PySem.W.fnOf x qual (defArgs st) (defBody st) (defScope st) dV kV doc pm an cdv ct ∧ K.lookup f = some ⟨oc, od, .func fd, osl⟩ ∧ PySem.W.codeIn K cdv qual = true
/-- what a body must give -/
def Bod (P : Program) (w : World) (K : PySem.W.Frag) (mg : Str → Option Value) (base : Heap) (qual : Str) (st : Stmt) (N : List Str) (k : Nat) (sd : SpX) : Prop :=
  ∀ (f : Addr) (cdv : Value) (A : Around) (outer : List Env) (s : Shared) (H : Hp) (E : XK), Room k (A.deeper (envOfC qual (defScope st) s.heap.objs.size f cdv)) → Takes (cxOf (L2.CX P w) P w K mg base N qual (defScope st) f cdv A outer s H E) (WK E) →
      PassesOwn (model P w) (cxOf (L2.CX P w) P w K mg base N qual (defScope st) f cdv A outer s H E).A (cxOf (L2.CX P w) P w K mg base N qual (defScope st) f cdv A outer s H E).env (cxOf (L2.CX P w) P w K mg base N qual (defScope st) f cdv A outer s H E).xe →
      ∃ t : AS, PBD (cxOf (L2.CX P w) P w K mg base N qual (defScope st) f cdv A outer s H E) (WK E) (defBody st) t ∧
      ∀ ds r P' XR, sd ds r P' XR → t { nx := fun _ r' => fit P' .non r', rt := fit P', xr := fitX XR } (startD N ds) r
/-- an own class: where it stands, how it answers -/
structure KCls (K : PySem.W.Frag) (mg : Str → Option Value) (x : Str) (C : Addr) (fs : List Str) : Prop where
  g : mg x = some (.ref C)
  p : Plain K C
  no : ∀ f ∈ fs, NoAttr K C f
  isk : IsK K C
theorem fm_nil {α : Type} {p : α → Prop} : ∀ x ∈ ([] : List α), p x := fun _ h => by cases h
theorem fm_cons {α : Type} {p : α → Prop} {a : α} {l : List α} (h : p a) (t : ∀ x ∈ l, p x) : ∀ x ∈ a :: l, p x := fun x hx => by
  rcases List.mem_cons.mp hx with e | hx
  · rw [e]; exact h
  · exact t x hx
def ClN (P : Program) (w : World) (K : PySem.W.Frag) (mg : Str → Option Value) (base : Heap) (k : Nat) (C : Addr) (dd : List D) (sd : SpX) : Prop := ∃ f, Mk K C f ∧ ∀ j, j ≤ dd.length → FR P w K mg base k f (fun ds r P XR => sd (ds ++ dd.drop j) r P XR)
section
variable {X : Cx} {W : WX} {k j : Nat} {C : Addr} {sd : SpX} {dd : List D} {x y m : Str} {fs : List Str} {p q apos pos : Pos} {e o a b : Expr} {es : List Expr} {l : AL} {to ta tb : AT} {pl : Sem Bool}
/-- C(..), the defaults behind the first i used -/
theorem d_mk (i : Nat) (M : ClN X.prog X.w X.K X.mg X.base k C dd sd) (kc : KCls X.K X.mg x C fs) (tk : Takes X W) (hr : Room j X.A) (ha : PDL X W (e :: es) l) (hi : i ≤ dd.length := by first | decide | exact Nat.le_refl _) (hj : k + 1 ≤ j := by first | decide | exact Nat.le_refl _ | omega)
    (hg : Gl X x := by rfl) (hdb : (x == ("__debug__" : Str)) = false := by decide) (he : starEach (e :: es) X.env = (false, eval e X.env) :: starEach es X.env := by rfl) (hpl : (backTo pos (starEach es X.env)).any (·.1) = false := by rfl) :
    PD X W (.Call (.Name x p) (e :: es) [] pos) (aNew C (fun ds r P XR => sd (ds ++ dd.drop i) r P XR) l) := by
  obtain ⟨f, M, F⟩ := M
  exact d_new M kc.p (F i hi) tk (hr.mono hj) kc.g ha hg hdb he hpl
end
end G
namespace G
open PySem PySem.Spec PySem.W L2 PyProof.Rows
theorem lookup_mem : ∀ {α : Type} {l : List (Str × α)} {x : Str} {k : α}, l.lookup x = some k → (x, k) ∈ l
  | _, [], x, k, h => by cases h
  | _, (y, j) :: l, x, k, h => by
    rw [List.lookup] at h
    split at h
    · rename_i e
      cases h
      rw [beq_iff_eq.mp e]
      exact List.mem_cons_self
    · exact List.mem_cons_of_mem _ (lookup_mem h)
def freeOk (q : Str × NameKind) : Bool := match q.2 with
  | .cell => false
  | .free => q.1 == "__class__"
  | _ => true
theorem free_of {l : List (Str × NameKind)} (h : l.all freeOk = true) : (∀ x, l.lookup x = some .cell ∨ l.lookup x = some .free → x = "__class__") ∧ ∀ x ∈ l, x.2 ≠ .cell := by
  refine ⟨fun x e => ?_, fun x hx e => ?_⟩
  · rcases e with e | e
    · have := List.all_eq_true.mp h _ (lookup_mem e)
      cases this
    · have := List.all_eq_true.mp h _ (lookup_mem e)
      exact beq_iff_eq.mp this
  · have := List.all_eq_true.mp h x hx
    unfold freeOk at this
    rw [e] at this
    cases this
/-- what an except clause and a read of the field ask, too -/
structure ErrX (P : Program) (w : World) (K : PySem.W.Frag) (mg : Str → Option Value) (base : Heap) (x : Str) (C : Addr) (fld : Str) : Prop where
  c : ErrC P w K mg base x C fld
  xf : XfC K C
  no : findIn K (.ref C) fld = some none
  hd : hasDictIn K C = true
  se : subIn K (.ref C) (.ref C) = some true
theorem ErrX.exm {P : Program} {w : World} {K : PySem.W.Frag} {mg : Str → Option Value} {base : Heap} {x fld : Str} {C C' : Addr} {b : Bool} (e : ErrX P w K mg base x C fld) (h : subIn K (.ref C') (.ref C) = some b) : exmOne K (.ref C') (.ref C) = some b :=
  exm_ref e.c.cls.exC e.hd e.c.cls.tyC h
theorem errX_mk {P : Program} {w : World} {K : PySem.W.Frag} {h : Heap} {mg : Str → Option Value} {base : Heap} (X : K.In h) (G : h.Ns mainGlobals mg) {x fld prm qual : Str} {C fI cc cda N : Addr} {st : Stmt} {dV kV doc pm ct oc ccl cl : Value} {an od cdd cld : Option Addr} {osl ccs csl : Array (Option Value)} {vs0 : Array Value} {file : Str} {tf : Tok}
    {p0 p1 p2 p3 p4 p5 p6 p7 p8 p9 : Pos} {txt : Str} {jj : _} {nm q : Str} {bs bm : List Value} {sn : List Str} {sub : List Value} {ab : Bool} {col : Option Bool} {dd : Option Addr} {k0 k1 k2 k3 k5 : Option Value}
    (cg : nsIn K mainGlobals x = some (some (.ref C))) (xL : K.lookup C = some (excClassObj nm q C N bs bm true sn sub ab col dd k0 k1 k2 k3 k5 "ValueError.__new__"))
    (sa : findIn K (.ref C) "__setattr__" = some (some (.builtin "object.__setattr__"))) (exC : subIn K (.ref C) (.type "BaseException") = some true) (tyC : typeIn K (.ref C) = some (.type "type")) (kC : keepIn K (.ref C) = true)
    (i1 : findIn K (.ref C) "__init__" = some (some (.ref fI))) (i2 : typeIn K (.ref fI) = some (.type "function"))
    (mro : mroIn K C (.ref C) = some true) (sve : subIn K (.ref C) (.type "ValueError") = some true) (sup : ks_superIn K C C "__init__" = some (some (.builtin "ValueError.__init__"))) (opq : nsIn K cStatics "thirdparty.any" = some none) (zs : nsIn K mainGlobals "super" = some none)
    (lk : K.lookup fI = some ⟨oc, od, .func (ksFn "__init__" qual (defArgs st) (defBody st) (defScope st) dV kV doc pm an (.ref cda) ct cc), osl⟩)
    (hcd : codeIn K (.ref cda) qual = true) (hno : findIn K (.ref C) fld = some none)
    (hcode : K.lookup cda = some ⟨ccl, cdd, .fields vs0, ccs⟩) (hcell : K.lookup cc = some ⟨cl, cld, .cell (some (.ref C)), csl⟩)
    (ga : findIn K (.ref C) "__getattribute__" = some (some (.builtin "BaseException.__getattribute__"))) (gg : findIn K (.ref C) "__getattr__" = some none) (hd : hasDictIn K C = true) (se : subIn K (.ref C) (.ref C) = some true)
    (hbm : PySem.HandSPX.refsVE bm = true) (hvs : vs0[2]? = some (.str file tf)) (hfile : ((P.main.file : Str) == file) = true) (top : (P.main.scope.names.lookup ("super" : Str)).isSome = false)
    (hbody : defBody st = [.Expr (.Call (.Attribute (.Call (.Name "super" p0) [] [] p1) "__init__" p2) [.Constant (.str txt) jj p3] [] p4) p5, .Assign [.Attribute (.Name "self" p6) fld p7] (.Name prm p8) p9])
    (hp : ∃ ar : Arg, ((defArgs st).posonlyargs ++ (defArgs st).args).head? = some ar ∧ ar.arg = "self")
    (hnm : (defScope st).names.lookup ("self" : Str) = some .local ∧ (defScope st).names.lookup prm = some .local ∧ (defScope st).names.lookup ("super" : Str) = some .globalImplicit ∧ (defScope st).names.lookup ("__class__" : Str) = some .free)
    (hfree : (defScope st).names.all freeOk = true) (hsc : (defScope st).isCoroutine = false ∧ (defScope st).isGenerator = false ∧ (defScope st).kind = .function) (hps : ("self" : Str) ≠ prm) (hcdbg : (prm == ("__debug__" : Str)) = false ∧ (prm == ("__classdict__" : Str)) = false)
    (hin : ∀ L, interactive (ksEnv qual (defScope st) L fI (.ref cda) cc) = false)
    (hpl1 : ∀ L, swapsWith (.Call (.Attribute (.Call (.Name "super" p0) [] [] p1) "__init__" p2) [.Constant (.str txt) jj p3] [] p4) none p5.line (ksEnv qual (defScope st) L fI (.ref cda) cc) = pure false)
    (hev : ∀ L, ∃ pl : Sem Bool, eval (.Call (.Attribute (.Call (.Name "super" p0) [] [] p1) "__init__" p2) [.Constant (.str txt) jj p3] [] p4) (ksEnv qual (defScope st) L fI (.ref cda) cc) = (do
      let ov ← attributeBase (.Call (.Name "super" p0) [] [] p1) "__init__" (ksEnv qual (defScope st) L fI (.ref cda) cc) (eval (.Call (.Name "super" p0) [] [] p1) (ksEnv qual (defScope st) L fI (.ref cda) cc))
      standAt p2.atName
      let (f, first) ← holding [ov] (getMethod ov "__init__" pl)
      callWith p4 f first (backTo p4 (starEach [.Constant (.str txt) jj p3] (ksEnv qual (defScope st) L fI (.ref cda) cc))) []))
    (hpl2 : ∀ L, swapsWith (.Name prm p8) (some (.Attribute (.Name "self" p6) fld p7)) p9.line (ksEnv qual (defScope st) L fI (.ref cda) cc) = pure false)
    (bnd : ∀ us : List Value, us.length = 2 → bindArgs (ksFn "__init__" qual (defArgs st) (defBody st) (defScope st) dV kV doc pm an (.ref cda) ct cc) ⟨us, []⟩ = pure ((["self", prm] : List Str).zip us)) : ErrX P w K mg base x C fld := by
  have oc : OexC K C := ⟨⟨_, _, _, _, _, _, _, _, _, _, _, _, _, _, _, xL, hbm⟩, sa, exC, tyC, kC⟩
  have T : ErrK P K mg C := ⟨oc, mro, sve, sup, opq, mg_none_of X G zs, top⟩
  obtain ⟨f1, f2⟩ := free_of hfree
  obtain ⟨cd0, hD, _⟩ := any_some hd
  refine ⟨⟨mg_of X G cg, oc, fI, _, prm, i1, i2, ?_, .all bnd⟩, ⟨ga, gg, exC, hd⟩, hno, hd, se⟩
  rw [hbody] at lk ⊢
  exact exinit (j := 0) (cdv := .none) T lk hcd hD hno hcode hvs hfile hcell hp hnm f1 f2 hsc hps hcdbg hin hpl1 hev hpl2
end G
namespace G
open PySem PySem.Spec L2
def melt (i : Nat) (t : AS) : AS := fun A δ r => ∃ q ds pre post, lk δ i = some (.adr q) ∧ r = pre ++ lstA q ds :: post ∧ t A (δ.set i (some (.lst ds))) (pre ++ post)
theorem Okb.name {K : PySem.W.Frag} {r : Rs} {δ : Dl} {σ : L2.St} {H : Hp} (o : Okb K r δ σ H) {i : Nat} {d d' : D} (hi : δ[i]? = some (some d)) (h : ∀ v, Is K (mem r) H v d → Is K (mem r) H v d') : Okb K r (δ.set i (some d')) σ H := by
  refine ⟨fun j e he => ?_, o.r, by rw [List.length_set]; exact o.len⟩
  by_cases hj : j = i
  · subst hj
    have hl : j < δ.length := by
      have := (List.getElem?_eq_some_iff.mp he).1
      rwa [List.length_set] at this
    rw [List.getElem?_set_self hl] at he
    cases he
    obtain ⟨v, h1, h2⟩ := o.env j d hi
    exact ⟨v, h1, h v h2⟩
  · rw [List.getElem?_set_ne (Ne.symm hj)] at he
    exact o.env j e he
theorem tsd_melt {K : PySem.W.Frag} {W : WX} {t : AS} {i : Nat} {D : Ends} {σ : L2.St} {H : Hp} (h : TSD K W (melt i t) D σ H) : TSD K W t D σ H := by
  obtain ⟨δ, r, A, o, ⟨q, ds, pre, post, hl, rfl, h⟩, f⟩ := h
  obtain ⟨h1, h2, h3⟩ := own_drop o.r
  refine ⟨_, _, A, ⟨(o.b.step h3 h1).name (lk_get hl) (fun v z => by cases z; exact h2), o.x.step h3⟩, h, ⟨fun δ' r' σ' H' a o' k => f.nx _ _ _ _ a o' (h3.trans k), fun d r' v H' a o' k i => f.rt _ _ _ _ a o' (h3.trans k) i, fun δ' r' σ' H' a o' k => f.bk _ _ _ _ a o' (h3.trans k), fun δ' r' σ' H' a o' k => f.ct _ _ _ _ a o' (h3.trans k)⟩⟩
section
variable {X : Cx} {W : WX} {st : Stmt} {t : AS}
theorem s_melt (i : Nat) (h : PSD X W st t) : PSD X W st (melt i t) := imS h fun D σ H q => tsd_melt q
end
theorem hc0 {K : PySem.W.Frag} {c : Value} : ∀ p ∈ ([] : List (Addr × Bool)), PySem.W.exmOne K (.ref p.1) c = some p.2 := fm_nil
theorem hcc {K : PySem.W.Frag} {c : Value} {C : Addr} {b : Bool} {l : List (Addr × Bool)} (h : PySem.W.exmOne K (.ref C) c = some b) (t : ∀ p ∈ l, PySem.W.exmOne K (.ref p.1) c = some p.2) : ∀ p ∈ (C, b) :: l, PySem.W.exmOne K (.ref p.1) c = some p.2 := fm_cons h t
def aCut (t : AT) : AT := fun x δ r P => ∃ S : D → Rs → Prop, t x δ r S ∧ ∀ d r', S d r' → P d r'
def sCut (t : AS) : AS := fun A δ r => ∃ I : Dl → Rs → Prop, t { A with nx := I } δ r ∧ ∀ δ' r', I δ' r' → A.nx δ' r'
section
variable {X : Cx} {W : WX} {st : Stmt} {e : Expr} {t : AT} {u : AS}
theorem d_cut (h : PD X W e t) : PD X W e (aCut t) := imE h fun σ H Q ⟨XR, δ, r, P, o, ⟨S, h, hS⟩, k⟩ => ⟨XR, δ, r, S, o, h, fun d r' v H' p => k d r' v H' (hS d r' p)⟩
theorem s_cut (h : PSD X W st u) : PSD X W st (sCut u) := imS h fun D σ H ⟨δ, r, A, o, ⟨I, h, hI⟩, f⟩ => ⟨δ, r, { A with nx := I }, o, h, ⟨fun δ' r' σ' H' a => f.nx δ' r' σ' H' (hI δ' r' a), f.rt, f.bk, f.ct⟩⟩
end
end G
namespace G
open PySem PySem.Spec L2
open PyProof.Rows (envOfC)
section
variable {X : Cx} {W : WX} {a b : Expr} {ta tb : AT} {pos : Pos}
structure oInO (neg : Bool) (r : Rs) (x y : D) (k : D → Prop) : Prop where
  ex : ∃ l xs, y = .adr l ∧ Own r l xs ∧ oIn neg x (.lst xs) fun d => ∃ b, d = .bl b ∧ k d
theorem inO_go {neg : Bool} {f : Value → Value → Sem Value} (hp : OpR X f (rD X.K (oIn neg))) : OpR X f (rD2 X.K (oInO neg)) := by
  rintro pins s σ H x y v u Q I rx ry ⟨r, d1, d2, P, hr, i1, i2, ⟨l, xs, rfl, ⟨pre, post, rfl⟩, ho⟩, k⟩
  cases i2
  obtain ⟨q1, q2, q3⟩ := own_drop hr
  exact hp pins s σ H _ _ v u Q I rx ry ⟨pre ++ post, d1, .lst xs, _, q1, q3 _ _ i1, q2, ho, fun d v H' ⟨b, e, p⟩ ex i => by
    subst e
    cases i
    exact k _ _ H' p ex (.bl _)⟩
theorem p_inO (hu : X.A.units + 65 < cLine) : OpR X (compareOp .In) (rD2 X.K (oInO false)) := inO_go (p_in hu)
theorem b_cmpO {op : CmpOp} {o : Rs → O2} (ho : OpR X (compareOp op) (rD2 X.K o)) (ha : PD X W a ta) (hb : PD X W b tb) (hm : behindInMarks op b = false := by first | exact nomark _ | with_unfolding_all rfl) : PDB X W (.Compare a [op] [b] pos) (aTest (aOp2 o ta tb)) :=
  imT (pt_cmpR ho ha hb hm) fun _ _ _ q => tdb_test (fun _ q => td_op2 q) q
end
theorem all_split {K : PySem.W.Frag} {M : Addr → Prop} {H : Hp} : ∀ {a rest : List D} {vs : List V}, IsAll K M H vs (a ++ rest) → ∃ ws us, vs = ws ++ us ∧ IsAll K M H ws a ∧ IsAll K M H us rest
  | [], rest, vs, h => ⟨[], vs, rfl, .nil, h⟩
  | d :: a, rest, _, .cons h t => by
    obtain ⟨ws, us, e, h1, h2⟩ := all_split (a := a) t
    exact ⟨_ :: ws, us, by rw [e]; rfl, .cons h h1, h2⟩
/-- the promise of a def with *args, told of its arguments one by one -/
def starP (n : Nat) (sd : SpX) : SpX := fun ds r P XR => ∃ a rest, ds = a ++ rest ∧ a.length = n ∧ rest.length ≤ 1000000 ∧ sd (a ++ [.tup rest]) r P XR
section
variable {P : Program} {w : World} {K : PySem.W.Frag} {mg : Str → Option Value} {base : Heap}
theorem fnS_d {x qual pv : Str} {st : Stmt} {f : Addr} {fd : FuncData} {N ps : List Str} {k : Nat} {sd : SpX} (F : FunA K x qual st f fd) (S : FnScope N (ps ++ [pv]) (defScope st))
    (hb : ∀ us rest : List Value, us.length = ps.length → bindArgs fd ⟨us ++ rest, []⟩ = (newTuple rest >>= fun t => pure (ps.zip us ++ [(pv, t)])))
    (hbody : Bod P w K mg base qual st N k sd) : FR P w K mg base (k + 1) f (starP ps.length sd) := by
  obtain ⟨oc, od, dV, kV, doc, pm, an, cdv, ct, osl, rfl, lk, hcd⟩ := F.ex
  refine FnR.imp (StX.fn_star (CX := L2.CX P w) (sp := lift K sd) lk hcd S StX.cxUp hb (fun A outer s H vs Q E hr h => ?_)) fun vs H Q E h => ?_
  · obtain ⟨r, ds, P', XR, ro, hi, hs, hq, hx⟩ := h
    obtain ⟨t, ht, hread⟩ := hbody f cdv A outer s H E hr (takes_of rfl rfl rfl rfl) (passes_of rfl)
    refine ⟨_, ht, startD N ds, r, { nx := fun _ r' => fit P' .non r', rt := fit P', xr := fitX XR }, start_ok ro hi ?_, hread ds r P' XR hs, ⟨fun δ' r' σ' H' a o k => ?_, fun d r' v H' a o k i => ?_, fun _ _ _ _ z => z.elim, fun _ _ _ _ z => z.elim⟩⟩
    · rintro C fs es δ' r' σ' a H' ⟨r0, l, q⟩ o k e
      exact hx C fs es r0 a H' q (l.r _ _ o.r) (k.trans l.kp) (e.anti l.m)
    · obtain ⟨r0, l, a⟩ := a
      exact hq _ r0 _ H' a (l.r _ _ o.r) (k.trans l.kp) .non
    · obtain ⟨r0, l, a⟩ := a
      exact hq _ r0 _ H' a (l.r _ _ o) (k.trans l.kp) (is_anti l.m i)
  · obtain ⟨r, ds, P', XR, ro, hi, ⟨a, rest, rfl, hl, hz, hs⟩, hq, hx⟩ := h
    obtain ⟨ws, us, rfl, h1, h2⟩ := all_split hi
    refine ⟨ws, us, rfl, by rw [h1.length, hl], by rw [h2.length]; rw [sizeLine_eq]; omega, fun p hp => ?_⟩
    have e := Ext.new (o := .tup us) hp
    refine ⟨r, a ++ [.tup rest], P', XR, ro.ext e, (Kp.all (Kp.ext e) h1).append (.cons (new_tup hp h2) .nil), hs, fun d r' v H' q ro' kk i => hq d r' v H' q ro' ((Kp.ext e).trans kk) i, fun C fs es r' a H' q ro' kk ea => hx C fs es r' a H' q ro' ((Kp.ext e).trans kk) ea⟩
end
end G
namespace G
open PySem PySem.Spec L2
open PyProof.Rows (envOfC)
end G
namespace G
open PySem PySem.Spec L2
open PyProof.Rows (envOfC)
inductive IsKV (K : PySem.W.Frag) (M : Addr → Prop) (H : Hp) : List (Key × V) → List (Key × D) → Prop
  | nil : IsKV K M H [] []
  | cons {k : Key} {v : V} {d : D} {xs : List (Key × V)} {es : List (Key × D)} : Is K M H v d → IsKV K M H xs es → IsKV K M H ((k, v) :: xs) ((k, d) :: es)
def dGet (kvs : List (Key × D)) (k : Key) : Option D := (kvs.find? fun kv => decide (kv.1 = k)).map (·.2)
def dPut (kvs : List (Key × D)) (k : Key) (d : D) : List (Key × D) :=
  if (kvs.any fun kv => decide (kv.1 = k)) = true then kvs.map (fun kv => if kv.1 = k then (kv.1, d) else kv) else kvs ++ [(k, d)]
def dDrop (kvs : List (Key × D)) (k : Key) : List (Key × D) := kvs.filter fun kv => decide (kv.1 ≠ k)
def keyD : D → Option Key | .int i => some (.inl i) | .str z => some (.inr z) | _ => none
theorem dGet_pos {k : Key} {d : D} {r : List (Key × D)} : dGet ((k, d) :: r) k = some d := by simp [dGet]
theorem dGet_neg {k j : Key} {d : D} {r : List (Key × D)} (h : j ≠ k) : dGet ((j, d) :: r) k = dGet r k := by simp [dGet, List.find?_cons, h]
section
variable {K : PySem.W.Frag} {N N' : Addr → Prop} {H H' : Hp}
theorem IsKV.go (f : ∀ v d, Is K N H v d → Is K N' H' v d) : ∀ {xs : List (Key × V)} {es : List (Key × D)}, IsKV K N H xs es → IsKV K N' H' xs es
  | _, _, .nil => .nil
  | _, _, .cons h t => .cons (f _ _ h) (IsKV.go f t)
theorem IsKV.length : ∀ {xs : List (Key × V)} {es : List (Key × D)}, IsKV K N H xs es → xs.length = es.length
  | _, _, .nil => rfl
  | _, _, .cons _ t => by rw [List.length_cons, List.length_cons, IsKV.length t]
theorem IsKV.any (k : Key) : ∀ {xs : List (Key × V)} {es : List (Key × D)}, IsKV K N H xs es → (xs.any fun kv => decide (kv.1 = k)) = es.any fun kv => decide (kv.1 = k)
  | _, _, .nil => rfl
  | _, _, .cons _ t => by rw [List.any_cons, List.any_cons, IsKV.any k t]
theorem IsKV.get (k : Key) : ∀ {xs : List (Key × V)} {es : List (Key × D)}, IsKV K N H xs es → match dGet es k with | some d => ∃ v, valV xs k = some v ∧ Is K N H v d | none => valV xs k = none
  | _, _, .nil => rfl
  | _, _, .cons (k := j) (v := v) (d := d) h t => by
    by_cases e : j = k
    · subst e
      rw [dGet_pos]
      exact ⟨v, valV_pos rfl, h⟩
    · rw [dGet_neg e, valV_neg e]
      exact IsKV.get k t
theorem IsKV.snoc {k : Key} {v : V} {d : D} (i : Is K N H v d) : ∀ {xs : List (Key × V)} {es : List (Key × D)}, IsKV K N H xs es → IsKV K N H (xs ++ [(k, v)]) (es ++ [(k, d)])
  | _, _, .nil => .cons i .nil
  | _, _, .cons h t => .cons h (IsKV.snoc i t)
theorem IsKV.repl {k : Key} {v : V} {d : D} (i : Is K N H v d) : ∀ {xs : List (Key × V)} {es : List (Key × D)}, IsKV K N H xs es → IsKV K N H (xs.map fun kv => if kv.1 = k then (kv.1, v) else kv) (es.map fun kv => if kv.1 = k then (kv.1, d) else kv)
  | _, _, .nil => .nil
  | _, _, .cons (k := j) h t => by
    rw [List.map_cons, List.map_cons]
    by_cases e : j = k
    · rw [if_pos e, if_pos e]
      exact .cons i (IsKV.repl i t)
    · rw [if_neg e, if_neg e]
      exact .cons h (IsKV.repl i t)
theorem IsKV.put {k : Key} {v : V} {d : D} {xs : List (Key × V)} {es : List (Key × D)} (h : IsKV K N H xs es) (i : Is K N H v d) : IsKV K N H (putK xs k v) (dPut es k d) := by
  unfold putK dPut
  rw [h.any k]
  split
  · exact h.repl i
  · exact h.snoc i
theorem IsKV.drop (k : Key) : ∀ {xs : List (Key × V)} {es : List (Key × D)}, IsKV K N H xs es → IsKV K N H (dropK xs k) (dDrop es k)
  | _, _, .nil => .nil
  | _, _, .cons (k := j) h t => by
    unfold dropK dDrop
    rw [List.filter_cons, List.filter_cons]
    have ih := IsKV.drop k t
    unfold dropK dDrop at ih
    by_cases e : j = k
    · rw [if_neg (by simp [e]), if_neg (by simp [e])]
      exact ih
    · rw [if_pos (by simp [e]), if_pos (by simp [e])]
      exact .cons h ih
theorem IsKV.of_zip : ∀ {xs : List (Key × V)} {ds : List D}, IsAll K N H (xs.map (·.2)) ds → IsKV K N H xs ((xs.map (·.1)).zip ds)
  | [], ds, h => by cases h; exact .nil
  | (k, v) :: xs, _, .cons h t => .cons h (IsKV.of_zip t)
theorem key_val {v : V} {y : D} {key : Key} (hk : keyD y = some key) (i : Is K N H v y) : v = kV key := by
  cases i <;> simp [keyD] at hk <;> subst hk <;> rfl
end
def dctA (a : Addr) (kvs : List (Key × D)) : At where
  M := fun b => b = a
  R := fun K N H => ∃ xs : List (Key × V), H a = some (.dK xs) ∧ IsKV K N H xs kvs
  loc := fun f g ⟨xs, h, i⟩ => ⟨xs, f _ _ rfl h, i.go g⟩
  anti := fun e ⟨xs, h, i⟩ => ⟨xs, h, i.go fun _ _ => is_anti e⟩
  grow := fun hp ⟨xs, h, i⟩ => ⟨xs, h, i.go fun _ _ => is_growD hp⟩
  al := fun ⟨xs, h, _⟩ b z => ⟨.dK xs, by rw [show b = a from z]; exact h⟩
def OwnD (r : Rs) (a : Addr) (kvs : List (Key × D)) : Prop := ∃ pre post, r = pre ++ dctA a kvs :: post
section
variable {K : PySem.W.Frag} {r pre post : Rs} {H : Hp} {a p : Addr} {kvs es : List (Key × D)} {xs ys : List (Key × V)}
theorem dct_at (h : Rok K r H) (o : OwnD r a kvs) : ∃ xs, H a = some (.dK xs) ∧ IsKV K (mem r) H xs kvs := by
  obtain ⟨pre, post, rfl⟩ := o
  exact mid_R h
theorem dct_put (h : Rok K (pre ++ dctA a kvs :: post) H) (i : IsKV K (mem (pre ++ dctA a kvs :: post)) H ys es) : Rok K (pre ++ dctA a es :: post) (upd H a (.dK ys)) ∧ Kp K (pre ++ dctA a kvs :: post) H (pre ++ dctA a es :: post) (upd H a (.dK ys)) := by
  obtain ⟨xs, e1, _⟩ := dct_at h ⟨pre, post, rfl⟩
  exact mid_put rfl rfl e1 (fun xs => ⟨(fun e => by cases e), fun o e => by cases e⟩) h fun go => ⟨ys, upd_same, i.go go⟩
end
inductive oDGet (r : Rs) : D → D → (Option D → Prop) → Prop
  | own {a : Addr} {kvs : List (Key × D)} {y : D} {key : Key} {k : Option D → Prop} (ow : OwnD r a kvs) (hk : keyD y = some key) (p : k (dGet kvs key)) : oDGet r (.adr a) y k
  | fro {ks : List Key} {ds : List D} {y : D} {key : Key} {k : Option D → Prop} (hk : keyD y = some key) (p : k (dGet (ks.zip ds) key)) : oDGet r (.dct ks ds) y k
theorem oDGet.imp {r : Rs} {d y : D} {k k' : Option D → Prop} (h : oDGet r d y k) (f : ∀ o, k o → k' o) : oDGet r d y k' := by
  cases h with
  | own ow hk p => exact .own ow hk (f _ p)
  | fro hk p => exact .fro hk (f _ p)
theorem dgets {K : PySem.W.Frag} {r : Rs} {H : Hp} {d y : D} {vd vy : V} {k : Option D → Prop} (h : oDGet r d y k) (ro : Rok K r H) (i1 : Is K (mem r) H vd d) (i2 : Is K (mem r) H vy y) :
    ∃ a xs o, vd = .ref a ∧ H a = some (.dK xs) ∧ k o ∧ (match o with | some d => ∃ v, DGet H a vy (some v) ∧ Is K (mem r) H v d | none => DGet H a vy none) := by
  cases h with
  | @own a kvs _ key _ ow hk p =>
    cases i1
    obtain ⟨xs, e1, e2⟩ := dct_at ro ow
    have g := e2.get key
    refine ⟨a, xs, _, rfl, e1, p, ?_⟩
    have hv := key_val hk i2
    subst hv
    cases q : dGet kvs key with
    | none =>
      rw [q] at g
      exact .inl ⟨xs, key, .inl e1, rfl, g.symm⟩
    | some d =>
      rw [q] at g
      obtain ⟨v, g1, g2⟩ := g
      exact ⟨v, .inl ⟨xs, key, .inl e1, rfl, g1.symm⟩, g2⟩
  | @fro ks ds _ key _ hk p =>
    cases i1 with
    | @dct a xs _ _ n s e al =>
      have kv := IsKV.of_zip al
      rw [e] at kv
      have g := kv.get key
      refine ⟨a, xs, _, rfl, s, p, ?_⟩
      have hv := key_val hk i2
      subst hv
      cases q : dGet (ks.zip ds) key with
      | none =>
        rw [q] at g
        exact .inl ⟨xs, key, .inl s, rfl, g.symm⟩
      | some d =>
        rw [q] at g
        obtain ⟨v, g1, g2⟩ := g
        exact ⟨v, .inl ⟨xs, key, .inl s, rfl, g1.symm⟩, g2⟩
def aDNew : AT := fun x δ r P => ∀ p, P (.adr p) (r ++ [dctA p []])
def aDIx (td ty : AT) : AT := fun x δ r P => td x δ r fun d r1 => ty x δ r1 fun y r2 => oDGet r2 d y fun o => ∃ z, o = some z ∧ P z r2
inductive oDPut (r : Rs) (y z : D) : D → (Rs → Prop) → Prop
  | mk {a : Addr} {k : Rs → Prop} (pre post : Rs) (kvs : List (Key × D)) (key : Key) (e : r = pre ++ dctA a kvs :: post) (hk : keyD y = some key) (sz : small (kvs.length + 1)) (p : k (pre ++ dctA a (dPut kvs key z) :: post)) : oDPut r y z (.adr a) k
def sDPutA (td ty tv : AT) : AS := fun A δ r => tv A.xr δ r fun z r1 => td A.xr δ r1 fun d r2 => ty A.xr δ r2 fun y r3 => oDPut r3 y z d fun r4 => A.nx δ r4
structure oDIn (neg : Bool) (r : Rs) (x y : D) (k : D → Prop) : Prop where
  ex : oDGet r y x fun o => k (.bl (cond neg (!o.isSome) o.isSome))
section
variable {X : Cx} {W : WX} {o i e f value : Expr} {pos pos' apos cpos : Pos} {td ty tv tx : AT}
theorem d_dnew : PD X W (.Dict [] [] pos) aDNew := imE pe_dnewK fun σ H Q q => by
  obtain ⟨XR, δ, r, P, o, h, k⟩ := q
  intro p hp
  obtain ⟨q1, q2⟩ := mid_new (t := dctA p []) rfl o.r hp (Ext.new hp) fun _ => ⟨[], upd_same, .nil⟩
  exact k _ _ _ _ (h p) (o.step q2 q1) q2 (.adr p)
theorem d_dix (hu : X.A.units + 65 < cLine) (ho : PD X W o td) (hi : PD X W i ty) (hs : NoSl i := by exact fun _ _ => rfl) : PD X W (.Subscript o i pos) (aDIx td ty) := imE (pe_dget (by omega) ho hi hs) fun σ H Q q => by
  obtain ⟨XR, δ, r, P, ok, h, k⟩ := q
  refine td_bind ok h fun d r1 v1 H1 h1 o1 k1 i1 => td_bind o1 h1 fun y r2 v2 H2 h2 o2 k2 i2 => ?_
  obtain ⟨a, xs, oo, rfl, e1, ⟨z, rfl, p⟩, g⟩ := dgets h2 o2.r (k2 _ _ i1) i2
  obtain ⟨v, g1, g2⟩ := g
  exact ⟨a, v, rfl, g1, k _ _ _ _ p o2 (k1.trans k2) g2⟩
theorem s_dput (hu : X.A.units + 65 < cLine) (ho : PD X W o td) (hi : PD X W i ty) (hv : PD X W value tv) (hs : swapsWith value (some (.Subscript o i pos')) pos.line X.env = pure false := by rfl) : PSD X W (.Assign [.Subscript o i pos'] value pos) (sDPutA td ty tv) :=
  imS (ps_dput (by omega) ho hi hv hs) fun Dd σ H ⟨δ, r, A, ok, h, ff⟩ => td_bind ok h fun z r1 v H1 h1 o1 k1 i1 => td_bind o1 h1 fun d r2 v2 H2 h2 o2 k2 i2 => td_bind o2 h2 fun y r3 v3 H3 h3 o3 k3 i3 => by
    cases h3 with
    | @mk a _ pre post kvs key e hk sz p =>
      cases i2
      subst e
      obtain ⟨xs, e1, e2⟩ := dct_at o3.r ⟨pre, post, rfl⟩
      have hv := key_val hk i3
      subst hv
      obtain ⟨q1, q2⟩ := dct_put o3.r (e2.put (k := key) (k3 _ _ (k2 _ _ i1)))
      exact ⟨a, _, rfl, .inl ⟨xs, key, e1, rfl, by rw [e2.length]; exact Nat.lt_of_lt_of_le (Nat.lt_succ_self _) sz.sz, rfl⟩, ff.nx _ _ _ _ p (o3.step q2 q1) (((k1.trans k2).trans k3).trans q2)⟩
theorem p_dnin (hu : X.A.units + 65 < cLine) : OpR X (compareOp .NotIn) (rD2 X.K (oDIn true)) := by
  rintro pins s σ H x y v u Q I rx ry ⟨r, d1, d2, P, hr, i1, i2, ⟨ho⟩, k⟩
  obtain ⟨a, xs, oo, rfl, e1, p, g⟩ := dgets ho hr i2 i1
  obtain rfl : u = Value.ref a := ry
  cases oo with
  | none => exact d_notIn (by omega) I g rx fun s' I' => ⟨.bl _, H, I', rfl, k _ _ H p (Ext.refl H) (.bl _)⟩
  | some d =>
    obtain ⟨w, g1, g2⟩ := g
    exact d_notIn (by omega) I g1 rx fun s' I' => ⟨.bl _, H, I', rfl, k _ _ H p (Ext.refl H) (.bl _)⟩
/-- is a dict -/
def isDc (d : D) (r : Rs) : Prop := (∃ a kvs, d = .adr a ∧ OwnD r a kvs) ∨ ∃ ks ds, d = .dct ks ds
theorem isDc_at {K : PySem.W.Frag} {r : Rs} {H : Hp} {d : D} {v : V} (h : isDc d r) (ro : Rok K r H) (i : Is K (mem r) H v d) : ∃ a xs, v = .ref a ∧ H a = some (.dK xs) := by
  rcases h with ⟨a, kvs, rfl, ow⟩ | ⟨ks, ds, rfl⟩
  · cases i
    obtain ⟨xs, e, _⟩ := dct_at ro ow
    exact ⟨a, xs, rfl, e⟩
  · cases i with
    | dct n s e al => exact ⟨_, _, rfl, s⟩
def aDGt2 (td ty tx : AT) : AT := fun x δ r P => td x δ r fun d r1 => isDc d r1 ∧ ty x δ r1 fun y r2 => tx x δ r2 fun z r3 => oDGet r3 d y fun o => P (o.getD z) r3
theorem d_dgt2 (hu : X.A.units + 65 < cLine) (ho : PD X W o td) (he : PD X W e ty) (hf : PD X W f tx) (m : M2 X o "get" apos e f cpos) : PD X W (.Call (.Attribute o "get" apos) [e, f] [] cpos) (aDGt2 td ty tx) := imE (pe_dget2 (by omega) ho he hf m) fun σ H Q q => by
  obtain ⟨XR, δ, r, P, ok, h, k⟩ := q
  refine td_bind ok h fun d r1 v1 H1 ⟨hd, h1⟩ o1 k1 i1 => ?_
  obtain ⟨a, xs, rfl, e1⟩ := isDc_at hd o1.r i1
  refine ⟨a, rfl, .inl ⟨xs, .inl e1⟩, td_bind o1 h1 fun y r2 v2 H2 h2 o2 k2 i2 => td_bind o2 h2 fun z r3 v3 H3 h3 o3 k3 i3 => ?_⟩
  obtain ⟨a', xs', oo, ea, e2, p, g⟩ := dgets h3 o3.r (k3 _ _ (k2 _ _ i1)) (k3 _ _ i2)
  cases ea
  cases oo with
  | none => exact ⟨none, g, k _ _ _ _ p o3 ((k1.trans k2).trans k3) i3⟩
  | some d =>
    obtain ⟨w, g1, g2⟩ := g
    exact ⟨some w, g1, k _ _ _ _ p o3 ((k1.trans k2).trans k3) g2⟩
end
structure aDcK (x : XT) (g : AG) (tt : AB) (tk te : AT) (δw : Dl) (ds : List D) (r1 : Rs) (P : PK1) : Prop where
  ex : ∃ I : Nat → List (Key × D) → Rs → Prop, I 0 [] r1 ∧
  (∀ (p : Addr) i d acc r', ds[i]? = some d → I i acc r' → g d δw fun δ2 => tt x δ2 (r' ++ [dctA p acc]) fun b r2 =>
    (b = true → tk x δ2 r2 fun y r3 => te x δ2 r3 fun z r4 => ∃ key, keyD y = some key ∧ small (acc.length + 1) ∧ ∃ r5, r4 = r5 ++ [dctA p acc] ∧ I (i + 1) (dPut acc key z) r5) ∧ (b = false → ∃ r4, r2 = r4 ++ [dctA p acc] ∧ I (i + 1) acc r4)) ∧
  ∀ (p : Addr) acc r', I ds.length acc r' → P (.adr p) (r' ++ [dctA p acc])
def aDc (ti : AI) (g : AG) (tt : AB) (tk te : AT) (vs : List Nat) : AT := fun x δ r P => ti x δ r fun ds r1 => aDcK x g tt tk te (wipeD δ vs) ds r1 P
theorem td_dc {K : PySem.W.Frag} {W : WX} {ti : AI} {g : AG} {tt : AB} {tk te : AT} {vs js : List Nat} (hj : ∀ j ∈ js, j ∈ vs) {σ : L2.St} {H : Hp} {Q : VK} (q : TD K W (aDc ti g tt tk te vs) σ H Q) : tDc (TDI K W ti) (TDG K js g) (TDB K W tt) (TD K W tk) (TD K W te) vs σ H Q := by
  obtain ⟨XR, δ, r, P, o, h, k⟩ := q
  refine ⟨XR, δ, r, _, o, h, fun ds r1 J H1 ⟨⟨I, h0, hst, hd⟩⟩ o1 k1 w p hp => ?_⟩
  obtain ⟨s1, s2⟩ := mid_new (t := dctA p []) rfl o1.r hp (Ext.new hp) fun _ => ⟨[], upd_same, .nil⟩
  refine ⟨fun i m H' => m = ds.length - i ∧ i ≤ ds.length ∧ ∃ acc r', I i acc r' ∧ Rok K (r' ++ [dctA p acc]) H' ∧ Kp K r1 H1 (r' ++ [dctA p acc]) H', ⟨ds.length, by simp, Nat.zero_le _, [], r1, h0, s1, s2⟩, ?_⟩
  rintro i m H' ⟨rfl, hi, acc, r', hI, ro, kp⟩
  by_cases hlt : i < ds.length
  · obtain ⟨hgo, hy⟩ := (w i _ H' kp ro).1 hlt
    refine .inr ⟨hgo, fun H2 => ∃ acc r2, I (i + 1) acc r2 ∧ Rok K (r2 ++ [dctA p acc]) H2 ∧ Kp K r1 H1 (r2 ++ [dctA p acc]) H2, fun H2 ⟨acc, r2, q1, q2, q3⟩ => ⟨ds.length - (i + 1), by omega, rfl, hlt, acc, r2, q1, q2, q3⟩, fun x H2 y => ?_⟩
    obtain ⟨ex, d, hd', ix⟩ := hy x H2 y
    have k2 := kp.trans (Kp.ext ex)
    have o2 : Ok K W XR (r' ++ [dctA p acc]) (wipeD δ vs) (wipe σ vs) H2 := (o1.step k2 (ro.ext ex)).wipe vs
    refine ⟨W, XR, wipeD δ vs, _, d, _, o2, ix, hst p i d acc r' hd' hI, fun δ2 σ2 q o3 ag => ⟨wipe_agree ag hj, XR, δ2, _, _, o3, q, fun b r3 H3 q3 o4 k4 => ?_⟩⟩
    cases b with
    | true =>
      show TD K W tk σ2 H3 _
      refine td_bind o4 (q3.1 rfl) fun y r5 v H5 h5 o5 k5 i5 => td_bind o5 h5 fun z r6 v6 H6 ⟨key, hk, sz, r7, e7, h7⟩ o6 k6 i6 => ?_
      subst e7
      obtain ⟨xs, e1, e2⟩ := dct_at o6.r ⟨r7, [], rfl⟩
      obtain ⟨q1, q2⟩ := dct_put o6.r (e2.put (k := key) i6)
      exact ⟨xs, key, key_val hk (k6 _ _ i5), e1, by rw [e2.length]; exact Nat.lt_of_lt_of_le (Nat.lt_succ_self _) sz.sz, _, r7, h7, q1, ((((k2.trans k4).trans k5).trans k6).trans q2)⟩
    | false =>
      show ∃ acc r2, _
      obtain ⟨r6, e6, h5⟩ := q3.2 rfl
      subst e6
      exact ⟨acc, r6, h5, o4.r, k2.trans k4⟩
  · have e : i = ds.length := by omega
    exact .inl ⟨(w i _ H' kp ro).2 e, k _ _ _ _ (hd p acc r' (e ▸ hI)) (o1.step kp ro) (k1.trans kp) (.adr p)⟩
end G
namespace G
open PySem PySem.Spec L2
open PyProof.Rows (envOfC Call_ Subscript_)
open PySem.F in
set_option maxHeartbeats 1000000 in
theorem meets_enum1 {v : Value} {o : Obj} {H : Heap → Prop} (B : Begins v o H) :
    Meets (Builtin.«enumerate.__new__» ⟨[.type "enumerate", v], []⟩) (fun _ R s => H s.heap ∧
      R (.ok (.ret (.ref (s.heap.push o).objs.size))) { s with heap := (s.heap.push o).push { cls := .type "enumerate", data := .fields #[.none, .bool false, .ref s.heap.objs.size, rawInt 0, .none, .none] } }) :=
  .of_wp fun prog w A R s h => by
    obtain ⟨hp, g, d, tk, os⟩ := s; obtain ⟨h1, h⟩ := h
    have hsub := sub_enumerate
    have q1 : ∀ {A' : Around} {E : Value → Shared → Prop} {Q : Value → Shared → Prop}, Q (.ref hp.objs.size) ⟨hp.push o, g, d, tk, os⟩ → wpAny (model prog w) A' (pyIter v) Q E ⟨hp, g, d, tk, os⟩ :=
      fun q => B.iter prog w _ _ ⟨hp, g, d, tk, os⟩ _ h1 q
    wp_walk using q1
    refine wpAny_stack_any fun st => wpAny_pure ?_
    split
    · rename_i c _ _ _ _ _
      cases (c == Value.type "enumerate")
      · wp_walk using q1
        exact ⟨_, rfl, h⟩
      · wp_walk using q1
        exact ⟨_, rfl, h⟩
    · wp_walk using q1
      exact ⟨_, rfl, h⟩
theorem call_enum1 {prog : Program} {w : World} {A : Around} {E : Value → Shared → Prop} {s : Shared} {v : Value} {o : Obj} {H : Heap → Prop} {Q : Value → Shared → Prop} (B : Begins v o H) (h1 : H s.heap)
    (h : ∀ h', IsEnum h' (s.heap.objs.size + 1) s.heap.objs.size 0 .none → h'.get? s.heap.objs.size = some o → h'.objs.size = s.heap.objs.size + 2 →
      (∀ b o, s.heap.get? b = some o → h'.get? b = some o) → Q (.ref (s.heap.objs.size + 1)) { s with heap := h' }) :
    wpAny (model prog w) A (call (.type "enumerate") [v]) Q E s := by
  refine callType_new F.called_enumerate (by decide) (F.typeCall_enumerate_1 _) (F.newCall_enumerate_1 _) (fun obj => F.args_object_init_2 obj _) F.entry_enumerate_new
    (meets_enum1 B) ⟨h1, ?_⟩
  have hz : (s.heap.push o).objs.size = s.heap.objs.size + 1 := Heap.size_push ..
  show _ ∧ _
  rw [hz]
  have he : IsEnum ((s.heap.push o).push { cls := .type "enumerate", data := .fields #[.none, .bool false, .ref s.heap.objs.size, rawInt 0, .none, .none] }) (s.heap.objs.size + 1) s.heap.objs.size 0 .none := by
    have := Heap.get?_push_size (s.heap.push o) (o := { cls := .type "enumerate", data := .fields #[.none, .bool false, .ref s.heap.objs.size, rawInt 0, .none, .none] }) rfl
    rw [hz] at this; exact this
  refine ⟨⟨_, he, rfl⟩, h _ he (Heap.get?_push_of_some _ (Heap.get?_push_size _ B.free)) (by rw [Heap.size_push, hz]) fun b o x => Heap.get?_push_of_some _ (Heap.get?_push_of_some _ x)⟩
def IteT (K : PySem.W.Frag) (a : Addr) : It :=
  ⟨fun i H => ∃ (xs : List V) (x : V), SqT K H a xs ∧ xs[i]? = some x, fun i H v H' => ∃ T x, v = .ref T ∧ H T = none ∧ H' = upd H T (.tup [.int (i : Nat), x]) ∧ ∀ xs, SqT K H a xs → xs[i]? = some x, fun i H => ∃ xs : List V, SqT K H a xs ∧ xs.length ≤ i⟩
theorem turn_enumT {P : Program} {w : World} {K : PySem.W.Frag} {elts : List Expr} {kk : Nat} {tpos : Pos} (a e it : Addr) :
    Turn P w K (.Tuple elts kk tpos) (IteT K a) [e, it] e (fun i h => (∃ old, IsEnum h e it ((i : Nat) : Int) old) ∧ h.IsTupleIter it a i ∧ e ≠ it) where
  mem := by simp
  obj := fun i h st b hb => by
    obtain ⟨⟨old, he⟩, ⟨o, ho, hc, hd⟩, _⟩ := st
    have e' : b = e ∨ b = it := by simpa using hb
    rcases e' with z | z
    · rw [z]; exact ⟨_, he, fun v q => nomatch q⟩
    · rw [z]; exact ⟨o, ho, fun v q => by rw [hd] at q; cases q⟩
  keep := fun i h h' st k => let ⟨⟨old, he⟩, hi, hne⟩ := st; ⟨⟨old, k e (by simp) _ he⟩, hi.at fun o q => k it (by simp) o q, hne⟩
  item := by
    intro X hP hw hK hc i pins s σ H E I hf st hg
    subst hP hw hK
    obtain ⟨⟨old, he⟩, hit, hne⟩ := st
    obtain ⟨xs, x, hq, hx⟩ := hg
    obtain ⟨its, rv, p, hz⟩ := I.tuple hq
    obtain ⟨u, hu, ru⟩ := rv.get hx
    have hel : e < s.heap.objs.size := Heap.lt_size he
    have hil : it < s.heap.objs.size := by obtain ⟨_, q, _⟩ := hit; exact Heap.lt_size q
    obtain ⟨ot, ht, htc, _⟩ := id p
    have nea : e ≠ a := fun z => by
      subst z
      rw [he] at ht
      cases ht
      have htc : (Value.type "enumerate") = Value.type "tuple" := htc
      injection htc with q
      exact absurd q (by decide)
    have nia : a ≠ it := fun z => by
      subst z
      obtain ⟨o, ho, hc2, _⟩ := hit
      rw [ho] at ht
      cases ht
      rw [hc2] at htc
      exact absurd htc (by decide)
    have D := Draws.tuple (prog := X.prog) (w := X.w) (A := X.A.in1) (I.ok.hd hc) it a nia its.toArray
    refine wpAny_pyNext_enum_itemD D he ⟨hit, p⟩ (by have := rv.length; have := (List.getElem?_eq_some_iff.mp hx).1; simp; omega) hne (by simp [nea, hne]) fun y h' tk hP ho hst hT hsz hk => ?_
    have hit' := hst.1
    obtain rfl : y = u := by
      have : its.toArray[i]? = some u := by simpa using hu
      rw [this] at hP
      exact (Option.some.inj hP).symm
    refine ⟨_, rfl, wpAny_letOwnedTupleGo_enum (s := { s with heap := h', toks := tk + 1 }) ho fun h'' he' sb => ?_⟩
    have hT2 : h''.get? s.heap.objs.size = some { cls := .type "tuple", data := .seq #[.int i tk, y] } := (sb.2 _ (Nat.ne_of_gt hel)).trans hT
    have new : ObjOk X.prog X.w (upd H s.heap.objs.size (.tup [.int (i : Nat), x])) h'' s.heap.objs.size (.tup [.int (i : Nat), x]) :=
      ⟨by show 2 ≤ sizeLine; decide, [.int i tk, y], .cons ⟨_, rfl⟩ (.cons ru .nil), ⟨_, hT2, rfl, _, rfl⟩⟩
    have I1 : Inv X pins σ (upd H s.heap.objs.size (.tup [.int (i : Nat), x])) { s with heap := h'', toks := tk + 1 } :=
      I.turnedNew (ch := [e, it]) (fun b ob hb q => (sb.2 b (fun z => hb (by simp [z]))).trans (hk b ob (fun z => hb (by simp [z])) (fun z => hb (by simp [z])) q)) hf (Nat.le_refl _) new
    refine ⟨.ref s.heap.objs.size, _, I1, rfl, ⟨_, x, rfl, I.hok.fresh (Nat.le_refl _), rfl, fun ys hy => ?_⟩, ⟨⟨y, ?_⟩, hit'.at fun o q => (sb.2 it (Ne.symm hne)).trans q, hne⟩, fun b hb => ?_⟩
    · rw [I.tuple_inj hy hq]
      exact hx
    · have e1 : ((i + 1 : Nat) : Int) = (i : Int) + 1 := by omega
      rw [e1]; exact he'
    · have hb' : b < s.heap.objs.size := by
        have e' : b = e ∨ b = it := by simpa using hb
        rcases e' with z | z
        · rw [z]; exact hel
        · rw [z]; exact hil
      rw [upd_ne (Nat.ne_of_lt hb')]
      exact (hf b hb).1
  done := by
    intro X hP hw hK hc i pins s σ H E I hf st hg
    subst hP hw hK
    obtain ⟨⟨old, he⟩, hit, hne⟩ := st
    obtain ⟨xs, hq, hx⟩ := hg
    obtain ⟨its, rv, p, hz⟩ := I.tuple hq
    obtain ⟨f0, f1, f2, f3, f4, f5⟩ := hf it (by simp)
    have hl := rv.length
    obtain ⟨o, ho, hc2, hd⟩ := id hit
    have hT : s.TypeIs (.ref e) "enumerate" := ⟨_, he, rfl⟩
    unfold pyNext
    have hTo : (its.toArray[i]? : Option Value) = none := by simp; omega
    refine wpAny_bind (wpAny_attempt (wpAny_callSpecial?_slot (name := Str.ofString "__next__") hT F.slot_enumerate_next
      (wpAny_call_entry F.slot_enumerate_next hT F.entry_enumerate_next ?_ (F.args_enumerate_next_1 _))))
    show wpAny _ _ (field (.ref e) 2 >>= _) _ _ _
    refine wpAny_bind (wpAny_field he rfl (x := .ref it) rfl ?_)
    refine wpAny_bind (wpAny_nextOf_tuple_end (I.ok.hd hc) hit p hTo fun h' x he' hx' => ?_)
    obtain ⟨o, ho, hc⟩ := hx'
    refine wpAny_bind (wpAny_isInstance (T := "StopIteration") (b := true) ⟨o, ho, hc⟩ isSubtype_stop ?_)
    exact wpAny_pure ⟨rfl, I.turned (t' := s.toks) (fun b o hb q => he' b o hb q) f0 f1 f3 f4 f5⟩
  self := fun A i s Q E st h => let ⟨⟨_, he⟩, _⟩ := st; wpAny_pyIter_enum he h
def iEnumTT (K : PySem.W.Frag) (ta : TA) : TI := fun σ H R => ta σ H fun vs H1 => ∃ a xs, vs = [.ref a] ∧ SqT K H1 a xs ∧ R (IteT K a) H1
theorem pi_enumT {X : Cx} {e : Expr} {ta : TA} {p pos tpos : Pos} {elts : List Expr} {kk : Nat} (hg : Gl X "enumerate") (hm : X.mg "enumerate" = none) (ha : PA X [e] ta) (hs : starEach [e] X.env = [(false, eval e X.env)] := by rfl) :
    PI X (.Tuple elts kk tpos) (.Call (.Name "enumerate" p) [e] [] pos) (iEnumTT X.K ta) := by
  refine ⟨fun pins s σ H R I h => ?_⟩
  refine Call_ (ld_blt I hg hm PyProof.Rows.boot_enumerate (PyProof.Rows.callWith_type1 (thn (ha.run pos pins s σ H _ I h) fun us s1 ⟨vs, H1, I1, r1, q1⟩ => ?_) hs rfl))
  obtain ⟨a, xs, ex, hq, q⟩ := q1
  subst ex
  cases r1 with
  | cons r rr =>
    cases rr
    cases r
    obtain ⟨its, rv, p', hz⟩ := I1.tuple hq
    refine call_enum1 (begins_tuple a its.toArray) p' fun h' he hit hsz hk => wpAny_pyIter_enum he ?_
    have I2 : Inv X pins σ H1 { s1 with heap := h' } := I1.kept (t' := s1.toks) hk
    refine ⟨s1.heap.objs.size + 1, [s1.heap.objs.size + 1, s1.heap.objs.size], _, _, H1, rfl, I2, turn_enumT a (s1.heap.objs.size + 1) s1.heap.objs.size, ⟨⟨.none, he⟩, ⟨_, hit, rfl, rfl⟩, Nat.succ_ne_self _⟩, fun b hb => ?_, q⟩
    have e' : b = s1.heap.objs.size + 1 ∨ b = s1.heap.objs.size := by simpa using hb
    have hle : s1.heap.objs.size ≤ b := by
      rcases e' with z | z
      · rw [z]; exact Nat.le_add_right _ _
      · rw [z]; exact Nat.le_refl _
    exact I1.fpOk hle (I1.hok.fresh hle)
section
variable {X : Cx} {W : WX} {tg e : Expr} {pos : Pos}
theorem walks_eT {K : PySem.W.Frag} {r : Rs} {H : Hp} {a : Addr} {ds : List D} (h : Is K (mem r) H (.ref a) (.tup ds)) : Walks K (IteT K a) ((List.range ds.length).map fun i => .tup [.int (i : Nat), ds.getD i .non]) r H := by
  intro i r1 H1 k _
  cases k _ _ h with
  | tup s al =>
    rename_i xs
    refine ⟨fun hi => ?_, fun hi => ⟨xs, s, by rw [al.length, hi]; simp⟩⟩
    have hi' : i < ds.length := by simpa using hi
    refine ⟨⟨xs, xs[i]'(by rw [al.length]; exact hi'), s, by simp⟩, ?_⟩
    rintro x H2 ⟨T, y, rfl, hT, rfl, hy⟩
    obtain ⟨d, h1, h2⟩ := al.get (hy xs s)
    refine ⟨Ext.new hT, .tup [.int (i : Nat), ds.getD i .non], ?_, new_tup hT (.cons (.int _) (.cons ?_ .nil))⟩
    · rw [List.getElem?_map, List.getElem?_range hi']
      rfl
    · rw [List.getD_eq_getElem?_getD, h1]
      exact h2
def iEnT (l : AL) : AI := fun x δ r P => l x δ r fun ds r1 => match ds with | [.tup xs] => P ((List.range xs.length).map fun i => .tup [.int (i : Nat), xs.getD i .non]) r1 | _ => False
theorem i_enumT {elts : List Expr} {kk : Nat} {p tpos : Pos} {l : AL} (hg : Gl X "enumerate") (hm : X.mg "enumerate" = none) (ha : PDL X W [e] l) (hs : starEach [e] X.env = [(false, eval e X.env)] := by rfl) : PDI X W (.Tuple elts kk tpos) (.Call (.Name "enumerate" p) [e] [] pos) (iEnT l) :=
  imI (pi_enumT hg hm ha hs) fun σ H Q ⟨XR, δ, r, P, o, q, k⟩ => tdl_bind o q fun ds r1 vs H1 h1 o1 k1 i1 => by
    match ds, h1, i1 with
    | [.tup xs], h1, .cons (.tup s al) .nil => exact ⟨_, _, rfl, s, k _ _ _ _ h1 o1 k1 (walks_eT (.tup s al))⟩
end
end G
namespace G
open PySem PySem.Spec L2
open PyProof.Rows (envOfC)
def DfNS (K : PySem.W.Frag) (C : Addr) (qual : Str) (st : Stmt) (ps : List Str) (pv : Str) : Prop := ∃ f fd, FunA K "__init__" qual st f fd ∧ Mk K C f ∧ ∀ us rest : List Value, us.length = ps.length → bindArgs fd ⟨us ++ rest, []⟩ = (newTuple rest >>= fun t => pure (ps.zip us ++ [(pv, t)]))
section
variable {P : Program} {w : World} {K : PySem.W.Frag} {mg : Str → Option Value} {base : Heap} {C : Addr} {m qual pv : Str} {st : Stmt} {N ps : List Str} {k j : Nat} {sd sd' : SpX}
theorem clns_of (d : DfNS K C qual st ps pv) (S : FnScope N (ps ++ [pv]) (defScope st)) (h : Bod P w K mg base qual st N k sd) : ClN P w K mg base (k + 1) C [] (starP ps.length sd) := by
  obtain ⟨f, fd, F, M, b⟩ := d
  refine ⟨f, M, fun j hj => ?_⟩
  have e : j = 0 := Nat.le_zero.mp hj
  subst e
  have q := fnS_d F S b h
  exact q.imp fun vs H Q E h => by
    obtain ⟨r, ds, P', XR, h1, h2, h3, h4⟩ := h
    exact ⟨r, ds, P', XR, h1, h2, by simpa using h3, h4⟩
end
/-- a dict by names -/
def nk (l : List (Str × D)) : List (Key × D) := l.map fun e => (Sum.inr e.1, e.2)
def aPut (l : List (Str × D)) (k : Str) (d : D) : List (Str × D) := if (l.any fun e => decide (e.1 = k)) = true then l.map (fun e => if e.1 = k then (e.1, d) else e) else l ++ [(k, d)]
def aGet (l : List (Str × D)) (k : Str) : Option D := (l.find? fun e => decide (e.1 = k)).map (·.2)
theorem nk_any (k : Str) : ∀ l : List (Str × D), ((nk l).any fun e => decide (e.1 = (Sum.inr k : Key))) = l.any fun e => decide (e.1 = k)
  | [] => rfl
  | e :: l => by
    have ih := nk_any k l
    unfold nk at ih ⊢
    rw [List.map_cons, List.any_cons, List.any_cons, ih]
    congr 1
    by_cases h : e.1 = k
    · rw [decide_eq_true h, decide_eq_true (by rw [h])]
    · rw [decide_eq_false h, decide_eq_false (fun z => h (Sum.inr.inj z))]
theorem nk_put {l : List (Str × D)} {k : Str} {d : D} : dPut (nk l) (.inr k) d = nk (aPut l k d) := by
  unfold dPut aPut
  rw [nk_any]
  split
  · unfold nk
    rw [List.map_map, List.map_map]
    refine List.map_congr_left fun e _ => ?_
    show (if (Sum.inr e.1 : Key) = .inr k then _ else _) = _
    by_cases h : e.1 = k
    · rw [if_pos (by rw [h])]
      show _ = (fun e : Str × D => ((Sum.inr e.1 : Key), e.2)) (if e.1 = k then (e.1, d) else e)
      rw [if_pos h]
    · rw [if_neg (fun z => h (Sum.inr.inj z))]
      show _ = (fun e : Str × D => ((Sum.inr e.1 : Key), e.2)) (if e.1 = k then (e.1, d) else e)
      rw [if_neg h]
  · unfold nk
    rw [List.map_append]
    rfl
theorem nk_get (k : Str) : ∀ l : List (Str × D), dGet (nk l) (.inr k) = aGet l k
  | [] => rfl
  | (j, d) :: l => by
    have ih := nk_get k l
    show dGet ((.inr j, d) :: nk l) (.inr k) = _
    by_cases h : j = k
    · subst h
      rw [dGet_pos]
      unfold aGet
      simp
    · rw [dGet_neg (fun z => h (Sum.inr.inj z)), ih]
      unfold aGet
      rw [List.find?_cons, decide_eq_false (show ¬ (j, d).1 = k from h)]
theorem nk_len (l : List (Str × D)) : (nk l).length = l.length := by unfold nk; rw [List.length_map]
theorem aGet_put (l : List (Str × D)) (k j : Str) (d : D) : aGet (aPut l k d) j = if j = k then some d else aGet l j := by
  have any_get : ∀ l : List (Str × D), (l.any fun e => decide (e.1 = k)) = (aGet l k).isSome := fun l => by
    induction l with
    | nil => rfl
    | cons e l ih =>
      unfold aGet at ih ⊢
      rw [List.any_cons, List.find?_cons]
      by_cases h : e.1 = k
      · rw [decide_eq_true h]; rfl
      · rw [decide_eq_false h, Bool.false_or]; exact ih
  unfold aPut
  split
  · rename_i hs
    clear any_get
    induction l with
    | nil => simp at hs
    | cons e l ih =>
      unfold aGet at ih ⊢
      rw [List.map_cons, List.find?_cons, List.find?_cons]
      by_cases h : e.1 = k
      · rw [if_pos h]
        by_cases q : e.1 = j
        · rw [decide_eq_true q, if_pos (q.symm.trans h)]; rfl
        · rw [decide_eq_false q]
          have jk : j ≠ k := fun z => q (h.trans z.symm)
          rw [if_neg jk]
          by_cases hs2 : (l.any fun e => decide (e.1 = k)) = true
          · have := ih hs2
            rw [if_neg jk] at this
            exact this
          · show Option.map _ (List.find? _ (l.map _)) = _
            have e2 : l.map (fun e => if e.1 = k then (e.1, d) else e) = l := by
              refine (List.map_congr_left fun e he => ?_).trans (List.map_id _)
              refine if_neg fun z => hs2 ?_
              exact List.any_eq_true.mpr ⟨e, he, decide_eq_true z⟩
            rw [e2]
      · rw [if_neg h]
        have hs2 : (l.any fun e => decide (e.1 = k)) = true := by
          rw [List.any_cons, decide_eq_false h, Bool.false_or] at hs
          exact hs
        by_cases q : e.1 = j
        · rw [decide_eq_true q, if_neg (fun z => h (q.trans z))]
        · rw [decide_eq_false q]; exact ih hs2
  · rename_i hs
    rw [any_get] at hs
    have hn : aGet l k = none := by
      cases q : aGet l k with
      | none => rfl
      | some _ => rw [q] at hs; exact (hs rfl).elim
    unfold aGet at hn ⊢
    rw [List.find?_append]
    have hk := Option.map_eq_none_iff.mp hn
    by_cases q : j = k
    · subst q
      rw [hk, if_pos rfl]
      simp
    · rw [if_neg q]
      cases hj : l.find? fun e => decide (e.1 = j) with
      | some _ => rfl
      | none =>
        have kj : ¬ k = j := fun z => q z.symm
        simp [kj]
end G
namespace G
open PySem PySem.Spec L2
open PyProof.Rows (envOfC)
end G
namespace G
open PySem PySem.Spec L2
open PyProof.Rows (envOfC)
def iAnyR (K : PySem.W.Frag) (tl : TE) : TI := fun σ H R => tl σ H fun x H1 => ∃ a, x = .ref a ∧ (((∃ xs, SqL K H1 a xs) ∧ R (Itl K a) H1) ∨ ((∃ xs, SqT K H1 a xs) ∧ R (Itt K a) H1))
theorem pi_any {X : Cx} {tg l : Expr} {tl : TE} (hl : PE X l tl) : PI X tg l (iAnyR X.K tl) := by
  refine ⟨fun pins s σ H R I h => ?_⟩
  refine thn (hl.run pins s σ H _ I h) fun v s1 ⟨x, H1, I1, r1, q1⟩ => ?_
  obtain ⟨a, e, q1⟩ := q1
  subst e
  cases r1
  rcases q1 with ⟨⟨xs, hq⟩, q⟩ | ⟨⟨xs, hq⟩, q⟩
  · obtain ⟨its, rv, p, hz⟩ := I1.list hq
    refine wpAny_pyIter_list p.isList ?_
    refine ⟨s1.heap.objs.size, [s1.heap.objs.size], _, _, H1, rfl, I1.kept (t' := s1.toks) fun b o e => Heap.get?_push_of_some _ e, turn_list a _, ⟨_, Heap.get?_push_size _ rfl, rfl, rfl⟩, fun b hb => ?_, q⟩
    have e : b = s1.heap.objs.size := by simpa using hb
    subst e
    exact I1.fpOk (Nat.le_refl _) (I1.hok.fresh (Nat.le_refl _))
  · obtain ⟨its, rv, p, hz⟩ := I1.tuple hq
    refine wpAny_pyIter_tuple (show s1.heap.IsTuple a its.toArray from p) ?_
    refine ⟨s1.heap.objs.size, [s1.heap.objs.size], _, _, H1, rfl, I1.kept (t' := s1.toks) fun b o e => Heap.get?_push_of_some _ e, turn_tuple a _, ⟨_, Heap.get?_push_size _ rfl, rfl, rfl⟩, fun b hb => ?_, q⟩
    have e : b = s1.heap.objs.size := by simpa using hb
    subst e
    exact I1.fpOk (Nat.le_refl _) (I1.hok.fresh (Nat.le_refl _))
def seqD : D → Option (List D) | .lst ds => some ds | .tup ds => some ds | _ => none
def iSeqA (t : AT) : AI := fun x δ r P => t x δ r fun d r1 => ∃ ds, seqD d = some ds ∧ P ds r1
theorem i_any {X : Cx} {W : WX} {tg e : Expr} {te : AT} (h : PD X W e te) : PDI X W tg e (iSeqA te) := imI (pi_any h) fun σ H Q ⟨XR, δ, r, P, o, q, k⟩ => td_bind o q fun d r1 v H1 h1 o1 k1 i1 => by
  obtain ⟨ds, e, h1⟩ := h1
  cases i1 with
  | lst n s al => cases e; exact ⟨_, rfl, .inl ⟨⟨_, SqL.of s⟩, k _ _ _ _ h1 o1 k1 (walks_l (.lst n s al))⟩⟩
  | tup s al => cases e; exact ⟨_, rfl, .inr ⟨⟨_, s⟩, k _ _ _ _ h1 o1 k1 (walks_t (.tup s al))⟩⟩
  | _ => cases e
end G
namespace G
open PySem PySem.Spec L2
open PyProof.Rows (envOfC)
end G
namespace G
open PySem PySem.Spec L2
end G
namespace G
open PySem PySem.Spec L2
end G
namespace G
open PySem PySem.Spec L2
end G
namespace G
open PySem PySem.Spec L2
end G
namespace G
open PySem
section
variable {prog : Program} {w : World} {A : Around} {E : Value → Shared → Prop} {s : Shared}
theorem zipM_item {z TI TO it ju la lb : Addr} {m n : Nat} {xs ys : Array Value} {x y a b : Value} {Q : Value → Shared → Prop} (D : ZipApart z TI TO it ju la lb)
    (qz : IsZip s.heap z TI TO .none) (qI : IsPair s.heap TI (.ref it) (.ref ju)) (qO : IsPair s.heap TO a b) (q1 : s.heap.IsTupleIter it la m) (q2 : s.heap.IsListIter ju lb n) (ql1 : s.heap.IsTuple la xs) (ql2 : s.heap.IsList lb ys) (hx : xs[m]? = some x) (hy : ys[n]? = some y)
    (hQ : ∀ g, IsZip g z TI TO (rawInt s.heap.objs.size) → IsPair g TO x y → g.IsTupleIter it la (m + 1) → g.IsListIter ju lb (n + 1) → IsPair g s.heap.objs.size x y → g.objs.size = s.heap.objs.size + 1 → (∀ c o, c ≠ z → c ≠ TO → c ≠ it → c ≠ ju → s.heap.get? c = some o → g.get? c = some o) → Q (.ref s.heap.objs.size) { s with heap := g }) :
    wpAny (model prog w) A (Builtin.«zip.__next__» ⟨[.ref z], []⟩) (fun fin s' => ∃ v, fin = .done (.ret v) ∧ Q v s') E s := by
  show wpAny _ _ (field (.ref z) 2 >>= _) _ _ _; refine wpAny_bind (wpAny_field qz rfl (x := .bool false) rfl ?_)
  show wpAny _ _ (field (.ref z) 3 >>= _) _ _ _; refine wpAny_bind (wpAny_field qz rfl (x := .ref TI) rfl (wpAny_bind (wpAny_seqItems qI rfl ?_)))
  show wpAny _ _ (Builtin.SmallTypes.ownedTupleIsFree (.ref z) >>= _) _ _ _; refine wpAny_bind ?_; unfold Builtin.SmallTypes.ownedTupleIsFree
  refine wpAny_bind (wpAny_field qz rfl (x := .none) rfl (wpAny_pure ?_)); simp only [if_true]
  refine wpAny_bind (wpAny_rule (wpAny_bind (wpAny_field qz rfl (x := .ref TO) rfl (wpAny_bind (wpAny_setField_rec qz (by simp) fun g1 z1 e1 => ?_)))))
  replace z1 : IsZip g1 z TI TO .ellipsis := z1
  refine wpAny_bind ?_; simp only [List.zipIdx_cons, List.zipIdx_nil, List.forIn_cons, List.forIn_nil]
  refine wpAny_bind (wpAny_bind (wpAny_onRaise ?_)); show wpAny _ _ (Builtin.SmallTypes.nextOf (.ref it) >>= _) _ _ _
  refine wpAny_bind (RZ.nextOf_tuple_item (q1.extBut e1.extBut D.i1z) (ql1.extBut e1.extBut D.l1z) hx fun g2 t2 e2 => wpAny_pure ?_)
  have o2 : IsPair g2 TO a b := e2.extBut _ _ D.TOi1 (e1.extBut _ _ D.TOz qO)
  refine wpAny_bind (wpAny_seqItems o2 rfl (wpAny_bind (wpAny_updateSeq_pair o2 fun g3 o3 e3 => ?_)))
  replace o3 : IsPair g3 TO x b := o3
  refine wpAny_bind (wpAny_letGo (wpAny_pure (wpAny_bind (wpAny_bind (wpAny_onRaise ?_))))); show wpAny _ _ (Builtin.SmallTypes.nextOf (.ref ju) >>= _) _ _ _
  refine wpAny_bind (wpAny_nextOf_list_item (((q2.extBut e1.extBut D.i2z).extBut e2.extBut D.i12.symm).extBut e3.extBut D.TOi2.symm) (((ql2.extBut e1.extBut D.l2z).extBut e2.extBut D.l2i1).extBut e3.extBut D.l2TO) hy fun g4 t4 e4 => wpAny_pure ?_)
  have o4 : IsPair g4 TO x b := e4.extBut _ _ D.TOi2 o3
  refine wpAny_bind (wpAny_seqItems o4 rfl (wpAny_bind (wpAny_updateSeq_pair o4 fun g5 o5 e5 => ?_)))
  replace o5 : IsPair g5 TO x y := o5
  refine wpAny_bind (wpAny_letGo (wpAny_pure (wpAny_pure (wpAny_bind (wpAny_seqItems o5 rfl (wpAny_bind (wpAny_newTuple ?_)))))))
  have sz : g5.objs.size = s.heap.objs.size := by rw [e5.1, e4.1, e3.1, e2.1, e1.1]
  have z5 : IsZip g5 z TI TO .ellipsis := e5.extBut _ _ D.TOz.symm (e4.extBut _ _ D.i2z.symm (e3.extBut _ _ D.TOz.symm (e2.extBut _ _ D.i1z.symm z1)))
  have kp : ∀ c o, c ≠ z → c ≠ TO → c ≠ it → c ≠ ju → s.heap.get? c = some o → g5.get? c = some o := fun c o n1 n2 n3 n4 e => e5.extBut _ _ n2 (e4.extBut _ _ n4 (e3.extBut _ _ n2 (e2.extBut _ _ n3 (e1.extBut _ _ n1 e))))
  have t1' : g5.IsTupleIter it la (m + 1) := ((t2.extBut e3.extBut D.TOi1.symm).extBut e4.extBut D.i12).extBut e5.extBut D.TOi1.symm
  have t2' : g5.IsListIter ju lb (n + 1) := t4.extBut e5.extBut D.TOi2.symm
  have zl : z < g5.objs.size := Heap.lt_size z5
  show wpAny _ _ (Builtin.SmallTypes.ownedTupleHandOut (.ref z) (.ref g5.objs.size) >>= _) _ _ _; refine wpAny_bind ?_; unfold Builtin.SmallTypes.ownedTupleHandOut
  have z6 : IsZip (g5.push { cls := .type "tuple", data := .seq #[x, y] }) z TI TO .ellipsis := Heap.get?_push_of_some _ z5
  refine wpAny_bind (wpAny_setField_rec z6 (by simp) fun g7 z7 e7 => ?_)
  replace z7 : IsZip g7 z TI TO (rawInt g5.objs.size) := z7
  refine wpAny_setField_rec z7 (by simp) fun g8 z8 e8 => ?_
  replace z8 : IsZip g8 z TI TO (rawInt g5.objs.size) := z8
  have up : ∀ c o, c ≠ z → g5.get? c = some o → g8.get? c = some o := fun c o n e => e8.extBut _ _ n (e7.extBut _ _ n (Heap.get?_push_of_some _ e))
  have p8 : IsPair g8 g5.objs.size x y := e8.extBut _ _ (Nat.ne_of_gt zl) (e7.extBut _ _ (Nat.ne_of_gt zl) (Heap.get?_push_size _ rfl))
  have s8 : g8.objs.size = g5.objs.size + 1 := by rw [e8.1, e7.1, Heap.size_push]
  rw [sz] at z8 p8 s8
  refine wpAny_pure ⟨_, rfl, ?_⟩
  show Q (.ref g5.objs.size) _
  rw [sz]
  exact hQ g8 z8 (up _ _ D.TOz o5) (t1'.at fun o e => up _ o D.i1z e) (t2'.at fun o e => up _ o D.i2z e) p8 s8 fun c o n1 n2 n3 n4 e => up c o n1 (kp c o n1 n2 n3 n4 e)
theorem zipM_end {z TI TO it ju la lb : Addr} {m n : Nat} {xs : Array Value} {a b : Value} {Q : PySem.Fin → Shared → Prop} (hh : A.handled = none) (D : ZipApart z TI TO it ju la lb)
    (qz : IsZip s.heap z TI TO .none) (qI : IsPair s.heap TI (.ref it) (.ref ju)) (qO : IsPair s.heap TO a b) (q1 : s.heap.IsTupleIter it la m) (ql1 : s.heap.IsTuple la xs) (hx : xs[m]? = none)
    (hE : ∀ g e, (∀ c o, c ≠ z → c ≠ TO → c ≠ it → c ≠ ju → s.heap.get? c = some o → g.get? c = some o) → (∃ o, g.get? e = some o ∧ o.cls = .type "StopIteration") → E (.ref e) { s with heap := g }) :
    wpAny (model prog w) A (Builtin.«zip.__next__» ⟨[.ref z], []⟩) Q E s := by
  show wpAny _ _ (field (.ref z) 2 >>= _) _ _ _; refine wpAny_bind (wpAny_field qz rfl (x := .bool false) rfl ?_)
  show wpAny _ _ (field (.ref z) 3 >>= _) _ _ _; refine wpAny_bind (wpAny_field qz rfl (x := .ref TI) rfl (wpAny_bind (wpAny_seqItems qI rfl ?_)))
  show wpAny _ _ (Builtin.SmallTypes.ownedTupleIsFree (.ref z) >>= _) _ _ _; refine wpAny_bind ?_; unfold Builtin.SmallTypes.ownedTupleIsFree
  refine wpAny_bind (wpAny_field qz rfl (x := .none) rfl (wpAny_pure ?_)); simp only [if_true]
  refine wpAny_bind (wpAny_rule (wpAny_bind (wpAny_field qz rfl (x := .ref TO) rfl (wpAny_bind (wpAny_setField_rec qz (by simp) fun g1 z1 e1 => ?_)))))
  replace z1 : IsZip g1 z TI TO .ellipsis := z1
  refine wpAny_bind ?_; simp only [List.zipIdx_cons, List.zipIdx_nil, List.forIn_cons, List.forIn_nil]
  refine wpAny_bind (wpAny_bind (wpAny_onRaise ?_)); show wpAny _ _ (Builtin.SmallTypes.nextOf (.ref it) >>= _) _ _ _
  refine wpAny_bind (RZ.nextOf_tuple_end hh (q1.extBut e1.extBut D.i1z) (ql1.extBut e1.extBut D.l1z) hx fun g2 e ex he => ?_)
  obtain ⟨oe, ho, hc⟩ := he
  have z2 : IsZip g2 z TI TO .ellipsis := ex _ _ D.i1z.symm z1
  have ne : e ≠ z := fun q => by subst q; rw [z2] at ho; cases ho; simp at hc
  refine wpAny_setField_rec z2 (by simp) fun g3 _ e3 => hE g3 e (fun c o n1 _ n3 _ q => e3.extBut _ _ n1 (ex _ _ n3 (e1.extBut _ _ n1 q))) ⟨oe, e3.extBut _ _ ne ho, hc⟩
theorem nextM_item {z TI TO it ju la lb : Addr} {m n : Nat} {xs ys : Array Value} {x y a b : Value} {Q : Option Value → Shared → Prop} (D : ZipApart z TI TO it ju la lb)
    (qz : IsZip s.heap z TI TO .none) (qI : IsPair s.heap TI (.ref it) (.ref ju)) (qO : IsPair s.heap TO a b) (q1 : s.heap.IsTupleIter it la m) (q2 : s.heap.IsListIter ju lb n) (ql1 : s.heap.IsTuple la xs) (ql2 : s.heap.IsList lb ys) (hx : xs[m]? = some x) (hy : ys[n]? = some y)
    (hQ : ∀ g, IsZip g z TI TO (rawInt s.heap.objs.size) → IsPair g TO x y → g.IsTupleIter it la (m + 1) → g.IsListIter ju lb (n + 1) → IsPair g s.heap.objs.size x y → g.objs.size = s.heap.objs.size + 1 → (∀ c o, c ≠ z → c ≠ TO → c ≠ it → c ≠ ju → s.heap.get? c = some o → g.get? c = some o) → Q (some (.ref s.heap.objs.size)) { s with heap := g }) :
    wpAny (model prog w) A (pyNext (.ref z)) Q E s := by
  have ty : s.TypeIs (.ref z) "zip" := ⟨_, qz, rfl⟩
  unfold pyNext
  exact wpAny_bind (wpAny_attempt (wpAny_callSpecial?_slot (name := Str.ofString "__next__") ty F.slot_zip_next (wpAny_call_entry F.slot_zip_next ty F.entry_zip_next (zipM_item D qz qI qO q1 q2 ql1 ql2 hx hy fun g a1 a2 a3 a4 a5 a6 a7 => wpAny_pure (hQ g a1 a2 a3 a4 a5 a6 a7)) (F.args_zip_next_1 _))))
theorem nextM_end {z TI TO it ju la lb : Addr} {m n : Nat} {xs : Array Value} {a b : Value} {Q : Option Value → Shared → Prop} (hh : A.handled = none) (D : ZipApart z TI TO it ju la lb)
    (qz : IsZip s.heap z TI TO .none) (qI : IsPair s.heap TI (.ref it) (.ref ju)) (qO : IsPair s.heap TO a b) (q1 : s.heap.IsTupleIter it la m) (ql1 : s.heap.IsTuple la xs) (hx : xs[m]? = none)
    (hQ : ∀ g, (∀ c o, c ≠ z → c ≠ TO → c ≠ it → c ≠ ju → s.heap.get? c = some o → g.get? c = some o) → Q none { s with heap := g }) : wpAny (model prog w) A (pyNext (.ref z)) Q E s := by
  have ty : s.TypeIs (.ref z) "zip" := ⟨_, qz, rfl⟩
  unfold pyNext
  refine wpAny_bind (wpAny_attempt (wpAny_callSpecial?_slot (name := Str.ofString "__next__") ty F.slot_zip_next (wpAny_call_entry F.slot_zip_next ty F.entry_zip_next (zipM_end (n := n) hh D qz qI qO q1 ql1 hx fun g e hk he => ?_) (F.args_zip_next_1 _))))
  obtain ⟨o, ho, hc⟩ := he
  exact wpAny_bind (wpAny_isInstance (T := "StopIteration") (b := true) ⟨o, ho, hc⟩ isSubtype_stop (wpAny_pure (hQ _ hk)))
end
abbrev zM1 (h : Heap) (la : Addr) : Heap := h.push { cls := .type "tuple_iterator", data := .fields #[.ref la, .int 0 0] }
abbrev zM2 (h : Heap) (la lb : Addr) : Heap := (zM1 h la).push { cls := .type "list_iterator", data := .fields #[.ref lb, .int 0 0] }
abbrev zM3 (h : Heap) (la lb : Addr) : Heap := (zM2 h la lb).push { cls := .type "tuple", data := .seq #[.ref h.objs.size, .ref (zM1 h la).objs.size] }
abbrev zM4 (h : Heap) (la lb : Addr) : Heap := (zM3 h la lb).push { cls := .type "tuple", data := .seq #[.none, .none] }
abbrev zM5 (h : Heap) (la lb : Addr) : Heap := (zM4 h la lb).push { cls := .type "zip", data := .fields #[.none, .bool false, .bool false, .ref (zM2 h la lb).objs.size, .ref (zM3 h la lb).objs.size] }
theorem meets_zM (la lb : Addr) (xs ys : Array Value) : Meets (Builtin.«zip.__new__» ⟨[.type "zip", .ref la, .ref lb], []⟩) (fun _ R s => s.heap.IsTuple la xs ∧ s.heap.IsList lb ys ∧ R (.ok (.ret (.ref (zM4 s.heap la lb).objs.size))) { s with heap := zM5 s.heap la lb }) :=
  .of_wp fun prog w A R s h => by
    obtain ⟨hp, g, d, tk, os⟩ := s; obtain ⟨ql1, ql2, h⟩ := h
    have hsub := sub_zip
    have k1 : Heap.IsTuple (Shared.heap ⟨hp, g, d, tk, os⟩) la xs := ql1
    have k2 : Heap.IsList (Shared.heap ⟨hp.push { cls := .type "tuple_iterator", data := .fields #[.ref la, .int 0 0] }, g, d, tk, os⟩) lb ys := Heap.IsList.push ql2 _
    wp_walk using wpAny_pyIter_tuple k1, wpAny_pyIter_list k2
    exact ⟨_, rfl, h⟩
theorem call_zM {prog : Program} {w : World} {A : Around} {E : Value → Shared → Prop} {s : Shared} {la lb : Addr} {xs ys : Array Value} {Q : Value → Shared → Prop} (ql1 : s.heap.IsTuple la xs) (ql2 : s.heap.IsList lb ys)
    (h : ∀ g, IsZip g (s.heap.objs.size + 4) (s.heap.objs.size + 2) (s.heap.objs.size + 3) .none → IsPair g (s.heap.objs.size + 2) (.ref s.heap.objs.size) (.ref (s.heap.objs.size + 1)) → IsPair g (s.heap.objs.size + 3) .none .none → g.IsTupleIter s.heap.objs.size la 0 → g.IsListIter (s.heap.objs.size + 1) lb 0 → g.objs.size = s.heap.objs.size + 5 → (∀ c o, s.heap.get? c = some o → g.get? c = some o) → Q (.ref (s.heap.objs.size + 4)) { s with heap := g }) :
    wpAny (model prog w) A (call (.type "zip") [.ref la, .ref lb]) Q E s := by
  refine callType_new F.called_zip (by decide) (F.typeCall_zip_2 _ _) (F.newCall_zip_2 _ _) (fun obj => F.args_object_init_3 obj _ _) F.entry_zip_new (meets_zM la lb xs ys) ⟨ql1, ql2, ?_⟩
  have n1 : (zM1 s.heap la).objs.size = s.heap.objs.size + 1 := Heap.size_push ..
  have n2 : (zM2 s.heap la lb).objs.size = s.heap.objs.size + 2 := by rw [Heap.size_push, n1]
  have n3 : (zM3 s.heap la lb).objs.size = s.heap.objs.size + 3 := by rw [Heap.size_push, n2]
  have n4 : (zM4 s.heap la lb).objs.size = s.heap.objs.size + 4 := by rw [Heap.size_push, n3]
  have n5 : (zM5 s.heap la lb).objs.size = s.heap.objs.size + 5 := by rw [Heap.size_push, n4]
  have p5 : (zM5 s.heap la lb).get? (zM4 s.heap la lb).objs.size = some _ := Heap.get?_push_size _ rfl
  have p4 : (zM5 s.heap la lb).get? (zM3 s.heap la lb).objs.size = some _ := Heap.get?_push_of_some _ (Heap.get?_push_size _ rfl)
  have p3 : (zM5 s.heap la lb).get? (zM2 s.heap la lb).objs.size = some _ := Heap.get?_push_of_some _ (Heap.get?_push_of_some _ (Heap.get?_push_size _ rfl))
  have p2 : (zM5 s.heap la lb).get? (zM1 s.heap la).objs.size = some _ := Heap.get?_push_of_some _ (Heap.get?_push_of_some _ (Heap.get?_push_of_some _ (Heap.get?_push_size _ rfl)))
  have p1 : (zM5 s.heap la lb).get? s.heap.objs.size = some _ := Heap.get?_push_of_some _ (Heap.get?_push_of_some _ (Heap.get?_push_of_some _ (Heap.get?_push_of_some _ (Heap.get?_push_size _ rfl))))
  show _ ∧ _
  rw [n2, n3, n4] at p5
  rw [n1, n2] at p3
  rw [n3] at p4
  rw [n1] at p2
  rw [n4]
  exact ⟨⟨_, p5, rfl⟩, h _ p5 p3 p4 ⟨_, p1, rfl, rfl⟩ ⟨_, p2, rfl, rfl⟩ n5 fun c o q => Heap.get?_push_of_some _ (Heap.get?_push_of_some _ (Heap.get?_push_of_some _ (Heap.get?_push_of_some _ (Heap.get?_push_of_some _ q))))⟩
end G
namespace G
open PySem PySem.Spec L2
open PyProof.Rows (envOfC)
def ItzM (K : PySem.W.Frag) (a b : Addr) : It :=
  ⟨fun i H => ∃ (xs ys : List V) (x y : V), SqT K H a xs ∧ SqL K H b ys ∧ xs[i]? = some x ∧ ys[i]? = some y,
    fun i H v H' => ∃ T x y, v = .ref T ∧ H T = none ∧ H' = upd H T (.tup [x, y]) ∧ (∀ xs, SqT K H a xs → xs[i]? = some x) ∧ ∀ ys, SqL K H b ys → ys[i]? = some y,
    fun i H => ∃ xs : List V, SqT K H a xs ∧ xs.length ≤ i⟩
theorem turn_zM {P : Program} {w : World} {K : PySem.W.Frag} {elts : List Expr} {kk : Nat} {tpos : Pos} {a b z TI TO i1 i2 : Addr} (D : ZipApart z TI TO i1 i2 a b) :
    Turn P w K (.Tuple elts kk tpos) (ItzM K a b) [z, TI, TO, i1, i2] z (fun i h => IsZip h z TI TO .none ∧ IsPair h TI (.ref i1) (.ref i2) ∧ (∃ x y, IsPair h TO x y) ∧ h.IsTupleIter i1 a i ∧ h.IsListIter i2 b i) where
  mem := by simp
  obj := fun i h st c hc => by
    obtain ⟨q1, q2, ⟨x, y, q3⟩, ⟨o1, e1, _, d1⟩, ⟨o2, e2, _, d2⟩⟩ := st
    rcases (by simpa using hc : c = z ∨ c = TI ∨ c = TO ∨ c = i1 ∨ c = i2) with r | r | r | r | r
    · rw [r]; exact ⟨_, q1, fun v q => nomatch q⟩
    · rw [r]; exact ⟨_, q2, fun v q => nomatch q⟩
    · rw [r]; exact ⟨_, q3, fun v q => nomatch q⟩
    · rw [r]; exact ⟨o1, e1, fun v q => by rw [d1] at q; cases q⟩
    · rw [r]; exact ⟨o2, e2, fun v q => by rw [d2] at q; cases q⟩
  keep := fun i h h' st k => by
    obtain ⟨q1, q2, ⟨x, y, q3⟩, h1, h2⟩ := st
    exact ⟨k z (by simp) _ q1, k TI (by simp) _ q2, ⟨x, y, k TO (by simp) _ q3⟩, h1.at fun o q => k i1 (by simp) o q, h2.at fun o q => k i2 (by simp) o q⟩
  item := by
    intro X hP hw hK hc i pins s σ H E I hf st hg
    subst hP hw hK
    obtain ⟨q1, q2, ⟨x0, y0, q3⟩, h1, h2⟩ := st
    obtain ⟨xs, ys, x, y, hqx, hqy, hx, hy⟩ := hg
    obtain ⟨its, rv, p, _⟩ := I.tuple hqx
    obtain ⟨its2, rv2, p2, _⟩ := I.list hqy
    obtain ⟨u, hu, ru⟩ := rv.get hx
    obtain ⟨u2, hu2, ru2⟩ := rv2.get hy
    have zl : z < s.heap.objs.size := Heap.lt_size q1
    refine nextM_item D q1 q2 q3 h1 h2 p p2.isList (x := u) (y := u2) (by simpa using hu) (by simpa using hu2) fun g z' TO' h1' h2' hT hsz hk => ?_
    refine ⟨_, rfl, wpAny_letOwnedTupleGo_zip (s := { s with heap := g }) z' fun g2 z'' sb => ?_⟩
    have hT2 : g2.get? s.heap.objs.size = some { cls := .type "tuple", data := .seq #[u, u2] } := (sb.2 _ (Nat.ne_of_gt zl)).trans hT
    have new : ObjOk X.prog X.w (upd H s.heap.objs.size (.tup [x, y])) g2 s.heap.objs.size (.tup [x, y]) := ⟨by show 2 ≤ sizeLine; decide, [u, u2], .cons ru (.cons ru2 .nil), ⟨_, hT2, rfl, _, rfl⟩⟩
    have I1 : L2.Inv X pins σ (upd H s.heap.objs.size (.tup [x, y])) { s with heap := g2 } :=
      I.turnedNew (t' := s.toks) (ch := [z, TI, TO, i1, i2]) (fun c o hb q => (sb.2 c (fun r => hb (by simp [r]))).trans (hk c o (fun r => hb (by simp [r])) (fun r => hb (by simp [r])) (fun r => hb (by simp [r])) (fun r => hb (by simp [r])) q)) hf (Nat.le_refl _) new
    refine ⟨.ref s.heap.objs.size, _, I1, rfl, ⟨_, x, y, rfl, I.hok.fresh (Nat.le_refl _), rfl, fun l hl => by rw [I.tuple_inj hl hqx]; exact hx, fun l hl => by rw [I.list_inj hl hqy]; exact hy⟩, ⟨z'', ?_, ⟨u, u2, ?_⟩, ?_, ?_⟩, fun c hcm => ?_⟩
    · exact (sb.2 _ D.TIz).trans (hk _ _ D.TIz D.TITO D.TIi1 D.TIi2 q2)
    · exact (sb.2 _ D.TOz).trans TO'
    · exact h1'.at fun o q => (sb.2 _ D.i1z).trans q
    · exact h2'.at fun o q => (sb.2 _ D.i2z).trans q
    · have hlt : c < s.heap.objs.size := by
        rcases (by simpa using hcm : c = z ∨ c = TI ∨ c = TO ∨ c = i1 ∨ c = i2) with r | r | r | r | r
        · rw [r]; exact zl
        · rw [r]; exact Heap.lt_size q2
        · rw [r]; exact Heap.lt_size q3
        · rw [r]; obtain ⟨_, e1, _⟩ := h1; exact Heap.lt_size e1
        · rw [r]; obtain ⟨_, e1, _⟩ := h2; exact Heap.lt_size e1
      rw [upd_ne (Nat.ne_of_lt hlt)]
      exact (hf c hcm).1
  done := by
    intro X hP hw hK hc i pins s σ H E I hf st hg
    subst hP hw hK
    obtain ⟨q1, q2, ⟨x0, y0, q3⟩, h1, h2⟩ := st
    obtain ⟨xs, hqx, hend⟩ := hg
    obtain ⟨its, rv, p, _⟩ := I.tuple hqx
    have l1 := rv.length
    exact nextM_end (n := i) (I.ok.hd hc) D q1 q2 q3 h1 p (by simp; omega) fun g hk => ⟨rfl, I.turnedL (t' := s.toks) (ch := [z, TI, TO, i1, i2]) (fun c o hb q => hk c o (fun r => hb (by simp [r])) (fun r => hb (by simp [r])) (fun r => hb (by simp [r])) (fun r => hb (by simp [r])) q) hf⟩
  self := fun A i s Q E st h => wpAny_pyIter_zip st.1 h
def iZipM (K : PySem.W.Frag) (ta : TA) : TI := fun σ H R => ta σ H fun vs H1 => ∃ a b xs ys, vs = [.ref a, .ref b] ∧ SqT K H1 a xs ∧ SqL K H1 b ys ∧ R (ItzM K a b) H1
theorem pi_zM {X : Cx} {e e2 : Expr} {ta : TA} {p pos tpos : Pos} {elts : List Expr} {kk : Nat} (hg : Gl X "zip") (hm : X.mg "zip" = none) (ha : PA X [e, e2] ta)
    (hs : starEach [e, e2] X.env = (false, eval e X.env) :: starEach [e2] X.env := by rfl) (hpl : (backTo pos (starEach [e2] X.env)).any (·.1) = false := by rfl) : PI X (.Tuple elts kk tpos) (.Call (.Name "zip" p) [e, e2] [] pos) (iZipM X.K ta) := by
  refine ⟨fun pins s σ H R I h => ?_⟩
  refine PyProof.Rows.Call_ (ld_blt I hg hm PyProof.Rows.boot_zip (PyProof.Rows.callWith_type1 (thn (ha.run pos pins s σ H _ I h) fun us s1 ⟨vs, H1, I1, r1, q1⟩ => ?_) hs hpl))
  obtain ⟨a, b, xs, ys, rfl, hqx, hqy, q⟩ := q1
  cases r1 with
  | cons ra rb =>
  cases rb with
  | cons rb rc =>
  cases rc; cases ra; cases rb
  have fresh5 : ∀ c, c ∈ [s1.heap.objs.size + 4, s1.heap.objs.size + 2, s1.heap.objs.size + 3, s1.heap.objs.size, s1.heap.objs.size + 1] → FpOk X pins H1 c := fun c hcm => by
    have hle : s1.heap.objs.size ≤ c := by
      rcases (by simpa using hcm : c = s1.heap.objs.size + 4 ∨ c = s1.heap.objs.size + 2 ∨ c = s1.heap.objs.size + 3 ∨ c = s1.heap.objs.size ∨ c = s1.heap.objs.size + 1) with z | z | z | z | z <;> rw [z] <;> first | exact Nat.le_add_right _ _ | exact Nat.le_refl _
    exact I1.fpOk hle (I1.hok.fresh hle)
  obtain ⟨its, rv, p1, _⟩ := I1.tuple hqx
  obtain ⟨its2, rv2, p2, _⟩ := I1.list hqy
  obtain ⟨o1, ho1, _⟩ := id p1
  refine call_zM (show s1.heap.IsTuple a its.toArray from p1) p2.isList fun g hz hTI hTO h1 h2 hsz hk => wpAny_pyIter_zip hz ?_
  have I2 : L2.Inv X pins σ H1 { s1 with heap := g } := I1.kept (t' := s1.toks) hk
  exact ⟨s1.heap.objs.size + 4, [s1.heap.objs.size + 4, s1.heap.objs.size + 2, s1.heap.objs.size + 3, s1.heap.objs.size, s1.heap.objs.size + 1], _, _, H1, rfl, I2, turn_zM (PySem.W.ktu_apart s1.heap.objs.size a b (Heap.lt_size ho1) p2.lt), ⟨hz, hTI, ⟨_, _, hTO⟩, h1, h2⟩, fresh5, q⟩
theorem zipD_lenM {xs ys : List D} (h : xs.length ≤ ys.length) : (zipD xs ys).length = xs.length := by
  unfold zipD
  rw [List.length_map, List.length_zip, Nat.min_eq_left h]
theorem walks_zM {K : PySem.W.Frag} {r : Rs} {H : Hp} {a b : Addr} {ds es : List D} (hl : ds.length ≤ es.length) (h : Is K (mem r) H (.ref a) (.tup ds)) (g : Is K (mem r) H (.ref b) (.lst es)) : Walks K (ItzM K a b) (zipD ds es) r H := by
  intro i r1 H1 k _
  cases k _ _ h with
  | tup s al =>
    cases k _ _ g with
    | lst n2 s2 al2 =>
      rename_i xs ys
      refine ⟨fun hi => ?_, fun hi => ⟨xs, s, by rw [al.length, hi, zipD_lenM hl] <;> exact Nat.le_refl _⟩⟩
      rw [zipD_lenM hl] at hi
      refine ⟨⟨xs, ys, xs[i]'(by rw [al.length]; exact hi), ys[i]'(by rw [al2.length]; omega), s, SqL.of s2, by simp, by simp⟩, ?_⟩
      rintro x H2 ⟨T, x1, y1, rfl, hT, rfl, hx, hy⟩
      obtain ⟨d1, h1, j1⟩ := al.get (hx xs s)
      obtain ⟨d2, h2, j2⟩ := al2.get (hy ys (SqL.of s2))
      exact ⟨Ext.new hT, .tup [d1, d2], zipD_at h1 h2, new_tup hT (.cons j1 (.cons j2 .nil))⟩
def iZM (l : AL) : AI := fun x δ r P => l x δ r fun ds r1 => ∃ xs ys, ds = [.tup xs, .lst ys] ∧ xs.length ≤ ys.length ∧ P (zipD xs ys) r1
theorem i_zipM {X : Cx} {W : WX} {e e2 : Expr} {elts : List Expr} {kk : Nat} {p pos tpos : Pos} {l : AL} (hg : Gl X "zip") (hm : X.mg "zip" = none) (ha : PDL X W [e, e2] l)
    (hs : starEach [e, e2] X.env = (false, eval e X.env) :: starEach [e2] X.env := by rfl) (hpl : (backTo pos (starEach [e2] X.env)).any (·.1) = false := by rfl) : PDI X W (.Tuple elts kk tpos) (.Call (.Name "zip" p) [e, e2] [] pos) (iZM l) :=
  imI (pi_zM hg hm ha hs hpl) fun σ H Q ⟨XR, δ, r, P, o, q, k⟩ => tdl_bind o q fun ds r1 vs H1 h1 o1 k1 i1 => by
    obtain ⟨xs, ys, rfl, hl, h1⟩ := h1
    match vs, i1 with
    | _, .cons (.tup s al) (.cons (.lst n2 s2 al2) .nil) => exact ⟨_, _, _, _, rfl, s, SqL.of s2, k _ _ _ _ h1 o1 k1 (walks_zM hl (.tup s al) (.lst n2 s2 al2))⟩
inductive Pt where | n (i : Nat) | t (is : List Nat)
def tP (X : Cx) : Pt → TG | .n i => gName i | .t is => gTup X.K is.length (gNames is)
def tPs (X : Cx) : List Pt → TGs | [] => gNil | p :: ps => gCons (tP X p) (tPs X ps)
def jsOf : List Pt → List Nat | [] => [] | .n i :: ps => i :: jsOf ps | .t is :: ps => is ++ jsOf ps
def gP2 : List Pt → List D → Dl → (Dl → Prop) → Prop
  | [], ds, δ, Q => ds = [] ∧ Q δ
  | .n i :: ps, ds, δ, Q => (match ds with | d :: ds => gP2 ps ds (δ.set i (some d)) Q | [] => False)
  | .t is :: ps, ds, δ, Q => (match ds with | .tup es :: ds => es.length = is.length ∧ gP2 ps ds (setAll δ is es) Q | _ => False)
def gM (ps : List Pt) : AG := fun d δ Q => match d with | .tup ds => ds.length = ps.length ∧ gP2 ps ds δ Q | _ => False
theorem mix_agree {X : Cx} {W : WX} {XR : XT} {r : Rs} {H : Hp} {Q : L2.St → Hp → Prop} {P : Dl → Prop} {js : List Nat} : ∀ {ps : List Pt} {vs : List V} {ds : List D} {δ : Dl} {σ : L2.St}, (∀ i ∈ jsOf ps, i ∈ js) → Ok X.K W XR r δ σ H → IsAll X.K (mem r) H vs ds → gP2 ps ds δ P →
    (∀ δ' σ', P δ' → Ok X.K W XR r δ' σ' H → Agree js σ σ' → Q σ' H) → tPs X ps vs σ H Q
  | [], _, _, δ, σ, _, o, .nil, h, k => ⟨rfl, k δ σ h.2 o Agree.refl⟩
  | [], _, _, δ, σ, _, o, .cons _ _, h, k => by cases h.1
  | .n i :: ps, _, _, δ, σ, hj, o, .nil, h, k => h.elim
  | .n i :: ps, _, _, δ, σ, hj, o, .cons i1 t, h, k => ⟨_, _, rfl, mix_agree (ps := ps) (fun i h => hj i (List.mem_cons_of_mem _ h)) (o.set i1) t h fun δ' σ' q o' a => k δ' σ' q o' ((Agree.set (hj i List.mem_cons_self)).trans a)⟩
  | .t is :: ps, _, _, δ, σ, hj, o, .nil, h, k => h.elim
  | .t is :: ps, _, _, δ, σ, hj, o, .cons i1 t, h, k => by
    cases i1 with
    | tup s al => exact ⟨_, _, rfl, _, _, rfl, s, by rw [al.length]; exact h.1, names_agree (js := js) (fun i m => hj i (List.mem_append.mpr (.inl m))) o al h.1 fun σ1 o1 a1 => mix_agree (ps := ps) (fun i m => hj i (List.mem_append.mpr (.inr m))) o1 t h.2 fun δ' σ' q o' a => k δ' σ' q o' (a1.trans a)⟩
    | _ => exact h.elim
theorem g_mix {X : Cx} {ps : List Pt} {ts : List Expr} {kk : Nat} {pos : Pos} (hg : PGs X ts (tPs X ps)) (hc : X.calm = true := by rfl) (hn : (assignEach ts X.env).length = ps.length := by rfl) (hst : (assignEach ts X.env).findIdx? (·.1) = none := by rfl) : PDG X (.Tuple ts kk pos) (jsOf ps) (gM ps) :=
  imG (pg_tup hc hg hn hst) fun v σ H Q ⟨_, _, δ, r, d, P, o, i, g, k⟩ => by
    cases i with
    | tup s al => exact ⟨_, _, rfl, s, by rw [al.length]; exact g.1, mix_agree (fun _ h => h) o al g.2 fun δ' σ' q o' a => k _ _ q o' a⟩
    | _ => exact g.elim
section
variable {X : Cx} {ps : List Pt} {ts : List Expr}
theorem pms_nil : PGs X [] (tPs X []) := pgs_nil
theorem pms_n {i : Nat} {x : Str} {pos : Pos} (hN : X.N.Nodup) (hr : PGs X ts (tPs X ps)) (hi : X.N[i]? = some x := by rfl) (hx : Loc X.env.scope x := by first | exact Or.inl rfl | exact Or.inr rfl) (hf : X.fn x = true ∨ X.env.scope.names.lookup x = some .local := by first | exact .inl rfl | exact .inr rfl | assumption)
    (hs : (assignEach (.Name x pos :: ts) X.env).map (·.2) = assign (.Name x pos) X.env :: (assignEach ts X.env).map (·.2) := by rfl) : PGs X (.Name x pos :: ts) (tPs X (.n i :: ps)) := pgs_cons (pg_name hN hi hx hf) hr hs
theorem pms_t {is : List Nat} {es : List Expr} {kk : Nat} {pos : Pos} (hg : PGs X es (gNames is)) (hr : PGs X ts (tPs X ps)) (hc : X.calm = true := by rfl) (hn : (assignEach es X.env).length = is.length := by rfl) (hst : (assignEach es X.env).findIdx? (·.1) = none := by rfl)
    (hs : (assignEach (.Tuple es kk pos :: ts) X.env).map (·.2) = assign (.Tuple es kk pos) X.env :: (assignEach ts X.env).map (·.2) := by rfl) : PGs X (.Tuple es kk pos :: ts) (tPs X (.t is :: ps)) := pgs_cons (pg_tup hc hg hn hst) hr hs
end
structure aLc2K (x : XT) (g : AG) (ti1 : AI) (g1 : AG) (te : AT) (vs1 : List Nat) (δw : Dl) (ds : List D) (r1 : Rs) (P : PK1) : Prop where
  ex : ∃ I : Nat → List D → Rs → Prop, I 0 [] r1 ∧
  (∀ (p : Addr) i d acc r', ds[i]? = some d → I i acc r' → g d δw fun δ2 => ti1 x δ2 (r' ++ [lstA p acc]) fun es r2 => ∃ J : Nat → List D → Rs → Prop, (∃ r3, le r2 (r3 ++ [lstA p acc]) ∧ J 0 acc r3) ∧
    (∀ j e acc2 r3, es[j]? = some e → J j acc2 r3 → g1 e (wipeD δ2 vs1) fun δ3 => te x δ3 (r3 ++ [lstA p acc2]) fun y r4 => small (acc2.length + 1) ∧ ∃ r5, le r4 (r5 ++ [lstA p acc2]) ∧ J (j + 1) (acc2 ++ [y]) r5) ∧
    ∀ acc2 r3, J es.length acc2 r3 → I (i + 1) acc2 r3) ∧
  ∀ acc r', I ds.length acc r' → P (.lst acc) r'
def aLc2 (ti : AI) (g : AG) (ti1 : AI) (g1 : AG) (te : AT) (vs vs1 : List Nat) : AT := fun x δ r P => ti x δ r fun ds r1 => aLc2K x g ti1 g1 te vs1 (wipeD δ vs) ds r1 P
theorem td_lc2 {K : PySem.W.Frag} {W : WX} {ti : AI} {g : AG} {ti1 : AI} {g1 : AG} {te : AT} {vs vs1 js js1 : List Nat} (hj : ∀ j ∈ js, j ∈ vs) (hj1 : ∀ j ∈ js1, j ∈ vs1) {σ : L2.St} {H : Hp} {Q : VK} (q : TD K W (aLc2 ti g ti1 g1 te vs vs1) σ H Q) :
    tLc2 (TDI K W ti) (TDG K js g) (TDB K W bYes) (TDI K W ti1) (TDG K js1 g1) (TDB K W bYes) (TD K W te) vs vs1 σ H Q := by
  obtain ⟨XR, δ, r, P, o, h, k⟩ := q
  refine ⟨XR, δ, r, _, o, h, fun ds r1 J H1 ⟨⟨I, h0, hst, hd⟩⟩ o1 k1 w p hp => ?_⟩
  obtain ⟨s1, s2⟩ := rok_plus o1.r hp
  refine ⟨fun i m H' => m = ds.length - i ∧ i ≤ ds.length ∧ ∃ acc r', I i acc r' ∧ Rok K (r' ++ [lstA p acc]) H' ∧ Kp K r1 H1 (r' ++ [lstA p acc]) H', ⟨ds.length, by simp, Nat.zero_le _, [], r1, h0, s1, s2⟩, ?_⟩
  rintro i m H' ⟨rfl, hi, acc, r', hI, ro, kp⟩
  by_cases hlt : i < ds.length
  · obtain ⟨hgo, hy⟩ := (w i _ H' kp ro).1 hlt
    refine .inr ⟨hgo, fun H2 => ∃ acc r2, I (i + 1) acc r2 ∧ Rok K (r2 ++ [lstA p acc]) H2 ∧ Kp K r1 H1 (r2 ++ [lstA p acc]) H2, fun H2 ⟨acc, r2, q1, q2, q3⟩ => ⟨ds.length - (i + 1), by omega, rfl, hlt, acc, r2, q1, q2, q3⟩, fun x H2 y => ?_⟩
    obtain ⟨ex, d, hd', ix⟩ := hy x H2 y
    have k2 := kp.trans (Kp.ext ex)
    have o2 : Ok K W XR (r' ++ [lstA p acc]) (wipeD δ vs) (wipe σ vs) H2 := (o1.step k2 (ro.ext ex)).wipe vs
    refine ⟨W, XR, wipeD δ vs, _, d, _, o2, ix, hst p i d acc r' hd' hI, fun δ2 σ2 q o3 ag => ⟨wipe_agree ag hj, XR, δ2, _, fun b r2 => b = true ∧ r2 = r' ++ [lstA p acc], o3, ⟨rfl, rfl⟩, ?_⟩⟩
    rintro _ _ H3 ⟨rfl, rfl⟩ o4 k4
    show TDI K W ti1 σ2 H3 _
    refine ⟨XR, δ2, _, _, o4, q, fun es r5 J1 H4 ⟨Jv, ⟨r6, l6, j0⟩, jst, jd⟩ o5 k5 w1 => ?_⟩
    have k24 : Kp K r1 H1 r5 H4 := (k2.trans k4).trans k5
    refine ⟨fun j n H' => n = es.length - j ∧ j ≤ es.length ∧ ∃ acc2 r7, Jv j acc2 r7 ∧ Rok K (r7 ++ [lstA p acc2]) H' ∧ Kp K r5 H4 (r7 ++ [lstA p acc2]) H', ⟨es.length, by simp, Nat.zero_le _, acc, r6, j0, le_rok l6 o5.r, l6.kp⟩, ?_⟩
    rintro j n H5 ⟨rfl, hjl, acc2, r7, hJ, ro7, kp7⟩
    by_cases hlt2 : j < es.length
    · obtain ⟨hgo2, hy2⟩ := (w1 j _ H5 kp7 ro7).1 hlt2
      refine .inr ⟨hgo2, fun H6 => ∃ acc3 r8, Jv (j + 1) acc3 r8 ∧ Rok K (r8 ++ [lstA p acc3]) H6 ∧ Kp K r5 H4 (r8 ++ [lstA p acc3]) H6, fun H6 ⟨acc3, r8, q1, q2, q3⟩ => ⟨es.length - (j + 1), by omega, rfl, hlt2, acc3, r8, q1, q2, q3⟩, fun x2 H6 y2 => ?_⟩
      obtain ⟨ex2, e, he, ix2⟩ := hy2 x2 H6 y2
      have k7 := kp7.trans (Kp.ext ex2)
      have o6 : Ok K W XR (r7 ++ [lstA p acc2]) (wipeD δ2 vs1) (wipe σ2 vs1) H6 := (o5.step k7 (ro7.ext ex2)).wipe vs1
      refine ⟨W, XR, wipeD δ2 vs1, _, e, _, o6, ix2, jst j e acc2 r7 he hJ, fun δ3 σ3 q3 o7 ag3 => ⟨wipe_agree ag3 hj1, XR, δ3, _, fun b r2 => b = true ∧ r2 = r7 ++ [lstA p acc2], o7, ⟨rfl, rfl⟩, ?_⟩⟩
      rintro _ _ H7 ⟨rfl, rfl⟩ o8 k8
      show TD K W te σ3 H7 _
      refine td_bind o8 q3 fun yv r9 v H8 ⟨sz, r10, l10, h10⟩ o9 k9 i9 => ?_
      obtain ⟨ws, e1, e2, e3, e4⟩ := rok_more (le_rok l10 o9.r) (is_anti l10.m i9)
      refine ⟨ws, e1, by rw [e2]; exact Nat.lt_of_lt_of_le (Nat.lt_succ_self _) sz.sz, acc2 ++ [yv], r10, h10, e3, fun v' d' z => e4 _ _ (is_anti l10.m (k9 _ _ (k8 _ _ (k7 _ _ z))))⟩
    · have e : j = es.length := by omega
      exact .inl ⟨(w1 j _ H5 kp7 ro7).2 e, acc2, r7, jd _ _ (e ▸ hJ), ro7, k24.trans kp7⟩
  · have e : i = ds.length := by omega
    obtain ⟨d1, d2, d3⟩ := rok_done ro
    exact .inl ⟨(w i _ H' kp ro).2 e, k _ r' _ H' (hd acc r' (e ▸ hI)) (o1.step (kp.trans d3) d1) ((k1.trans kp).trans d3) d2⟩
section
variable {X : Cx} {W : WX}
theorem d_lc2 {elt tg iter tg1 iter1 : Expr} {scope : Scope} {own : List (Str × Nat)} {pos : Pos} {js js1 vs1 : List Nat} {wi wi1 : AI} {g g1 : AG} {te : AT} (hN : X.N.Nodup) (hi : PDI X W tg iter wi) (ok : BlkOk X.N X.env.scope scope own) (hv : ∀ i ∈ vs1, i ∈ own.map (·.2))
    (hg : ∀ (s : Shared) (H : Hp) (C : Addr) (cl : List (Str × Addr)) (fp : List Addr), PDG (X.blk s H scope (compEnvC scope cl C X.env) fp) tg js g)
    (hi1 : ∀ (s : Shared) (H : Hp) (C : Addr) (cl : List (Str × Addr)) (fp : List Addr), PDI (X.blk s H scope (compEnvC scope cl C X.env) fp) W tg1 iter1 wi1)
    (hg1 : ∀ (s : Shared) (H : Hp) (C : Addr) (cl : List (Str × Addr)) (fp : List Addr), PDG (X.blk s H scope (compEnvC scope cl C X.env) fp) tg1 js1 g1)
    (he : ∀ (s : Shared) (H : Hp) (C : Addr) (cl : List (Str × Addr)) (fp : List Addr), PD (X.blk s H scope (compEnvC scope cl C X.env) fp) W elt te) (hj : ∀ j ∈ js, j ∈ own.map (·.2) := by decide) (hj1 : ∀ j ∈ js1, j ∈ vs1 := by decide) (hc : X.calm = true := by rfl) (hs : ∀ x, foldedSetIterable iter X.env x = pure x := by intro _; rfl)
    (hs1 : ∀ env x, foldedSetIterable iter1 env x = pure x := by intro _ _; rfl) :
    PD X W (.ListComp elt [⟨tg, iter, [], 0⟩, ⟨tg1, iter1, [], 0⟩] scope pos) (aLc2 wi g wi1 g1 te (own.map (·.2)) vs1) :=
  imE (pe_lc2 (g := TDG X.K js g) (tt := TDB X.K W bYes) (g1 := TDG X.K js1 g1) (tt1 := TDB X.K W bYes) (wi1 := TDI X.K W wi1) (te := TD X.K W te) (vs1 := vs1) hc hN hi ok hv hg (fun _ _ _ _ _ => pts_no) hi1 hg1 (fun _ _ _ _ _ => pts_no) he hs hs1) fun _ _ _ q => td_lc2 hj hj1 q
end
end G
namespace G
open PySem PySem.Spec L2
open PyProof.Rows (envOfC)
def intL : List D → Option (List Int)
  | [] => some []
  | .int i :: r => (intL r).map (i :: ·)
  | _ :: _ => none
theorem intL_map : ∀ l : List Int, intL (l.map .int) = some l
  | [] => rfl
  | i :: l => by simp [intL, intL_map l]
theorem intL_all {K : PySem.W.Frag} {N : Addr → Prop} {H : Hp} : ∀ {vs : List V} {ds : List D} {ns : List Int}, IsAll K N H vs ds → intL ds = some ns → vs = ns.map V.int
  | _, _, _, .nil, e => by cases e; rfl
  | _, d :: ds, ns, .cons i t, e => by
    cases i <;> try (simp [intL] at e; done)
    simp only [intL] at e
    cases q : intL ds with
    | none => rw [q] at e; cases e
    | some cs =>
      rw [q] at e
      cases e
      rw [intL_all t q]
      rfl
structure oSum (ds : List D) (k : D → Prop) : Prop where
  ex : ∃ xs ns, ds = [.lst xs] ∧ intL xs = some ns ∧ k (.int ns.sum)
theorem c_sum {X : Cx} (hc : X.calm = true := by rfl) : CallR X (.builtin "sum") (rC X.K oSum) := by
  rintro pins s σ H vs us Q I rv ⟨r, ds, P, hr, i, ⟨xs, ns, rfl, e, ho⟩, k⟩
  match vs, i with
  | _, .cons (.lst n h a) .nil =>
    have e2 := intL_all a e
    subst e2
    exact cr_sum hc pins s σ H _ us Q I rv ⟨_, _, rfl, SqL.of h, k _ _ H ho (Ext.refl H) (.int _)⟩
structure oPop0 (r : Rs) (a : Addr) (P : D → Rs → Prop) : Prop where
  ex : ∃ pre xs post y, r = pre ++ lstA a (xs ++ [y]) :: post ∧ P y (pre ++ lstA a xs :: post)
def aPop0 (to : AT) : AT := fun x δ r P => to x δ r fun d r1 => ∃ a, d = .adr a ∧ oPop0 r1 a P
theorem d_pop0 {X : Cx} {W : WX} {o : Expr} {to : AT} {apos cpos : Pos} (ho : PD X W o to) (hbase : attributeBase o "pop" X.env (eval o X.env) = eval o X.env := by rfl) (hline : (apos.endLine == cpos.line) = true := by rfl) : PD X W (.Call (.Attribute o "pop" apos) [] [] cpos) (aPop0 to) :=
  imE (pe_bm0 PySem.F.plainAttrs_list PySem.F.slot_list_pop PySem.F.type_list_pop mt_pop ho hbase hline) fun σ H Q q => by
    obtain ⟨XR, δ, r, P, ok, h, k⟩ := q
    refine td_bind ok h fun d r1 v H1 h1 o1 k1 i1 => ?_
    obtain ⟨a, rfl, pre, xs, post, y, rfl, h1⟩ := h1
    cases i1
    obtain ⟨ws, g1, g2⟩ := own_mid o1.r
    obtain ⟨vs, us, rfl, a1, a2⟩ := all_split g2
    obtain ⟨u, rfl, a3⟩ : ∃ u, us = [u] ∧ Is X.K (mem (pre ++ lstA a (xs ++ [y]) :: post)) H1 u y := by
      cases a2 with
      | cons h t => cases t; exact ⟨_, rfl, h⟩
    obtain ⟨q1, q2⟩ := own_put o1.r a1
    refine ⟨.inl ⟨rfl, _, SqL.of g1⟩, a, vs ++ [u], u, rfl, rfl, g1, by simp, ?_⟩
    rw [List.dropLast_concat]
    exact k _ _ _ _ h1 (o1.step q2 q1) (k1.trans q2) (q2 _ _ a3)
def sSetI (te to ti : AT) : AS := fun A δ r => te A.xr δ r fun y r1 => to A.xr δ r1 fun d r2 => ti A.xr δ r2 fun di r3 => ∃ a pre xs post, ∃ (i : Int) (n : Nat), d = .adr a ∧ di = .int i ∧ r3 = pre ++ lstA a xs :: post ∧ ixN xs.length i = some n ∧ A.nx δ (pre ++ lstA a (xs.set n y) :: post)
theorem s_setI {X : Cx} {W : WX} {o : Expr} {to : AT} {i value : Expr} {te ti : AT} {p2 pos : Pos} (he : PD X W value te) (ho : PD X W o to) (hi : PD X W i ti)
    (ha : ∀ v, assign (.Subscript o i p2) X.env v = (do
      let ov ← holding [v] (eval o X.env)
      let iv ← holding [v, ov] (eval i X.env)
      standAt p2
      holding [v, ov, iv] (setItem ov iv v)
      release [v, ov, iv] []) := by intro _; rfl)
    (hs : swapsWithSole [.Subscript o i p2] value pos.line X.env = pure false := by rfl) (hw : swappedStores [.Subscript o i p2] value X.env = pure none := by rfl)
    (h1 : (assignEach [.Subscript o i p2] X.env).map (·.2) = [assign (.Subscript o i p2) X.env] := by rfl) : PSD X W (.Assign [.Subscript o i p2] value pos) (sSetI te to ti) :=
  imS (ps_asg he (pg_sub ho hi set_list ha) hs hw h1) fun Dd σ H ⟨δ, r, A, ok, h, f⟩ => td_bind ok h fun y r1 v H1 h1 o1 k1 i1 => td_bind o1 h1 fun d r2 v2 H2 h2 o2 k2 i2 => td_bind o2 h2 fun di r3 v3 H3 h3 o3 k3 i3 => by
    obtain ⟨a, pre, xs, post, i, n, rfl, rfl, rfl, hn, h3⟩ := h3
    cases i2
    cases i3
    obtain ⟨ws, e1, e2⟩ := own_mid o3.r
    obtain ⟨q1, q2⟩ := own_put o3.r (set_all (k3 _ _ (k2 _ _ i1)) n e2)
    exact ⟨a, ws, i, n, rfl, rfl, e1, by rw [e2.length]; exact hn, f.nx _ _ _ _ h3 (o3.step q2 q1) (((k1.trans k2).trans k3).trans q2)⟩
theorem ixN_last {n : Nat} (h : 0 < n) : ixN n (-1) = some (n - 1) := by
  unfold ixN
  rw [if_neg (by omega), if_pos (by omega)]
  congr 1
  omega
def aListOO (l : AL) : AT := fun x δ r P => l x δ r fun ds r1 => ∃ a xs, ds = [.adr a] ∧ Own r1 a xs ∧ ∀ p, P (.adr p) (r1 ++ [lstA p xs])
theorem d_listOO {X : Cx} {W : WX} {e : Expr} {l : AL} {p pos : Pos} (hg : Gl X "list") (hm : X.mg "list" = none) (ha : PDL X W [e] l) (hv : bootBuiltins "list" = some (.type "list") := by decide +kernel)
    (he : starEach [e] X.env = (false, eval e X.env) :: starEach [] X.env := by rfl) (hpl : (backTo pos (starEach [] X.env)).any (·.1) = false := by rfl) : PD X W (.Call (.Name "list" p) [e] [] pos) (aListOO l) :=
  imE (pe_callTy call_list_of hg hm hv ha (by decide) (by decide) he hpl) fun σ H Q q => by
    obtain ⟨XR, δ, r, P, o, h, k⟩ := q
    refine tdl_bind o h fun ds r1 vs H1 h1 o1 k1 i1 => ?_
    obtain ⟨a, xs, rfl, ow, h1⟩ := h1
    match vs, i1 with
    | _, .cons (.adr _) .nil =>
      obtain ⟨ws, g1, g2⟩ := own_get o1.r ow
      exact ⟨_, _, rfl, .inl (SqL.of g1), fun p hp => let ⟨q1, q2⟩ := rok_new o1.r hp g2; k _ _ _ _ (h1 p) (o1.step q2 q1) (k1.trans q2) (.adr p)⟩
structure aLcNK (x : XT) (g : AG) (tt : AB) (te : AT) (δw : Dl) (ds : List D) (r1 : Rs) (P : PK1) : Prop where
  ex : ∃ I : Nat → List D → Rs → Prop, I 0 [] r1 ∧
  (∀ (p : Addr) i d acc r', ds[i]? = some d → I i acc r' → g d δw fun δ2 => tt x δ2 (r' ++ [lstA p acc]) fun b r2 =>
    (b = true → te x δ2 r2 fun y r3 => small (acc.length + 1) ∧ ∃ r4, le r3 (r4 ++ [lstA p acc]) ∧ I (i + 1) (acc ++ [y]) r4) ∧ (b = false → ∃ r4, le r2 (r4 ++ [lstA p acc]) ∧ I (i + 1) acc r4)) ∧
  ∀ p acc r', I ds.length acc r' → P (.adr p) (r' ++ [lstA p acc])
def aLcN (ti : AI) (g : AG) (tt : AB) (te : AT) (vs : List Nat) : AT := fun x δ r P => ti x δ r fun ds r1 => aLcNK x g tt te (wipeD δ vs) ds r1 P
theorem td_lcN {K : PySem.W.Frag} {W : WX} {ti : AI} {g : AG} {tt : AB} {te : AT} {vs js : List Nat} (hj : ∀ j ∈ js, j ∈ vs) {σ : L2.St} {H : Hp} {Q : VK} (q : TD K W (aLcN ti g tt te vs) σ H Q) : tLc (TDI K W ti) (TDG K js g) (TDB K W tt) (TD K W te) vs σ H Q := by
  obtain ⟨XR, δ, r, P, o, h, k⟩ := q
  refine ⟨XR, δ, r, _, o, h, fun ds r1 J H1 ⟨⟨I, h0, hst, hd⟩⟩ o1 k1 w p hp => ?_⟩
  obtain ⟨s1, s2⟩ := rok_plus o1.r hp
  refine ⟨fun i m H' => m = ds.length - i ∧ i ≤ ds.length ∧ ∃ acc r', I i acc r' ∧ Rok K (r' ++ [lstA p acc]) H' ∧ Kp K r1 H1 (r' ++ [lstA p acc]) H', ⟨ds.length, by simp, Nat.zero_le _, [], r1, h0, s1, s2⟩, ?_⟩
  rintro i m H' ⟨rfl, hi, acc, r', hI, ro, kp⟩
  by_cases hlt : i < ds.length
  · obtain ⟨hgo, hy⟩ := (w i _ H' kp ro).1 hlt
    refine .inr ⟨hgo, fun H2 => ∃ acc r2, I (i + 1) acc r2 ∧ Rok K (r2 ++ [lstA p acc]) H2 ∧ Kp K r1 H1 (r2 ++ [lstA p acc]) H2, fun H2 ⟨acc, r2, q1, q2, q3⟩ => ⟨ds.length - (i + 1), by omega, rfl, hlt, acc, r2, q1, q2, q3⟩, fun x H2 y => ?_⟩
    obtain ⟨ex, d, hd', ix⟩ := hy x H2 y
    have k2 := kp.trans (Kp.ext ex)
    have o2 : Ok K W XR (r' ++ [lstA p acc]) (wipeD δ vs) (wipe σ vs) H2 := (o1.step k2 (ro.ext ex)).wipe vs
    refine ⟨W, XR, wipeD δ vs, _, d, _, o2, ix, hst p i d acc r' hd' hI, fun δ2 σ2 q o3 ag => ⟨wipe_agree ag hj, XR, δ2, _, _, o3, q, fun b r3 H3 q3 o4 k4 => ?_⟩⟩
    cases b with
    | true =>
      show TD K W te σ2 H3 _
      refine td_bind o4 (q3.1 rfl) fun y r5 v H5 ⟨sz, r6, l6, h5⟩ o5 k5 i5 => ?_
      obtain ⟨ws, e1, e2, e3, e4⟩ := rok_more (le_rok l6 o5.r) (is_anti l6.m i5)
      refine ⟨ws, e1, by rw [e2]; exact Nat.lt_of_lt_of_le (Nat.lt_succ_self _) sz.sz, acc ++ [y], r6, h5, e3, fun v' d' z => e4 _ _ (is_anti l6.m (k5 _ _ (k4 _ _ (k2 _ _ z))))⟩
    | false =>
      show ∃ acc r2, _
      obtain ⟨r6, l6, h5⟩ := q3.2 rfl
      exact ⟨acc, r6, h5, le_rok l6 o4.r, fun v' d' z => is_anti l6.m (k4 _ _ (k2 _ _ z))⟩
  · have e : i = ds.length := by omega
    exact .inl ⟨(w i _ H' kp ro).2 e, k _ _ _ H' (hd p acc r' (e ▸ hI)) (o1.step kp ro) (k1.trans kp) (.adr p)⟩
theorem s_setLcN {X : Cx} {W : WX} {i : Nat} {y : Str} {py : Pos} {elt tg iter : Expr} {ifs : List Expr} {scope : Scope} {own : List (Str × Nat)} {pos spos : Pos} {js : List Nat} {wi : AI} {g : AG} {tt : AB} {te : AT} (hN : X.N.Nodup) (hi : PDI X W tg iter wi) (ok : BlkOk X.N X.env.scope scope own)
    (hg : ∀ (s : Shared) (H : Hp) (C : Addr) (cl : List (Str × Addr)) (fp : List Addr), PDG (X.blk s H scope (compEnvC scope cl C X.env) fp) tg js g) (ht : ∀ (s : Shared) (H : Hp) (C : Addr) (cl : List (Str × Addr)) (fp : List Addr), PTs (X.blk s H scope (compEnvC scope cl C X.env) fp) ifs (TDB X.K W tt))
    (he : ∀ (s : Shared) (H : Hp) (C : Addr) (cl : List (Str × Addr)) (fp : List Addr), PD (X.blk s H scope (compEnvC scope cl C X.env) fp) W elt te) (hsw : swapsWith (.ListComp elt [⟨tg, iter, ifs, 0⟩] scope pos) (some (.Name y py)) spos.line X.env = pure true) (hj : ∀ j ∈ js, j ∈ own.map (·.2) := by decide)
    (hc : X.calm = true := by rfl) (hy : X.N[i]? = some y := by rfl) (hyl : X.env.scope.names.lookup y = some .local := by rfl) (hs : ∀ x, foldedSetIterable iter X.env x = pure x := by intro _; rfl) :
    PSD X W (.Assign [.Name y py] (.ListComp elt [⟨tg, iter, ifs, 0⟩] scope pos) spos) (sAsg i (aLcN wi g tt te (own.map (·.2)))) :=
  imS (ps_setLc (g := TDG X.K js g) (tt := TDB X.K W tt) (te := TD X.K W te) hc hN hy hyl hsw hi ok hg ht he hs) fun D σ H ⟨δ, r, A, o, h, f⟩ => td_lcN hj (td_bind o h fun d r1 v H1 h1 o1 k1 i1 => f.nx _ _ _ _ h1 (o1.set i1) k1)
section
variable {x : XT} {g g1 : AG} {te : AT} {ti1 : AI} {vs1 : List Nat} {δw : Dl} {ds : List D} {r1 : Rs} {P : PK1}
theorem lcN_map (f : D → D) (hz : small ds.length) (he : ∀ d ∈ ds, ∀ (r' : Rs) (P' : PK1), P' (f d) r' → g d δw fun δ2 => te x δ2 r' P') (hP : ∀ p, P (.adr p) (r1 ++ [lstA p (ds.map f)])) : aLcNK x g bYes te δw ds r1 P := by
  refine ⟨fun i acc r' => acc = (ds.take i).map f ∧ r' = r1, ⟨rfl, rfl⟩, ?_, ?_⟩
  · rintro p i d acc r' hd ⟨rfl, rfl⟩
    have hi := (List.getElem?_eq_some_iff.mp hd).1
    refine Eq.mp ?_ (he d (List.mem_of_getElem? hd) (r' ++ [lstA p ((ds.take i).map f)]) (fun y r3 => small (((ds.take i).map f).length + 1) ∧ ∃ r4, le r3 (r4 ++ [lstA p ((ds.take i).map f)]) ∧ ((ds.take i).map f ++ [y] = (ds.take (i + 1)).map f ∧ r4 = r')) ?_)
    · congr 1
      funext δ2
      unfold bYes
      simp
    · refine ⟨?_, r', le.refl, ?_, rfl⟩
      · rw [List.length_map, List.length_take]
        have : small ds.length := hz
        unfold small at *
        omega
      · rw [List.take_add_one, hd, List.map_append]
        rfl
  · rintro p acc r' ⟨rfl, rfl⟩
    rw [List.take_length]
    exact hP p
/-- [e for d in ds for e in f(d)] -/
theorem lc2_flat (f : D → List D) (hz : small (ds.flatMap f).length) (he : ∀ d ∈ ds, ∀ Q : Dl → Prop, (∀ δ2, (∀ (r' : Rs) (P' : List D → Rs → Prop), P' (f d) r' → ti1 x δ2 r' P') → (∀ e ∈ f d, ∀ (r' : Rs) (P' : PK1), P' e r' → g1 e (wipeD δ2 vs1) fun δ3 => te x δ3 r' P') → Q δ2) → g d δw Q)
    (hP : P (.lst (ds.flatMap f)) r1) : aLc2K x g ti1 g1 te vs1 δw ds r1 P := by
  have small_of : ∀ {n : Nat}, n ≤ (ds.flatMap f).length → small n := fun h => Nat.le_trans h hz
  refine ⟨fun i acc r' => acc = (ds.take i).flatMap f ∧ r' = r1, ⟨rfl, rfl⟩, ?_, ?_⟩
  · rintro p i d acc r' hd ⟨rfl, rfl⟩
    have hi := (List.getElem?_eq_some_iff.mp hd).1
    have e1 : (ds.take (i + 1)).flatMap f = (ds.take i).flatMap f ++ f d := by
      rw [List.take_add_one, hd, List.flatMap_append]
      simp
    have lt : ((ds.take (i + 1)).flatMap f).length ≤ (ds.flatMap f).length := by
      have e2 := congrArg (fun l => (l.flatMap f).length) (List.take_append_drop (i + 1) ds)
      simp only [List.flatMap_append, List.length_append] at e2
      omega
    refine he d (List.mem_of_getElem? hd) _ fun δ2 h1 h2 => h1 _ _ ⟨fun j acc2 r3 => acc2 = (ds.take i).flatMap f ++ (f d).take j ∧ r3 = r', ⟨r', le.refl, (List.append_nil _).symm, rfl⟩, ?_, ?_⟩
    · rintro j e acc2 r3 hj ⟨rfl, rfl⟩
      have hjl := (List.getElem?_eq_some_iff.mp hj).1
      refine h2 e (List.mem_of_getElem? hj) _ _ ⟨small_of ?_, r3, le.refl, ?_, rfl⟩
      · rw [e1, List.length_append] at lt
        rw [List.length_append, List.length_take]
        omega
      · rw [List.take_add_one, hj, List.append_assoc]
        rfl
    · rintro acc2 r3 ⟨rfl, rfl⟩
      rw [List.take_length]
      exact ⟨e1.symm, rfl⟩
  · rintro acc r' ⟨rfl, rfl⟩
    rw [List.take_length]
    exact hP
end
end G
namespace G
open PySem PySem.Spec L2
open PyProof.Rows (envOfC)
theorem ps_setDc {X : Cx} {i : Nat} {y : Str} {py : Pos} {kx vx tg iter : Expr} {ifs : List Expr} {scope : Scope} {own : List (Str × Nat)} {pos spos : Pos} {wi : TI} {g : TG} {tt : TT} {tk tv : TE} (hc : X.calm = true) (hN : X.N.Nodup) (hy : X.N[i]? = some y) (hyl : X.env.scope.names.lookup y = some .local)
    (hsw : swapsWith (.DictComp kx vx [⟨tg, iter, ifs, 0⟩] scope pos) (some (.Name y py)) spos.line X.env = pure true) (hi : PI X tg iter wi) (ok : BlkOk X.N X.env.scope scope own)
    (hg : ∀ (t : Shared) (H : Hp) (C : Addr) (cl : List (Str × Addr)) (fp : List Addr), PG (X.blk t H scope (compEnvC scope cl C X.env) fp) tg g) (ht : ∀ (t : Shared) (H : Hp) (C : Addr) (cl : List (Str × Addr)) (fp : List Addr), PTs (X.blk t H scope (compEnvC scope cl C X.env) fp) ifs tt)
    (hk : ∀ (t : Shared) (H : Hp) (C : Addr) (cl : List (Str × Addr)) (fp : List Addr), PE (X.blk t H scope (compEnvC scope cl C X.env) fp) kx tk) (he : ∀ (t : Shared) (H : Hp) (C : Addr) (cl : List (Str × Addr)) (fp : List Addr), PE (X.blk t H scope (compEnvC scope cl C X.env) fp) vx tv)
    (hs : ∀ x, foldedSetIterable iter X.env x = pure x := by intro _; rfl) : PS X (.Assign [.Name y py] (.DictComp kx vx [⟨tg, iter, ifs, 0⟩] scope pos) spos) (tAsg (tDc wi g tt tk tv (own.map (·.2))) (gName i)) := by
  refine ⟨fun pins s σ H D I h => ?_⟩
  rw [exec_Assign_Name_used _ _ _ _ hsw]
  refine wpAny_bind (wpAny_standAt (wpAny_bind ?_))
  show wpAny _ X.A (do let _ ← comprehension (.DictComp kx vx [⟨tg, iter, ifs, 0⟩] scope pos) scope X.env (firstIterPos [⟨tg, iter, ifs, 0⟩] pos) newDict false (eval iter X.env) (some (assign (.Name y py) X.env))) _ _ s
  have h : tDc wi g tt tk tv (own.map (·.2)) σ H (fun x H1 => gName i x σ H1 D.nx) := h
  refine wpAny_bind (thn (dc_core (Qf := fun _ s' => SP X pins D .next s') hc hN I hi ok hg ht hk he hs h fun L C s' m H' I' q hn f => ?_) fun _ s' hq => wpAny_pure (wpAny_pure hq))
  show wpAny _ _ (assign (.Name y py) X.env (.ref L)) _ _ _
  refine wpAny_assign_Name (store_ok2 (v := V.ref L) I' hN hy (.inl hyl) rfl (fun s2 I2 ⟨a, sb, ha⟩ => ?_) (.inr hyl))
  obtain ⟨f0, f1, f2, f3, f4, f5⟩ := f
  have neC : C ≠ a := ha.elim (fun z => by rw [z]; exact f1) fun z e => f4 y a z e.symm
  exact ⟨m, hn.sameBut sb neC, fun h3 sb3 => ⟨_, H', I2.turned (t' := s2.toks) (fun b o hb e => (sb3.2 b hb).trans e) f0 f1 f3 f4 f5, q⟩⟩
theorem sw_trueD {kx vx : Expr} {gs : List Comprehension} {scope : Scope} {pos py : Pos} {y : Str} {l : Nat} {env : Env} (hk : env.scope.kind = .function) (hy : env.scope.names.lookup y = some .local) (hl : (py.line == pos.line) = true)
    (ha : (scope.names.any fun (n, k) => n == y && (k == .local || k == .cell)) = false) : swapsWith (.DictComp kx vx gs scope pos) (some (.Name y py)) l env = pure true := by
  have ky : env.kindOf y = some .local := hy
  have hb : env.blockKind = .function := by unfold Env.blockKind; rw [hk]; rfl
  unfold swapsWith
  simp only [hb, ky, ha, Expr.pos, hl]
  rfl
theorem s_setDc {X : Cx} {W : WX} {i : Nat} {y : Str} {py : Pos} {kx vx tg iter : Expr} {ifs : List Expr} {scope : Scope} {own : List (Str × Nat)} {pos spos : Pos} {js : List Nat} {wi : AI} {g : AG} {tt : AB} {tk te : AT} (hN : X.N.Nodup) (hi : PDI X W tg iter wi) (ok : BlkOk X.N X.env.scope scope own)
    (hg : ∀ (s : Shared) (H : Hp) (C : Addr) (cl : List (Str × Addr)) (fp : List Addr), PDG (X.blk s H scope (compEnvC scope cl C X.env) fp) tg js g) (ht : ∀ (s : Shared) (H : Hp) (C : Addr) (cl : List (Str × Addr)) (fp : List Addr), PTs (X.blk s H scope (compEnvC scope cl C X.env) fp) ifs (TDB X.K W tt))
    (hk : ∀ (s : Shared) (H : Hp) (C : Addr) (cl : List (Str × Addr)) (fp : List Addr), PD (X.blk s H scope (compEnvC scope cl C X.env) fp) W kx tk)
    (he : ∀ (s : Shared) (H : Hp) (C : Addr) (cl : List (Str × Addr)) (fp : List Addr), PD (X.blk s H scope (compEnvC scope cl C X.env) fp) W vx te) (hsw : swapsWith (.DictComp kx vx [⟨tg, iter, ifs, 0⟩] scope pos) (some (.Name y py)) spos.line X.env = pure true) (hj : ∀ j ∈ js, j ∈ own.map (·.2) := by decide)
    (hc : X.calm = true := by rfl) (hy : X.N[i]? = some y := by rfl) (hyl : X.env.scope.names.lookup y = some .local := by rfl) (hs : ∀ x, foldedSetIterable iter X.env x = pure x := by intro _; rfl) :
    PSD X W (.Assign [.Name y py] (.DictComp kx vx [⟨tg, iter, ifs, 0⟩] scope pos) spos) (sAsg i (aDc wi g tt tk te (own.map (·.2)))) :=
  imS (ps_setDc (g := TDG X.K js g) (tt := TDB X.K W tt) (tk := TD X.K W tk) (tv := TD X.K W te) hc hN hy hyl hsw hi ok hg ht hk he hs) fun D σ H ⟨δ, r, A, o, h, f⟩ => td_dc hj (td_bind o h fun d r1 v H1 h1 o1 k1 i1 => f.nx _ _ _ _ h1 (o1.set i1) k1)
end G
namespace G
open PySem PySem.Spec L2
open PyProof.Rows (envOfC)
structure oEqO (neg : Bool) (r : Rs) (x y : D) (k : D → Prop) : Prop where
  ex : ∃ l xs, x = .adr l ∧ Own r l xs ∧ deps xs ≤ 63 ∧ dep y ≤ 64 ∧ k (.bl (cond neg (!eqD (.lst xs) y) (eqD (.lst xs) y)))
theorem p_eqO {X : Cx} (hu : X.A.units + 64 < cLine) : OpR X (compareOp .Eq) (rD2 X.K (oEqO false)) := by
  rintro pins s σ H x y v u Q I rx ry ⟨r, d1, d2, P, hr, i1, i2, ⟨l, xs, rfl, ⟨pre, post, rfl⟩, h1, h2, ho⟩, k⟩
  cases i1
  obtain ⟨q1, q2, q3⟩ := own_drop hr
  obtain ⟨a1, b1⟩ := shaped_py q2 (show dep (.lst xs) ≤ 64 by show deps xs + 1 ≤ 64; omega)
  obtain ⟨a2, b2⟩ := shaped_py i2 h2
  exact op_eqD hu pins s σ H _ _ v u Q I rx ry ⟨_, _, a1, a2, b1, b2, k _ _ H ho (Ext.refl H) (.bl _)⟩
end G
namespace G
open PySem PySem.Spec L2
open PyProof.Rows (envOfC)
end G
namespace G
open PySem PySem.Spec L2
open PyProof.Rows (envOfC)
end G
namespace Q
open PySem PySem.Spec L2 G
open PyProof.Rows (envOfC)
def top (i : Nat) : Stmt := PySem.Challenge.pw_quietprobes_k27_blocks_that_do_not_match.main.body.getD i (.Pass ⟨0, 0, 0, 0⟩)
abbrev s__wall : Stmt := top 0
abbrev s_BadName___init__ : Stmt := inClass (top 3) 0
abbrev s_BadRow___init__ : Stmt := inClass (top 4) 0
abbrev s_BadPlace___init__ : Stmt := inClass (top 5) 0
abbrev s_BadText___init__ : Stmt := inClass (top 6) 0
abbrev s_NoThing___init__ : Stmt := inClass (top 7) 0
abbrev s_NoKey___init__ : Stmt := inClass (top 8) 0
abbrev s_NoPart___init__ : Stmt := inClass (top 9) 0
abbrev s_NoRow___init__ : Stmt := inClass (top 10) 0
abbrev s_NoProbe___init__ : Stmt := inClass (top 11) 0
abbrev s_Twice___init__ : Stmt := inClass (top 12) 0
abbrev s_Unmatched___init__ : Stmt := inClass (top 13) 0
abbrev s_TooMany___init__ : Stmt := inClass (top 14) 0
abbrev s_is_name : Stmt := top 20
abbrev s_need_names : Stmt := top 21
abbrev s_need_unlike : Stmt := top 22
abbrev s_Thing___init__ : Stmt := inClass (top 23) 1
abbrev s_Thing___eq__ : Stmt := inClass (top 23) 2
abbrev s_Thing___str__ : Stmt := inClass (top 23) 3
abbrev s_Thing_feed : Stmt := inClass (top 23) 4
abbrev s_Thing_dice : Stmt := inClass (top 23) 5
abbrev s_Thing_source : Stmt := inClass (top 23) 6
abbrev s_Thing_flag : Stmt := inClass (top 23) 7
abbrev s_Thing_slot : Stmt := inClass (top 23) 8
abbrev s_Thing_field : Stmt := inClass (top 23) 9
abbrev s_Thing_table : Stmt := inClass (top 23) 10
abbrev s_need_things : Stmt := top 24
abbrev s_read_thing : Stmt := top 25
abbrev s_look_codes : Stmt := top 33
abbrev s_row_codes : Stmt := top 34
abbrev s_branch_codes : Stmt := top 35
abbrev s_is_integer : Stmt := top 36
abbrev s_head : Stmt := top 37
abbrev s_suits : Stmt := top 38
abbrev s_fits : Stmt := top 39
abbrev s_need_known : Stmt := top 40
abbrev s_is_look : Stmt := top 45
abbrev s_is_looks : Stmt := top 46
abbrev s_is_watcher : Stmt := top 47
abbrev s_is_row : Stmt := top 48
abbrev s_is_probe : Stmt := top 49
abbrev s_named : Stmt := top 50
abbrev s_looks_text : Stmt := top 51
abbrev s_row_text : Stmt := top 52
abbrev s_read_looks : Stmt := top 53
abbrev s_read_watcher : Stmt := top 54
abbrev s_read_row : Stmt := top 55
abbrev s_need_row : Stmt := top 60
abbrev s_opened_behind : Stmt := top 61
abbrev s_need_parts : Stmt := top 62
abbrev s_jumps_of : Stmt := top 63
abbrev s_read_part : Stmt := top 65
abbrev s_Program___init__ : Stmt := inClass (top 66) 0
abbrev s_Program___len__ : Stmt := inClass (top 66) 1
abbrev s_Program___iter__ : Stmt := inClass (top 66) 2
abbrev s_Program___getitem__ : Stmt := inClass (top 66) 3
abbrev s_Program___contains__ : Stmt := inClass (top 66) 4
abbrev s_Program___eq__ : Stmt := inClass (top 66) 5
abbrev s_Program___sub__ : Stmt := inClass (top 66) 6
abbrev s_Program___str__ : Stmt := inClass (top 66) 7
abbrev s_Program_is_number : Stmt := inClass (top 66) 8
abbrev s_Program_part_at : Stmt := inClass (top 66) 9
abbrev s_Program_part_named : Stmt := inClass (top 66) 10
abbrev s_Program_row_of : Stmt := inClass (top 66) 11
abbrev s_Program_part_of : Stmt := inClass (top 66) 12
abbrev s_Program_focused : Stmt := inClass (top 66) 13
abbrev s_Program_moved : Stmt := inClass (top 66) 14
abbrev s_Program_first_place : Stmt := inClass (top 66) 15
abbrev s_Program_is_place : Stmt := inClass (top 66) 16
abbrev s_Program_behind : Stmt := inClass (top 66) 17
abbrev s_Program_read : Stmt := inClass (top 66) 18
abbrev s__law_all_rows : Stmt := top 68
abbrev s__law_draw : Stmt := top 69
abbrev s__law_word : Stmt := top 70
abbrev s__law_pool : Stmt := top 71
abbrev s__law_names : Stmt := top 72
abbrev s__law_same : Stmt := top 73
abbrev s__law_try : Stmt := top 74
abbrev s__law_due : Stmt := top 75
abbrev s__law_rows_of : Stmt := top 76
abbrev s_law : Stmt := top 77
section
variable {P : Program} {w : World} {K : PySem.W.Frag} {mg : Str → Option Value} {base : Heap}
abbrev N__law_draw : List Str := ["_law_pool_here", "_law_many", "_law_cell", "_law_code", "_law_digit", "_law_far", "_law_mixed"]
theorem sc__law_draw : FnScope N__law_draw ["_law_pool_here", "_law_many"] (defScope s__law_draw) := ⟨rfl, rfl, rfl, by decide +kernel, rfl, by decide +kernel, by decide +kernel⟩
theorem emod_lt' {a m : Int} (h : 0 < m) : 0 ≤ a % m ∧ a % m < m := ⟨Int.emod_nonneg a (by omega), Int.emod_lt_of_pos a h⟩
theorem c__law_draw (B : Bl mg) (Dx : Dfn K mg "_law_draw" s__law_draw ["_law_pool_here", "_law_many"]) : Cl P w K mg base 1 "_law_draw" ["_law_pool_here", "_law_many"] spDraw := by
  obtain ⟨f, fd, F, g, b⟩ := Dx
  refine cl_cx0 (f := f) (fd := fd) ?_ g F.kp b
  have sc := sc__law_draw
  refine F.ok sc (fun vs H Q E h => ?_) (fun cdv A outer s H vs Q E hr h => ?_)
  · obtain ⟨r, ds, P', XR, ro, hi, ⟨p, a, m, N, X, rfl, _⟩, _, _⟩ := h
    exact hi.length
  · obtain ⟨r, ds, P', XR, ro, hi, ⟨p, a, m, N, X, rfl, rfl, ⟨hm, hm2⟩, hN, hP⟩, hQ, _⟩ := h
    obtain ⟨rfl⟩ : vs = [.ref p, .int m] := by
      match vs, hi with
      | [_, _], .cons (.adr _) (.cons (.int _) .nil) => rfl
    have fin : ∀ (k : Int) (H' : Hp), 0 ≤ k → k < m → (∀ b o, b ≠ p → b ≠ a → H b = some o → H' b = some o) → (poolA p a (N + 1)).R K (mem (poolA p a (N + 1) :: X)) H' → Q (.int k) H' := fun k H' h0 h1 hk ht =>
      let ⟨q1, q2⟩ := pool_step ro hk ht
      hQ _ _ _ _ (hP k h0 h1) q1 q2 (.int k)
    obtain ⟨⟨ne, ns, c1, c2, c3, h1, h2, g1, g2, g2', g3, g3', gn⟩, _, _⟩ := ro
    have ix : ∀ {X : Cx} {a b : Expr} {ta tb : TE} {pos : Pos}, PE X a ta → PE X b tb → PlainIx b → PE X (.Subscript a b pos) (tOp (rIxL X.K) ta tb) := fun ha hb hs => pe_ix ix_list ha hb hs
    refine ⟨_, pss_cons (ps_augS (pv 0) pe_int pget_list pe_int ip_add set_list)
      (Evl.pss_cut (ps_if (PW.pt (pw_and (pt_cmpR op_eq (ix (pv 0) pe_int (fun _ _ => rfl)) pe_int (nomark _)) (pw_and1 (pt_truth (ix (pv 0) pe_int (fun _ _ => rfl)) (by intro _; rfl)))))
        (pss_cons (ps_set (i := 2) sc.nd rfl (.inl rfl) (pe_callTy call_int1 (by rfl) B.int (by decide +kernel) (pa_cons (pe_bm PySem.F.plainAttrs_list PySem.F.slot_list_pop PySem.F.type_list_pop mt_popAt (ix (pv 0) pe_int (fun _ _ => rfl)) (pa_cons pe_int pa_nil)) pa_nil)))
        (pss_cons (ps_set (i := 3) sc.nd rfl (.inl rfl) (pe_ifExp (pt_cmpR op_ge (pv 2) pe_int (nomark _)) (pe_op op_mul pe_int (pv 2)) (pe_op op_sub (pe_un un_neg pe_int) (pe_op op_mul pe_int (pv 2)))))
        (pss_one (ps_if (pt_cmpR op_ge (pv 3) (pe_op op_pow pe_int pe_int) (nomark _))
          (pss_one (ps_asg (pv 3) (pg_sub (pv 0) pe_int set_list)))
          (pss_one (ps_asg (pe_op op_mod (pe_callTy call_int1 (by rfl) B.int (by decide +kernel) (pa_cons (pe_op op_add (pe_op op_add (pe_op op_mul (ix (pv 0) pe_int (fun _ _ => rfl)) pe_int) (pe_op op_mul (pv 3) pe_int)) pe_int) pa_nil)) pe_int) (pg_sub (pv 0) pe_int set_list)))))))
        pss_nil)
      (pss_cons (ps_if (pt_cmpR op_gt (ix (pv 0) pe_int (fun _ _ => rfl)) pe_int (nomark _))
        (pss_cons (ps_set (i := 4) sc.nd rfl (.inl rfl) (pe_op op_mod (pe_callTy call_int1 (by rfl) B.int (by decide +kernel) (pa_cons (ix (pv 0) pe_int (fun _ _ => rfl)) pa_nil)) (pv 1)))
        (pss_cons (ps_asg (pe_op op_fdivW (ix (pv 0) pe_int (fun _ _ => rfl)) (pv 1)) (pg_sub (pv 0) pe_int set_list))
        (pss_one (ps_ret (pv 4))))) pss_nil)
      (pss_cons (ps_if (pt_cmpR op_eq (ix (pv 0) pe_int (fun _ _ => rfl)) pe_int (nomark _)) (pss_one (ps_ret pe_int)) pss_nil)
      (pss_cons (ps_set (i := 5) sc.nd rfl (.inl rfl) (pe_op op_add (pe_op op_mul (ix (pv 0) pe_int (fun _ _ => rfl)) pe_int) (pe_op op_mul (pe_op op_mul (ix (pv 0) pe_int (fun _ _ => rfl)) (ix (pv 0) pe_int (fun _ _ => rfl))) pe_int)))
      (pss_cons (ps_set (i := 6) sc.nd rfl (.inl rfl) (pe_op op_mod (pe_callTy call_int1 (by rfl) B.int (by decide +kernel) (pa_cons (pe_op op_add (pe_op op_mul (ix (pv 0) pe_int (fun _ _ => rfl)) pe_int) (pv 5)) pa_nil)) pe_int))
      (pss_one (ps_ret (pe_op op_mod (pe_op op_mod (pe_callTy call_int1 (by rfl) B.int (by decide +kernel) (pa_cons (pe_op op_fdivW (pe_op op_mul (pv 6) pe_int) pe_int) pa_nil)) pe_int) (pv 1))))))))), ?_⟩
    -- _law_pool_here[2] += 1
    refine ⟨_, rfl, p, _, 2, .int c2, rfl, rfl, by decide, SqL.of h1, rfl, c2, 1, rfl, rfl, p, _, 2, 2, rfl, rfl, h1, rfl, ?_⟩
    let c2' := c2 + 1
    have k1 : (upd H p (.lst ([V.ref a, .int c1, .int c2, .int c3].set 2 (.int (c2 + 1))))) p = some (.lst [.ref a, .int c1, .int (c2 + 1), .int c3]) := upd_same
    have k2 : (upd H p (.lst ([V.ref a, .int c1, .int c2, .int c3].set 2 (.int (c2 + 1))))) a = some (.lst (ns.map V.int)) := by rw [upd_ne (Ne.symm ne)]; exact h2
    have k3 : ∀ b o, b ≠ p → b ≠ a → H b = some o → (upd H p (.lst ([V.ref a, .int c1, .int c2, .int c3].set 2 (.int (c2 + 1))))) b = some o := fun b o n1 _ e => by rw [upd_ne n1]; exact e
    generalize upd H p (.lst ([V.ref a, .int c1, .int c2, .int c3].set 2 (.int (c2 + 1)))) = H1 at k1 k2 k3
    refine ⟨fun σ' H' => ∃ (x y : Option V) (ns' : List Int) (d1 d3 : Int), σ' = [some (.ref p), some (.int m), x, y, none, none, none] ∧ H' p = some (.lst [.ref a, .int d1, .int (c2 + 1), .int d3]) ∧ H' a = some (.lst (ns'.map V.int)) ∧ 0 ≤ d1 ∧ 0 ≤ d3 ∧ d3 < 2147483629 ∧ ns'.length ≤ 63 ∧
      ∀ b o, b ≠ p → b ≠ a → H b = some o → H' b = some o, ?_, ?_⟩
    · -- the pool takes one more of the script
      refine ⟨_, rfl, p, _, 1, .int c1, rfl, rfl, SqL.of k1, rfl, rfl, _, rfl, ?_⟩
      refine ite2 (fun hc => ?_) (fun hc => ?_)
      · refine ⟨_, rfl, p, _, 0, .ref a, rfl, rfl, SqL.of k1, rfl, _, .inl ⟨_, SqL.of k2, rfl⟩, ?_⟩
        refine ite2 (fun he => ?_) (fun he => ?_)
        · cases ns with
          | nil => cases he
          | cons n0 ns =>
            refine ⟨_, rfl, p, _, 0, .ref a, rfl, rfl, SqL.of k1, rfl, .inl ⟨rfl, _, SqL.of k2⟩, a, _, 0, 0, .int n0, rfl, rfl, k2, by decide, by decide, PySem.StrLaws.seqIndex_nonneg (Int.le_refl 0) (by rw [List.length_map, List.length_cons]; omega), rfl, .inl ⟨n0, rfl, ?_⟩⟩
            have k1' : (upd H1 a (.lst ((List.map V.int (n0 :: ns)).eraseIdx 0))) p = some (.lst [.ref a, .int c1, .int (c2 + 1), .int c3]) := by rw [upd_ne ne]; exact k1
            have k2' : (upd H1 a (.lst ((List.map V.int (n0 :: ns)).eraseIdx 0))) a = some (.lst (ns.map V.int)) := upd_same
            have k3' : ∀ b o, b ≠ p → b ≠ a → H b = some o → (upd H1 a (.lst ((List.map V.int (n0 :: ns)).eraseIdx 0))) b = some o := fun b o n1 n2 e => by rw [upd_ne n2]; exact k3 b o n1 n2 e
            generalize upd H1 a (.lst ((List.map V.int (n0 :: ns)).eraseIdx 0)) = H2 at k1' k2' k3'
            have gl : ns.length ≤ 63 := Nat.le_trans (Nat.le_succ _) gn
            -- code
            refine ⟨_, rfl, _, _, rfl, rfl, _, rfl, ?_⟩
            refine ite2 (fun h => ?_) (fun h => ?_)
            refine ⟨_, rfl, 2, n0, rfl, rfl, .inl ⟨by decide, by decide⟩, ?_⟩
            have hcd : 0 ≤ 2 * n0 := by
              have := of_decide_eq_true h
              omega
            show gName 3 (.int (2 * n0)) _ _ _
            generalize 2 * n0 = cd at hcd ⊢
            rotate_left
            refine ⟨1, rfl, _, rfl, 2, n0, rfl, rfl, .inl ⟨by decide, by decide⟩, -1, 2 * n0, rfl, rfl, ?_⟩
            have hcd : 0 ≤ -1 - 2 * n0 := by
              have : ¬ (0 ≤ n0) := fun z => h (decide_eq_true z)
              omega
            show gName 3 (.int (-1 - 2 * n0)) _ _ _
            generalize -1 - 2 * n0 = cd at hcd ⊢
            all_goals
              refine ⟨_, rfl, 10, 18, rfl, rfl, ⟨by decide, by decide, by decide⟩, _, _, rfl, rfl, _, rfl, ?_⟩
              refine ite2 (fun h => ?_) (fun h => ?_)
              · refine ⟨_, rfl, _, rfl, p, _, 1, 1, rfl, rfl, k1', rfl, ?_⟩
                exact ⟨_, _, ns, cd, c3, rfl, upd_same, by rw [upd_ne (Ne.symm ne)]; exact k2', hcd, g3, g3', gl, fun b o n1 n2 e => by rw [upd_ne n1]; exact k3' b o n1 n2 e⟩
              · refine ⟨_, rfl, p, _, 3, .int c3, rfl, rfl, SqL.of k1', rfl, c3, 48271, rfl, rfl, .inr ⟨by decide, by decide⟩, _, rfl, cd, 69621, rfl, rfl, .inr ⟨by decide, by decide⟩, _, _, rfl, rfl, _, _, rfl, rfl, .inl ⟨_, rfl, _, _, rfl, rfl, (by decide : (0 : Int) < 2147483629), ?_⟩⟩
                refine ⟨_, rfl, p, _, 3, 3, rfl, rfl, k1', rfl, ?_⟩
                exact ⟨_, _, ns, c1, _, rfl, upd_same, by rw [upd_ne (Ne.symm ne)]; exact k2', g1, (emod_lt' (by decide)).1, (emod_lt' (by decide)).2, gl, fun b o n1 n2 e => by rw [upd_ne n1]; exact k3' b o n1 n2 e⟩
        · exact ⟨_, _, ns, c1, c3, rfl, k1, k2, g1, g3, g3', gn, k3⟩
      · exact ⟨_, _, ns, c1, c3, rfl, k1, k2, g1, g3, g3', gn, k3⟩
    · -- the digit
      rintro σ' H' ⟨x, y, ns', d1, d3, rfl, k1, k2, e1, e3, e3', en, k3⟩
      have ok : ∀ d, 0 ≤ d → ∀ H'', H'' p = some (.lst [.ref a, .int d, .int (c2 + 1), .int d3]) → H'' a = some (.lst (ns'.map V.int)) → (poolA p a (N + 1)).R K (mem (poolA p a (N + 1) :: X)) H'' := fun d hd H'' q1 q2 => ⟨ne, ns', d, c2 + 1, d3, q1, q2, hd, by omega, by omega, e3, e3', en⟩
      refine ⟨_, rfl, p, _, 1, .int d1, rfl, rfl, SqL.of k1, rfl, _, _, rfl, rfl, _, rfl, ?_⟩
      refine ite2 (fun h => ?_) (fun h => ?_)
      · have hd : 0 < d1 := of_decide_eq_true h
        refine ⟨_, rfl, p, _, 1, .int d1, rfl, rfl, SqL.of k1, rfl, .inl ⟨_, rfl, _, rfl, _, _, rfl, rfl, hm, ?_⟩⟩
        refine ⟨_, rfl, p, _, 1, .int d1, rfl, rfl, SqL.of k1, rfl, _, rfl, d1, m, rfl, rfl, wide_div hm (b := 200) (by omega) (by decide) (by decide), ?_⟩
        refine ⟨_, rfl, p, _, 1, 1, rfl, rfl, k1, rfl, ?_⟩
        refine ⟨_, rfl, fin _ _ (emod_lt' hm).1 (emod_lt' hm).2 (fun b o n1 n2 e => by rw [upd_ne n1]; exact k3 b o n1 n2 e) (ok (d1 / m) (Int.ediv_nonneg (by omega) (by omega)) _ upd_same (by rw [upd_ne (Ne.symm ne)]; exact k2))⟩
      · refine ⟨_, rfl, p, _, 3, .int d3, rfl, rfl, SqL.of k1, rfl, rfl, _, rfl, ?_⟩
        refine ite2 (fun h => ?_) (fun h => ?_)
        · exact fin 0 _ (Int.le_refl _) hm k3 (ok d1 e1 _ k1 k2)
        · have b2 : CMul (c2 + 1) (c2 + 1) := .inl ⟨by omega, by omega⟩
          refine ⟨_, rfl, p, _, 2, .int (c2 + 1), rfl, rfl, SqL.of k1, rfl, _, 40692, rfl, rfl, .inr ⟨by decide, by decide⟩, _, rfl, p, _, 2, .int (c2 + 1), rfl, rfl, SqL.of k1, rfl, _, rfl, p, _, 2, .int (c2 + 1), rfl, rfl, SqL.of k1, rfl, _, _, rfl, rfl, b2, _, 3, rfl, rfl, .inr ⟨by decide, by decide⟩, _, _, rfl, rfl, ?_⟩
          refine ⟨_, rfl, p, _, 3, .int d3, rfl, rfl, SqL.of k1, rfl, _, 16807, rfl, rfl, .inr ⟨by decide, by decide⟩, _, rfl, _, _, rfl, rfl, .inl ⟨_, rfl, _, _, rfl, rfl, (by decide : (0 : Int) < 2147483647), ?_⟩⟩
          refine ⟨_, rfl, _, 48271, rfl, rfl, .inr ⟨by decide, by decide⟩, _, 7, rfl, rfl, wide_div (by decide) (b := 10) (by decide) (by decide) (by decide), .inl ⟨_, rfl, _, _, rfl, rfl, (by decide : (0 : Int) < 2147483629), _, rfl, _, _, rfl, rfl, hm, ?_⟩⟩
          exact fin _ _ (emod_lt' hm).1 (emod_lt' hm).2 k3 (ok d1 e1 _ k1 k2)
abbrev N__law_pool : List Str := ["_law_script"]
theorem sc__law_pool : FnScope N__law_pool ["_law_script"] (defScope s__law_pool) := ⟨rfl, rfl, rfl, by decide +kernel, rfl, by decide +kernel, by decide +kernel⟩
theorem cut_map {α : Type} (f : α → V) (xs : List α) (lo hi : Option Int) : ∃ ys : List α, cutV (xs.map f) lo hi = ys.map f ∧ ys.length ≤ xs.length := by
  unfold cutV
  refine ⟨(xs.drop (HT.sIx (xs.map f).length 0 lo)).take (HT.sIx (xs.map f).length (xs.map f).length hi - HT.sIx (xs.map f).length 0 lo), by rw [List.map_take, List.map_drop], ?_⟩
  rw [List.length_take, List.length_drop]
  omega
theorem c__law_pool (B : Bl mg) (Dx : Dfn K mg "_law_pool" s__law_pool ["_law_script"]) : ∃ f fd, FnOk P w K mg base CX0 1 f fd ["_law_script"] (spPool K) ∧ mg "_law_pool" = some (.ref f) ∧ PySem.W.keepIn K (.ref f) = true ∧ Binds K fd ["_law_script"] [] := by
  obtain ⟨f, fd, F, g, b⟩ := Dx
  refine ⟨f, fd, ?_, g, F.kp, b⟩
  have sc := sc__law_pool
  refine F.ok sc (fun vs H Q E h => ?_) (fun cdv A outer s H vs Q E hr h => ?_)
  · obtain ⟨a, ns, rfl, _⟩ := h
    rfl
  · obtain ⟨a, ns, rfl, hS, hl, hQ⟩ := h
    refine ⟨_, pss_one (ps_ret (pe_lst (pa_cons (pe_callTy call_list_of (by rfl) B.list (by decide +kernel) (pa_cons (pe_slice sl_list (pv 0) po_none (po_some pe_int)) pa_nil)) (pa_cons pe_int (pa_cons pe_int (pa_cons pe_int pa_nil)))))), ?_⟩
    obtain ⟨ms, e, hm⟩ := cut_map V.int ns none (some 63)
    refine ⟨_, rfl, _, rfl, a, _, rfl, hS, fun q hq => ?_⟩
    rw [e]
    refine ⟨q, _, rfl, .inl (SqL.of upd_same), fun l hl2 => ⟨(by decide : 4 ≤ sizeLine), fun p hp => ?_⟩⟩
    have hlp : l ≠ p := ne_of_none (H := upd (upd H q (.lst (ms.map V.int))) l (.lst (ms.map V.int))) upd_same hp
    refine hQ p l _ ⟨⟨Ne.symm hlp, ms, 0, 0, 0, upd_same, ?_, by decide, by decide, by decide, by decide, by decide, by omega⟩, fun _ _ z => z, True.intro⟩
    rw [upd_ne hlp, upd_same]
abbrev N__law_word : List Str := ["_law_pool_here", "_law_letters", "_law_k"]
theorem sc__law_word : FnScope N__law_word ["_law_pool_here"] (defScope s__law_word) := ⟨rfl, rfl, rfl, by decide +kernel, rfl, by decide +kernel, by decide +kernel⟩
theorem c__law_word (B : Bl mg) (C__law_draw : Cl P w K mg base 1 "_law_draw" ["_law_pool_here", "_law_many"] spDraw) (Dx : Dfn K mg "_law_word" s__law_word ["_law_pool_here"]) : Cl P w K mg base 2 "_law_word" ["_law_pool_here"] spWord := by
  have sc := sc__law_word
  refine cl_of Dx sc (fun ds r P' XR ⟨p, a, N, X, e, _⟩ => by rw [e]; rfl) (fun f cdv A outer s H E hr tk po => ⟨_, (ss_cons (s_set (i := 1) sc.nd d_str)
  (ss_one (s_ret (d_join d_str (d_lc (js := [2]) (own := [("_law_k", 2)]) sc.nd (i_r1 (by rfl) B.range (dl_cons (d_bin p_add d_int (d_fn C__law_draw tk hr (dl_cons (dv 0) (dl_cons d_int dl_nil)))) dl_nil)) (blkOk_by (own := [("_law_k", 2)]) (N := N__law_word) (sc := defScope s__law_word) (by decide +kernel)) (fun _ _ _ _ _ => (g_name (i := 2) sc.nd)) (fun _ _ _ _ _ => pts_no) (fun _ _ _ _ _ => (d_ix (dv 1) (d_fnN C__law_draw hr (dl_cons (dv 0) (dl_cons d_int dl_nil)))))))))), fun ds r P' XR h => ?_⟩)
  obtain ⟨p, a, N, X, rfl, rfl, hN, hP⟩ := h
  refine ⟨p, a, 8, N, X, rfl, rfl, ⟨by decide, by decide⟩, by omega, fun k h0 h1 => ⟨⟨by omega, by omega⟩, ?_⟩⟩
  refine ⟨fun i acc r' => ∃ cs : List Nat, acc = cs.map (fun c => D.str (sg c)) ∧ cs.length = i ∧ (∀ c ∈ cs, isLet c = true) ∧ r' = poolA p a (N + 1 + i) :: X, ⟨[], rfl, rfl, fun _ h => (by cases h), rfl⟩, ?_, ?_⟩
  · rintro q i d acc r' hd ⟨cs, rfl, hc, hl, rfl⟩
    have hi : i < 8 := by
      have := (List.getElem?_eq_some_iff.mp hd).1
      rw [List.length_map, List.length_range] at this
      omega
    refine brT ?_
    refine ⟨p, a, 26, N + 1 + i, X ++ [lstA q _], rfl, rfl, ⟨by decide, by decide⟩, by omega, fun j j0 j1 => ?_⟩
    obtain ⟨c, hat, hc2⟩ := abc_at j0 j1
    refine ix_s hat ⟨?_, poolA p a (N + 1 + i + 1) :: X, le.refl, cs ++ [c], by rw [List.map_append]; rfl, by rw [List.length_append, hc]; rfl, fun x hx => (List.mem_append.mp hx).elim (hl x) fun h => (List.mem_singleton.mp h) ▸ hc2, rfl⟩
    rw [List.length_map, hc]
    unfold small
    omega
  · rintro acc r' ⟨cs, rfl, hc, hl, rfl⟩
    rw [List.length_map, List.length_range] at hc
    have e8 : cs.length ≤ 8 := by omega
    have e1 : 1 ≤ cs.length := by omega
    refine join_l (strL_sg cs) ?_ ⟨poolA p a (N + 9) :: X, pool_mono (by rw [List.length_map, List.length_range]; omega), hP _ (nm_signs e1 e8 hl)⟩
    rw [sum_ones, List.length_map]
    show cs.length + cs.length * 0 ≤ 1000000
    omega
abbrev N__law_same : List Str := ["_law_actual", "_law_due_here", "_law_k"]
theorem sc__law_same : FnScope N__law_same ["_law_actual", "_law_due_here"] (defScope s__law_same) := ⟨rfl, rfl, rfl, by decide +kernel, rfl, by decide +kernel, by decide +kernel⟩
theorem c__law_same (B : Bl mg) (Dx : Dfn K mg "_law_same" s__law_same ["_law_actual", "_law_due_here"]) : ∀ n : Nat, Cl P w K mg base n "_law_same" ["_law_actual", "_law_due_here"] (spSame n)
  | 0 => cl_never Dx fun ds r P' XR ⟨a, b, _, _, _, _, z, _⟩ => by omega
  | n + 1 => by
    have sc := sc__law_same
    have C__law_same := c__law_same B Dx n
    refine cl_of Dx sc (fun ds r P' XR ⟨a, b, e, _⟩ => by rw [e]; rfl) (fun f cdv A outer s H E hr tk po => ?_)
    have hu := hr.units
    refine ⟨_, (ss_cons (s_if (b_cmp p_is (dv 1) d_non)
  (ss_one (s_ret (d_cmp p_is (dv 0) d_non)))
  ss_nil)
  (ss_cons (s_if (b_w (w_or (b_tru (d_isi .bool (by rfl) B.isi (dv 1) (by rfl) B.bool)) (w_or1 (b_tru (d_isi .str (by rfl) B.isi (dv 1) (by rfl) B.str)))))
  (ss_cons (s_if (b_w (w_or (b_cmp (p_ne hu) (d_isi .bool (by rfl) B.isi (dv 0) (by rfl) B.bool) (d_isi .bool (by rfl) B.isi (dv 1) (by rfl) B.bool)) (w_or1 (b_cmp (p_ne hu) (d_isi .str (by rfl) B.isi (dv 0) (by rfl) B.str) (d_isi .str (by rfl) B.isi (dv 1) (by rfl) B.str)))))
  (ss_one (s_ret d_bl))
  ss_nil)
  (ss_one (s_ret (d_cmp (p_eq hu) (dv 0) (dv 1)))))
  ss_nil)
  (ss_cons (s_if (b_tru (d_isi .int (by rfl) B.isi (dv 1) (by rfl) B.int))
  (ss_one (s_ret (d_and (d_isi .int (by rfl) B.isi (dv 0) (by rfl) B.int) (d_and (d_not (d_isi .bool (by rfl) B.isi (dv 0) (by rfl) B.bool)) (d_one (d_cmp (p_eq hu) (dv 0) (dv 1)))))))
  ss_nil)
  (ss_cons (s_if (b_w (w_and (b_tru (d_isi .list (by rfl) B.isi (dv 1) (by rfl) B.list)) (w_and1 (b_not (b_tru (d_isi .list (by rfl) B.isi (dv 0) (by rfl) B.list))))))
  (ss_one (s_ret d_bl))
  ss_nil)
  (ss_cons (s_if (b_w (w_and (b_tru (d_isi .tuple (by rfl) B.isi (dv 1) (by rfl) B.tuple)) (w_and1 (b_not (b_tru (d_isi .tuple (by rfl) B.isi (dv 0) (by rfl) B.tuple))))))
  (ss_one (s_ret d_bl))
  ss_nil)
  (ss_cons (s_if (b_cmp (p_ne hu) (d_blt c_len (by rfl) B.len (dl_cons (dv 0) dl_nil)) (d_blt c_len (by rfl) B.len (dl_cons (dv 1) dl_nil)))
  (ss_one (s_ret d_bl))
  ss_nil)
  (ss_cons (s_for (i_r1 (by rfl) B.range (dl_cons (d_blt c_len (by rfl) B.len (dl_cons (dv 1) dl_nil)) dl_nil)) (g_name (i := 2) sc.nd)
  (ss_one (s_if (b_not (b_tru (d_fn C__law_same tk hr (dl_cons (d_ix (dv 0) (dv 2)) (dl_cons (d_ix (dv 1) (dv 2)) dl_nil)))))
  (ss_one (s_ret d_bl))
  ss_nil)) po)
  (ss_one (s_ret d_bl))))))))), fun ds r P' XR h => ?_⟩
    obtain ⟨a, b, rfl, pa, pb, da, db, h⟩ := h
    replace h := fit.of h
    cases b with
    | adr x => cases pb
    | ins _ _ _ => cases pb
    | dct _ _ => cases pb
    | non =>
      refine brT ?_
      cases a <;> exact h
    | bl x =>
      refine brF (brT (brT ?_))
      cases a <;> first | (cases pa; done) | skip
      case bl y => cases x <;> cases y <;> exact ⟨Nat.zero_le _, Nat.zero_le _, brF ⟨Nat.zero_le _, Nat.zero_le _, brF ⟨Nat.zero_le _, Nat.zero_le _, h⟩⟩⟩
      all_goals exact ⟨Nat.zero_le _, Nat.zero_le _, brT (brT h)⟩
    | str x =>
      refine brF (brF (brT ?_))
      cases a <;> first | (cases pa; done) | skip
      case str y => exact ⟨Nat.zero_le _, Nat.zero_le _, brF ⟨Nat.zero_le _, Nat.zero_le _, brF ⟨Nat.zero_le _, Nat.zero_le _, h⟩⟩⟩
      case bl y => exact ⟨Nat.zero_le _, Nat.zero_le _, brT (brT h)⟩
      all_goals exact ⟨Nat.zero_le _, Nat.zero_le _, brF ⟨Nat.zero_le _, Nat.zero_le _, brT h⟩⟩
    | int x =>
      refine brF (brF (brF (brT ?_)))
      cases a <;> first | (cases pa; done) | skip
      case int y => exact brT (brT ⟨Nat.zero_le _, Nat.zero_le _, h⟩)
      case bl y => exact brT (brF h)
      all_goals exact brF h
    | lst ys =>
      refine brF (brF (brF (brF (brT ?_))))
      cases a <;> first | (cases pa; done) | skip
      case lst xs =>
        refine brF (brF (brF ?_))
        refine fun ly lx => ⟨Nat.zero_le _, Nat.zero_le _, ?_⟩
        by_cases hl : xs.length = ys.length
        rotate_left
        · refine brt (ne_len hl) ?_
          have : sames xs ys = false := by
            cases q : sames xs ys with
            | false => rfl
            | true => exact absurd (sames_len q) hl
          simp only [G.same, this] at h
          exact h
        · refine brf (eq_len hl) ?_
          replace pa := (plain_lst pa).2
          replace pb := (plain_lst pb).2
          simp only [dep] at da db
          simp only [G.same] at h
          rw [sizeLine_eq] at ly
          refine fun _ => ⟨⟨by omega, by omega⟩, fun i δ' r' => (∃ k, δ' = [some (.lst xs), some (.lst ys), k]) ∧ r' = r ∧ ∀ (j : Nat) (x y : D), j < i → xs[j]? = some x → ys[j]? = some y → same x y = true, ⟨⟨none, rfl⟩, rfl, fun _ _ _ z => by omega⟩, ?_, ?_⟩
          · rintro i d δ' r' hd ⟨⟨k, rfl⟩, rfl, hI⟩
            have hi : i < ys.length := by
              have := (List.getElem?_eq_some_iff.mp hd).1
              simpa using this
            rw [List.getElem?_map, List.getElem?_range (by simpa using hi)] at hd
            cases hd
            obtain ⟨y, ey⟩ : ∃ y, ys[i]? = some y := ⟨ys[i], by simp⟩
            obtain ⟨x, ex⟩ := same_sides hl ey
            refine ix_l (atI_nat ex) (ix_l (atI_nat ey) ⟨x, y, rfl, plains_at pa ex, plains_at pb ey, by have := deps_at ex; omega, by have := deps_at ey; omega, ?_⟩)
            cases q : same x y with
            | false =>
              refine brT ?_
              have : sames xs ys = false := by
                cases q2 : sames xs ys with
                | false => rfl
                | true => rw [sames_at q2 ex ey] at q; cases q
              rw [this] at h
              exact h
            | true =>
              refine brF ⟨⟨_, rfl⟩, rfl, fun j x' y' hj ex' ey' => ?_⟩
              by_cases hji : j = i
              · subst hji
                rw [ex] at ex'
                rw [ey] at ey'
                cases ex'
                cases ey'
                exact q
              · exact hI j x' y' (by omega) ex' ey'
          · rintro δ' r' ⟨⟨k, rfl⟩, rfl, hI⟩
            have : sames xs ys = true := sames_of hl fun j x y ex ey => hI j x y (by have := (List.getElem?_eq_some_iff.mp ey).1; simpa using this) ex ey
            rw [this] at h
            exact h
      all_goals exact brT h
    | tup ys =>
      refine brF (brF (brF (brF (brF (brF (brT ?_))))))
      cases a <;> first | (cases pa; done) | skip
      case tup xs =>
        refine brF ?_
        refine fun ly lx => ⟨Nat.zero_le _, Nat.zero_le _, ?_⟩
        by_cases hl : xs.length = ys.length
        rotate_left
        · refine brt (ne_len hl) ?_
          have : sames xs ys = false := by
            cases q : sames xs ys with
            | false => rfl
            | true => exact absurd (sames_len q) hl
          simp only [G.same, this] at h
          exact h
        · refine brf (eq_len hl) ?_
          replace pa := (plain_tup pa).2
          replace pb := (plain_tup pb).2
          simp only [dep] at da db
          simp only [G.same] at h
          rw [sizeLine_eq] at ly
          refine fun _ => ⟨⟨by omega, by omega⟩, fun i δ' r' => (∃ k, δ' = [some (.tup xs), some (.tup ys), k]) ∧ r' = r ∧ ∀ (j : Nat) (x y : D), j < i → xs[j]? = some x → ys[j]? = some y → same x y = true, ⟨⟨none, rfl⟩, rfl, fun _ _ _ z => by omega⟩, ?_, ?_⟩
          · rintro i d δ' r' hd ⟨⟨k, rfl⟩, rfl, hI⟩
            have hi : i < ys.length := by
              have := (List.getElem?_eq_some_iff.mp hd).1
              simpa using this
            rw [List.getElem?_map, List.getElem?_range (by simpa using hi)] at hd
            cases hd
            obtain ⟨y, ey⟩ : ∃ y, ys[i]? = some y := ⟨ys[i], by simp⟩
            obtain ⟨x, ex⟩ := same_sides hl ey
            refine ix_t (atI_nat ex) (ix_t (atI_nat ey) ⟨x, y, rfl, plains_at pa ex, plains_at pb ey, by have := deps_at ex; omega, by have := deps_at ey; omega, ?_⟩)
            cases q : same x y with
            | false =>
              refine brT ?_
              have : sames xs ys = false := by
                cases q2 : sames xs ys with
                | false => rfl
                | true => rw [sames_at q2 ex ey] at q; cases q
              rw [this] at h
              exact h
            | true =>
              refine brF ⟨⟨_, rfl⟩, rfl, fun j x' y' hj ex' ey' => ?_⟩
              by_cases hji : j = i
              · subst hji
                rw [ex] at ex'
                rw [ey] at ey'
                cases ex'
                cases ey'
                exact q
              · exact hI j x' y' (by omega) ex' ey'
          · rintro δ' r' ⟨⟨k, rfl⟩, rfl, hI⟩
            have : sames xs ys = true := sames_of hl fun j x y ex ey => hI j x y (by have := (List.getElem?_eq_some_iff.mp ey).1; simpa using this) ex ey
            rw [this] at h
            exact h
      all_goals exact brT h
abbrev N_is_name : List Str := ["value", "letter"]
theorem sc_is_name : FnScope N_is_name ["value"] (defScope s_is_name) := ⟨rfl, rfl, rfl, by decide +kernel, rfl, by decide +kernel, by decide +kernel⟩
theorem c_is_name (B : Bl mg) (gL : GS mg "LETTERS" abc) (gM : GI mg "MOST_LETTERS" 8) (Dx : Dfn K mg "is_name" s_is_name ["value"]) : Cl P w K mg base 1 "is_name" ["value"] spIsName := by
  have sc := sc_is_name
  refine cl_of Dx sc (fun ds r P' XR ⟨d, e, _⟩ => by rw [e]; rfl) (fun f cdv A outer s H E hr tk po => ?_)
  have hi := u65 hr
  refine ⟨_, (ss_cons (s_if (b_w (w_or (b_not (b_tru (d_isi .str (by rfl) B.isi (dv 0) (by rfl) B.str))) (w_or1 (b_not (b_chain p_le p_le d_int (d_blt c_len (by rfl) B.len (dl_cons (dv 0) dl_nil)) (d_gI gM))))))
  (ss_one (s_ret d_bl))
  ss_nil)
  (ss_one (s_ret (d_blt c_all (by rfl) B.all (dl_cons (d_lc (js := [1]) (own := [("letter", 1)]) sc.nd (i_str (dv 0)) (blkOk_by (own := [("letter", 1)]) (N := N_is_name) (sc := defScope s_is_name) (by decide +kernel)) (fun _ _ _ _ _ => (g_name (i := 1) sc.nd)) (fun _ _ _ _ _ => pts_no) (fun _ _ _ _ _ => (d_cmp (p_in hi) (dv 1) (d_gS gL)))) dl_nil))))), fun ds r P' XR h => ?_⟩
  obtain ⟨d, rfl, pd, h⟩ := h
  replace h := fit.of h
  cases d with
  | adr => cases pd
  | ins => cases pd
  | dct => cases pd
  | str z =>
    refine brF ?_
    have hb : ∀ b, isNm z = b → fit P' (.bl b) r := fun b e => e ▸ h
    refine ⟨fun (h1 : decide ((1 : Int) ≤ ((z.length : Nat) : Int)) = true) => ⟨fun (h2 : (!decide (((z.length : Nat) : Int) ≤ 8)) = true) => ?_, fun (h2 : (!decide (((z.length : Nat) : Int) ≤ 8)) = false) => ?_⟩, fun (h1 : decide ((1 : Int) ≤ ((z.length : Nat) : Int)) = false) => brT ?_⟩
    · refine hb _ ?_
      have : ¬ z.length ≤ 8 := fun q => by
        have q2 : ((z.length : Nat) : Int) ≤ 8 := by omega
        rw [decide_eq_true q2] at h2
        cases h2
      unfold isNm
      rw [decide_eq_false this, Bool.and_false, Bool.false_and]
    · have l8 : z.length ≤ 8 := by
        have : ((z.length : Nat) : Int) ≤ 8 := by
          cases q : decide (((z.length : Nat) : Int) ≤ 8) with
          | true => exact of_decide_eq_true q
          | false => rw [q] at h2; cases h2
        omega
      have l1 : 1 ≤ z.length := by
        have : (1 : Int) ≤ ((z.length : Nat) : Int) := of_decide_eq_true h1
        omega
      refine lc_map (fun d => .bl (match d with | .str w => (match sub1 w with | some c => decide (c ∈ tl abc) | none => false) | _ => false)) ?_ ?_ ?_
      · rw [List.length_map]
        show (tl z).length ≤ 1000000
        rw [← len_tl]
        omega
      · intro d hd r' P'' q
        obtain ⟨c, hc, rfl⟩ := List.mem_map.mp hd
        exact ⟨q⟩
      · have e : (List.map (fun c => D.str ⟨#[c]⟩) (tl z)).map (fun d => D.bl (match d with | .str w => (match sub1 w with | some c => decide (c ∈ tl abc) | none => false) | _ => false)) = (tl z).map fun c => D.bl (isLet c) := by
          rw [List.map_map]
          congr 1
          funext c
          show D.bl (decide (c ∈ tl abc)) = _
          rw [isLet_abc]
        rw [e]
        refine oAll_of (f := fun bs => bs.all id) (k := fun d => fit P' d r) (bls_of isLet (tl z)) ?_
        refine hb _ ?_
        unfold isNm
        rw [decide_eq_true l1, decide_eq_true l8, List.all_map]
        rfl
    · refine hb _ ?_
      have : ¬ 1 ≤ z.length := fun q => by
        have q2 : (1 : Int) ≤ ((z.length : Nat) : Int) := by omega
        rw [decide_eq_true q2] at h1
        cases h1
      unfold isNm
      rw [decide_eq_false this, Bool.false_and, Bool.false_and]
  | _ => exact brT (brT h)
abbrev thF : List Str := ["kind", "name", "parts"]
def spNeed (CB : Addr) : SpX := fun ds r P XR => ∃ xs, ds = [.lst xs] ∧ xs.length ≤ 1000 ∧ (∀ x ∈ xs, plain x = true) ∧ (xs.all isNameD = true → P .non r) ∧ (∀ d, xs.find? (fun d => !isNameD d) = some d → XR CB ["name"] [d] r)
abbrev N_need_names : List Str := ["values", "value"]
theorem sc_need_names : FnScope N_need_names ["values"] (defScope s_need_names) := ⟨rfl, rfl, rfl, by decide +kernel, rfl, by decide +kernel, by decide +kernel⟩
theorem find_at {α : Type} {p : α → Bool} {xs : List α} {i : Nat} {d : α} (h0 : ∀ x ∈ xs.take i, p x = false) (h : xs[i]? = some d) (hd : p d = true) : xs.find? p = some d := by
  have e : xs = xs.take i ++ d :: xs.drop (i + 1) := by
    have hi := (List.getElem?_eq_some_iff.mp h).1
    have e2 : xs[i] = d := (List.getElem?_eq_some_iff.mp h).2
    rw [← e2]
    exact (by rw [List.getElem_cons_drop, List.take_append_drop] : xs = xs.take i ++ xs[i] :: xs.drop (i + 1))
  rw [e, List.find?_append, List.find?_eq_none.mpr (fun x hx => by rw [h0 x hx]; decide), Option.none_or, List.find?_cons, hd]
theorem c_need_names {CB : Addr} (X_BadName : ErrX P w K mg base "BadName" CB "name") (C_is_name : Cl P w K mg base 1 "is_name" ["value"] spIsName) (Dx : Dfn K mg "need_names" s_need_names ["values"]) : Cl P w K mg base 4 "need_names" ["values"] (spNeed CB) := by
  have sc := sc_need_names
  refine cl_of Dx sc (fun ds r P' XR ⟨xs, e, _⟩ => by rw [e]; rfl) (fun f cdv A outer s H E hr tk po => ?_)
  refine ⟨_, (ss_one (s_for (i_list (dv 0)) (g_name (i := 1) sc.nd)
  (ss_one (s_if (b_not (b_tru (d_fn C_is_name tk hr (dl_cons (dv 1) dl_nil))))
  (ss_one (s_raise X_BadName.c tk hr (dl_cons (dv 1) dl_nil)))
  ss_nil)) po)), fun ds r P' XR h => ?_⟩
  obtain ⟨xs, rfl, hl, hp, hP, hX⟩ := h
  refine ⟨fun i δ r' => (∃ d1, δ = [some (.lst xs), d1]) ∧ r' = r ∧ ∀ x ∈ xs.take i, isNameD x = true, ⟨⟨_, rfl⟩, rfl, fun x hx => by cases hx⟩, ?_, ?_⟩
  · rintro i d δ r' hd ⟨⟨d1, rfl⟩, rfl, ht⟩
    refine ⟨d, rfl, hp d (List.mem_of_getElem? hd), ?_⟩
    cases e : isNameD d with
    | true =>
      refine brF ⟨⟨_, rfl⟩, rfl, fun x hx => ?_⟩
      rw [List.take_add_one, hd] at hx
      rcases List.mem_append.mp hx with hx | hx
      · exact ht x hx
      · rw [List.mem_singleton.mp hx]; exact e
    | false =>
      exact brT ⟨d, rfl, _, le.refl, (hX d (find_at (fun x hx => by rw [ht x hx]; rfl) hd (by rw [e]; rfl)))⟩
  · rintro δ r' ⟨⟨d1, rfl⟩, rfl, ht⟩
    rw [List.take_length] at ht
    exact fit.of (hP (List.all_eq_true.mpr ht))
/-- the first that equals an earlier one -/
def twice : List D → List D → Option D
  | _, [] => none
  | s, x :: xs => if memD x s = true then some x else twice (s ++ [x]) xs
theorem twice_step {xs : List D} {i : Nat} {d : D} (h0 : twice (xs.take i) (xs.drop i) = twice [] xs) (h : xs[i]? = some d) : (memD d (xs.take i) = true → twice [] xs = some d) ∧ (memD d (xs.take i) = false → twice (xs.take (i + 1)) (xs.drop (i + 1)) = twice [] xs) := by
  have hi := (List.getElem?_eq_some_iff.mp h).1
  have e : xs.drop i = d :: xs.drop (i + 1) := by
    rw [← (List.getElem?_eq_some_iff.mp h).2]
    exact (List.getElem_cons_drop hi).symm
  rw [e, show twice (xs.take i) (d :: xs.drop (i + 1)) = if memD d (xs.take i) = true then some d else twice (xs.take i ++ [d]) (xs.drop (i + 1)) from rfl] at h0
  refine ⟨fun q => ?_, fun q => ?_⟩
  · rw [if_pos q] at h0
    exact h0.symm
  · rw [if_neg (by rw [q]; decide)] at h0
    rw [List.take_add_one, h]
    exact h0
def spUnlike (CT2 : Addr) : SpX := fun ds r P XR => ∃ d xs, ds = [d] ∧ seqD d = some xs ∧ xs.length ≤ 1000 ∧ (∀ x ∈ xs, dep x ≤ 60) ∧ (twice [] xs = none → P .non r) ∧ (∀ d, twice [] xs = some d → XR CT2 ["name"] [d] r)
theorem deps_le {n : Nat} : ∀ {xs : List D}, (∀ x ∈ xs, dep x ≤ n) → deps xs ≤ n
  | [], _ => Nat.zero_le _
  | x :: xs, h => by
    show max (dep x) (deps xs) ≤ n
    have h1 := h x List.mem_cons_self
    have h2 := deps_le (n := n) (xs := xs) fun y hy => h y (List.mem_cons_of_mem _ hy)
    omega
abbrev N_need_unlike : List Str := ["names", "seen", "name"]
theorem sc_need_unlike : FnScope N_need_unlike ["names"] (defScope s_need_unlike) := ⟨rfl, rfl, rfl, by decide +kernel, rfl, by decide +kernel, by decide +kernel⟩
theorem c_need_unlike {CT2 : Addr} (X_Twice : ErrX P w K mg base "Twice" CT2 "name") (Dx : Dfn K mg "need_unlike" s_need_unlike ["names"]) : Cl P w K mg base 3 "need_unlike" ["names"] (spUnlike CT2) := by
  have sc := sc_need_unlike
  refine cl_of Dx sc (fun ds r P' XR ⟨_, xs, e, _⟩ => by rw [e]; rfl) (fun f cdv A outer s H E hr tk po => ?_)
  have hi := u65 hr
  refine ⟨_, (ss_cons (s_set (i := 1) sc.nd (d_lstO dl_nil))
  (ss_one (s_for (i_any (dv 0)) (g_name (i := 2) sc.nd)
  (ss_cons (s_if (b_cmpO (p_inO hi) (dv 2) (dv 1))
  (ss_one (s_raise X_Twice.c tk hr (dl_cons (dv 2) dl_nil)))
  ss_nil)
  (ss_one (s_expr (d_app (dv 1) (dl_cons (dv 2) dl_nil))))) po))), fun ds r P' XR h => ?_⟩
  obtain ⟨ld, xs, rfl, hsq, hl, hd, hP, hX⟩ := h
  refine ⟨Nat.le_of_ble_eq_true rfl, fun q => ⟨xs, hsq, ?_⟩⟩
  refine ⟨fun i δ r' => (∃ d2, δ = [some ld, some (.adr q), d2]) ∧ r' = r ++ [lstA q (xs.take i)] ∧ i ≤ xs.length ∧ twice (xs.take i) (xs.drop i) = twice [] xs, ⟨⟨_, rfl⟩, rfl, Nat.zero_le _, rfl⟩, ?_, ?_⟩
  · rintro i d δ r' hi2 ⟨⟨d2, rfl⟩, rfl, hil, ht⟩
    have hlt := (List.getElem?_eq_some_iff.mp hi2).1
    obtain ⟨t1, t2⟩ := twice_step ht hi2
    refine ⟨q, xs.take i, rfl, ⟨r, [], rfl⟩, ⟨by have := hd d (List.mem_of_getElem? hi2); omega, by have := deps_le (n := 60) (xs := xs.take i) fun x hx => hd x (List.mem_of_mem_take hx); omega, _, rfl, ?_⟩⟩
    cases e : memD d (xs.take i) with
    | true => exact brT ⟨d, rfl, _, le.drop, hX d (t1 e)⟩
    | false =>
      refine brF ⟨q, xs.take i, rfl, ⟨r, [], rfl⟩, ⟨r, _, [], d, rfl, rfl, by unfold small; rw [List.length_take]; omega, ⟨_, rfl⟩, ?_, by omega, t2 e⟩⟩
      rw [List.take_add_one, hi2]
      rfl
  · rintro δ r' ⟨⟨d2, rfl⟩, rfl, hil, ht⟩
    rw [List.take_length, List.drop_length] at ht
    exact ⟨_, le.drop, hP ht.symm⟩
theorem name_dep {d : D} (h : isNameD d = true) : dep d ≤ 60 := by
  cases d <;> first | (cases h; done) | exact Nat.zero_le _
structure Th where
  kd : Str
  nm : Str
  ps : List Str
def thD (CT : Addr) (t : Th) : D := .ins CT thF [.str t.kd, .str t.nm, .tup (t.ps.map .str)]
def thE (CT : Addr) (th : List Th) : List (Str × D) := th.map fun t => (t.nm, thD CT t)
def thAt (th : List Th) (z : Str) : Option Th := th.find? fun t => decide (t.nm = z)
theorem thE_at (CT : Addr) (z : Str) : ∀ th : List Th, aGet (thE CT th) z = (thAt th z).map (thD CT)
  | [] => rfl
  | t :: th => by
    have ih := thE_at CT z th
    unfold aGet thE thAt at ih ⊢
    rw [List.map_cons, List.find?_cons, List.find?_cons]
    by_cases h : t.nm = z
    · rw [decide_eq_true h]; rfl
    · rw [decide_eq_false h]; exact ih
theorem aPut_le (l : List (Str × D)) (k : Str) (d : D) : (aPut l k d).length ≤ l.length + 1 := by
  unfold aPut
  split
  · rw [List.length_map]; omega
  · rw [List.length_append, List.length_singleton]; omega
def uniq (ths : List Th) : Prop := (ths.map (·.nm)).Nodup
theorem thE_put {CT : Addr} {ths : List Th} {i : Nat} {t : Th} (hu : uniq ths) (ht : ths[i]? = some t) : dPut (nk (thE CT (ths.take i))) (.inr t.nm) (thD CT t) = nk (thE CT (ths.take (i + 1))) := by
  rw [nk_put]
  unfold aPut
  have hn : ((thE CT (ths.take i)).any fun e => decide (e.1 = t.nm)) = false := by
    rw [Bool.eq_false_iff]
    intro h
    obtain ⟨e, he, hz⟩ := List.any_eq_true.mp h
    obtain ⟨t', ht', rfl⟩ := List.mem_map.mp he
    obtain ⟨j, hj⟩ := List.mem_iff_getElem?.mp ht'
    have hji : j < i := by
      have := (List.getElem?_eq_some_iff.mp hj).1
      rw [List.length_take] at this
      omega
    have hj2 : ths[j]? = some t' := by rw [List.getElem?_take_of_lt hji] at hj; exact hj
    have e : t'.nm = t.nm := of_decide_eq_true hz
    have n := List.pairwise_iff_getElem.mp hu j i (by rw [List.length_map]; have := (List.getElem?_eq_some_iff.mp hj2).1; exact this) (by rw [List.length_map]; exact (List.getElem?_eq_some_iff.mp ht).1) hji
    rw [List.getElem_map, List.getElem_map, (List.getElem?_eq_some_iff.mp hj2).2, (List.getElem?_eq_some_iff.mp ht).2] at n
    exact n e
  rw [if_neg (by rw [hn]; decide), List.take_add_one, ht]
  unfold thE
  rw [List.map_append]
  rfl
def deedsT : List (Str × List Str) := [("take", ["feed"]), ("skip", ["feed"]), ("drain", ["feed"]), ("fetch", ["feed", "length"]), ("bind", ["feed", "feed"]), ("roll", ["dice"]), ("seed", ["dice"]), ("get", ["table", "key"]), ("peek", ["table", "key"]), ("has", ["table", "key"]), ("put", ["table", "key"]), ("fill", ["table", "key"]), ("drop", ["table", "key"]), ("size", ["table"]), ("keys", ["table"]), ("load", ["table", "keys"]), ("wipe", ["table"]), ("change", ["source"]), ("look", ["field"]), ("glance", ["field"]), ("renew", ["field"]), ("lift", ["flag"]), ("read", ["flag"]), ("watch", ["flag"]), ("keep", ["slot"]), ("copy", ["slot", "slot"]), ("tell", ["slot"]), ("bound", ["slot"]), ("mark", ["slot", "name"]), ("spy", ["thing"])]
def looksT : List Str := ["take", "drain", "roll", "get", "drop", "look", "renew", "read", "mark", "peek", "has", "size", "keys", "glance", "watch", "tell", "bound", "spy"]
def unsaidT : List Str := ["has", "bound", "mark", "spy"]
def plainT : List (Str × List Str) := [("fetch", ["feed"]), ("load", ["table"]), ("say", ["name"]), ("stop", []), ("call", ["name"]), ("else", []), ("end", [])]
def gatesT : List Str := ["always", "first", "later", "second"]
def assertedT : List Str := ["has", "bound", "read", "watch"]
def hasS (l : List Str) (z : Str) : Bool := l.any fun y => y == z
def tS (xs : List Str) : D := .tup (xs.map .str)
def dT (l : List (Str × List Str)) : List (Str × D) := l.map fun e => (e.1, tS e.2)
theorem dT_at (z : Str) : ∀ l : List (Str × List Str), (dT l).lookup z = (l.lookup z).map tS
  | [] => rfl
  | (x, v) :: r => by
    have ih := dT_at z r
    unfold dT at ih ⊢
    rw [List.map_cons, List.lookup_cons, List.lookup_cons, ih]
    cases z == x <;> rfl
def cD : Option (List Str) → D | none => .non | some xs => tS xs
def lookC (z : Str) : Option (List Str) := if hasS looksT z then (if z == "mark" then some ["slot"] else deedsT.lookup z) else none
def rowC (z : Str) : Option (List Str) := match plainT.lookup z with | some c => some c | none => if hasS unsaidT z then none else deedsT.lookup z
def branchC (o z : Str) : Option (List Str) := if z == "ask" then some ["name"] else if z == "take" || (o == "if" && hasS ["has", "read", "bound"] z) then deedsT.lookup z else none
theorem looks_deeds : (looksT.all fun z => (deedsT.lookup z).isSome) = true := by decide +kernel
theorem hasS_mem {l : List Str} {z : Str} (h : hasS l z = true) : z ∈ l := by
  obtain ⟨y, h1, h2⟩ := List.any_eq_true.mp h
  exact (eq_of_beq h2) ▸ h1
theorem look_deed {z : Str} (h : hasS looksT z = true) : ∃ c, deedsT.lookup z = some c := Option.isSome_iff_exists.mp (List.all_eq_true.mp looks_deeds z (hasS_mem h))
def isIntD : D → Bool | .int _ => true | _ => false
def headD : D → Str | .tup (.str z :: _) => z | _ => ""
theorem headD_tup {d : D} {z : Str} (h : headD d = z) (n : z ≠ "") : ∃ vs, d = .tup (.str z :: vs) := by
  subst h
  unfold headD at *
  split at n
  · rename_i z vs
    exact ⟨vs, rfl⟩
  · exact absurd rfl n
def suitsD (v : D) (c : Str) : Bool := if c == "length" then (match v with | .int i => decide (0 ≤ i) && decide (i ≤ 1000000000000000000000000000000) | _ => false) else if c == "keys" then (match v with | .tup ds => ds.all isNameD | _ => false) else isNameD v
def fitsD (v : D) (c : Option (List Str)) : Bool := match c, v with
  | some cs, .tup vs => decide (vs.length = 1 + cs.length) && ((vs.drop 1).zip cs).all fun e => suitsD e.1 e.2
  | _, _ => false
def isLookD (d : D) : Bool := fitsD d (lookC (headD d))
def isLooksD : D → Bool | .tup ds => ds.all isLookD | _ => false
def lenD : D → Nat | .tup ds => ds.length | _ => 0
def gateD : D → Bool | .str z => hasS gatesT z | _ => false
def watchD : List D → Bool
  | [.str w, n, g, a, b] => (isNameD n && gateD g) && isLooksD a && (if w == "assert" then isLookD b && hasS assertedT (headD b) && decide (lenD a ≤ 6) else isLooksD b && decide (lenD a + lenD b ≤ 6))
  | _ => false
def tailD : D → List D | .tup ds => ds.drop 1 | _ => []
def itemsD : D → List D | .tup ds => ds | _ => []
def isRowD (d : D) : Bool :=
  if headD d == "" then false else if headD d == "probe" || headD d == "assert" then watchD (itemsD d) else
  if headD d == "if" || headD d == "while" then fitsD (.tup (tailD d)) (branchC (headD d) (headD (.tup (tailD d)))) else fitsD d (rowC (headD d))
def spLookC : SpX := fun ds r P _ => ∃ z, ds = [.str z] ∧ P (cD (lookC z)) r
def spRowC : SpX := fun ds r P _ => ∃ z, ds = [.str z] ∧ P (cD (rowC z)) r
def spBranchC : SpX := fun ds r P _ => ∃ o z, ds = [.str o, .str z] ∧ P (cD (branchC o z)) r
def spIsInt : SpX := fun ds r P _ => ∃ d, ds = [d] ∧ plain d = true ∧ P (.bl (isIntD d)) r
def spHead : SpX := fun ds r P _ => ∃ d, ds = [d] ∧ plain d = true ∧ P (.str (headD d)) r
def spSuits : SpX := fun ds r P _ => ∃ d c, ds = [d, .str c] ∧ plain d = true ∧ P (.bl (suitsD d c)) r
def spFits : SpX := fun ds r P _ => ∃ d c, ds = [d, cD c] ∧ plain d = true ∧ (c = none ∨ ∃ vs, d = .tup vs) ∧ P (.bl (fitsD d c)) r
def spIsLook : SpX := fun ds r P _ => ∃ d, ds = [d] ∧ plain d = true ∧ P (.bl (isLookD d)) r
def spIsLooks : SpX := fun ds r P _ => ∃ d, ds = [d] ∧ plain d = true ∧ P (.bl (isLooksD d)) r
def spWatcher : SpX := fun ds r P _ => ∃ w vs, ds = [.tup (.str w :: vs)] ∧ plains vs = true ∧ P (.bl (watchD (.str w :: vs))) r
def spIsRow : SpX := fun ds r P _ => ∃ d, ds = [d] ∧ plain d = true ∧ P (.bl (isRowD d)) r
def spIsProbe : SpX := fun ds r P _ => ∃ w vs, ds = [.tup (.str w :: vs)] ∧ P (.bl (hasS ["probe", "assert"] w)) r
abbrev N_look_codes : List Str := ["word"]
theorem sc_look_codes : FnScope N_look_codes ["word"] (defScope s_look_codes) := ⟨rfl, rfl, rfl, by decide +kernel, rfl, by decide +kernel, by decide +kernel⟩
theorem c_look_codes (gL : GT K mg "LOOKS" looksT) (gD : GD K w mg "DEEDS" (dT deedsT)) (Dx : Dfn K mg "look_codes" s_look_codes ["word"]) : Cl P w K mg base 1 "look_codes" ["word"] spLookC := by
  have sc := sc_look_codes
  obtain ⟨dk, G_DEEDS, T⟩ := gD
  refine cl_of Dx sc (fun ds r P' XR ⟨d, e, _⟩ => by rw [e]; rfl) (fun f cdv A outer s H E hr tk po => ?_)
  have hu := hr.units
  have hi := u65 hr
  refine ⟨_, (ss_cons (s_if (b_cmp (p_notIn hi) (dv 0) (d_gT gL))
  (ss_one (s_ret d_non))
  ss_nil)
  (ss_one (s_ret (d_if (b_cmp (p_eq hu) (dv 0) d_str) (d_tup (dl_cons d_str dl_nil)) (d_kix T (d_adr G_DEEDS) (dv 0)))))), fun ds r P' XR h => ?_⟩
  obtain ⟨z, rfl, h⟩ := h
  replace h := fit.of h
  refine oNi_t (k := fun d => (match d with | .bl b => _ | _ => False)) ?_
  cases hz : hasS looksT z with
  | false =>
    refine brt (by show (!hasS looksT z) = true; rw [hz]; rfl) ?_
    have e : lookC z = none := by unfold lookC; rw [hz]; rfl
    rw [e] at h
    exact h
  | true =>
    refine brf (by show (!hasS looksT z) = false; rw [hz]; rfl) ?_
    refine ⟨Nat.zero_le _, Nat.zero_le _, ?_⟩
    cases hm : z == "mark" with
    | true =>
      refine brt hm ?_
      have e : lookC z = some (["slot"] : List Str) := by unfold lookC; rw [hz, hm]; rfl
      rw [e] at h
      exact ⟨Nat.le_of_ble_eq_true rfl, h⟩
    | false =>
      refine brf hm ?_
      obtain ⟨c, hc⟩ := look_deed hz
      have e : lookC z = some c := by unfold lookC; rw [hz, hm]; exact hc
      rw [e] at h
      refine ⟨rfl, ?_⟩
      show (match (dT deedsT).lookup z with | some v => fit P' v r | none => False)
      rw [dT_at, hc]
      exact h
abbrev N_row_codes : List Str := ["word"]
theorem sc_row_codes : FnScope N_row_codes ["word"] (defScope s_row_codes) := ⟨rfl, rfl, rfl, by decide +kernel, rfl, by decide +kernel, by decide +kernel⟩
theorem c_row_codes (gU : GT K mg "UNSAID" unsaidT) (gP : GD K w mg "PLAIN" (dT plainT)) (gD : GD K w mg "DEEDS" (dT deedsT)) (Dx : Dfn K mg "row_codes" s_row_codes ["word"]) : Cl P w K mg base 1 "row_codes" ["word"] spRowC := by
  have sc := sc_row_codes
  obtain ⟨dk, G_DEEDS, T⟩ := gD
  obtain ⟨dp, G_PLAIN, T2⟩ := gP
  refine cl_of Dx sc (fun ds r P' XR ⟨d, e, _⟩ => by rw [e]; rfl) (fun f cdv A outer s H E hr tk po => ?_)
  have hu := hr.units
  have hi := u65 hr
  refine ⟨_, (ss_cons (s_if (b_cmp (p_kin T2) (dv 0) (d_adr G_PLAIN))
  (ss_one (s_ret (d_kix T2 (d_adr G_PLAIN) (dv 0))))
  ss_nil)
  (ss_one (s_ret (d_if (b_cmp (p_in hi) (dv 0) (d_gT gU)) d_non (d_kget1 T G_DEEDS (dv 0) ⟨rfl, rfl, rfl, rfl⟩))))), fun ds r P' XR h => ?_⟩
  obtain ⟨z, rfl, h⟩ := h
  replace h := fit.of h
  refine ⟨rfl, ?_⟩
  cases hz : plainT.lookup z with
  | some c =>
    have e0 : (dT plainT).lookup z = some (tS c) := by rw [dT_at, hz]; rfl
    refine brt (by show ((dT plainT).lookup z).isSome = true; rw [e0]; rfl) ?_
    have e : rowC z = some c := by unfold rowC; rw [hz]
    rw [e] at h
    refine ⟨rfl, ?_⟩
    show (match (dT plainT).lookup z with | some v => fit P' v r | none => False)
    rw [e0]
    exact h
  | none =>
    have e0 : (dT plainT).lookup z = none := by rw [dT_at, hz]; rfl
    refine brf (by show ((dT plainT).lookup z).isSome = false; rw [e0]; rfl) ?_
    refine oIn_t (k := fun d => (match d with | .bl b => _ | _ => False)) ?_
    cases hu2 : hasS unsaidT z with
    | true =>
      refine brt hu2 ?_
      have e : rowC z = none := by unfold rowC; rw [hz]; show (if hasS unsaidT z = true then none else _) = _; rw [hu2]; rfl
      rw [e] at h
      exact h
    | false =>
      refine brf hu2 ?_
      have e : rowC z = deedsT.lookup z := by unfold rowC; rw [hz]; show (if hasS unsaidT z = true then none else _) = _; rw [hu2]; rfl
      rw [e] at h
      show fit P' (((dT deedsT).lookup z).getD .non) r
      rw [dT_at]
      revert h
      cases deedsT.lookup z <;> exact fun h => h
abbrev N_branch_codes : List Str := ["opener", "word"]
theorem sc_branch_codes : FnScope N_branch_codes ["opener", "word"] (defScope s_branch_codes) := ⟨rfl, rfl, rfl, by decide +kernel, rfl, by decide +kernel, by decide +kernel⟩
theorem branch_deed {z : Str} (h : (z == "take" || hasS ["has", "read", "bound"] z) = true) : ∃ c, deedsT.lookup z = some c := by
  have q : ((["take", "has", "read", "bound"] : List Str).all fun z => (deedsT.lookup z).isSome) = true := by decide +kernel
  have m : z ∈ (["take", "has", "read", "bound"] : List Str) := by
    rcases Bool.or_eq_true_iff.mp h with h | h
    · rw [eq_of_beq h]
      exact List.mem_cons_self
    · exact List.mem_cons_of_mem _ (hasS_mem h)
  exact Option.isSome_iff_exists.mp (List.all_eq_true.mp q z m)
theorem c_branch_codes (gD : GD K w mg "DEEDS" (dT deedsT)) (Dx : Dfn K mg "branch_codes" s_branch_codes ["opener", "word"]) : Cl P w K mg base 1 "branch_codes" ["opener", "word"] spBranchC := by
  have sc := sc_branch_codes
  obtain ⟨dk, G_DEEDS, T⟩ := gD
  refine cl_of Dx sc (fun ds r P' XR ⟨_, d, e, _⟩ => by rw [e]; rfl) (fun f cdv A outer s H E hr tk po => ?_)
  have hu := hr.units
  have hi := u65 hr
  refine ⟨_, (ss_cons (s_if (b_cmp (p_eq hu) (dv 1) d_str)
  (ss_one (s_ret (d_tup (dl_cons d_str dl_nil))))
  ss_nil)
  (ss_cons (s_if (b_w (w_or (b_cmp (p_eq hu) (dv 1) d_str) (w_or1 (b_w (w_and (b_cmp (p_eq hu) (dv 0) d_str) (w_and1 (b_cmp (p_in hi) (dv 1) (d_tup (dl_cons d_str (dl_cons d_str (dl_cons d_str dl_nil)))))))))))
  (ss_one (s_ret (d_kix T (d_adr G_DEEDS) (dv 1))))
  ss_nil)
  (ss_one (s_ret d_non)))), fun ds r P' XR h => ?_⟩
  obtain ⟨o, z, rfl, h⟩ := h
  replace h := fit.of h
  refine ⟨Nat.zero_le _, Nat.zero_le _, ?_⟩
  have fin : ∀ c, branchC o z = c → fit P' (cD c) r := fun c e => e ▸ h
  cases ha : z == "ask" with
  | true =>
    refine brt ha ?_
    exact ⟨Nat.le_of_ble_eq_true rfl, fin (some ["name"]) (by unfold branchC; rw [ha]; rfl)⟩
  | false =>
    refine brf ha ?_
    have yes : ∀ c, deedsT.lookup z = some c → branchC o z = some c → oKix dk (dT deedsT) (.adr dk) (.str z) fun d => fit P' d r := fun c hc e => by
      refine ⟨rfl, ?_⟩
      show (match (dT deedsT).lookup z with | some v => fit P' v r | none => False)
      rw [dT_at, hc]
      exact fin _ e
    refine ⟨Nat.zero_le _, Nat.zero_le _, ?_⟩
    cases ht : z == "take" with
    | true =>
      refine brt ht (brT ?_)
      obtain ⟨c, hc⟩ := branch_deed (z := z) (by rw [ht]; rfl)
      exact yes c hc (by unfold branchC; rw [ha, ht]; exact hc)
    | false =>
      refine brf ht ?_
      refine ⟨Nat.zero_le _, Nat.zero_le _, ?_⟩
      cases ho : o == "if" with
      | false =>
        refine brf ho (brF ?_)
        exact fin none (by unfold branchC; rw [ha, ht, ho]; rfl)
      | true =>
        refine brt ho ?_
        refine ⟨Nat.le_of_ble_eq_true rfl, ?_⟩
        refine oIn_t (xs := ["has", "read", "bound"]) (k := fun d => (match d with | .bl b => _ | _ => False)) ?_
        cases hh : hasS ["has", "read", "bound"] z with
        | true =>
          refine brt hh ?_
          obtain ⟨c, hc⟩ := branch_deed (z := z) (by rw [hh, Bool.or_true])
          exact yes c hc (by unfold branchC; rw [ha, ht, ho, hh]; exact hc)
        | false =>
          refine brf hh ?_
          exact fin none (by unfold branchC; rw [ha, ht, ho, hh]; rfl)
abbrev N_is_integer : List Str := ["value"]
theorem sc_is_integer : FnScope N_is_integer ["value"] (defScope s_is_integer) := ⟨rfl, rfl, rfl, by decide +kernel, rfl, by decide +kernel, by decide +kernel⟩
theorem c_is_integer (B : Bl mg) (Dx : Dfn K mg "is_integer" s_is_integer ["value"]) : Cl P w K mg base 1 "is_integer" ["value"] spIsInt := by
  have sc := sc_is_integer
  refine cl_of Dx sc (fun ds r P' XR ⟨d, e, _⟩ => by rw [e]; rfl) (fun f cdv A outer s H E hr tk po => ⟨_, (ss_one (s_ret (d_and (d_isi .int (by rfl) B.isi (dv 0) (by rfl) B.int) (d_one (d_not (d_isi .bool (by rfl) B.isi (dv 0) (by rfl) B.bool)))))), fun ds r P' XR h => ?_⟩)
  obtain ⟨d, rfl, pd, h⟩ := h
  replace h := fit.of h
  cases d with
  | adr => cases pd
  | ins => cases pd
  | dct => cases pd
  | int i => exact brT h
  | bl b => exact brT h
  | _ => exact brF h
abbrev N_head : List Str := ["value"]
theorem sc_head : FnScope N_head ["value"] (defScope s_head) := ⟨rfl, rfl, rfl, by decide +kernel, rfl, by decide +kernel, by decide +kernel⟩
theorem c_head (B : Bl mg) (Dx : Dfn K mg "head" s_head ["value"]) : Cl P w K mg base 1 "head" ["value"] spHead := by
  have sc := sc_head
  refine cl_of Dx sc (fun ds r P' XR ⟨d, e, _⟩ => by rw [e]; rfl) (fun f cdv A outer s H E hr tk po => ⟨_, (ss_cons (s_if (b_w (w_and (b_tru (d_isi .tuple (by rfl) B.isi (dv 0) (by rfl) B.tuple)) (w_and (b_cmp p_gt (d_blt c_len (by rfl) B.len (dl_cons (dv 0) dl_nil)) d_int) (w_and1 (b_tru (d_isi .str (by rfl) B.isi (d_ix (dv 0) d_int) (by rfl) B.str))))))
  (ss_one (s_ret (d_ix (dv 0) d_int)))
  ss_nil)
  (ss_one (s_ret d_str))), fun ds r P' XR h => ?_⟩)
  obtain ⟨d, rfl, pd, h⟩ := h
  replace h := fit.of h
  cases d with
  | adr => cases pd
  | ins => cases pd
  | dct => cases pd
  | tup vs =>
    refine brT fun hz => ?_
    cases vs with
    | nil => exact brF (brF h)
    | cons v vs =>
      have e1 : decide (((v :: vs).length : Int) > 0) = true := decide_eq_true (by rw [List.length_cons]; omega)
      refine brt e1 ?_
      refine ix_t at0 ?_
      cases v with
      | adr =>
        have q := (plain_tup pd).2
        simp [G.plains, G.plain] at q
      | str z => exact brT (ix_t at0 h)
      | _ => exact brF h
  | _ => exact brF (brF h)
abbrev N_suits : List Str := ["value", "code", "name"]
theorem sc_suits : FnScope N_suits ["value", "code"] (defScope s_suits) := ⟨rfl, rfl, rfl, by decide +kernel, rfl, by decide +kernel, by decide +kernel⟩
theorem c_suits (B : Bl mg) (gM : GI mg "MOST_ITEMS" 1000000000000000000000000000000) (C_is_name : Cl P w K mg base 1 "is_name" ["value"] spIsName) (C_is_integer : Cl P w K mg base 1 "is_integer" ["value"] spIsInt) (Dx : Dfn K mg "suits" s_suits ["value", "code"]) : Cl P w K mg base 2 "suits" ["value", "code"] spSuits := by
  have sc := sc_suits
  refine cl_of Dx sc (fun ds r P' XR ⟨d, c, e, _⟩ => by rw [e]; rfl) (fun f cdv A outer s H E hr tk po => ?_)
  have hu := hr.units
  have hi := u65 hr
  refine ⟨_, (ss_one (s_match (dv 1) (pc_cons (pm_v hu)
  (ss_one (s_ret (d_and (d_fn C_is_integer tk hr (dl_cons (dv 0) dl_nil)) (d_one (d_chain p_le p_le d_int (dv 0) (d_gI gM))))))
  (pc_cons (pm_v hu)
  (ss_one (s_ret (d_and (d_isi .tuple (by rfl) B.isi (dv 0) (by rfl) B.tuple) (d_one (d_blt c_all (by rfl) B.all (dl_cons (d_lc (js := [2]) (own := [("name", 2)]) sc.nd (i_tup (dv 0)) (blkOk_by (own := [("name", 2)]) (N := N_suits) (sc := defScope s_suits) (by decide +kernel)) (fun _ _ _ _ _ => (g_name (i := 2) sc.nd)) (fun _ _ _ _ _ => pts_no) (fun _ _ _ _ _ => (d_fnN C_is_name hr (dl_cons (dv 2) dl_nil)))) dl_nil))))))
  (pc_cons pm_any
  (ss_one (s_ret (d_fn C_is_name tk hr (dl_cons (dv 0) dl_nil))))
  pc_nil))))), fun ds r P' XR h => ?_⟩
  obtain ⟨d, c, rfl, pd, h⟩ := h
  replace h := fit.of h
  have fin : ∀ b, suitsD d c = b → fit P' (.bl b) r := fun b e => e ▸ h
  refine ⟨fun (h1 : (c == "length") = true) => ?_, fun (h1 : (c == "length") = false) => ⟨fun (h2 : (c == "keys") = true) => ?_, fun (h2 : (c == "keys") = false) => ⟨fun _ => ?_, fun z => by cases z⟩⟩⟩
  · refine ⟨d, rfl, pd, ?_⟩
    cases d with
    | int i =>
      refine brT ?_
      refine ⟨fun (q1 : decide ((0 : Int) ≤ i) = true) => ?_, fun (q1 : decide ((0 : Int) ≤ i) = false) => ?_⟩
      · exact fin _ (by unfold suitsD; rw [if_pos h1]; show (decide (0 ≤ i) && _) = _; rw [q1]; rfl)
      · exact fin _ (by unfold suitsD; rw [if_pos h1]; show (decide (0 ≤ i) && _) = _; rw [q1]; rfl)
    | _ => exact brF (fin _ (by unfold suitsD; rw [if_pos h1]))
  · have h1' : ¬ (c == "length") = true := by rw [h1]; decide
    cases d with
    | adr => cases pd
    | ins => cases pd
    | dct => cases pd
    | tup vs =>
      refine brT ?_
      obtain ⟨pl, pv⟩ := plain_tup pd
      refine lc_map (fun d => .bl (isNameD d)) ?_ ?_ ?_
      · exact pl
      · exact fun d hd r' P'' q => ⟨d, rfl, plains_mem pv hd, q⟩
      · refine oAll_of (f := fun bs => bs.all id) (k := fun d => fit P' d r) (bls_of isNameD vs) ?_
        exact fin _ (by unfold suitsD; rw [if_neg h1', if_pos h2, List.all_map]; rfl)
    | _ => exact brF (fin _ (by unfold suitsD; rw [if_neg h1', if_pos h2]))
  · have h1' : ¬ (c == "length") = true := by rw [h1]; decide
    have h2' : ¬ (c == "keys") = true := by rw [h2]; decide
    exact ⟨d, rfl, pd, fin _ (by unfold suitsD; rw [if_neg h1', if_neg h2'])⟩
theorem zip_all : ∀ {vs : List D} {cs : List Str}, (zipD vs (cs.map .str)).map (fun d => match d with | .tup [v, .str c] => D.bl (suitsD v c) | _ => .non) = (vs.zip cs).map fun e => D.bl (suitsD e.1 e.2)
  | [], _ => rfl
  | _ :: _, [] => rfl
  | v :: vs, c :: cs => by
    have ih := zip_all (vs := vs) (cs := cs)
    unfold zipD at ih ⊢
    rw [List.map_cons, List.zip_cons_cons, List.map_cons, List.map_cons, ih]
    rfl
abbrev N_fits : List Str := ["value", "codes", "part", "code"]
theorem sc_fits : FnScope N_fits ["value", "codes"] (defScope s_fits) := ⟨rfl, rfl, rfl, by decide +kernel, rfl, by decide +kernel, by decide +kernel⟩
theorem c_fits (B : Bl mg) (C_suits : Cl P w K mg base 2 "suits" ["value", "code"] spSuits) (Dx : Dfn K mg "fits" s_fits ["value", "codes"]) : Cl P w K mg base 3 "fits" ["value", "codes"] spFits := by
  have sc := sc_fits
  refine cl_of Dx sc (fun ds r P' XR ⟨d, c, e, _⟩ => by rw [e]; rfl) (fun f cdv A outer s H E hr tk po => ?_)
  have hu := hr.units
  have hi := u65 hr
  refine ⟨_, (ss_cons (s_if (b_w (w_or (b_cmp p_is (dv 1) d_non) (w_or1 (b_cmp (p_ne hu) (d_blt c_len (by rfl) B.len (dl_cons (dv 0) dl_nil)) (d_bin p_add d_int (d_blt c_len (by rfl) B.len (dl_cons (dv 1) dl_nil)))))))
  (ss_one (s_ret d_bl))
  ss_nil)
  (ss_one (s_ret (d_blt c_all (by rfl) B.all (dl_cons (d_lc (js := [2, 3]) (own := [("part", 2), ("code", 3)]) sc.nd (i_zip (by rfl) B.zip (dl_cons (d_sl (dv 0) (o_some d_int) o_no) (dl_cons (dv 1) dl_nil))) (blkOk_by (own := [("part", 2), ("code", 3)]) (N := N_fits) (sc := defScope s_fits) (by decide +kernel)) (fun _ _ _ _ _ => (g_tup (is := [2, 3]) (pgs_n (i := 2) sc.nd (pgs_n (i := 3) sc.nd pgs_nil)))) (fun _ _ _ _ _ => pts_no) (fun _ _ _ _ _ => (d_fnN C_suits hr (dl_cons (dv 2) (dl_cons (dv 3) dl_nil))))) dl_nil))))), fun ds r P' XR h => ?_⟩
  obtain ⟨d, c, rfl, pd, ht, h⟩ := h
  replace h := fit.of h
  cases c with
  | none => exact brT (brT h)
  | some cs =>
    refine brF ?_
    obtain hn | ⟨vs, rfl⟩ := ht
    · cases hn
    obtain ⟨pl, pv⟩ := plain_tup pd
    have fin : ∀ b, fitsD (.tup vs) (some cs) = b → fit P' (.bl b) r := fun b e => e ▸ h
    intro lv lc
    refine ⟨Nat.zero_le _, Nat.zero_le _, ?_⟩
    have el : ((1 : Int) + (((cs.map D.str).length : Nat) : Int)) = ((1 + cs.length : Nat) : Int) := by rw [List.length_map]; omega
    show ((!eqD (.int ((vs.length : Nat) : Int)) (.int ((1 : Int) + (((cs.map D.str).length : Nat) : Int)))) = true → _) ∧ ((!eqD (.int ((vs.length : Nat) : Int)) (.int ((1 : Int) + (((cs.map D.str).length : Nat) : Int)))) = false → _)
    rw [el]
    by_cases hl : vs.length = 1 + cs.length
    · refine brf (eq_len hl) ?_
      cases vs with
      | nil => rw [List.length_nil] at hl; omega
      | cons v vs =>
        have hl2 : vs.length = cs.length := by rw [List.length_cons] at hl; omega
        simp only [plains, Bool.and_eq_true] at pv
        show oSl _ _ _ _
        refine oSl_1 ?_
        refine ⟨by rw [List.length_map]; exact hl2, ?_⟩
        refine lc_map (fun d => match d with | .tup [v, .str c] => D.bl (suitsD v c) | _ => .non) ?_ ?_ ?_
        · rw [zipD_len (by rw [List.length_map]; exact hl2)]
          rw [List.length_cons] at pl
          unfold small
          omega
        · intro d hd r' P'' q
          unfold zipD at hd
          obtain ⟨e, he, rfl⟩ := List.mem_map.mp hd
          obtain ⟨m1, m2⟩ := List.of_mem_zip (a := e.1) (b := e.2) he
          obtain ⟨c, _, hc⟩ := List.mem_map.mp m2
          refine ⟨rfl, ?_⟩
          rw [← hc] at q ⊢
          exact ⟨e.1, c, rfl, plains_mem pv.2 m1, q⟩
        · rw [zip_all]
          refine oAll_of (f := fun bs => bs.all id) (k := fun d => fit P' d r) (bls_of (fun e : D × Str => suitsD e.1 e.2) (vs.zip cs)) ?_
          exact fin _ (by show (decide ((v :: vs).length = 1 + cs.length) && _) = _; rw [decide_eq_true hl, List.all_map]; rfl)
    · refine brt (ne_len hl) ?_
      exact fin _ (by show (decide (vs.length = 1 + cs.length) && _) = _; rw [decide_eq_false hl]; rfl)
abbrev N_is_look : List Str := ["row"]
theorem sc_is_look : FnScope N_is_look ["row"] (defScope s_is_look) := ⟨rfl, rfl, rfl, by decide +kernel, rfl, by decide +kernel, by decide +kernel⟩
theorem look_head {d : D} : lookC (headD d) = none ∨ ∃ vs, d = .tup vs := by
  by_cases h : headD d = ""
  · rw [h]
    exact .inl (by decide +kernel)
  · obtain ⟨vs, e⟩ := headD_tup (d := d) rfl h
    exact .inr ⟨_, e⟩
theorem c_is_look (C_head : Cl P w K mg base 1 "head" ["value"] spHead) (C_look_codes : Cl P w K mg base 1 "look_codes" ["word"] spLookC) (C_fits : Cl P w K mg base 3 "fits" ["value", "codes"] spFits) (Dx : Dfn K mg "is_look" s_is_look ["row"]) : Cl P w K mg base 4 "is_look" ["row"] spIsLook := by
  have sc := sc_is_look
  refine cl_of Dx sc (fun ds r P' XR ⟨d, e, _⟩ => by rw [e]; rfl) (fun f cdv A outer s H E hr tk po => ⟨_, (ss_one (s_ret (d_fn C_fits tk hr (dl_cons (dv 0) (dl_cons (d_fn C_look_codes tk hr (dl_cons (d_fn C_head tk hr (dl_cons (dv 0) dl_nil)) dl_nil)) dl_nil))))), fun ds r P' XR h => ?_⟩)
  obtain ⟨d, rfl, pd, h⟩ := h
  exact ⟨d, rfl, pd, _, rfl, d, _, rfl, pd, look_head, fit.of h⟩
abbrev N_is_looks : List Str := ["rows", "row"]
theorem sc_is_looks : FnScope N_is_looks ["rows"] (defScope s_is_looks) := ⟨rfl, rfl, rfl, by decide +kernel, rfl, by decide +kernel, by decide +kernel⟩
theorem c_is_looks (B : Bl mg) (C_is_look : Cl P w K mg base 4 "is_look" ["row"] spIsLook) (Dx : Dfn K mg "is_looks" s_is_looks ["rows"]) : Cl P w K mg base 5 "is_looks" ["rows"] spIsLooks := by
  have sc := sc_is_looks
  refine cl_of Dx sc (fun ds r P' XR ⟨d, e, _⟩ => by rw [e]; rfl) (fun f cdv A outer s H E hr tk po => ⟨_, (ss_one (s_ret (d_and (d_isi .tuple (by rfl) B.isi (dv 0) (by rfl) B.tuple) (d_one (d_blt c_all (by rfl) B.all (dl_cons (d_lc (js := [1]) (own := [("row", 1)]) sc.nd (i_tup (dv 0)) (blkOk_by (own := [("row", 1)]) (N := N_is_looks) (sc := defScope s_is_looks) (by decide +kernel)) (fun _ _ _ _ _ => (g_name (i := 1) sc.nd)) (fun _ _ _ _ _ => pts_no) (fun _ _ _ _ _ => (d_fnN C_is_look hr (dl_cons (dv 1) dl_nil)))) dl_nil)))))), fun ds r P' XR h => ?_⟩)
  obtain ⟨d, rfl, pd, h⟩ := h
  replace h := fit.of h
  cases d with
  | adr => cases pd
  | ins => cases pd
  | dct => cases pd
  | tup vs =>
    refine brT ?_
    obtain ⟨pl, pv⟩ := plain_tup pd
    refine lc_map (fun d => .bl (isLookD d)) ?_ ?_ ?_
    · exact pl
    · exact fun d hd r' P'' q => ⟨d, rfl, plains_mem pv hd, q⟩
    · refine oAll_of (f := fun bs => bs.all id) (k := fun d => fit P' d r) (bls_of isLookD vs) ?_
      have e : (vs.map isLookD).all id = isLooksD (.tup vs) := by rw [List.all_map]; rfl
      exact e ▸ h
  | _ => exact brF h
theorem at3 {α : Type} {a b c d : α} {l : List α} : atI (a :: b :: c :: d :: l) 3 = some d := L2.atI_nat (j := 3) rfl
theorem at4 {α : Type} {a b c d e : α} {l : List α} : atI (a :: b :: c :: d :: e :: l) 4 = some e := L2.atI_nat (j := 4) rfl
theorem look_tup {d : D} (h : isLookD d = true) : ∃ vs, d = .tup (.str (headD d) :: vs) := by
  by_cases q : headD d = ""
  · unfold isLookD at h
    rw [q] at h
    have e : lookC "" = none := by decide +kernel
    rw [e] at h
    simp [fitsD] at h
  · exact headD_tup rfl q
theorem looks_tup {d : D} (h : isLooksD d = true) : ∃ vs, d = .tup vs := by
  cases d <;> first | exact ⟨_, rfl⟩ | cases h
theorem watch_no {w : Str} {vs : List D} (h : vs.length ≠ 4) : watchD (.str w :: vs) = false := by
  unfold watchD
  split
  · rename_i heq
    cases heq
    exact absurd rfl h
  · rfl
theorem watch_yes (w : Str) (n g a b : D) : watchD [.str w, n, g, a, b] = ((isNameD n && gateD g) && isLooksD a && (if w == "assert" then isLookD b && hasS assertedT (headD b) && decide (lenD a ≤ 6) else isLooksD b && decide (lenD a + lenD b ≤ 6))) := rfl
theorem len4 {vs : List D} (h : vs.length = 4) : ∃ n g a b, vs = [n, g, a, b] := by
  match vs, h with
  | [n, g, a, b], _ => exact ⟨_, _, _, _, rfl⟩
abbrev N_is_watcher : List Str := ["row"]
theorem sc_is_watcher : FnScope N_is_watcher ["row"] (defScope s_is_watcher) := ⟨rfl, rfl, rfl, by decide +kernel, rfl, by decide +kernel, by decide +kernel⟩
theorem c_is_watcher (B : Bl mg) (gG : GT K mg "GATES" gatesT) (gA : GT K mg "ASSERTED" assertedT) (gM : GI mg "MOST_LOOKS" 6) (C_is_name : Cl P w K mg base 1 "is_name" ["value"] spIsName) (C_is_look : Cl P w K mg base 4 "is_look" ["row"] spIsLook) (C_is_looks : Cl P w K mg base 5 "is_looks" ["rows"] spIsLooks) (Dx : Dfn K mg "is_watcher" s_is_watcher ["row"]) : Cl P w K mg base 6 "is_watcher" ["row"] spWatcher := by
  have sc := sc_is_watcher
  refine cl_of Dx sc (fun ds r P' XR ⟨w, vs, e, _⟩ => by rw [e]; rfl) (fun f cdv A outer s H E hr tk po => ?_)
  have hu := hr.units
  have hi := u65 hr
  refine ⟨_, (ss_cons (s_if (b_w (w_or (b_cmp (p_ne hu) (d_blt c_len (by rfl) B.len (dl_cons (dv 0) dl_nil)) d_int) (w_or (b_not (b_tru (d_fn C_is_name tk hr (dl_cons (d_ix (dv 0) d_int) dl_nil)))) (w_or (b_not (b_tru (d_isi .str (by rfl) B.isi (d_ix (dv 0) d_int) (by rfl) B.str))) (w_or1 (b_cmp (p_notIn hi) (d_ix (dv 0) d_int) (d_gT gG)))))))
  (ss_one (s_ret d_bl))
  ss_nil)
  (ss_cons (s_if (b_not (b_tru (d_fn C_is_looks tk hr (dl_cons (d_ix (dv 0) d_int) dl_nil))))
  (ss_one (s_ret d_bl))
  ss_nil)
  (ss_cons (s_if (b_cmp (p_eq hu) (d_ix (dv 0) d_int) d_str)
  (ss_one (s_ret (d_and (d_fn C_is_look tk hr (dl_cons (d_ix (dv 0) d_int) dl_nil)) (d_and (d_cmp (p_in hi) (d_ix (d_ix (dv 0) d_int) d_int) (d_gT gA)) (d_one (d_cmp p_le (d_blt c_len (by rfl) B.len (dl_cons (d_ix (dv 0) d_int) dl_nil)) (d_gI gM)))))))
  ss_nil)
  (ss_one (s_ret (d_and (d_fn C_is_looks tk hr (dl_cons (d_ix (dv 0) d_int) dl_nil)) (d_one (d_cmp p_le (d_bin p_add (d_blt c_len (by rfl) B.len (dl_cons (d_ix (dv 0) d_int) dl_nil)) (d_blt c_len (by rfl) B.len (dl_cons (d_ix (dv 0) d_int) dl_nil))) (d_gI gM))))))))), fun ds r P' XR h => ?_⟩
  obtain ⟨z, vs, rfl, pv, h⟩ := h
  replace h := fit.of h
  have fin : ∀ b, watchD (.str z :: vs) = b → fit P' (.bl b) r := fun b e => e ▸ h
  refine fun _ => ⟨Nat.zero_le _, Nat.zero_le _, ?_⟩
  by_cases hl : vs.length = 4
  · obtain ⟨n, g, a, b, rfl⟩ := len4 hl
    simp only [G.plains, Bool.and_eq_true] at pv
    obtain ⟨pn, pg, pa, pb, _⟩ := pv
    rw [watch_yes] at fin
    refine brF (ix_t at1 ⟨n, rfl, pn, ?_⟩)
    cases hn : isNameD n with
    | false => exact brT (brT (fin _ (by rw [hn]; rfl)))
    | true =>
      refine brF (ix_t at2 ?_)
      rw [hn] at fin
      have nog : (∀ zz, g ≠ .str zz) → fit P' (.bl false) r := fun q => fin _ (by
        have : gateD g = false := by cases g <;> first | rfl | exact absurd rfl (q _)
        rw [this]
        rfl)
      cases g with
      | adr => cases pg
      | ins => cases pg
      | dct => cases pg
      | str zz =>
        refine brF (ix_t at2 ?_)
        refine oNi_t (k := fun d => (match d with | .bl b => _ | _ => False)) ?_
        have e0 : gateD (.str zz) = hasS gatesT zz := rfl
        rw [e0] at fin
        cases hg : hasS gatesT zz with
        | false => exact brt (by show (!hasS gatesT zz) = true; rw [hg]; rfl) (fin _ (by rw [hg]; rfl))
        | true =>
          rw [hg] at fin
          refine brf (by show (!hasS gatesT zz) = false; rw [hg]; rfl) ?_
          refine ix_t at3 ⟨a, rfl, pa, ?_⟩
          cases ha : isLooksD a with
          | false => exact brT (fin _ (by rw [ha]; rfl))
          | true =>
            rw [ha] at fin
            refine brF (ix_t at0 ?_)
            refine ⟨Nat.zero_le _, Nat.zero_le _, ?_⟩
            obtain ⟨va, rfl⟩ := looks_tup ha
            cases hz : z == "assert" with
            | true =>
              rw [hz] at fin
              refine brt hz ?_
              refine ix_t at4 ⟨b, rfl, pb, ?_⟩
              cases hb : isLookD b with
              | false => exact brF (fin _ (by rw [hb]; rfl))
              | true =>
                rw [hb] at fin
                obtain ⟨vb, eb⟩ := look_tup hb
                refine brT (ix_t at4 ?_)
                have fin2 : ∀ c, (hasS assertedT (headD b) && decide (lenD (.tup va) ≤ 6)) = c → fit P' (.bl c) r := fun c e => fin _ e
                have eh : ∀ k : D → Prop, oIn false (.str (headD b)) (.tup (assertedT.map .str)) k → oIx b (.int 0) fun d => oIn false d (.tup (assertedT.map .str)) k := fun k q => by
                  rw [eb]
                  exact ix_t at0 (by rw [eb] at q; exact q)
                refine eh _ ?_
                refine oIn_t (k := fun d => (match d with | .bl b => _ | _ => False)) ?_
                cases hs : hasS assertedT (headD b) with
                | false => exact brf hs (fin2 _ (by rw [hs]; rfl))
                | true =>
                  rw [hs] at fin2
                  refine brt hs (ix_t at3 fun _ => ?_)
                  refine fin2 _ ?_
                  show decide (va.length ≤ 6) = decide (((va.length : Nat) : Int) ≤ 6)
                  exact decide_eq_decide.mpr (by omega)
            | false =>
              rw [hz] at fin
              refine brf hz ?_
              refine ix_t at4 ⟨b, rfl, pb, ?_⟩
              cases hb : isLooksD b with
              | false => exact brF (fin _ (by rw [hb]; rfl))
              | true =>
                rw [hb] at fin
                obtain ⟨vb, rfl⟩ := looks_tup hb
                refine brT (ix_t at3 fun _ => ix_t at4 fun _ => ?_)
                refine fin _ ?_
                show decide (va.length + vb.length ≤ 6) = decide (((va.length : Nat) : Int) + ((vb.length : Nat) : Int) ≤ 6)
                exact decide_eq_decide.mpr (by omega)
      | _ => exact brT (brT (nog fun _ => by intro q; cases q))
  · refine brt ?_ (brT (fin _ (watch_no hl)))
    show (!eqD (.int (((.str z :: vs : List D).length : Nat) : Int)) (.int ((5 : Nat) : Int))) = true
    exact ne_len (by rw [List.length_cons]; omega)
abbrev N_is_row : List Str := ["row"]
theorem sc_is_row : FnScope N_is_row ["row"] (defScope s_is_row) := ⟨rfl, rfl, rfl, by decide +kernel, rfl, by decide +kernel, by decide +kernel⟩
theorem c_is_row (C_head : Cl P w K mg base 1 "head" ["value"] spHead) (C_row_codes : Cl P w K mg base 1 "row_codes" ["word"] spRowC) (C_branch_codes : Cl P w K mg base 1 "branch_codes" ["opener", "word"] spBranchC) (C_fits : Cl P w K mg base 3 "fits" ["value", "codes"] spFits) (C_is_watcher : Cl P w K mg base 6 "is_watcher" ["row"] spWatcher) (Dx : Dfn K mg "is_row" s_is_row ["row"]) : Cl P w K mg base 7 "is_row" ["row"] spIsRow := by
  have sc := sc_is_row
  refine cl_of Dx sc (fun ds r P' XR ⟨d, e, _⟩ => by rw [e]; rfl) (fun f cdv A outer s H E hr tk po => ?_)
  have hu := hr.units
  refine ⟨_, (ss_cons (s_match (d_fn C_head tk hr (dl_cons (dv 0) dl_nil)) (pc_cons (pm_v hu)
  (ss_one (s_ret d_bl))
  (pc_cons (pm_or (pf_cons (pm_v hu) (pf_cons (pm_v hu) pf_nil)))
  (ss_one (s_ret (d_fn C_is_watcher tk hr (dl_cons (dv 0) dl_nil))))
  (pc_cons (pm_or (pf_cons (pm_v hu) (pf_cons (pm_v hu) pf_nil)))
  (ss_one (s_ret (d_fn C_fits tk hr (dl_cons (d_sl (dv 0) (o_some d_int) o_no) (dl_cons (d_fn C_branch_codes tk hr (dl_cons (d_ix (dv 0) d_int) (dl_cons (d_fn C_head tk hr (dl_cons (d_sl (dv 0) (o_some d_int) o_no) dl_nil)) dl_nil))) dl_nil)))))
  pc_nil))))
  (ss_one (s_ret (d_fn C_fits tk hr (dl_cons (dv 0) (dl_cons (d_fn C_row_codes tk hr (dl_cons (d_ix (dv 0) d_int) dl_nil)) dl_nil)))))), fun ds r P' XR h => ?_⟩
  obtain ⟨d, rfl, pd, h⟩ := h
  replace h := fit.of h
  refine ⟨d, rfl, pd, ?_⟩
  have fin : ∀ b, isRowD d = b → fit P' (.bl b) r := fun b e => e ▸ h
  unfold isRowD at fin
  refine ⟨fun (h1 : (headD d == "") = true) => ?_, fun (h1 : (headD d == "") = false) => ?_⟩
  · rw [if_pos h1] at fin
    exact fin _ rfl
  · rw [if_neg (by rw [h1]; decide)] at fin
    obtain ⟨vs, e⟩ := headD_tup (d := d) rfl (fun e => by rw [e] at h1; cases h1)
    generalize headD d = z at *
    subst e
    obtain ⟨pl, pv⟩ := plain_tup pd
    simp only [G.plains, Bool.and_eq_true] at pv
    refine ⟨fun (h2 : (z == "probe" || (z == "assert" || false)) = true) => ?_, fun (h2 : (z == "probe" || (z == "assert" || false)) = false) => ⟨fun (h3 : (z == "if" || (z == "while" || false)) = true) => ?_, fun (h3 : (z == "if" || (z == "while" || false)) = false) => ?_⟩⟩
    · rw [Bool.or_false] at h2
      rw [if_pos h2] at fin
      exact ⟨z, vs, rfl, pv.2, fin _ rfl⟩
    · rw [Bool.or_false] at h2 h3
      rw [if_neg (by rw [h2]; decide), if_pos h3] at fin
      have pt : G.plain (.tup vs) = true := plain_of_tup (by rw [List.length_cons] at pl; omega) pv.2
      refine oSl_1 ?_
      refine ix_t at0 (oSl_1 ?_)
      exact ⟨.tup vs, rfl, pt, z, _, rfl, .tup vs, _, rfl, pt, .inr ⟨vs, rfl⟩, fin _ rfl⟩
    · rw [Bool.or_false] at h2 h3
      rw [if_neg (by rw [h2]; decide), if_neg (by rw [h3]; decide)] at fin
      exact ix_t at0 ⟨z, rfl, _, _, rfl, pd, .inr ⟨_, rfl⟩, fin _ rfl⟩
abbrev N_is_probe : List Str := ["row"]
theorem sc_is_probe : FnScope N_is_probe ["row"] (defScope s_is_probe) := ⟨rfl, rfl, rfl, by decide +kernel, rfl, by decide +kernel, by decide +kernel⟩
theorem c_is_probe (Dx : Dfn K mg "is_probe" s_is_probe ["row"]) : Cl P w K mg base 1 "is_probe" ["row"] spIsProbe := by
  have sc := sc_is_probe
  refine cl_of Dx sc (fun ds r P' XR ⟨_, d, e, _⟩ => by rw [e]; rfl) (fun f cdv A outer s H E hr tk po => ?_)
  have hi := u65 hr
  refine ⟨_, (ss_one (s_ret (d_cmp (p_in hi) (d_ix (dv 0) d_int) (d_tup (dl_cons d_str (dl_cons d_str dl_nil)))))), fun ds r P' XR h => ?_⟩
  obtain ⟨z, vs, rfl, h⟩ := h
  refine ix_t at0 ⟨Nat.le_of_ble_eq_true rfl, ?_⟩
  exact oIn_t (xs := ["probe", "assert"]) (k := fun d => fit P' d r) (fit.of h)
def knE (ths : List Th) : List (Str × D) := ths.foldl (fun l t => aPut l t.nm (.str t.kd)) []
def overOk (pre : List Th) (o : Str) : Bool := match aGet (knE pre) o with | some (.str z) => hasS ["source", "field"] z | _ => false
def badF : List Th → List Th → Option Str
  | _, [] => none
  | pre, t :: ts => if t.kd == "field" && !overOk pre (t.ps.headD "") then some (t.ps.headD "") else badF (pre ++ [t]) ts
def spNeedTh (CT CT2 CTN CTM : Addr) : SpX := fun ds r P XR => ∃ (d : D) (ths : List Th), ds = [d] ∧ seqD d = some (ths.map (thD CT)) ∧ ths.length ≤ 100 ∧ (∀ t ∈ ths, t.kd = ("field" : Str) → t.ps ≠ []) ∧ (∀ x, twice [] (ths.map fun t : Th => D.str t.nm) = some x → XR CT2 ["name"] [x] r) ∧
  (twice [] (ths.map fun t : Th => D.str t.nm) = none → (∀ o, badF [] ths = some o → XR CTN ["name"] [.str o] r) ∧ (badF [] ths = none → (8 < ths.length → XR CTM ["limit"] [.int 8] r) ∧ (ths.length ≤ 8 → P .non r)))
theorem knE_snoc (ths : List Th) (t : Th) : knE (ths ++ [t]) = aPut (knE ths) t.nm (.str t.kd) := by
  unfold knE
  rw [List.foldl_append]
  rfl
theorem knE_len (ths : List Th) : ∀ i, (knE (ths.take i)).length ≤ i
  | 0 => Nat.le_refl _
  | i + 1 => by
    have ih := knE_len ths i
    rw [List.take_add_one]
    cases q : ths[i]? with
    | none =>
      show (knE (ths.take i ++ [])).length ≤ _
      rw [List.append_nil]; omega
    | some t =>
      show (knE (ths.take i ++ [t])).length ≤ _
      rw [knE_snoc]
      have := aPut_le (knE (ths.take i)) t.nm (.str t.kd)
      omega
theorem knE_str (ths : List Th) (z : Str) : ∀ d, aGet (knE ths) z = some d → ∃ k, d = .str k := by
  have go : ∀ (l : List (Str × D)) (ths : List Th), (∀ z d, aGet l z = some d → ∃ k, d = .str k) → ∀ z d, aGet (ths.foldl (fun l t => aPut l t.nm (.str t.kd)) l) z = some d → ∃ k, d = .str k := fun l ths => by
    induction ths generalizing l with
    | nil => exact fun h => h
    | cons t ths ih =>
      intro h
      refine ih (aPut l t.nm (.str t.kd)) fun z d hd => ?_
      rw [aGet_put] at hd
      split at hd
      · cases hd; exact ⟨_, rfl⟩
      · exact h z d hd
  exact go [] ths (fun z d h => by cases h) z
abbrev N_need_things : List Str := ["things", "thing", "known"]
theorem sc_need_things : FnScope N_need_things ["things"] (defScope s_need_things) := ⟨rfl, rfl, rfl, by decide +kernel, rfl, by decide +kernel, by decide +kernel⟩
theorem c_need_things {CT CT2 CTN CTM : Addr} (B : Bl mg) (gM : GI mg "MOST_THINGS" 8) (X_NoThing : ErrX P w K mg base "NoThing" CTN "name") (X_TooMany : ErrX P w K mg base "TooMany" CTM "limit") (K_Thing : KCls K mg "Thing" CT thF) (C_need_unlike : Cl P w K mg base 3 "need_unlike" ["names"] (spUnlike CT2))
    (Dx : Dfn K mg "need_things" s_need_things ["things"]) : Cl P w K mg base 4 "need_things" ["things"] (spNeedTh CT CT2 CTN CTM) := by
  have sc := sc_need_things
  refine cl_of Dx sc (fun ds r P' XR ⟨_, _, e, _⟩ => by rw [e]; rfl) (fun f cdv A outer s H E hr tk po => ?_)
  have hu := hr.units
  have hi := u65 hr
  refine ⟨_, (ss_cons (s_expr (d_fn C_need_unlike tk hr (dl_cons (d_lc (js := [1]) (own := [("thing", 1)]) sc.nd (i_any (dv 0)) (blkOk_by (own := [("thing", 1)]) (N := N_need_things) (sc := defScope s_need_things) (by decide +kernel)) (fun _ _ _ _ _ => (g_name (i := 1) sc.nd)) (fun _ _ _ _ _ => pts_no) (fun _ _ _ _ _ => (d_fld (dv 1)))) dl_nil)))
  (ss_cons (s_set (i := 2) sc.nd d_dnew)
  (ss_cons (s_for (i_any (dv 0)) (g_name (i := 1) sc.nd)
  (ss_cons (s_if (b_w (w_and (b_cmp (p_eq hu) (d_fld (dv 1)) d_str) (w_and1 (b_cmp (p_notIn hi) (d_dgt2 hi (dv 2) (d_ix (d_fld (dv 1)) d_int) d_str ⟨rfl, rfl, rfl, rfl⟩) (d_tup (dl_cons d_str (dl_cons d_str dl_nil)))))))
  (ss_one (s_raise X_NoThing.c tk hr (dl_cons (d_ix (d_fld (dv 1)) d_int) dl_nil)))
  ss_nil)
  (ss_one (s_dput hi (dv 2) (d_fld (dv 1)) (d_fld (dv 1))))) po)
  (ss_one (s_if (b_cmp p_gt (d_blt c_len (by rfl) B.len (dl_cons (dv 0) dl_nil)) (d_gI gM))
  (ss_one (s_raise X_TooMany.c tk hr (dl_cons (d_gI gM) dl_nil)))
  ss_nil))))), fun ds r P' XR h => ?_⟩
  obtain ⟨d, ths, rfl, hsq, hz, hf, h1, h2⟩ := h
  refine ⟨_, hsq, lc_map (fun d => match d with | .ins _ _ [_, n, _] => n | _ => .non) (by rw [List.length_map]; unfold small; omega) ?_ ?_⟩
  · intro e he r' P2 p
    obtain ⟨t, _, rfl⟩ := List.mem_map.mp he
    exact .fro 1 _ (by decide) rfl p
  rw [List.map_map]
  refine ⟨_, ths.map fun t => .str t.nm, rfl, rfl, by rw [List.length_map]; omega, fun x hx => ?_, fun e => ?_, fun x hx => ⟨_, le.refl, h1 x hx⟩⟩
  · obtain ⟨t, _, rfl⟩ := List.mem_map.mp hx
    exact Nat.zero_le _
  obtain ⟨h3, h4⟩ := h2 e
  intro p
  refine ⟨_, hsq, ?_⟩
  refine ⟨fun i δ r' => (∃ x, δ = [some d, x, some (.adr p)]) ∧ i ≤ ths.length ∧ r' = r ++ [dctA p (nk (knE (ths.take i)))] ∧ badF (ths.take i) (ths.drop i) = badF [] ths, ⟨⟨_, rfl⟩, Nat.zero_le _, rfl, rfl⟩, ?_, ?_⟩
  · rintro i e δ r' he ⟨⟨x, rfl⟩, hil, rfl, hb⟩
    rw [List.getElem?_map] at he
    obtain ⟨t, ht, rfl⟩ := Option.map_eq_some_iff.mp he
    have hlt := (List.getElem?_eq_some_iff.mp ht).1
    have dr : ths.drop i = t :: ths.drop (i + 1) := by
      rw [← (List.getElem?_eq_some_iff.mp ht).2]
      exact (List.getElem_cons_drop hlt).symm
    have tk1 : ths.take (i + 1) = ths.take i ++ [t] := by rw [List.take_add_one, ht]; rfl
    rw [dr, show badF (ths.take i) (t :: ths.drop (i + 1)) = if t.kd == "field" && !overOk (ths.take i) (t.ps.headD "") then some (t.ps.headD "") else badF (ths.take i ++ [t]) (ths.drop (i + 1)) from rfl] at hb
    have go : badF (ths.take i ++ [t]) (ths.drop (i + 1)) = badF [] ths → oFld "kind" (thD CT t) (r ++ [dctA p (nk (knE (ths.take i)))]) fun z r1 => oFld "name" (thD CT t) r1 fun y r3 => oDPut r3 y z (.adr p) fun r4 => (∃ x, [some d, some (thD CT t), some (.adr p)] = [some d, x, some (.adr p)]) ∧ i + 1 ≤ ths.length ∧ r4 = r ++ [dctA p (nk (knE (ths.take (i + 1))))] ∧ badF (ths.take (i + 1)) (ths.drop (i + 1)) = badF [] ths := fun hb => by
      refine .fro 0 _ (by decide) rfl (.fro 1 _ (by decide) rfl (.mk r [] _ (.inr t.nm) rfl rfl ?_ ⟨⟨_, rfl⟩, hlt, ?_, by rw [tk1]; exact hb⟩))
      · rw [nk_len]
        have := knE_len ths i
        unfold small
        omega
      · rw [nk_put, tk1, knE_snoc]
    refine .fro 0 _ (by decide) rfl ⟨Nat.zero_le _, Nat.zero_le _, ?_⟩
    cases q : t.kd == "field" with
    | false =>
      rw [q, Bool.false_and, if_neg (by decide)] at hb
      exact brf q (brF (go hb))
    | true =>
      refine brt q ?_
      obtain ⟨o, os, ho⟩ := List.exists_cons_of_ne_nil (hf t (List.mem_of_getElem? ht) (eq_of_beq q))
      rw [q, Bool.true_and, ho] at hb
      have hb : (if (!overOk (ths.take i) o) = true then some o else badF (ths.take i ++ [t]) (ths.drop (i + 1))) = badF [] ths := hb
      have hpd : (thD CT t) = .ins CT thF [.str t.kd, .str t.nm, .tup (.str o :: os.map .str)] := by unfold thD; rw [ho]; rfl
      refine ⟨.inl ⟨p, _, rfl, r, [], rfl⟩, ?_⟩
      rw [hpd]
      refine .fro 2 _ (by decide) rfl (ix_t at0 (.own ⟨r, [], rfl⟩ rfl ?_))
      rw [nk_get]
      have hO : overOk (ths.take i) o = hasS ["source", "field"] (match aGet (knE (ths.take i)) o with | some (.str z) => z | _ => "") := by
        unfold overOk
        cases aGet (knE (ths.take i)) o with
        | none => rfl
        | some d => cases d <;> rfl
      have hg : (aGet (knE (ths.take i)) o).getD (.str "") = .str (match aGet (knE (ths.take i)) o with | some (.str z) => z | _ => "") := by
        cases q2 : aGet (knE (ths.take i)) o with
        | none => rfl
        | some d =>
          obtain ⟨k, rfl⟩ := knE_str _ _ _ q2
          rfl
      rw [hg]
      refine ⟨Nat.le_of_ble_eq_true rfl, oNi_t (xs := ["source", "field"]) (k := fun d => (match d with | .bl b => _ | _ => False)) ?_⟩
      rw [← hpd]
      cases q3 : overOk (ths.take i) o with
      | true =>
        rw [q3, if_neg (by decide)] at hb
        rw [hO] at q3
        exact brf (by show (!hasS ["source", "field"] _) = false; rw [q3]; rfl) (go hb)
      | false =>
        rw [q3, if_pos (c := (!false) = true) rfl] at hb
        rw [hO] at q3
        refine brt (by show (!hasS ["source", "field"] _) = true; rw [q3]; rfl) ?_
        rw [hpd]
        refine .fro 2 _ (by decide) rfl (ix_t at0 ⟨.str o, rfl, _, le.drop, h3 o hb.symm⟩)
  · rintro δ r' ⟨⟨x0, rfl⟩, hil, rfl, hb⟩
    rw [List.length_map, List.drop_length] at hb
    obtain ⟨h5, h6⟩ := h4 hb.symm
    have fin : ∀ n : Nat, n = ths.length → (decide ((8 : Int) < ((n : Nat) : Int)) = true → ∃ x, [D.int 8] = [x] ∧ fitX XR CTM ["limit"] [x] [some d, x0, some (.adr p)] (r ++ [dctA p (nk (knE (ths.take (ths.map (thD CT)).length)))])) ∧ (decide ((8 : Int) < ((n : Nat) : Int)) = false → fit P' .non (r ++ [dctA p (nk (knE (ths.take (ths.map (thD CT)).length)))])) := fun n e => by
      subst e
      refine ⟨fun z => ⟨.int 8, rfl, _, le.drop, h5 ?_⟩, fun z => ⟨_, le.drop, h6 ?_⟩⟩
      · have : (8 : Int) < ((ths.length : Nat) : Int) := of_decide_eq_true z
        omega
      · have : ¬ (8 : Int) < ((ths.length : Nat) : Int) := of_decide_eq_false z
        omega
    cases d with
    | lst xs => cases hsq; exact fun _ => fin _ (List.length_map _)
    | tup xs => cases hsq; exact fun _ => fin _ (List.length_map _)
    | _ => cases hsq
def freeT : List Str := ["key", "name", "length", "keys"]
def knOk (ths : List Th) (v : D) (c : Str) : Bool := hasS freeT c || (match v with | .str z => (match thAt ths z with | some t => hasS ["thing", t.kd] c | none => false) | _ => false)
def unk (ths : List Th) (l : List (D × Str)) : Option D := (l.find? fun e => !knOk ths e.1 e.2).map (·.1)
def keyOk (ths : List Th) (vs : List D) (v : D) (c : Str) : Bool := !(c == "key") || (match vs, v with | .str z :: _, .str k => (match thAt ths z with | some t => t.ps.any fun p => p == k | none => false) | _, _ => false)
def nok (ths : List Th) (vs : List D) (l : List (D × Str)) : Option D := (l.find? fun e => !keyOk ths vs e.1 e.2).map (·.1)
def spNeedKn (CT CTN CTK : Addr) : SpX := fun ds r P XR => ∃ (kd : Addr) (w : Str) (vs : List D) (cs : List Str) (ths : List Th) (pre post : Rs), ds = [.adr kd, .tup (.str w :: vs), tS cs] ∧ r = pre ++ dctA kd (nk (thE CT ths)) :: post ∧ vs.length = cs.length ∧ vs.length ≤ 100 ∧
  (∀ e ∈ vs.zip cs, suitsD e.1 e.2 = true) ∧ (hasS cs "key" = true → ∃ cs', cs = ("table" : Str) :: cs') ∧ (∀ x, unk ths (vs.zip cs) = some x → XR CTN ["name"] [x] r) ∧ (unk ths (vs.zip cs) = none → (∀ x, nok ths vs (vs.zip cs) = some x → XR CTK ["key"] [x] r) ∧ (nok ths vs (vs.zip cs) = none → P .non r))
theorem find_drop {α : Type} {p : α → Bool} {l : List α} {i : Nat} {e : α} (h : l.find? p = (l.drop i).find? p) (he : l[i]? = some e) : (p e = true → l.find? p = some e) ∧ (p e = false → l.find? p = (l.drop (i + 1)).find? p) := by
  have hlt := (List.getElem?_eq_some_iff.mp he).1
  have dr : l.drop i = e :: l.drop (i + 1) := by
    rw [← (List.getElem?_eq_some_iff.mp he).2]
    exact (List.getElem_cons_drop hlt).symm
  rw [dr, List.find?_cons] at h
  exact ⟨fun q => by rw [h, q], fun q => by rw [h, q]⟩
theorem zipD_at {vs : List D} {cs : List Str} {i : Nat} {d : D} (h : (zipD vs (cs.map .str))[i]? = some d) : ∃ v c, d = .tup [v, .str c] ∧ (vs.zip cs)[i]? = some (v, c) := by
  unfold zipD at h
  rw [List.getElem?_map] at h
  obtain ⟨e, he, rfl⟩ := Option.map_eq_some_iff.mp h
  rw [List.getElem?_zip_eq_some] at he
  obtain ⟨h1, h2⟩ := he
  rw [List.getElem?_map] at h2
  obtain ⟨c, hc, h3⟩ := Option.map_eq_some_iff.mp h2
  exact ⟨e.1, c, by rw [h3], List.getElem?_zip_eq_some.mpr ⟨h1, hc⟩⟩
theorem zipD_length (vs : List D) (cs : List Str) : (zipD vs (cs.map .str)).length = (vs.zip cs).length := by
  unfold zipD
  rw [List.length_map, List.length_zip, List.length_zip, List.length_map]
theorem suits_name {v : D} {c : Str} (h : suitsD v c = true) (n : hasS freeT c = false) : ∃ z, v = .str z := by
  unfold suitsD at h
  have n1 : ¬ (c == "length") = true := fun e => by rw [eq_of_beq e] at n; exact absurd n (by decide)
  have n2 : ¬ (c == "keys") = true := fun e => by rw [eq_of_beq e] at n; exact absurd n (by decide)
  rw [if_neg n1, if_neg n2] at h
  cases v <;> first | exact ⟨_, rfl⟩ | cases h
theorem suits_key {v : D} (h : suitsD v "key" = true) : ∃ z, v = .str z := by
  cases v <;> first | exact ⟨_, rfl⟩ | cases h
abbrev N_need_known : List Str := ["known", "words", "codes", "word", "code"]
theorem sc_need_known : FnScope N_need_known ["known", "words", "codes"] (defScope s_need_known) := ⟨rfl, rfl, rfl, by decide +kernel, rfl, by decide +kernel, by decide +kernel⟩
theorem c_need_known {CT CTN CTK : Addr} (B : Bl mg) (gF : GT K mg "FREE" freeT) (X_NoThing : ErrX P w K mg base "NoThing" CTN "name") (X_NoKey : ErrX P w K mg base "NoKey" CTK "key") (K_Thing : KCls K mg "Thing" CT thF)
    (Dx : Dfn K mg "need_known" s_need_known ["known", "words", "codes"]) : Cl P w K mg base 3 "need_known" ["known", "words", "codes"] (spNeedKn CT CTN CTK) := by
  have sc := sc_need_known
  refine cl_of Dx sc (fun ds r P' XR ⟨_, _, _, _, _, _, _, e, _⟩ => by rw [e]; rfl) (fun f cdv A outer s H E hr tk po => ?_)
  have hu := hr.units
  have hi := u65 hr
  refine ⟨_, (ss_cons (s_for (i_zip (by rfl) B.zip (dl_cons (d_sl (dv 1) (o_some d_int) o_no) (dl_cons (dv 2) dl_nil))) (g_tup (is := [3, 4]) (pgs_n (i := 3) sc.nd (pgs_n (i := 4) sc.nd pgs_nil)))
  (ss_one (s_if (b_cmp (p_notIn hi) (dv 4) (d_gT gF))
  (ss_one (s_if (b_w (w_or (b_cmpO (p_dnin hi) (dv 3) (dv 0)) (w_or1 (b_cmp (p_notIn hi) (dv 4) (d_tup (dl_cons d_str (dl_cons (d_fld (d_dix hi (dv 0) (dv 3))) dl_nil)))))))
  (ss_one (s_raise X_NoThing.c tk hr (dl_cons (dv 3) dl_nil)))
  ss_nil))
  ss_nil)) po)
  (ss_one (s_for (i_zip (by rfl) B.zip (dl_cons (d_sl (dv 1) (o_some d_int) o_no) (dl_cons (dv 2) dl_nil))) (g_tup (is := [3, 4]) (pgs_n (i := 3) sc.nd (pgs_n (i := 4) sc.nd pgs_nil)))
  (ss_one (s_if (b_w (w_and (b_cmp (p_eq hu) (dv 4) d_str) (w_and1 (b_cmp (p_notIn hi) (dv 3) (d_fld (d_dix hi (dv 0) (d_ix (dv 1) d_int)))))))
  (ss_one (s_raise X_NoKey.c tk hr (dl_cons (dv 3) dl_nil)))
  ss_nil)) po))), fun ds r P' XR h => ?_⟩
  obtain ⟨kd, w, vs, cs, ths, pre, post, rfl, rfl, hl, hz, hs, hk, h1, h2⟩ := h
  have own : OwnD (pre ++ dctA kd (nk (thE CT ths)) :: post) kd (nk (thE CT ths)) := ⟨pre, post, rfl⟩
  have hz2 : (cs.map D.str).length = vs.length := by rw [List.length_map, hl]
  have kget : ∀ {z : Str} {k : Option D → Prop}, k ((thAt ths z).map (thD CT)) → oDGet (pre ++ dctA kd (nk (thE CT ths)) :: post) (.adr kd) (.str z) k := fun p => .own own rfl (by rw [nk_get, thE_at]; exact p)
  have h1' : ∀ v c, (vs.zip cs).find? (fun e => !knOk ths e.1 e.2) = some (v, c) → XR CTN ["name"] [v] (pre ++ dctA kd (nk (thE CT ths)) :: post) := fun v c e => h1 v (by unfold unk; rw [e]; rfl)
  refine oSl_1 ?_
  refine ⟨hz2.symm, ⟨fun i δ r' => (∃ x y, δ = [some (.adr kd), some (.tup (.str w :: vs)), some (tS cs), x, y]) ∧ r' = pre ++ dctA kd (nk (thE CT ths)) :: post ∧ (vs.zip cs).find? (fun e => !knOk ths e.1 e.2) = ((vs.zip cs).drop i).find? (fun e => !knOk ths e.1 e.2), ⟨⟨_, _, rfl⟩, rfl, rfl⟩, ?_, ?_⟩⟩
  · rintro i d δ r' hd ⟨⟨x, y, rfl⟩, rfl, hI⟩
    obtain ⟨v, c, rfl, he⟩ := zipD_at hd
    obtain ⟨f1, f2⟩ := find_drop hI he
    have hsu := hs (v, c) (List.mem_of_getElem? he)
    refine ⟨rfl, oNi_t (k := fun d => (match d with | .bl b => _ | _ => False)) ?_⟩
    cases q : hasS freeT c with
    | true =>
      refine brf (by show (!hasS freeT c) = false; rw [q]; rfl) ⟨⟨_, _, rfl⟩, rfl, f2 ?_⟩
      show (!knOk ths v c) = false
      unfold knOk
      rw [q]
      rfl
    | false =>
      refine brt (by show (!hasS freeT c) = true; rw [q]; rfl) ?_
      obtain ⟨z, rfl⟩ := suits_name hsu q
      refine ⟨kget ?_⟩
      cases q2 : thAt ths z with
      | none =>
        refine brT (brT ⟨.str z, rfl, _, le.refl, h1' _ _ (f1 ?_)⟩)
        show (!knOk ths (.str z) c) = true
        unfold knOk
        rw [q]
        simp only [q2]
        rfl
      | some t =>
        refine brF (kget ⟨thD CT t, by rw [q2]; rfl, .fro 0 _ (by decide) rfl ⟨Nat.le_of_ble_eq_true rfl, oNi_t (xs := ["thing", t.kd]) (k := fun d => (match d with | .bl b => _ | _ => False)) ?_⟩⟩)
        have ek : knOk ths (.str z) c = hasS ["thing", t.kd] c := by
          unfold knOk
          rw [q]
          simp only [q2]
          rfl
        cases q3 : hasS ["thing", t.kd] c with
        | true => exact brf (by show (!hasS ["thing", t.kd] c) = false; rw [q3]; rfl) ⟨⟨_, _, rfl⟩, rfl, f2 (by show (!knOk ths (.str z) c) = false; rw [ek, q3]; rfl)⟩
        | false => exact brt (by show (!hasS ["thing", t.kd] c) = true; rw [q3]; rfl) ⟨.str z, rfl, _, le.refl, h1' _ _ (f1 (by show (!knOk ths (.str z) c) = true; rw [ek, q3]; rfl))⟩
  · rintro δ r' ⟨⟨x, y, rfl⟩, rfl, hI⟩
    rw [zipD_length, List.drop_length] at hI
    have hU : unk ths (vs.zip cs) = none := by unfold unk; rw [hI]; rfl
    obtain ⟨h3, h4⟩ := h2 hU
    have h3' : ∀ v c, (vs.zip cs).find? (fun e => !keyOk ths vs e.1 e.2) = some (v, c) → XR CTK ["key"] [v] (pre ++ dctA kd (nk (thE CT ths)) :: post) := fun v c e => h3 v (by unfold nok; rw [e]; rfl)
    refine oSl_1 ?_
    refine ⟨hz2.symm, ⟨fun i δ r' => (∃ x y, δ = [some (.adr kd), some (.tup (.str w :: vs)), some (tS cs), x, y]) ∧ r' = pre ++ dctA kd (nk (thE CT ths)) :: post ∧ (vs.zip cs).find? (fun e => !keyOk ths vs e.1 e.2) = ((vs.zip cs).drop i).find? (fun e => !keyOk ths vs e.1 e.2), ⟨⟨_, _, rfl⟩, rfl, rfl⟩, ?_, ?_⟩⟩
    · rintro i d δ r' hd ⟨⟨x, y, rfl⟩, rfl, hJ⟩
      obtain ⟨v, c, rfl, he⟩ := zipD_at hd
      obtain ⟨f1, f2⟩ := find_drop hJ he
      have hsu := hs (v, c) (List.mem_of_getElem? he)
      refine ⟨rfl, Nat.zero_le _, Nat.zero_le _, ?_⟩
      cases q : c == "key" with
      | false =>
        refine brf q (brF ⟨⟨_, _, rfl⟩, rfl, f2 ?_⟩)
        show (!keyOk ths vs v c) = false
        unfold keyOk
        rw [q]
        rfl
      | true =>
        refine brt q ?_
        have ec := eq_of_beq q
        subst ec
        obtain ⟨k, rfl⟩ := suits_key hsu
        have mc : ("key" : Str) ∈ cs := (List.of_mem_zip (List.mem_of_getElem? he)).2
        obtain ⟨cs', rfl⟩ := hk (List.any_eq_true.mpr ⟨_, mc, by decide⟩)
        match vs, hl, hz2, hs, hU, hI, hd, he, h1, h2, h1', h3, h4, h3', own, f1, f2, hJ with
        | v0 :: vs', hl, hz2, hs, hU, hI, hd, he, h1, h2, h1', h3, h4, h3', own, f1, f2, hJ =>
        have s0 := hs (v0, "table") List.mem_cons_self
        obtain ⟨z0, rfl⟩ := suits_name (c := "table") s0 (by decide)
        have k0 : knOk ths (.str z0) "table" = true := by
          have := List.find?_eq_none.mp hI (.str z0, "table") List.mem_cons_self
          cases q5 : knOk ths (.str z0) "table" with
          | true => rfl
          | false => exact absurd (by show (!knOk ths (.str z0) "table") = true; rw [q5]; rfl) this
        obtain ⟨t0, ht0⟩ : ∃ t, thAt ths z0 = some t := by
          unfold knOk at k0
          cases q5 : thAt ths z0 with
          | some t => exact ⟨t, rfl⟩
          | none => simp only [q5] at k0; exact absurd k0 (by decide)
        have ek : keyOk ths (.str z0 :: vs') (.str k) "key" = t0.ps.any fun p => p == k := by
          unfold keyOk
          simp only [ht0]
          rfl
        refine ix_t at1 (kget ⟨thD CT t0, by rw [ht0]; rfl, .fro 2 _ (by decide) rfl (oNi_t (xs := t0.ps) (k := fun d => (match d with | .bl b => _ | _ => False)) ?_)⟩)
        cases q3 : t0.ps.any fun p => p == k with
        | true => exact brf rfl ⟨⟨_, _, rfl⟩, rfl, f2 (by show (!keyOk ths _ (.str k) "key") = false; rw [ek, q3]; rfl)⟩
        | false => exact brt rfl ⟨.str k, rfl, _, le.refl, h3' _ _ (f1 (by show (!keyOk ths _ (.str k) "key") = true; rw [ek, q3]; rfl))⟩
    · rintro δ r' ⟨⟨x, y, rfl⟩, rfl, hJ⟩
      rw [zipD_length, List.drop_length] at hJ
      exact fit.of (h4 (by unfold nok; rw [hJ]; rfl))
abbrev pgF : List Str := ["things", "parts", "rows", "probes", "asserts", "begins", "onward", "otherwise"]
/-- the classes of the errors of programs -/
structure EA where
  br : Addr
  nt : Addr
  nk : Addr
  tw : Addr
  np : Addr
  um : Addr
  tm : Addr
  bn : Addr
/-- what a program is refused with -/
inductive Er where
  | br (n : Nat) | nt (x : D) | nk (x : D) | tw (x : D) | np (x : D) | um (n : Nat) | tm (k : Nat) | bn (x : D)
def Er.rz (E : EA) (XR : XD) (r : Rs) : Er → Prop
  | .br n => XR E.br ["number"] [.int (n : Nat)] r
  | .nt x => XR E.nt ["name"] [x] r
  | .nk x => XR E.nk ["key"] [x] r
  | .tw x => XR E.tw ["name"] [x] r
  | .np x => XR E.np ["name"] [x] r
  | .um n => XR E.um ["number"] [.int (n : Nat)] r
  | .tm k => XR E.tm ["limit"] [.int (k : Nat)] r
  | .bn x => XR E.bn ["name"] [x] r
theorem Er.rz_mono {E : EA} {XR XR' : XD} {r : Rs} (h : ∀ C fs es, XR C fs es r → XR' C fs es r) : ∀ e : Er, e.rz E XR r → e.rz E XR' r
  | .br _, q => h _ _ _ q
  | .nt _, q => h _ _ _ q
  | .nk _, q => h _ _ _ q
  | .tw _, q => h _ _ _ q
  | .np _, q => h _ _ _ q
  | .um _, q => h _ _ _ q
  | .tm _, q => h _ _ _ q
  | .bn _, q => h _ _ _ q
def isPrD (row : D) : Bool := hasS ["probe", "assert"] (headD row)
def looksOf (row : D) : List D := match itemsD row with
  | [.str w, _, _, a, b] => if w == "assert" then itemsD a ++ [b] else itemsD a ++ itemsD b
  | _ => []
def nmd (c : Str → Option (List Str)) (d : D) : D × List Str := (d, (c (headD d)).getD [])
/-- the words in which things and keys are named, with their codes -/
def namedD (row : D) : List (D × List Str) :=
  if isPrD row then (looksOf row).map (nmd lookC)
  else if headD row == "if" || headD row == "while" then [nmd (branchC (headD row)) (.tup (tailD row))]
  else [nmd rowC row]
def row1 (row : D) : D := match itemsD row with | _ :: x :: _ => x | _ => .non
/-- what need_known raises -/
def knErr (ths : List Th) (e : D × List Str) : Option Er := match unk ths ((tailD e.1).zip e.2) with
  | some x => some (.nt x)
  | none => (nok ths (tailD e.1) ((tailD e.1).zip e.2)).map .nk
def rowErr (ths : List Th) (n : Nat) (row : D) (later met : List D) : Option Er :=
  if isRowD row then (match (namedD row).findSome? (knErr ths) with
    | some e => some e
    | none => if isPrD row && memD (row1 row) met then some (.tw (row1 row)) else if headD row == "call" && !memD (row1 row) later then some (.np (row1 row)) else none)
  else some (.br n)
/-- the blocks that are open behind a row -/
def opStep (op : List (Nat × Str)) (n : Nat) (w : Str) : Except Er (List (Nat × Str)) :=
  if w == "if" || w == "while" then (if op.length = 8 then .error (.tm 8) else .ok (op ++ [(n, w)]))
  else if w == "else" then (match op.getLast? with
    | some (k, v) => if v == "if" then .ok (op.dropLast ++ [(k, ("else" : Str))]) else .error (.um n)
    | none => .error (.um n))
  else if w == "end" then (match op.getLast? with | some _ => .ok op.dropLast | none => .error (.um n))
  else .ok op
def opD (op : List (Nat × Str)) : D := .lst (op.map fun e => .tup [.int (e.1 : Nat), .str e.2])
def metP (met : List D) (row : D) : List D := if isPrD row then met ++ [row1 row] else met
def rowsChk (ths : List Th) (later : List D) : Nat → List (Nat × Str) → List D → List D → Except Er (Nat × List D)
  | n, op, met, [] => (match op.getLast? with | some (k, _) => .error (.um k) | none => .ok (n, met))
  | n, op, met, row :: rows => match rowErr ths n row later met with
    | some e => .error e
    | none => match opStep op n (headD row) with
      | .error e => .error e
      | .ok op' => rowsChk ths later (n + 1) op' (metP met row) rows
def partsChk (ths : List Th) : Nat → List D → List (D × List D) → Option Er
  | _, _, [] => none
  | n, met, (_, rows) :: ps => match rowsChk ths (ps.map (·.1)) n [] met rows with
    | .error e => some e
    | .ok (n', met') => partsChk ths n' met' ps
def needPts (ths : List Th) (ps : List (D × List D)) : Option Er :=
  if ps.isEmpty then some (.np .non) else if 5 < ps.length then some (.tm 5) else
  match (ps.map (·.1)).find? (fun d => !isNameD d) with
  | some x => some (.bn x)
  | none => match twice [] (ps.map (·.1)) with
    | some x => some (.tw x)
    | none => if 60 < (ps.map fun p => p.2.length).sum then some (.tm 60) else partsChk ths 0 [] ps
theorem row_ex {row : D} (h : isRowD row = true) : ∃ w vs, row = .tup (.str w :: vs) ∧ headD row = w := by
  unfold isRowD at h
  by_cases q : headD row = ""
  · rw [q] at h
    cases h
  · obtain ⟨vs, e⟩ := headD_tup (d := row) rfl q
    exact ⟨_, vs, e, rfl⟩
/-- what the words named in a row are like -/
def GoodN (e : D × List Str) : Prop := ∃ w vs, e.1 = .tup (.str w :: vs) ∧ vs.length = e.2.length ∧ vs.length ≤ 100 ∧ (∀ x ∈ vs.zip e.2, suitsD x.1 x.2 = true) ∧ (hasS e.2 "key" = true → ∃ cs', e.2 = ("table" : Str) :: cs')
theorem plain_nokey : (plainT.all fun e => !hasS e.2 "key" && decide (e.2.length ≤ 3)) = true := by decide +kernel
theorem lookup_mem {α : Type} {l : List (Str × α)} {w : Str} {c : α} (h : l.lookup w = some c) : (w, c) ∈ l := by
  induction l with
  | nil => cases h
  | cons e l ih =>
    obtain ⟨a, b⟩ := e
    rw [List.lookup_cons] at h
    cases q : w == a with
    | true =>
      rw [q] at h
      have hb : b = c := Option.some.inj h
      rw [eq_of_beq q, hb]
      exact List.mem_cons_self
    | false =>
      rw [q] at h
      exact List.mem_cons_of_mem _ (ih h)
theorem deeds_keyP : (deedsT.all fun e => (!hasS e.2 "key" || (match e.2 with | c :: _ => c == "table" | [] => false)) && decide (e.2.length ≤ 3)) = true := by decide +kernel
theorem deeds_of {w : Str} {c : List Str} (h : deedsT.lookup w = some c) : (hasS c "key" = true → ∃ cs', c = ("table" : Str) :: cs') ∧ c.length ≤ 3 := by
  have q := List.all_eq_true.mp deeds_keyP _ (lookup_mem h)
  simp only [Bool.and_eq_true, decide_eq_true_eq] at q
  refine ⟨fun k => ?_, q.2⟩
  have q1 := q.1
  rw [k] at q1
  cases c with
  | nil => cases k
  | cons a cs' => exact ⟨cs', by rw [eq_of_beq (show (a == "table") = true from q1)]⟩
theorem good_of {c : Str → Option (List Str)} {d : D} {cs : List Str} (hf : fitsD d (c (headD d)) = true) (hc : c (headD d) = some cs) (hn : headD d ≠ "") (hl : cs.length ≤ 3) (hk : hasS cs "key" = true → ∃ cs', cs = ("table" : Str) :: cs') : GoodN (nmd c d) := by
  obtain ⟨vs, e⟩ := headD_tup (d := d) rfl hn
  rw [hc] at hf
  unfold nmd
  rw [hc]
  have hf2 : fitsD (.tup (.str (headD d) :: vs)) (some cs) = true := by rw [← e]; exact hf
  unfold fitsD at hf2
  simp only [Bool.and_eq_true, decide_eq_true_eq, List.all_eq_true, List.length_cons] at hf2
  refine ⟨headD d, vs, e, ?_, ?_, fun x hx => hf2.2 x hx, hk⟩
  · show vs.length = cs.length
    omega
  · omega
theorem fits_some {d : D} {c : Option (List Str)} (h : fitsD d c = true) : ∃ cs, c = some cs := by
  unfold fitsD at h
  split at h
  · exact ⟨_, rfl⟩
  · cases h
theorem look_good {d : D} (h : isLookD d = true) : GoodN (nmd lookC d) ∧ cD (lookC (headD d)) = tS (nmd lookC d).2 := by
  have hf : fitsD d (lookC (headD d)) = true := h
  obtain ⟨cs, hc⟩ := fits_some hf
  have hn : headD d ≠ "" := fun e => by
    rw [e, show lookC "" = none by decide +kernel] at hc
    cases hc
  have hd : (hasS cs "key" = true → ∃ cs', cs = ("table" : Str) :: cs') ∧ cs.length ≤ 3 := by
    unfold lookC at hc
    split at hc
    · split at hc
      · cases hc
        exact ⟨fun z => absurd z (by decide), by decide⟩
      · exact deeds_of hc
    · cases hc
  exact ⟨good_of hf hc hn hd.2 hd.1, by unfold nmd; rw [hc]; rfl⟩
theorem row_good {d : D} (hf : fitsD d (rowC (headD d)) = true) (hn : headD d ≠ "") : GoodN (nmd rowC d) ∧ cD (rowC (headD d)) = tS (nmd rowC d).2 := by
  obtain ⟨cs, hc⟩ := fits_some hf
  have hd : (hasS cs "key" = true → ∃ cs', cs = ("table" : Str) :: cs') ∧ cs.length ≤ 3 := by
    unfold rowC at hc
    split at hc
    · rename_i c e
      cases hc
      have q := List.all_eq_true.mp plain_nokey _ (lookup_mem e)
      simp only [Bool.and_eq_true, Bool.not_eq_true', decide_eq_true_eq] at q
      exact ⟨fun z => (by rw [q.1] at z; cases z), q.2⟩
    · split at hc
      · cases hc
      · exact deeds_of hc
  exact ⟨good_of hf hc hn hd.2 hd.1, by unfold nmd; rw [hc]; rfl⟩
theorem branch_good {o : Str} {d : D} (hf : fitsD d (branchC o (headD d)) = true) (hn : headD d ≠ "") : GoodN (nmd (branchC o) d) ∧ cD (branchC o (headD d)) = tS (nmd (branchC o) d).2 := by
  obtain ⟨cs, hc⟩ := fits_some hf
  have hd : (hasS cs "key" = true → ∃ cs', cs = ("table" : Str) :: cs') ∧ cs.length ≤ 3 := by
    unfold branchC at hc
    split at hc
    · cases hc
      exact ⟨fun z => absurd z (by decide), by decide⟩
    · split at hc
      · exact deeds_of hc
      · cases hc
  exact ⟨good_of hf hc hn hd.2 hd.1, by unfold nmd; rw [hc]; rfl⟩
theorem branch_none (o : Str) : branchC o "" = none := by
  unfold branchC
  rw [if_neg (by decide)]
  cases o == "if"
  · rfl
  · rfl
/-- a row that is a probe -/
theorem pr_ex {row : D} (h : isRowD row = true) (hp : isPrD row = true) : ∃ w n g a b, row = .tup [.str w, .str n, g, .tup a, b] ∧ isNm n = true ∧ (w = "probe" ∨ w = "assert") ∧ (∀ x ∈ a, isLookD x = true) ∧ ((w == "assert") = true → isLookD b = true) ∧ ((w == "assert") = false → ∃ bs, b = .tup bs ∧ (∀ x ∈ bs, isLookD x = true) ∧ bs.length ≤ 6) ∧ a.length ≤ 6 := by
  obtain ⟨w, vs, rfl, hw⟩ := row_ex h
  have hw' : w = "probe" ∨ w = "assert" := by
    have : (("probe" : Str) == w || (("assert" : Str) == w || false)) = true := hp
    simp only [Bool.or_false, Bool.or_eq_true, beq_iff_eq] at this
    exact this.imp Eq.symm Eq.symm
  have e : isRowD (.tup (.str w :: vs)) = watchD (.str w :: vs) := by
    rcases hw' with rfl | rfl <;> rfl
  rw [e] at h
  by_cases hl : vs.length = 4
  · obtain ⟨n, g, a, b, rfl⟩ := len4 hl
    rw [watch_yes] at h
    simp only [Bool.and_eq_true] at h
    obtain ⟨⟨⟨h1, h2⟩, h3⟩, h4⟩ := h
    obtain ⟨n, rfl⟩ : ∃ z, n = .str z := by cases n <;> first | exact ⟨_, rfl⟩ | cases h1
    obtain ⟨as, rfl⟩ := looks_tup h3
    refine ⟨w, n, g, as, b, rfl, h1, hw', fun x hx => List.all_eq_true.mp h3 x hx, fun q => ?_, fun q => ?_, ?_⟩
    · rw [if_pos q] at h4
      simp only [Bool.and_eq_true] at h4
      exact h4.1.1
    · rw [if_neg (by rw [q]; decide)] at h4
      simp only [Bool.and_eq_true] at h4
      obtain ⟨bs, rfl⟩ := looks_tup h4.1
      have := of_decide_eq_true h4.2
      exact ⟨bs, rfl, fun x hx => List.all_eq_true.mp h4.1 x hx, Nat.le_trans (Nat.le_add_left _ _) this⟩
    · cases q : w == "assert" with
      | true =>
        rw [if_pos q] at h4
        simp only [Bool.and_eq_true] at h4
        exact of_decide_eq_true h4.2
      | false =>
        rw [if_neg (by rw [q]; decide)] at h4
        simp only [Bool.and_eq_true] at h4
        exact Nat.le_trans (Nat.le_add_right _ _) (of_decide_eq_true h4.2)
  · rw [watch_no hl] at h
    cases h
theorem named_good {row : D} (h : isRowD row = true) : ∀ e ∈ namedD row, GoodN e := by
  intro e he
  unfold namedD at he
  cases hp : isPrD row with
  | true =>
    rw [if_pos hp] at he
    obtain ⟨w, n, g, a, b, rfl, _, _, ha, hb1, hb2, _⟩ := pr_ex h hp
    obtain ⟨d, hd, rfl⟩ := List.mem_map.mp he
    have hd : d ∈ (if (w == "assert") = true then a ++ [b] else a ++ itemsD b) := hd
    refine (look_good ?_).1
    cases q : w == "assert" with
    | true =>
      rw [if_pos q] at hd
      rcases List.mem_append.mp hd with m | m
      · exact ha _ m
      · rw [List.mem_singleton.mp m]; exact hb1 q
    | false =>
      rw [if_neg (by rw [q]; decide)] at hd
      obtain ⟨bs, rfl, hbs, _⟩ := hb2 q
      rcases List.mem_append.mp hd with m | m
      · exact ha _ m
      · exact hbs _ m
  | false =>
    rw [if_neg (by rw [hp]; decide)] at he
    obtain ⟨w, vs, rfl, hw⟩ := row_ex h
    have hp' : (w == "probe" || w == "assert") = false := by
      have : (("probe" : Str) == w || (("assert" : Str) == w || false)) = false := hp
      simpa [Bool.beq_comm (a := w)] using this
    have hne : w ≠ "" := fun e => by subst e; cases h
    have hR : isRowD (.tup (.str w :: vs)) = if w == "if" || w == "while" then fitsD (.tup vs) (branchC w (headD (.tup vs))) else fitsD (.tup (.str w :: vs)) (rowC w) := by
      unfold isRowD
      show (if (w == "") = true then false else if (w == "probe" || w == "assert") = true then _ else if (w == "if" || w == "while") = true then _ else _) = _
      rw [if_neg (by simpa using hne), if_neg (by rw [hp']; decide)]
      rfl
    rw [hR] at h
    cases q : (w == "if" || w == "while") with
    | true =>
      rw [if_pos (show (headD (.tup (.str w :: vs)) == "if" || headD (.tup (.str w :: vs)) == "while") = true from q)] at he
      rw [if_pos q] at h
      rw [List.mem_singleton.mp he]
      have h : fitsD (.tup vs) (branchC w (headD (.tup vs))) = true := h
      refine (branch_good h fun e0 => ?_).1
      rw [e0, branch_none] at h
      simp [fitsD] at h
    | false =>
      rw [if_neg (show ¬ (headD (.tup (.str w :: vs)) == "if" || headD (.tup (.str w :: vs)) == "while") = true by show ¬ (w == "if" || w == "while") = true; rw [q]; decide)] at he
      rw [if_neg (by rw [q]; decide)] at h
      rw [List.mem_singleton.mp he]
      exact (row_good h hne).1
def spNamed : SpX := fun ds r P _ => ∃ row, ds = [row] ∧ isRowD row = true ∧ P (.lst ((namedD row).map fun e => .tup [e.1, tS e.2])) r
abbrev N_named : List Str := ["row", "looks", "look"]
theorem sc_named : FnScope N_named ["row"] (defScope s_named) := ⟨rfl, rfl, rfl, by decide +kernel, rfl, by decide +kernel, by decide +kernel⟩
theorem c_named (B : Bl mg) (C_is_probe : Cl P w K mg base 1 "is_probe" ["row"] spIsProbe) (C_look_codes : Cl P w K mg base 1 "look_codes" ["word"] spLookC) (C_branch_codes : Cl P w K mg base 1 "branch_codes" ["opener", "word"] spBranchC) (C_row_codes : Cl P w K mg base 1 "row_codes" ["word"] spRowC) (Dx : Dfn K mg "named" s_named ["row"]) : Cl P w K mg base 2 "named" ["row"] spNamed := by
  have sc := sc_named
  refine cl_of Dx sc (fun ds r P' XR ⟨_, e, _⟩ => by rw [e]; rfl) (fun f cdv A outer s H E hr tk po => ?_)
  have hu := hr.units
  have hi := u65 hr
  refine ⟨_, (ss_cons (s_if (b_tru (d_fn C_is_probe tk hr (dl_cons (dv 0) dl_nil)))
  (ss_cons (s_set (i := 1) sc.nd (d_cut (d_if (b_cmp (p_eq hu) (d_ix (dv 0) d_int) d_str) (d_lst (dl_star (d_ix (dv 0) d_int) (dl_cons (d_ix (dv 0) d_int) dl_nil))) (d_lst (dl_star (d_ix (dv 0) d_int) (dl_star (d_ix (dv 0) d_int) dl_nil))))))
  (ss_one (s_ret (d_lc (js := [2]) (own := [("look", 2)]) sc.nd (i_list (dv 1)) (blkOk_by (own := [("look", 2)]) (N := N_named) (sc := defScope s_named) (by decide +kernel)) (fun _ _ _ _ _ => (g_name (i := 2) sc.nd)) (fun _ _ _ _ _ => pts_no) (fun _ _ _ _ _ => (d_tup (dl_cons (dv 2) (dl_cons (d_fnN C_look_codes hr (dl_cons (d_ix (dv 2) d_int) dl_nil)) dl_nil))))))))
  ss_nil)
  (ss_cons (s_if (b_cmp (p_in hi) (d_ix (dv 0) d_int) (d_tup (dl_cons d_str (dl_cons d_str dl_nil))))
  (ss_one (s_ret (d_lst (dl_cons (d_tup (dl_cons (d_sl (dv 0) (o_some d_int) o_no) (dl_cons (d_fn C_branch_codes tk hr (dl_cons (d_ix (dv 0) d_int) (dl_cons (d_ix (dv 0) d_int) dl_nil))) dl_nil))) dl_nil))))
  ss_nil)
  (ss_one (s_ret (d_lst (dl_cons (d_tup (dl_cons (dv 0) (dl_cons (d_fn C_row_codes tk hr (dl_cons (d_ix (dv 0) d_int) dl_nil)) dl_nil))) dl_nil)))))), fun ds r P' XR h => ?_⟩
  obtain ⟨row, rfl, hrow, h⟩ := h
  replace h := fit.of h
  obtain ⟨w, vs, e, hw⟩ := row_ex hrow
  have hpr : isPrD row = hasS ["probe", "assert"] w := by unfold isPrD; rw [hw]
  cases hp : isPrD row with
  | true =>
    obtain ⟨w', n, g, a, b, rfl, _, _, ha, hb1, hb2, hal⟩ := pr_ex hrow hp
    cases e
    have e1 : namedD (.tup [.str w, .str n, g, .tup a, b]) = (if (w == "assert") = true then a ++ [b] else a ++ itemsD b).map (nmd lookC) := by unfold namedD; rw [if_pos hp]; rfl
    rw [e1] at h
    refine ⟨w, _, rfl, brt (hpr ▸ hp) ?_⟩
    refine ⟨fun d r' => r' = r ∧ ∃ L, d = .lst L ∧ L = (if (w == "assert") = true then a ++ [b] else a ++ itemsD b) ∧ (∀ x ∈ L, isLookD x = true) ∧ L.length ≤ 12, ⟨Nat.zero_le _, Nat.zero_le _, fun q => ?_, fun q => ?_⟩, ?_⟩
    · have q : (w == "assert") = true := q
      refine ix_t at3 (ix_t at4 ⟨?_, rfl, _, rfl, by rw [if_pos q], fun x hx => ?_, ?_⟩)
      · unfold small; rw [List.length_append, List.length_singleton]; omega
      · rcases List.mem_append.mp hx with m | m
        · exact ha _ m
        · rw [List.mem_singleton.mp m]; exact hb1 q
      · rw [List.length_append, List.length_singleton]; omega
    · have q : (w == "assert") = false := q
      obtain ⟨bs, rfl, hbs, hbl⟩ := hb2 q
      refine ix_t at3 (ix_t at4 ⟨?_, rfl, _, rfl, by rw [if_neg (by rw [q]; decide), List.append_nil]; rfl, fun x hx => ?_, ?_⟩)
      · unfold small; rw [List.append_nil, List.length_append]; omega
      · rw [List.append_nil] at hx
        rcases List.mem_append.mp hx with m | m
        · exact ha _ m
        · exact hbs _ m
      · rw [List.append_nil, List.length_append]; omega
    · rintro _ _ ⟨rfl, L, rfl, rfl, hL, hll⟩
      refine lc_map (fun d => .tup [d, tS (nmd lookC d).2]) (by unfold small; omega) (fun d hd r2 P2 q => ?_) ?_
      · obtain ⟨vs, e⟩ := look_tup (hL d hd)
        have e2 := (look_good (hL d hd)).2
        rw [← e2] at q
        generalize headD d = z at *
        subst e
        exact ix_t at0 ⟨z, rfl, Nat.le_of_ble_eq_true rfl, q⟩
      · rw [List.map_map] at h
        exact h
  | false =>
    subst e
    have hp2 : hasS ["probe", "assert"] w = false := hpr ▸ hp
    refine ⟨w, _, rfl, brf hp2 ?_⟩
    have hp' : (w == "probe" || w == "assert") = false := by
      have : (("probe" : Str) == w || (("assert" : Str) == w || false)) = false := hp
      simpa [Bool.beq_comm (a := w)] using this
    have hne : w ≠ "" := fun e => by subst e; cases hrow
    have hR : isRowD (.tup (.str w :: vs)) = if w == "if" || w == "while" then fitsD (.tup vs) (branchC w (headD (.tup vs))) else fitsD (.tup (.str w :: vs)) (rowC w) := by
      unfold isRowD
      show (if (w == "") = true then false else if (w == "probe" || w == "assert") = true then _ else if (w == "if" || w == "while") = true then _ else _) = _
      rw [if_neg (by simpa using hne), if_neg (by rw [hp']; decide)]
      rfl
    rw [hR] at hrow
    refine ix_t at0 ⟨Nat.le_of_ble_eq_true rfl, oIn_t (xs := ["if", "while"]) (k := fun d => (match d with | .bl b => _ | _ => False)) ?_⟩
    have hin : hasS ["if", "while"] w = (w == "if" || w == "while") := by
      show (("if" : Str) == w || (("while" : Str) == w || false)) = _
      simp [Bool.beq_comm (a := w)]
    have eN : ∀ b, (w == "if" || w == "while") = b → namedD (.tup (.str w :: vs)) = if b = true then [nmd (branchC w) (.tup vs)] else [nmd rowC (.tup (.str w :: vs))] := fun b hb => by
      unfold namedD
      rw [if_neg (by rw [hp]; decide)]
      show (if (w == "if" || w == "while") = true then _ else _) = _
      rw [hb]
      rfl
    cases q : (w == "if" || w == "while") with
    | true =>
      rw [if_pos q] at hrow
      rw [eN _ q] at h
      refine brt (hin.trans q) ?_
      have hne2 : headD (.tup vs) ≠ "" := fun e0 => by
        rw [e0, branch_none] at hrow
        simp [fitsD] at hrow
      obtain ⟨vs2, e⟩ := headD_tup (d := .tup vs) rfl hne2
      have e2 := (branch_good hrow hne2).2
      generalize headD (.tup vs) = z at *
      injection e with e
      subst e
      refine oSl_1 (ix_t at0 (ix_t at1 ⟨_, _, rfl, ?_⟩))
      rw [e2]
      exact ⟨Nat.le_of_ble_eq_true rfl, Nat.le_of_ble_eq_true rfl, h⟩
    | false =>
      rw [if_neg (by rw [q]; decide)] at hrow
      rw [eN _ q] at h
      refine brf (hin.trans q) ?_
      have e2 : cD (rowC w) = tS (nmd rowC (.tup (.str w :: vs))).2 := (row_good (d := .tup (.str w :: vs)) hrow hne).2
      refine ix_t at0 ⟨_, rfl, ?_⟩
      rw [e2]
      exact ⟨Nat.le_of_ble_eq_true rfl, Nat.le_of_ble_eq_true rfl, h⟩
theorem some_drop {α β : Type} {p : α → Option β} {l : List α} {i : Nat} {e : α} (h : l.findSome? p = (l.drop i).findSome? p) (he : l[i]? = some e) : (∀ b, p e = some b → l.findSome? p = some b) ∧ (p e = none → l.findSome? p = (l.drop (i + 1)).findSome? p) := by
  have hlt := (List.getElem?_eq_some_iff.mp he).1
  have dr : l.drop i = e :: l.drop (i + 1) := by
    rw [← (List.getElem?_eq_some_iff.mp he).2]
    exact (List.getElem_cons_drop hlt).symm
  rw [dr, List.findSome?_cons] at h
  exact ⟨fun b q => by rw [h, q], fun q => by rw [h, q]⟩
def spNeedRow (CT : Addr) (E : EA) : SpX := fun ds r P XR => ∃ (kd m : Addr) (n : Nat) (row : D) (later met : List D) (ths : List Th) (pre post : Rs), ds = [.adr kd, .int n, row, .lst later, .adr m] ∧ r = pre ++ dctA kd (nk (thE CT ths)) :: post ∧ Own r m met ∧ plain row = true ∧ (∀ x ∈ later, dep x ≤ 60) ∧ (∀ x ∈ met, dep x ≤ 60) ∧
  (∀ e, rowErr ths n row later met = some e → e.rz E XR r) ∧ (rowErr ths n row later met = none → P .non r)
theorem call_ex {row : D} (h : isRowD row = true) (hc : headD row = "call") : ∃ z, row = .tup [.str "call", .str z] ∧ isNm z = true := by
  obtain ⟨w, vs, rfl, hw⟩ := row_ex h
  have hw : w = "call" := hc
  subst hw
  have h : fitsD (.tup (.str "call" :: vs)) (rowC "call") = true := h
  rw [show rowC "call" = some [("name" : Str)] by decide +kernel] at h
  unfold fitsD at h
  simp only [Bool.and_eq_true, decide_eq_true_eq, List.length_cons, List.length_nil] at h
  match vs, h with
  | [v], h =>
    have h2 : (suitsD v "name" && true) = true := h.2
    rw [Bool.and_true] at h2
    obtain ⟨z, rfl⟩ : ∃ z, v = .str z := by cases v <;> first | exact ⟨_, rfl⟩ | cases h2
    exact ⟨z, rfl, h2⟩
  | [], h => exact absurd h.1 (by decide)
  | _ :: _ :: _, h => exact absurd h.1 (by simp)
abbrev N_need_row : List Str := ["known", "number", "row", "later", "met", "words", "codes"]
theorem sc_need_row : FnScope N_need_row ["known", "number", "row", "later", "met"] (defScope s_need_row) := ⟨rfl, rfl, rfl, by decide +kernel, rfl, by decide +kernel, by decide +kernel⟩
set_option maxHeartbeats 1000000 in
theorem c_need_row {CT : Addr} {E0 : EA} (B : Bl mg) (X_BadRow : ErrX P w K mg base "BadRow" E0.br "number") (X_Twice : ErrX P w K mg base "Twice" E0.tw "name") (X_NoPart : ErrX P w K mg base "NoPart" E0.np "name") (C_is_row : Cl P w K mg base 7 "is_row" ["row"] spIsRow) (C_named : Cl P w K mg base 2 "named" ["row"] spNamed) (C_is_probe : Cl P w K mg base 1 "is_probe" ["row"] spIsProbe)
    (C_need_known : Cl P w K mg base 3 "need_known" ["known", "words", "codes"] (spNeedKn CT E0.nt E0.nk)) (Dx : Dfn K mg "need_row" s_need_row ["known", "number", "row", "later", "met"]) : Cl P w K mg base 8 "need_row" ["known", "number", "row", "later", "met"] (spNeedRow CT E0) := by
  have sc := sc_need_row
  refine cl_of Dx sc (fun ds r P' XR ⟨_, _, _, _, _, _, _, _, _, e, _⟩ => by rw [e]; rfl) (fun f cdv A outer s H E hr tk po => ?_)
  have hu := hr.units
  have hi := u65 hr
  refine ⟨_, (ss_cons (s_if (b_not (b_tru (d_fn C_is_row tk hr (dl_cons (dv 2) dl_nil))))
  (ss_one (s_raise X_BadRow.c tk hr (dl_cons (dv 1) dl_nil)))
  ss_nil)
  (ss_cons (s_for (i_list (d_fn C_named tk hr (dl_cons (dv 2) dl_nil))) (g_tup (is := [5, 6]) (pgs_n (i := 5) sc.nd (pgs_n (i := 6) sc.nd pgs_nil)))
  (ss_one (s_expr (d_fn C_need_known tk hr (dl_cons (dv 0) (dl_cons (dv 5) (dl_cons (dv 6) dl_nil)))))) po)
  (ss_cons (s_cut (s_if (b_w (w_and (b_tru (d_fn C_is_probe tk hr (dl_cons (dv 2) dl_nil))) (w_and1 (b_cmpO (p_inO hi) (d_ix (dv 2) d_int) (dv 4)))))
  (ss_one (s_raise X_Twice.c tk hr (dl_cons (d_ix (dv 2) d_int) dl_nil)))
  ss_nil))
  (ss_one (s_if (b_w (w_and (b_cmp (p_eq hu) (d_ix (dv 2) d_int) d_str) (w_and1 (b_cmp (p_notIn hi) (d_ix (dv 2) d_int) (dv 3)))))
  (ss_one (s_raise X_NoPart.c tk hr (dl_cons (d_ix (dv 2) d_int) dl_nil)))
  ss_nil))))), fun ds r P' XR h => ?_⟩
  obtain ⟨kd, m, n, row, later, met, ths, pre, post, rfl, rfl, ow, pr, hl, hm, h1, h2⟩ := h
  have rz : ∀ e : Er, rowErr ths n row later met = some e → e.rz E0 (fun C fs es r' => fitX XR C fs es [] r') (pre ++ dctA kd (nk (thE CT ths)) :: post) := fun e he => Er.rz_mono (fun C fs es q => ⟨_, le.refl, q⟩) e (h1 e he)
  unfold rowErr at rz h2
  refine ⟨row, rfl, pr, ?_⟩
  cases hrow : isRowD row with
  | false =>
    rw [if_neg (by rw [hrow]; decide)] at rz
    exact brT ⟨.int n, rfl, rz _ rfl⟩
  | true =>
    rw [if_pos hrow] at rz h2
    refine brF ⟨row, rfl, hrow, ?_⟩
    refine ⟨fun i δ r' => (∃ x y, δ = [some (.adr kd), some (.int n), some row, some (.lst later), some (.adr m), x, y]) ∧ r' = pre ++ dctA kd (nk (thE CT ths)) :: post ∧ (namedD row).findSome? (knErr ths) = ((namedD row).drop i).findSome? (knErr ths), ⟨⟨_, _, rfl⟩, rfl, rfl⟩, ?_, ?_⟩
    · rintro i d δ r' hd ⟨⟨x, y, rfl⟩, rfl, hI⟩
      rw [List.getElem?_map] at hd
      obtain ⟨e, he, rfl⟩ := Option.map_eq_some_iff.mp hd
      obtain ⟨f1, f2⟩ := some_drop hI he
      obtain ⟨w, vs, ew, hlen, hl100, hs, hk⟩ := named_good hrow e (List.mem_of_getElem? he)
      have tl : tailD e.1 = vs := by rw [ew]; rfl
      refine ⟨rfl, kd, w, vs, e.2, ths, pre, post, by rw [ew], rfl, hlen, hl100, hs, hk, fun x hx => ?_, fun hU => ⟨fun x hx => ?_, fun hN => ⟨⟨_, _, rfl⟩, rfl, f2 ?_⟩⟩⟩
      · have := f1 (.nt x) (by unfold knErr; rw [tl, hx])
        rw [this] at rz
        exact rz _ rfl
      · have := f1 (.nk x) (by unfold knErr; rw [tl, hU]; show Option.map Er.nk (nok ths vs (vs.zip e.2)) = _; rw [hx]; rfl)
        rw [this] at rz
        exact rz _ rfl
      · unfold knErr
        rw [tl, hU, hN]
        rfl
    · rintro δ r' ⟨⟨x, y, rfl⟩, rfl, hI⟩
      rw [List.length_map, List.drop_length] at hI
      rw [hI] at rz h2
      dsimp only [List.findSome?_nil] at rz h2
      obtain ⟨w, vs, ew, hw⟩ := row_ex hrow
      have hpr : isPrD row = hasS ["probe", "assert"] w := by unfold isPrD; rw [hw]
      refine ⟨fun δ' r2 => (∃ x y, δ' = [some (.adr kd), some (.int n), some row, some (.lst later), some (.adr m), x, y]) ∧ r2 = pre ++ dctA kd (nk (thE CT ths)) :: post ∧ (isPrD row && memD (row1 row) met) = false, ?_, ?_⟩
      · cases hp : isPrD row with
        | false => exact ⟨w, vs, by rw [ew], brf (hpr ▸ hp) (brF ⟨⟨_, _, rfl⟩, rfl, rfl⟩)⟩
        | true =>
          obtain ⟨w', nm, g, a, b, er, _⟩ := pr_ex hrow hp
          have e1 : row1 row = .str nm := by rw [er]; rfl
          rw [hp, e1] at rz
          refine ⟨w, vs, by rw [ew], brt (hpr ▸ hp) ?_⟩
          have at_ : ∀ k : D → Prop, k (.str nm) → oIx row (.int 1) k := fun k q => by rw [er]; exact ix_t at1 q
          refine at_ _ ⟨m, met, rfl, ow, ⟨Nat.zero_le _, by have := deps_le (n := 60) hm; omega, _, rfl, ?_⟩⟩
          rw [e1]
          cases q : memD (.str nm) met with
          | false => exact brF ⟨⟨_, _, rfl⟩, rfl, rfl⟩
          | true =>
            rw [q] at rz
            exact brT (at_ _ ⟨_, rfl, rz _ rfl⟩)
      · rintro δ r2 ⟨⟨x, y, rfl⟩, rfl, hq⟩
        rw [if_neg (by rw [hq]; decide)] at h2
        simp only [if_neg (show ¬ (isPrD row && memD (row1 row) met) = true by rw [hq]; decide)] at rz
        have at0_ : ∀ k : D → Prop, k (.str w) → oIx row (.int 0) k := fun k q => by rw [ew]; exact ix_t at0 q
        refine at0_ _ ⟨Nat.zero_le _, Nat.zero_le _, ?_⟩
        cases hc : w == "call" with
        | false =>
          rw [hw, hc] at h2
          exact brf hc (brF (fit.of (h2 rfl)))
        | true =>
          rw [hw, hc] at h2 rz
          refine brt hc ?_
          obtain ⟨z, er, hz⟩ := call_ex hrow (by rw [hw]; exact eq_of_beq hc)
          have e1 : row1 row = .str z := by rw [er]; rfl
          rw [e1] at h2 rz
          have at_ : ∀ k : D → Prop, k (.str z) → oIx row (.int 1) k := fun k q => by rw [er]; exact ix_t at1 q
          refine at_ _ ⟨⟨Nat.zero_le _, by have := deps_le (n := 60) hl; omega, ?_⟩⟩
          cases q : memD (.str z) later with
          | true =>
            rw [q] at h2
            exact brF (fit.of (h2 rfl))
          | false =>
            rw [q] at rz
            exact brT (at_ _ ⟨_, rfl, rz _ rfl⟩)
theorem opD_len {op : List (Nat × Str)} : (op.map fun e => D.tup [.int (e.1 : Nat), .str e.2]).length = op.length := List.length_map _
theorem opD_last {op : List (Nat × Str)} {k : Nat} {v : Str} (h : op.getLast? = some (k, v)) : atI (op.map fun e => D.tup [.int (e.1 : Nat), .str e.2]) (-1) = some (.tup [.int (k : Nat), .str v]) := by
  rw [List.getLast?_eq_getElem?] at h
  have hl := (List.getElem?_eq_some_iff.mp h).1
  unfold atI
  rw [opD_len, ixN_last (by omega)]
  show (op.map _)[op.length - 1]? = _
  rw [List.getElem?_map, h]
  rfl
theorem opD_cut {op : List (Nat × Str)} : cutD (op.map fun e => D.tup [.int (e.1 : Nat), .str e.2]) none (some (-1)) = (op.dropLast).map fun e => D.tup [.int (e.1 : Nat), .str e.2] := by
  unfold cutD
  rw [HT.sIx_none, List.drop_zero, opD_len, Nat.sub_zero, List.dropLast_eq_take, List.map_take]
  congr 1
  unfold HT.sIx
  cases op with
  | nil => rfl
  | cons a l => simp; omega
def spOpened (E : EA) : SpX := fun ds r P XR => ∃ (op : List (Nat × Str)) (n : Nat) (w : Str), ds = [opD op, .int n, .str w] ∧ op.length ≤ 100 ∧ (∀ e, opStep op n w = .error e → e.rz E XR r) ∧ (∀ op', opStep op n w = .ok op' → P (opD op') r)
abbrev N_opened_behind : List Str := ["opened", "number", "word"]
theorem sc_opened_behind : FnScope N_opened_behind ["opened", "number", "word"] (defScope s_opened_behind) := ⟨rfl, rfl, rfl, by decide +kernel, rfl, by decide +kernel, by decide +kernel⟩
set_option maxHeartbeats 1000000 in
theorem c_opened_behind {E0 : EA} (B : Bl mg) (gM : GI mg "MOST_BLOCKS" 8) (X_Unmatched : ErrX P w K mg base "Unmatched" E0.um "number") (X_TooMany : ErrX P w K mg base "TooMany" E0.tm "limit") (Dx : Dfn K mg "opened_behind" s_opened_behind ["opened", "number", "word"]) : Cl P w K mg base 3 "opened_behind" ["opened", "number", "word"] (spOpened E0) := by
  have sc := sc_opened_behind
  refine cl_of Dx sc (fun ds r P' XR ⟨_, _, _, e, _⟩ => by rw [e]; rfl) (fun f cdv A outer s H E hr tk po => ?_)
  have hu := hr.units
  have hi := u65 hr
  refine ⟨_, (ss_cons (s_match (dv 2) (pc_cons (pm_or (pf_cons (pm_v hu) (pf_cons (pm_v hu) pf_nil)))
  (ss_cons (s_if (b_cmp (p_eq hu) (d_blt c_len (by rfl) B.len (dl_cons (dv 0) dl_nil)) (d_gI gM))
  (ss_one (s_raise X_TooMany.c tk hr (dl_cons (d_gI gM) dl_nil)))
  ss_nil)
  (ss_one (s_ret (d_lst (dl_star (dv 0) (dl_cons (d_tup (dl_cons (dv 1) (dl_cons (dv 2) dl_nil))) dl_nil))))))
  (pc_cons (pm_v hu)
  (ss_cons (s_if (b_w (w_or (b_not (b_tru (dv 0))) (w_or1 (b_cmp (p_ne hu) (d_ix (d_ix (dv 0) (d_neg d_int)) d_int) d_str))))
  (ss_one (s_raise X_Unmatched.c tk hr (dl_cons (dv 1) dl_nil)))
  ss_nil)
  (ss_one (s_ret (d_lst (dl_star (d_sl (dv 0) o_no (o_some (d_neg d_int))) (dl_cons (d_tup (dl_cons (d_ix (d_ix (dv 0) (d_neg d_int)) d_int) (dl_cons d_str dl_nil))) dl_nil))))))
  (pc_cons (pm_v hu)
  (ss_cons (s_if (b_not (b_tru (dv 0)))
  (ss_one (s_raise X_Unmatched.c tk hr (dl_cons (dv 1) dl_nil)))
  ss_nil)
  (ss_one (s_ret (d_sl (dv 0) o_no (o_some (d_neg d_int))))))
  pc_nil))))
  (ss_one (s_ret (dv 0)))), fun ds r P' XR h => ?_⟩
  obtain ⟨op, n, w, rfl, hl, h1, h2⟩ := h
  have rz : ∀ e : Er, opStep op n w = .error e → e.rz E0 (fun C fs es r' => fitX XR C fs es [] r') r := fun e he => Er.rz_mono (fun C fs es q => ⟨_, le.refl, q⟩) e (h1 e he)
  replace h2 : ∀ op', opStep op n w = .ok op' → fit P' (opD op') r := fun op' e => fit.of (h2 op' e)
  have e8 : ∀ b, decide (op.length = 8) = b → eqD (.int (((op.map fun e => D.tup [.int (e.1 : Nat), .str e.2]).length : Nat) : Int)) (.int 8) = b := fun b e => by
    rw [opD_len, ← e]
    show decide (((op.length : Nat) : Int) = 8) = _
    exact decide_eq_decide.mpr (by omega)
  have emp : op.isEmpty = (op.map fun e => D.tup [.int (e.1 : Nat), .str e.2]).isEmpty := by cases op <;> rfl
  refine ⟨fun (q : (w == "if" || (w == "while" || false)) = true) => ?_, fun (q : (w == "if" || (w == "while" || false)) = false) => ?_⟩
  · rw [Bool.or_false] at q
    unfold opStep at rz h2
    rw [if_pos q] at rz h2
    refine fun _ => ⟨Nat.zero_le _, Nat.zero_le _, ?_⟩
    cases q8 : decide (op.length = 8) with
    | true =>
      rw [if_pos (of_decide_eq_true q8)] at rz
      exact brt (e8 _ q8) ⟨.int 8, rfl, rz _ rfl⟩
    | false =>
      rw [if_neg (of_decide_eq_false q8)] at h2
      refine brf (e8 _ q8) ⟨Nat.le_of_ble_eq_true rfl, ?_, ?_⟩
      · unfold small; rw [List.length_append, opD_len, List.length_singleton]; omega
      · have := h2 _ rfl
        unfold opD at this
        rw [List.map_append] at this
        exact this
  rw [Bool.or_false] at q
  refine ⟨fun (q2 : (w == "else") = true) => ?_, fun (q2 : (w == "else") = false) => ?_⟩
  · unfold opStep at rz h2
    rw [if_neg (by rw [q]; decide), if_pos q2] at rz h2
    cases hg : op.getLast? with
    | none =>
      have e0 : op = [] := List.getLast?_eq_none_iff.mp hg
      subst e0
      exact brT (brT ⟨.int n, rfl, rz _ rfl⟩)
    | some e =>
      obtain ⟨k, v⟩ := e
      rw [hg] at rz h2
      dsimp only at rz h2
      have hne : (op.map fun e => D.tup [.int (e.1 : Nat), .str e.2]).isEmpty = false := by
        rw [← emp]
        cases op with
        | nil => cases hg
        | cons _ _ => rfl
      refine brf (by show (!(!(op.map fun e => D.tup [.int (e.1 : Nat), .str e.2]).isEmpty)) = false; rw [hne]; rfl) ?_
      refine ix_l (opD_last hg) (ix_t at1 ⟨Nat.zero_le _, Nat.zero_le _, ?_⟩)
      cases qv : v == "if" with
      | false =>
        rw [if_neg (by rw [qv]; decide)] at rz
        exact brt (by show (!(v == "if")) = true; rw [qv]; rfl) ⟨.int n, rfl, rz _ rfl⟩
      | true =>
        rw [if_pos qv] at h2
        refine brf (by show (!(v == "if")) = false; rw [qv]; rfl) ?_
        refine sl_l ?_
        rw [opD_cut]
        refine ix_l (opD_last hg) (ix_t at0 ⟨Nat.le_of_ble_eq_true rfl, ?_, ?_⟩)
        · unfold small; rw [List.length_append, opD_len, List.length_singleton, List.length_dropLast]; omega
        · have := h2 _ rfl
          unfold opD at this
          rw [List.map_append] at this
          exact this
  refine ⟨fun (q3 : (w == "end") = true) => ?_, fun (q3 : (w == "end") = false) => ?_⟩
  · unfold opStep at rz h2
    rw [if_neg (by rw [q]; decide), if_neg (by rw [q2]; decide), if_pos q3] at rz h2
    cases hg : op.getLast? with
    | none =>
      have e0 : op = [] := List.getLast?_eq_none_iff.mp hg
      subst e0
      exact brT ⟨.int n, rfl, rz _ rfl⟩
    | some e =>
      rw [hg] at h2
      dsimp only at h2
      have hne : (op.map fun e => D.tup [.int (e.1 : Nat), .str e.2]).isEmpty = false := by
        rw [← emp]
        cases op with
        | nil => cases hg
        | cons _ _ => rfl
      refine brf (by show (!(!(op.map fun e => D.tup [.int (e.1 : Nat), .str e.2]).isEmpty)) = false; rw [hne]; rfl) (sl_l ?_)
      rw [opD_cut]
      exact h2 _ rfl
  · unfold opStep at h2
    rw [if_neg (by rw [q]; decide), if_neg (by rw [q2]; decide), if_neg (by rw [q3]; decide)] at h2
    exact h2 _ rfl
/-- the parts, as they are handed in: a name, rows (a list or a tuple) -/
def partD (p : D × D × List D) : D := .tup [p.1, p.2.1]
def pq (p : D × D × List D) : D × List D := (p.1, p.2.2)
theorem Er.rz_le {E : EA} {XR : XD} {r r' : Rs} (l : le r' r) (δ : Dl) : ∀ e : Er, e.rz E XR r → e.rz E (fun C fs es r2 => fitX XR C fs es δ r2) r'
  | .br _, q => ⟨_, l, q⟩
  | .nt _, q => ⟨_, l, q⟩
  | .nk _, q => ⟨_, l, q⟩
  | .tw _, q => ⟨_, l, q⟩
  | .np _, q => ⟨_, l, q⟩
  | .um _, q => ⟨_, l, q⟩
  | .tm _, q => ⟨_, l, q⟩
  | .bn _, q => ⟨_, l, q⟩
structure OkPs (ps : List (D × D × List D)) : Prop where
  len : ps.length ≤ 100
  sq : ∀ p ∈ ps, seqD p.2.1 = some p.2.2
  pn : ∀ p ∈ ps, plain p.1 = true
  rl : ∀ p ∈ ps, p.2.2.length ≤ 1000
  pr : ∀ p ∈ ps, ∀ x ∈ p.2.2, plain x = true
def spNeedParts (CT : Addr) (E : EA) : SpX := fun ds r P XR => ∃ (d : D) (ths : List Th) (ps : List (D × D × List D)), ds = [d, .tup (ps.map partD)] ∧ seqD d = some (ths.map (thD CT)) ∧ ths.length ≤ 100 ∧ uniq ths ∧ OkPs ps ∧ (∀ e, needPts ths (ps.map pq) = some e → e.rz E XR r) ∧ (needPts ths (ps.map pq) = none → P .non r)
theorem sum_le {ps : List (D × D × List D)} {i : Nat} {p : D × D × List D} (h : ps[i]? = some p) : ((ps.take i).map fun p => p.2.2.length).sum + p.2.2.length ≤ (ps.map fun p => p.2.2.length).sum := by
  have e := congrArg (fun l => (l.map fun p : D × D × List D => p.2.2.length).sum) (List.take_append_drop (i + 1) ps)
  simp only [List.map_append, List.sum_append] at e
  rw [List.take_add_one, h] at e
  simp only [Option.toList_some, List.map_append, List.sum_append, List.map_cons, List.map_nil, List.sum_cons, List.sum_nil] at e
  omega
theorem sum_cast : ∀ l : List Nat, (l.map fun n : Nat => (n : Int)).sum = ((l.sum : Nat) : Int)
  | [] => rfl
  | n :: l => by rw [List.map_cons, List.sum_cons, List.sum_cons, sum_cast l]; omega
theorem row1_dep {row : D} (h : isRowD row = true) (hp : isPrD row = true) : ∃ z, row1 row = .str z := by
  obtain ⟨w, n, g, a, b, rfl, _⟩ := pr_ex h hp
  exact ⟨n, rfl⟩
theorem rowErr_row {ths : List Th} {n : Nat} {row : D} {later met : List D} (h : rowErr ths n row later met = none) : isRowD row = true := by
  unfold rowErr at h
  cases q : isRowD row with
  | true => rfl
  | false => rw [if_neg (by rw [q]; decide)] at h; cases h
theorem op_len {op op' : List (Nat × Str)} {n : Nat} {w : Str} (h : opStep op n w = .ok op') : op'.length ≤ op.length + 1 := by
  unfold opStep at h
  split at h
  · split at h
    · cases h
    · cases h; simp
  · split at h
    · split at h
      · split at h
        · cases h; simp
        · cases h
      · cases h
    · split at h
      · split at h
        · cases h; simp; omega
        · cases h
      · cases h; omega
abbrev N_need_parts : List Str := ["things", "parts", "names", "name", "rows", "known", "thing", "met", "number", "at", "opened", "row"]
theorem sc_need_parts : FnScope N_need_parts ["things", "parts"] (defScope s_need_parts) := ⟨rfl, rfl, rfl, by decide +kernel, rfl, by decide +kernel, by decide +kernel⟩
set_option maxHeartbeats 2000000 in
theorem c_need_parts {CT : Addr} {E0 : EA} (B : Bl mg) (gP : GI mg "MOST_PARTS" 5) (gR : GI mg "MOST_ROWS" 60) (X_NoPart : ErrX P w K mg base "NoPart" E0.np "name") (X_TooMany : ErrX P w K mg base "TooMany" E0.tm "limit") (X_Unmatched : ErrX P w K mg base "Unmatched" E0.um "number") (K_Thing : KCls K mg "Thing" CT thF)
    (C_need_names : Cl P w K mg base 4 "need_names" ["values"] (spNeed E0.bn)) (C_need_unlike : Cl P w K mg base 3 "need_unlike" ["names"] (spUnlike E0.tw)) (C_is_probe : Cl P w K mg base 1 "is_probe" ["row"] spIsProbe) (C_need_rowO : Cl P w K mg base 8 "need_row" ["known", "number", "row", "later", "met"] (spNeedRow CT E0)) (C_opened_behind : Cl P w K mg base 3 "opened_behind" ["opened", "number", "word"] (spOpened E0))
    (Dx : Dfn K mg "need_parts" s_need_parts ["things", "parts"]) : Cl P w K mg base 9 "need_parts" ["things", "parts"] (spNeedParts CT E0) := by
  have sc := sc_need_parts
  refine cl_of Dx sc (fun ds r P' XR ⟨_, _, _, e, _⟩ => by rw [e]; rfl) (fun f cdv A outer s H E hr tk po => ?_)
  have hu := hr.units
  have hi := u65 hr
  refine ⟨_, (ss_cons (s_if (b_not (b_tru (dv 1)))
  (ss_one (s_raise X_NoPart.c tk hr (dl_cons d_non dl_nil)))
  ss_nil)
  (ss_cons (s_if (b_cmp p_gt (d_blt c_len (by rfl) B.len (dl_cons (dv 1) dl_nil)) (d_gI gP))
  (ss_one (s_raise X_TooMany.c tk hr (dl_cons (d_gI gP) dl_nil)))
  ss_nil)
  (ss_cons (s_setLc (i := 2) (js := [3, 4]) (own := [("name", 3), ("rows", 4)]) sc.nd (i_tup (dv 1)) (blkOk_by (own := [("name", 3), ("rows", 4)]) (N := N_need_parts) (sc := defScope s_need_parts) (by decide +kernel)) (fun _ _ _ _ _ => (g_tup (is := [3, 4]) (pgs_n (i := 3) sc.nd (pgs_n (i := 4) sc.nd pgs_nil)))) (fun _ _ _ _ _ => pts_no) (fun _ _ _ _ _ => (dv 3)) (sw_true rfl rfl rfl (by decide +kernel)))
  (ss_cons (s_expr (d_fn C_need_names tk hr (dl_cons (dv 2) dl_nil)))
  (ss_cons (s_expr (d_fn C_need_unlike tk hr (dl_cons (dv 2) dl_nil)))
  (ss_cons (s_if (b_cmp p_gt (d_blt c_sum (by rfl) B.sum (dl_cons (d_lc (js := [3, 4]) (own := [("name", 3), ("rows", 4)]) sc.nd (i_tup (dv 1)) (blkOk_by (own := [("name", 3), ("rows", 4)]) (N := N_need_parts) (sc := defScope s_need_parts) (by decide +kernel)) (fun _ _ _ _ _ => (g_tup (is := [3, 4]) (pgs_n (i := 3) sc.nd (pgs_n (i := 4) sc.nd pgs_nil)))) (fun _ _ _ _ _ => pts_no) (fun _ _ _ _ _ => (d_blt c_len (by rfl) B.len (dl_cons (dv 4) dl_nil)))) dl_nil)) (d_gI gR))
  (ss_one (s_raise X_TooMany.c tk hr (dl_cons (d_gI gR) dl_nil)))
  ss_nil)
  (ss_cons (s_setDc (i := 5) (js := [6]) (own := [("thing", 6)]) sc.nd (i_any (dv 0)) (blkOk_by (own := [("thing", 6)]) (N := N_need_parts) (sc := defScope s_need_parts) (by decide +kernel)) (fun _ _ _ _ _ => (g_name (i := 6) sc.nd)) (fun _ _ _ _ _ => pts_no) (fun _ _ _ _ _ => (d_fld (dv 6))) (fun _ _ _ _ _ => (dv 6)) (sw_trueD rfl rfl rfl (by decide +kernel)))
  (ss_cons (s_set (i := 7) sc.nd (d_lstO dl_nil))
  (ss_cons (s_set (i := 8) sc.nd d_int)
  (ss_one (s_for (i_enumT (by rfl) B.enum (dl_cons (dv 1) dl_nil)) (g_mix (ps := [.n 9, .t [3, 4]]) (pms_n (i := 9) sc.nd (pms_t (is := [3, 4]) (pgs_n (i := 3) sc.nd (pgs_n (i := 4) sc.nd pgs_nil)) pms_nil)))
  (ss_cons (s_set (i := 10) sc.nd (d_lst dl_nil))
  (ss_cons (s_for (i_any (dv 4)) (g_name (i := 11) sc.nd)
  (ss_cons (s_expr (d_fn C_need_rowO tk hr (dl_cons (dv 5) (dl_cons (dv 8) (dl_cons (dv 11) (dl_cons (d_sl (dv 2) (o_some (d_bin p_add (dv 9) d_int)) o_no) (dl_cons (dv 7) dl_nil)))))))
  (ss_cons (s_cut (s_if (b_tru (d_fn C_is_probe tk hr (dl_cons (dv 11) dl_nil)))
  (ss_one (s_expr (d_app (dv 7) (dl_cons (d_ix (dv 11) d_int) dl_nil))))
  ss_nil))
  (ss_cons (s_set (i := 10) sc.nd (d_fn C_opened_behind tk hr (dl_cons (dv 10) (dl_cons (dv 8) (dl_cons (d_ix (dv 11) d_int) dl_nil)))))
  (ss_one (s_aug (i := 8) sc.nd p_iadd d_int))))) po)
  (ss_one (s_if (b_tru (dv 10))
  (ss_one (s_raise X_Unmatched.c tk hr (dl_cons (d_ix (d_ix (dv 10) (d_neg d_int)) d_int) dl_nil)))
  ss_nil)))) po))))))))))), fun ds r P' XR h => ?_⟩
  obtain ⟨d, ths, ps, rfl, hsq, hz, hun, okp, h1, h2⟩ := h
  have rz : ∀ e : Er, needPts ths (ps.map pq) = some e → ∀ δ t, e.rz E0 (fun C fs es r' => fitX XR C fs es δ r') (r ++ t) := fun e he δ t => Er.rz_le le.drop δ e (h1 e he)
  have rz0 : ∀ e : Er, needPts ths (ps.map pq) = some e → ∀ δ, e.rz E0 (fun C fs es r' => fitX XR C fs es δ r') r := fun e he δ => Er.rz_le le.refl δ e (h1 e he)
  have hpl := okp.len
  unfold needPts at rz rz0 h2
  have en : (ps.map pq).map (·.1) = ps.map (·.1) := by rw [List.map_map]; rfl
  have el : (ps.map pq).map (fun p => p.2.length) = ps.map (fun p => p.2.2.length) := by rw [List.map_map]; rfl
  rw [en, el, List.length_map] at rz rz0 h2
  cases ps with
  | nil => exact brT ⟨.non, rfl, rz0 _ rfl []⟩
  | cons p0 ps0 =>
  generalize hps : p0 :: ps0 = ps at *
  have e0 : (ps.map pq).isEmpty = false := by rw [← hps]; rfl
  have e1 : (ps.map partD).isEmpty = false := by rw [← hps]; rfl
  rw [if_neg (by rw [e0]; decide)] at rz rz0 h2
  refine brf (by show (!(!(ps.map partD).isEmpty)) = false; rw [e1]; rfl) fun _ => ?_
  by_cases q5 : 5 < ps.length
  · rw [if_pos q5] at rz0
    exact brt (decide_eq_true (by rw [List.length_map]; omega)) ⟨.int 5, rfl, rz0 _ rfl []⟩
  rw [if_neg q5] at rz rz0 h2
  refine brf (decide_eq_false (by rw [List.length_map]; omega)) ?_
  refine lc_map (fun d => match d with | .tup [n, _] => n | _ => .non) (by rw [List.length_map]; unfold small; omega) (fun e he r2 P2 q => ?_) ?_
  · obtain ⟨p, hp, rfl⟩ := List.mem_map.mp he
    exact ⟨rfl, q⟩
  rw [List.map_map]
  show sSeq _ _ _ _ _
  refine ⟨ps.map (·.1), rfl, by rw [List.length_map]; omega, fun x hx => ?_, fun qn => ?_, fun x hx => ?_⟩
  · obtain ⟨p, hp, rfl⟩ := List.mem_map.mp hx
    exact okp.pn p hp
  rotate_left
  · rw [hx] at rz0
    exact rz0 _ rfl []
  have nn : (ps.map (·.1)).find? (fun d => !isNameD d) = none := List.find?_eq_none.mpr fun x hx => by rw [List.all_eq_true.mp qn x hx]; decide
  rw [nn] at rz rz0 h2
  dsimp only at rz rz0 h2
  have dn : ∀ x ∈ ps.map (·.1), dep x ≤ 60 := fun x hx => name_dep (List.all_eq_true.mp qn x hx)
  refine ⟨.lst (ps.map (·.1)), ps.map (·.1), rfl, rfl, by rw [List.length_map]; omega, dn, fun qt => ?_, fun x hx => ?_⟩
  rotate_left
  · rw [hx] at rz0
    exact rz0 _ rfl []
  rw [qt] at rz rz0 h2
  dsimp only at rz rz0 h2
  refine lc_map (fun d => match d with | .tup [_, .lst xs] => .int (xs.length : Nat) | .tup [_, .tup xs] => .int (xs.length : Nat) | _ => .non) (by rw [List.length_map]; unfold small; omega) (fun e he r2 P2 q => ?_) ?_
  · obtain ⟨p, hp, rfl⟩ := List.mem_map.mp he
    obtain ⟨n, rw_, rs⟩ := p
    have hs : seqD rw_ = some rs := okp.sq _ hp
    cases rw_ <;> first | (cases hs; done) | (cases hs; exact ⟨rfl, fun _ => q⟩)
  have eS : (ps.map partD).map (fun d => match d with | .tup [_, .lst xs] => D.int (xs.length : Nat) | .tup [_, .tup xs] => .int (xs.length : Nat) | _ => .non) = ((ps.map fun p => p.2.2.length).map fun n : Nat => (n : Int)).map .int := by
    rw [List.map_map, List.map_map, List.map_map]
    refine List.map_congr_left fun p hp => ?_
    obtain ⟨n, rw_, rs⟩ := p
    have hs : seqD rw_ = some rs := okp.sq _ hp
    cases rw_ <;> first | (cases hs; done) | (cases hs; rfl)
  rw [eS]
  refine ⟨⟨_, _, rfl, intL_map _, ?_⟩⟩
  rw [sum_cast]
  by_cases q60 : 60 < (ps.map fun p => p.2.2.length).sum
  · rw [if_pos q60] at rz0
    exact brt (decide_eq_true (by omega)) ⟨.int 60, rfl, rz0 _ rfl []⟩
  rw [if_neg q60] at rz rz0 h2
  refine brf (decide_eq_false (by omega)) ?_
  refine ⟨_, hsq, ⟨fun i acc r' => acc = nk (thE CT (ths.take i)) ∧ r' = r, ⟨rfl, rfl⟩, ?_, ?_⟩⟩
  · rintro p i d acc r' hd ⟨rfl, rfl⟩
    rw [List.getElem?_map] at hd
    obtain ⟨t, ht, rfl⟩ := Option.map_eq_some_iff.mp hd
    refine brT (.fro 1 _ (by decide) rfl ⟨.inr t.nm, rfl, ?_, _, rfl, thE_put hun ht, rfl⟩)
    rw [nk_len]
    unfold thE
    rw [List.length_map, List.length_take]
    unfold small
    omega
  rintro kd acc r'_ ⟨rfl, hrr⟩
  subst hrr
  rw [List.length_map, List.take_length]
  refine ⟨Nat.le_of_ble_eq_true rfl, fun m => ?_⟩
  have eR : ∀ xs, (r'_ ++ [dctA kd (nk (thE CT ths))]) ++ [lstA m xs] = r'_ ++ dctA kd (nk (thE CT ths)) :: [lstA m xs] := fun xs => by simp
  refine ⟨fun i δ r' => (∃ (n : Nat) (met : List D) (x6 x9 x3 x4 x10 x11 : Option D), δ = [some d, some (.tup (ps.map partD)), some (.lst (ps.map (·.1))), x3, x4, some (.adr kd), x6, some (.adr m), some (.int n), x9, x10, x11] ∧ r' = r'_ ++ dctA kd (nk (thE CT ths)) :: [lstA m met] ∧ i ≤ ps.length ∧ n = ((ps.take i).map fun p => p.2.2.length).sum ∧ met.length ≤ n ∧ (∀ x ∈ met, dep x ≤ 60) ∧ partsChk ths 0 [] (ps.map pq) = partsChk ths n met ((ps.drop i).map pq)), ⟨0, [], _, _, _, _, _, _, rfl, by rw [eR], Nat.zero_le _, rfl, Nat.le_refl _, fun _ h => (by cases h), rfl⟩, ?_, ?_⟩
  · rintro i e δ r' he ⟨n, met, x6, x9, x3, x4, x10, x11, rfl, rfl, hil, hn, hml, hmd, hP⟩
    have hi2 : i < ps.length := by
      have := (List.getElem?_eq_some_iff.mp he).1
      simpa using this
    obtain ⟨p, hp⟩ : ∃ p, ps[i]? = some p := ⟨_, List.getElem?_eq_getElem hi2⟩
    have mp := List.mem_of_getElem? hp
    obtain rfl : e = .tup [.int (i : Nat), partD p] := by
      have e2 := (List.getElem?_eq_some_iff.mp he).2
      rw [← e2]
      simp [List.getD_eq_getElem?_getD, hp]
    have dr : ps.drop i = p :: ps.drop (i + 1) := by
      rw [← (List.getElem?_eq_some_iff.mp hp).2]
      exact (List.getElem_cons_drop hi2).symm
    have later : ((ps.drop (i + 1)).map pq).map (·.1) = (ps.map (·.1)).drop (i + 1) := by rw [List.map_map, List.map_drop]; rfl
    rw [dr, List.map_cons] at hP
    have hP : partsChk ths 0 [] (ps.map pq) = match rowsChk ths (((ps.drop (i + 1)).map pq).map (·.1)) n [] met p.2.2 with | .error e => some e | .ok (n', met') => partsChk ths n' met' ((ps.drop (i + 1)).map pq) := hP
    rw [later] at hP
    have tot := sum_le hp
    rw [← hn] at tot
    have dl : ∀ x ∈ (ps.map (·.1)).drop (i + 1), dep x ≤ 60 := fun x hx => dn x (List.mem_of_mem_drop hx)
    refine ⟨rfl, rfl, rfl, Nat.le_of_ble_eq_true rfl, p.2.2, okp.sq p mp, ?_⟩
    refine ⟨fun j δ r' => (∃ (op : List (Nat × Str)) (met' : List D) (x6 x11 : Option D), δ = [some d, some (.tup (ps.map partD)), some (.lst (ps.map (·.1))), some p.1, some p.2.1, some (.adr kd), x6, some (.adr m), some (.int ((n + j : Nat) : Int)), some (.int (i : Nat)), some (opD op), x11] ∧ r' = r'_ ++ dctA kd (nk (thE CT ths)) :: [lstA m met'] ∧ j ≤ p.2.2.length ∧ met'.length ≤ n + j ∧ op.length ≤ j ∧ (∀ x ∈ met', dep x ≤ 60) ∧ rowsChk ths ((ps.map (·.1)).drop (i + 1)) n [] met p.2.2 = rowsChk ths ((ps.map (·.1)).drop (i + 1)) (n + j) op met' (p.2.2.drop j)), ⟨[], met, _, _, rfl, rfl, Nat.zero_le _, by omega, Nat.le_refl _, hmd, rfl⟩, ?_, ?_⟩
    · rintro j row δ r' hj ⟨op, met', x6, x11, rfl, rfl, hjl, hml', hol, hmd', hR⟩
      have hj2 := (List.getElem?_eq_some_iff.mp hj).1
      have mr := List.mem_of_getElem? hj
      have dr2 : p.2.2.drop j = row :: p.2.2.drop (j + 1) := by
        rw [← (List.getElem?_eq_some_iff.mp hj).2]
        exact (List.getElem_cons_drop hj2).symm
      rw [dr2] at hR
      have hR : rowsChk ths ((ps.map (·.1)).drop (i + 1)) n [] met p.2.2 = match rowErr ths (n + j) row ((ps.map (·.1)).drop (i + 1)) met' with
        | some e => .error e
        | none => match opStep op (n + j) (headD row) with
          | .error e => .error e
          | .ok op' => rowsChk ths ((ps.map (·.1)).drop (i + 1)) (n + j + 1) op' (metP met' row) (p.2.2.drop (j + 1)) := hR
      refine sl_l ?_
      have ec : cutD (ps.map (·.1)) (some (((i : Nat) : Int) + 1)) none = (ps.map (·.1)).drop (i + 1) := by
        rw [show ((i : Nat) : Int) + 1 = ((i + 1 : Nat) : Int) by omega]
        exact cutD_from _ _
      rw [ec]
      have er : ∀ δ : Dl, ∀ e : Er, partsChk ths 0 [] (ps.map pq) = some e → e.rz E0 (fun C fs es r' => fitX XR C fs es δ r') (r'_ ++ dctA kd (nk (thE CT ths)) :: [lstA m met']) := fun δ e q => rz e q δ _
      refine ⟨kd, m, n + j, row, _, met', ths, r'_, [lstA m met'], rfl, rfl, ⟨r'_ ++ [dctA kd (nk (thE CT ths))], [], by simp⟩, okp.pr p mp row mr, dl, hmd', fun e q => ?_, fun q => ?_⟩
      · rw [q] at hR
        dsimp only at hR
        rw [hR] at hP
        exact er [] e hP
      have hrow := rowErr_row q
      rw [q] at hR
      dsimp only at hR
      obtain ⟨w, vs, ew, hw⟩ := row_ex hrow
      have hpr : isPrD row = hasS ["probe", "assert"] w := by unfold isPrD; rw [hw]
      refine ⟨fun δ' r2 => (∃ x6, δ' = [some d, some (.tup (ps.map partD)), some (.lst (ps.map (·.1))), some p.1, some p.2.1, some (.adr kd), x6, some (.adr m), some (.int ((n + j : Nat) : Int)), some (.int (i : Nat)), some (opD op), some row]) ∧ r2 = r'_ ++ dctA kd (nk (thE CT ths)) :: [lstA m (metP met' row)], ?_, ?_⟩
      · refine ⟨w, vs, by rw [ew], ?_⟩
        unfold metP
        cases hp2 : isPrD row with
        | false => exact brf (hpr ▸ hp2) ⟨⟨_, rfl⟩, rfl⟩
        | true =>
          obtain ⟨z, e1⟩ := row1_dep hrow hp2
          have at_ : ∀ k : D → Prop, k (row1 row) → oIx row (.int 1) k := fun k q => by
            obtain ⟨w', nm, g, a, b, er, _⟩ := pr_ex hrow hp2
            rw [er] at q ⊢
            exact ix_t at1 q
          refine brt (hpr ▸ hp2) ⟨m, met', rfl, ⟨r'_ ++ [dctA kd (nk (thE CT ths))], [], by simp⟩, at_ _ ?_⟩
          exact ⟨r'_ ++ [dctA kd (nk (thE CT ths))], met', [], row1 row, rfl, by simp, by unfold small; omega, ⟨_, rfl⟩, by simp⟩
      · rintro δ2 r2 ⟨⟨x6, rfl⟩, rfl⟩
        have at0_ : ∀ k : D → Prop, k (.str w) → oIx row (.int 0) k := fun k q => by rw [ew]; exact ix_t at0 q
        refine at0_ _ ⟨op, n + j, w, rfl, by omega, fun e q2 => ?_, fun op' q2 => ?_⟩
        · rw [hw, q2] at hR
          dsimp only at hR
          rw [hR] at hP
          exact rz e hP [] _
        · rw [hw, q2] at hR
          dsimp only at hR
          have hpj : ((n + j : Nat) : Int) + 1 = ((n + (j + 1) : Nat) : Int) := by omega
          refine ⟨op', metP met' row, _, _, by rw [← hpj]; rfl, rfl, by omega, ?_, ?_, ?_, hR⟩
          · unfold metP
            split
            · rw [List.length_append, List.length_singleton]; omega
            · omega
          · have := op_len q2
            omega
          · unfold metP
            split
            · rename_i hp2
              obtain ⟨z, e1⟩ := row1_dep hrow hp2
              intro x hx
              rcases List.mem_append.mp hx with hx | hx
              · exact hmd' x hx
              · rw [List.mem_singleton.mp hx, e1]; exact Nat.zero_le _
            · exact hmd'
    · rintro δ r' ⟨op, met', x6, x11, rfl, rfl, hjl, hml', hol, hmd', hR⟩
      rw [List.drop_length] at hR
      have hR : rowsChk ths ((ps.map (·.1)).drop (i + 1)) n [] met p.2.2 = (match op.getLast? with | some (k, _) => .error (.um k) | none => .ok (n + p.2.2.length, met')) := hR
      have emp : (op.map fun e => D.tup [.int (e.1 : Nat), .str e.2]).isEmpty = op.isEmpty := by cases op <;> rfl
      cases hg : op.getLast? with
      | none =>
        rw [hg] at hR
        have e0 : op = [] := List.getLast?_eq_none_iff.mp hg
        subst e0
        rw [hR] at hP
        refine brF ⟨_, met', _, _, _, _, _, _, rfl, rfl, by omega, ?_, hml', hmd', hP⟩
        rw [List.take_add_one, hp]
        simp only [Option.toList_some, List.map_append, List.sum_append, List.map_cons, List.map_nil, List.sum_cons, List.sum_nil]
        omega
      | some e =>
        obtain ⟨k, v⟩ := e
        rw [hg] at hR
        dsimp only at hR
        rw [hR] at hP
        have hne : (op.map fun e => D.tup [.int (e.1 : Nat), .str e.2]).isEmpty = false := by
          rw [emp]
          cases op with
          | nil => cases hg
          | cons _ _ => rfl
        refine brt (by show (!(op.map fun e => D.tup [.int (e.1 : Nat), .str e.2]).isEmpty) = true; rw [hne]; rfl) ?_
        exact ix_l (opD_last hg) (ix_t at0 ⟨_, rfl, rz _ hP [] _⟩)
  · rintro δ r' ⟨n, met, x6, x9, x3, x4, x10, x11, rfl, rfl, hil, hn, hml, hmd, hP⟩
    rw [List.length_map, List.length_range, List.length_map, List.drop_length] at hP
    exact ⟨_, by rw [show r'_ ++ dctA kd (nk (thE CT ths)) :: [lstA m met] = r'_ ++ [dctA kd (nk (thE CT ths)), lstA m met] from rfl]; exact le.drop, h2 hP⟩
structure JS where
  on : List Int
  ot : List Int
  op : List (Nat × Option Nat)
def jStep (ws : List Str) (b : Int) (i : Nat) (w : Str) (s : JS) : Option JS :=
  if w == "if" || w == "while" then some { s with op := s.op ++ [(i, none)] }
  else if w == "else" then (match s.op.getLast? with | none => none | some (o, _) => some { s with op := s.op.dropLast ++ [(o, some i)] })
  else if w == "end" then (match s.op.getLast? with
    | none => none
    | some (o, m) => if ws[o]? == some ("while" : Str) then some ⟨s.on.set i (b + o), s.ot.set o (b + i + 1), s.op.dropLast⟩ else match m with
      | none => some ⟨s.on, s.ot.set o (b + i + 1), s.op.dropLast⟩
      | some k => some ⟨s.on.set k (b + i + 1), s.ot.set o (b + k + 1), s.op.dropLast⟩)
  else some s
def jRun (ws : List Str) (b : Int) : Nat → List Str → JS → Option JS
  | _, [], s => some s
  | i, w :: l, s => (jStep ws b i w s).bind (jRun ws b (i + 1) l)
def js0 (b : Int) (n : Nat) : JS := ⟨(List.range n).map fun i => b + (i : Nat) + 1, (List.range n).map fun i => b + (i : Nat) + 1, []⟩
def jumps (rows : List D) (b : Int) : Option JS := jRun (rows.map headD) b 0 (rows.map headD) (js0 b rows.length)
def jD (e : Nat × Option Nat) : D := .tup [.int (e.1 : Nat), match e.2 with | none => .non | some k => .int (k : Nat)]
structure JOk (n i : Nat) (s : JS) : Prop where
  on : s.on.length = n
  ot : s.ot.length = n
  le : s.op.length ≤ i
  a : ∀ e ∈ s.op, e.1 < i
  b : ∀ e ∈ s.op, ∀ k, e.2 = some k → k < i
theorem getLast_mem {α : Type} {l : List α} {e : α} (h : l.getLast? = some e) : e ∈ l := List.mem_of_getLast? h
theorem last_split {α : Type} {l : List α} {e : α} (h : l.getLast? = some e) : l = l.dropLast ++ [e] := by
  obtain ⟨l', rfl⟩ := List.getLast?_eq_some_iff.mp h
  simp
theorem jStep_ok {ws : List Str} {b : Int} {n i : Nat} {w : Str} {s s' : JS} (h : JOk n i s) (hs : jStep ws b i w s = some s') : JOk n (i + 1) s' := by
  have up : ∀ e ∈ s.op, e.1 < i + 1 := fun e he => Nat.lt_succ_of_lt (h.a e he)
  have upb : ∀ e ∈ s.op, ∀ k, e.2 = some k → k < i + 1 := fun e he k hk => Nat.lt_succ_of_lt (h.b e he k hk)
  have dr : ∀ e ∈ s.op.dropLast, e ∈ s.op := fun e he => List.dropLast_subset _ he
  unfold jStep at hs
  split at hs
  · cases hs
    refine ⟨h.on, h.ot, by simp; exact h.le, fun e he => ?_, fun e he k hk => ?_⟩
    · rcases List.mem_append.mp he with he | he
      · exact up e he
      · rw [List.mem_singleton.mp he]; exact Nat.lt_succ_self _
    · rcases List.mem_append.mp he with he | he
      · exact upb e he k hk
      · rw [List.mem_singleton.mp he] at hk; cases hk
  · split at hs
    · split at hs
      · cases hs
      · rename_i o m hg
        cases hs
        have mo := getLast_mem hg
        refine ⟨h.on, h.ot, by simp; have := h.le; omega, fun e he => ?_, fun e he k hk => ?_⟩
        · rcases List.mem_append.mp he with he | he
          · exact up e (dr e he)
          · rw [List.mem_singleton.mp he]; exact up (o, m) mo
        · rcases List.mem_append.mp he with he | he
          · exact upb e (dr e he) k hk
          · rw [List.mem_singleton.mp he] at hk; cases hk; exact Nat.lt_succ_self _
    · split at hs
      · split at hs
        · cases hs
        · have l1 : s.op.dropLast.length ≤ i + 1 := by rw [List.length_dropLast]; have := h.le; omega
          split at hs
          · cases hs
            exact ⟨by rw [List.length_set]; exact h.on, by rw [List.length_set]; exact h.ot, l1, fun e he => up e (dr e he), fun e he => upb e (dr e he)⟩
          · split at hs
            · cases hs
              exact ⟨h.on, by rw [List.length_set]; exact h.ot, l1, fun e he => up e (dr e he), fun e he => upb e (dr e he)⟩
            · cases hs
              exact ⟨by rw [List.length_set]; exact h.on, by rw [List.length_set]; exact h.ot, l1, fun e he => up e (dr e he), fun e he => upb e (dr e he)⟩
      · cases hs
        exact ⟨h.on, h.ot, Nat.le_succ_of_le h.le, up, upb⟩
def spJumps : SpX := fun ds r P _ => ∃ (rows : List D) (b : Int) (s : JS), ds = [.tup rows, .int b] ∧ rows.length ≤ 1000 ∧ (∀ row ∈ rows, ∃ w vs, row = .tup (.str w :: vs)) ∧ jumps rows b = some s ∧ P (.tup [.lst (s.on.map .int), .lst (s.ot.map .int)]) r
abbrev N_jumps_of : List Str := ["rows", "begin", "onward", "at", "otherwise", "opened", "row", "opening", "middle"]
theorem sc_jumps_of : FnScope N_jumps_of ["rows", "begin"] (defScope s_jumps_of) := ⟨rfl, rfl, rfl, by decide +kernel, rfl, by decide +kernel, by decide +kernel⟩
set_option maxHeartbeats 2000000 in
theorem c_jumps_of (B : Bl mg) (Dx : Dfn K mg "jumps_of" s_jumps_of ["rows", "begin"]) : Cl P w K mg base 1 "jumps_of" ["rows", "begin"] spJumps := by
  have sc := sc_jumps_of
  refine cl_of Dx sc (fun ds r P' XR ⟨_, _, _, e, _⟩ => by rw [e]; rfl) (fun f cdv A outer s H E hr tk po => ?_)
  have hu := hr.units
  have hi := u65 hr
  refine ⟨_, (ss_cons (s_setLcN (i := 2) (js := [3]) (own := [("at", 3)]) sc.nd (i_r1 (by rfl) B.range (dl_cons (d_blt c_len (by rfl) B.len (dl_cons (dv 0) dl_nil)) dl_nil)) (blkOk_by (own := [("at", 3)]) (N := N_jumps_of) (sc := defScope s_jumps_of) (by decide +kernel)) (fun _ _ _ _ _ => (g_name (i := 3) sc.nd)) (fun _ _ _ _ _ => pts_no) (fun _ _ _ _ _ => (d_bin p_add (d_bin p_add (dv 1) (dv 3)) d_int)) (sw_true rfl rfl rfl (by decide +kernel)))
  (ss_cons (s_set (i := 4) sc.nd (d_listOO (by rfl) B.list (dl_cons (dv 2) dl_nil)))
  (ss_cons (s_set (i := 5) sc.nd (d_lstO dl_nil))
  (ss_cons (s_for (i_enumT (by rfl) B.enum (dl_cons (dv 0) dl_nil)) (g_tup (is := [3, 6]) (pgs_n (i := 3) sc.nd (pgs_n (i := 6) sc.nd pgs_nil)))
  (ss_one (s_cut (s_match (d_ix (dv 6) d_int) (pc_cons (pm_or (pf_cons (pm_v hu) (pf_cons (pm_v hu) pf_nil)))
  (ss_one (s_expr (d_app (dv 5) (dl_cons (d_tup (dl_cons (dv 3) (dl_cons d_non dl_nil))) dl_nil))))
  (pc_cons (pm_v hu)
  (ss_cons (s_tup (is := [7, 8]) (d_pop0 (dv 5)) (pgs_n (i := 7) sc.nd (pgs_n (i := 8) sc.nd pgs_nil)))
  (ss_one (s_expr (d_app (dv 5) (dl_cons (d_tup (dl_cons (dv 7) (dl_cons (dv 3) dl_nil))) dl_nil)))))
  (pc_cons (pm_v hu)
  (ss_cons (s_tup (is := [7, 8]) (d_pop0 (dv 5)) (pgs_n (i := 7) sc.nd (pgs_n (i := 8) sc.nd pgs_nil)))
  (ss_one (s_if (b_cmp (p_eq hu) (d_ix (d_ix (dv 0) (dv 7)) d_int) d_str)
  (ss_cons (s_setO (d_bin p_add (dv 1) (dv 7)) (dv 2) (dv 3))
  (ss_one (s_setO (d_bin p_add (d_bin p_add (dv 1) (dv 3)) d_int) (dv 4) (dv 7))))
  (ss_one (s_if (b_cmp p_is (dv 8) d_non)
  (ss_one (s_setO (d_bin p_add (d_bin p_add (dv 1) (dv 3)) d_int) (dv 4) (dv 7)))
  (ss_cons (s_setO (d_bin p_add (d_bin p_add (dv 1) (dv 8)) d_int) (dv 4) (dv 7))
  (ss_one (s_setO (d_bin p_add (d_bin p_add (dv 1) (dv 3)) d_int) (dv 2) (dv 8)))))))))
  pc_nil)))))) po)
  (ss_one (s_melt 2 (s_melt 4 (s_ret (d_tup (dl_cons (dv 2) (dl_cons (dv 4) dl_nil))))))))))), fun ds r P' XR h => ?_⟩
  obtain ⟨rows, b, s, rfl, hl, hh, hj, h⟩ := h
  replace h := fit.of h
  let ws := rows.map headD
  have eon : ((List.range ((rows.length : Nat) : Int).toNat).map fun i : Nat => D.int (i : Int)).map (fun d => match d with | .int i => D.int (b + i + 1) | _ => .non) = (js0 b rows.length).on.map .int := by
    unfold js0
    simp only [Int.toNat_natCast, List.map_map]
    rfl
  refine fun _ => ⟨⟨by omega, by omega⟩, lcN_map (fun d => match d with | .int i => D.int (b + i + 1) | _ => .non) ?_ (fun e he r2 P2 q => ?_) fun q2 => ?_⟩
  · unfold small; simp; omega
  · obtain ⟨i, _, rfl⟩ := List.mem_map.mp he
    exact q
  rw [eon]
  refine ⟨q2, _, rfl, ⟨r, [], rfl⟩, fun q4 => ⟨Nat.le_of_ble_eq_true rfl, fun q5 => ?_⟩⟩
  have eR : ∀ A B C : List D, ((r ++ [lstA q2 A]) ++ [lstA q4 B]) ++ [lstA q5 C] = r ++ [lstA q2 A, lstA q4 B, lstA q5 C] := fun A B C => by simp
  rw [eR]
  refine ⟨fun i δ r' => ∃ (s' : JS) (x3 x6 x7 x8 : Option D), δ = [some (.tup rows), some (.int b), some (.adr q2), x3, some (.adr q4), some (.adr q5), x6, x7, x8] ∧ r' = r ++ [lstA q2 (s'.on.map .int), lstA q4 (s'.ot.map .int), lstA q5 (s'.op.map jD)] ∧ JOk rows.length i s' ∧ i ≤ rows.length ∧ jRun (rows.map headD) b i ((rows.map headD).drop i) s' = some s, ⟨js0 b rows.length, _, _, _, _, rfl, rfl, ⟨by simp [js0], by simp [js0], Nat.zero_le _, fun e he => (by cases he), fun e he => (by cases he)⟩, Nat.zero_le _, hj⟩, ?_, ?_⟩
  · rintro i e δ r' he ⟨s', x3, x6, x7, x8, rfl, rfl, jo, hil, hJ⟩
    have hi2 : i < rows.length := by
      have := (List.getElem?_eq_some_iff.mp he).1
      simpa using this
    obtain ⟨row, hp⟩ : ∃ p, rows[i]? = some p := ⟨_, List.getElem?_eq_getElem hi2⟩
    obtain rfl : e = .tup [.int (i : Nat), row] := by
      have e2 := (List.getElem?_eq_some_iff.mp he).2
      rw [← e2]
      simp [List.getD_eq_getElem?_getD, hp]
    obtain ⟨w, vs, rfl⟩ := hh row (List.mem_of_getElem? hp)
    have hw : (rows.map headD)[i]? = some w := by rw [List.getElem?_map, hp]; rfl
    have dr : (rows.map headD).drop i = w :: (rows.map headD).drop (i + 1) := by
      have hlt : i < (rows.map headD).length := by rw [List.length_map]; exact hi2
      rw [← (List.getElem?_eq_some_iff.mp hw).2]
      exact (List.getElem_cons_drop hlt).symm
    rw [dr] at hJ
    obtain ⟨s2, hs2, hJ⟩ := Option.bind_eq_some_iff.mp (show (jStep (rows.map headD) b i w s').bind (jRun (rows.map headD) b (i + 1) ((rows.map headD).drop (i + 1))) = some s from hJ)
    have jo2 := jStep_ok jo hs2
    refine ⟨rfl, fun δ' r2 => (∃ x7 x8, δ' = [some (.tup rows), some (.int b), some (.adr q2), some (.int (i : Nat)), some (.adr q4), some (.adr q5), some (.tup (.str w :: vs)), x7, x8]) ∧ r2 = r ++ [lstA q2 (s2.on.map .int), lstA q4 (s2.ot.map .int), lstA q5 (s2.op.map jD)], ix_t at0 ?_, ?_⟩
    rotate_left
    · rintro δ2 r2 ⟨⟨x7, x8, rfl⟩, rfl⟩
      exact ⟨s2, _, _, _, _, rfl, rfl, jo2, hi2, hJ⟩
    have own5 : ∀ {A B C : List D}, Own (r ++ [lstA q2 A, lstA q4 B, lstA q5 C]) q5 C := fun {A B C} => ⟨r ++ [lstA q2 A, lstA q4 B], [], by simp⟩
    have e5 : ∀ {A B C : List D}, r ++ [lstA q2 A, lstA q4 B, lstA q5 C] = (r ++ [lstA q2 A, lstA q4 B]) ++ lstA q5 C :: [] := by simp
    have e4 : ∀ {A B C : List D}, r ++ [lstA q2 A, lstA q4 B, lstA q5 C] = (r ++ [lstA q2 A]) ++ lstA q4 B :: [lstA q5 C] := by simp
    have e2 : ∀ {A B C : List D}, r ++ [lstA q2 A, lstA q4 B, lstA q5 C] = r ++ lstA q2 A :: [lstA q4 B, lstA q5 C] := by simp
    have lp : s'.op.length ≤ 1000 := by have := jo.le; omega
    unfold jStep at hs2
    refine ⟨fun (q : (w == "if" || (w == "while" || false)) = true) => ?_, fun (q : (w == "if" || (w == "while" || false)) = false) => ⟨fun (q2' : (w == "else") = true) => ?_, fun (q2' : (w == "else") = false) => ⟨fun (q3 : (w == "end") = true) => ?_, fun (q3 : (w == "end") = false) => ?_⟩⟩⟩
    · rw [Bool.or_false] at q
      rw [if_pos q] at hs2
      cases hs2
      exact ⟨q5, _, rfl, own5, Nat.le_of_ble_eq_true rfl, ⟨_, _, _, _, rfl, e5, by unfold small; rw [List.length_map]; omega, ⟨_, _, rfl⟩, by rw [List.map_append]; exact e5.symm⟩⟩
    · rw [Bool.or_false] at q
      rw [if_neg (by rw [q]; decide), if_pos q2'] at hs2
      cases hg : s'.op.getLast? with
      | none => rw [hg] at hs2; cases hs2
      | some om =>
        obtain ⟨o, m⟩ := om
        rw [hg] at hs2
        cases hs2
        have es := last_split hg
        have em : s'.op.map jD = s'.op.dropLast.map jD ++ [jD (o, m)] := by rw [← List.map_singleton, ← List.map_append, ← es]
        rw [em]
        refine ⟨q5, rfl, ⟨_, _, _, _, e5, rfl, ?_⟩⟩
        rw [← e5]
        exact ⟨q5, _, rfl, own5, Nat.le_of_ble_eq_true rfl, ⟨_, _, _, _, rfl, e5, by unfold small; rw [List.length_map, List.length_dropLast]; omega, ⟨_, _, rfl⟩, by rw [List.map_append]; exact e5.symm⟩⟩
    · rw [Bool.or_false] at q
      rw [if_neg (by rw [q]; decide), if_neg (by rw [q2']; decide), if_pos q3] at hs2
      cases hg : s'.op.getLast? with
      | none => rw [hg] at hs2; cases hs2
      | some om =>
        obtain ⟨o, m⟩ := om
        rw [hg] at hs2
        have es := last_split hg
        have em : s'.op.map jD = s'.op.dropLast.map jD ++ [jD (o, m)] := by rw [← List.map_singleton, ← List.map_append, ← es]
        rw [em]
        have mo := getLast_mem hg
        have ho := jo.a _ mo
        obtain ⟨ro, hro⟩ : ∃ p, rows[o]? = some p := ⟨_, List.getElem?_eq_getElem (show o < rows.length by have : o < i := ho; omega)⟩
        obtain ⟨wo, vo, rfl⟩ := hh ro (List.mem_of_getElem? hro)
        have hwo : (rows.map headD)[o]? = some wo := by rw [List.getElem?_map, hro]; rfl
        dsimp only at hs2
        rw [hwo] at hs2
        refine ⟨q5, rfl, ⟨_, _, _, _, e5, rfl, ?_⟩⟩
        rw [← e5]
        refine ix_t (L2.atI_nat hro) (ix_t at0 ⟨Nat.zero_le _, Nat.zero_le _, ?_⟩)
        have eq_some : (some wo == some ("while" : Str)) = (wo == ("while" : Str)) := rfl
        have lo : o < s'.ot.length := by rw [jo.ot]; have : o < i := ho; omega
        have li : i < s'.on.length := by rw [jo.on]; exact hi2
        cases qw : wo == ("while" : Str) with
        | true =>
          rw [eq_some, qw, if_pos rfl] at hs2
          cases hs2
          refine brt qw ⟨q2, _, _, _, i, rfl, rfl, e2, by rw [List.length_map]; exact li, ?_⟩
          rw [← e2]
          refine ⟨q4, _, _, _, o, rfl, rfl, e4, by rw [List.length_map]; exact lo, ?_⟩
          rw [← e4, ← List.map_set, ← List.map_set]
          exact ⟨⟨_, _, rfl⟩, rfl⟩
        | false =>
          rw [eq_some, qw, if_neg (by decide)] at hs2
          refine brf qw ?_
          cases m with
          | none =>
            cases hs2
            refine brT ⟨q4, _, _, _, o, rfl, rfl, e4, by rw [List.length_map]; exact lo, ?_⟩
            rw [← e4, ← List.map_set]
            exact ⟨⟨_, _, rfl⟩, rfl⟩
          | some k =>
            cases hs2
            have lk : k < s'.on.length := by rw [jo.on]; have := jo.b _ mo k rfl; omega
            refine brF ⟨q4, _, _, _, o, rfl, rfl, e4, by rw [List.length_map]; exact lo, ?_⟩
            rw [← e4]
            refine ⟨q2, _, _, _, k, rfl, rfl, e2, by rw [List.length_map]; exact lk, ?_⟩
            rw [← e2, ← List.map_set, ← List.map_set]
            exact ⟨⟨_, _, rfl⟩, rfl⟩
    · rw [Bool.or_false] at q
      rw [if_neg (by rw [q]; decide), if_neg (by rw [q2']; decide), if_neg (by rw [q3]; decide)] at hs2
      cases hs2
      exact ⟨⟨_, _, rfl⟩, rfl⟩
  · rintro δ r' ⟨s', x3, x6, x7, x8, rfl, rfl, jo, hil, hJ⟩
    rw [List.length_map, List.length_range, ← List.length_map (f := headD), List.drop_length] at hJ
    cases hJ
    obtain ⟨r0, l0, h0⟩ := h
    refine ⟨q2, _, r, _, rfl, rfl, ⟨q4, _, r, _, rfl, rfl, ⟨Nat.le_of_ble_eq_true rfl, r0, le.drop.trans l0, h0⟩⟩⟩
theorem jStep_len {ws : List Str} {b : Int} {i n : Nat} {w : Str} {s : JS} {op op' : List (Nat × Str)} (h : opStep op n w = .ok op') (hs : s.op.length = op.length) : ∃ s', jStep ws b i w s = some s' ∧ s'.op.length = op'.length := by
  have ne : ∀ e, op.getLast? = some e → ∃ o, s.op.getLast? = some o := fun e he => by
    cases q : s.op.getLast? with
    | some o => exact ⟨o, rfl⟩
    | none =>
      rw [List.getLast?_eq_none_iff.mp q] at hs
      rw [List.eq_nil_of_length_eq_zero hs.symm] at he
      cases he
  unfold opStep at h
  unfold jStep
  split at h
  · rename_i c
    rw [if_pos c]
    split at h
    · cases h
    · cases h
      exact ⟨_, rfl, by simp [hs]⟩
  · rename_i c
    rw [if_neg c]
    split at h
    · rename_i c2
      rw [if_pos c2]
      split at h
      · rename_i k v hg
        obtain ⟨⟨o, m⟩, ho⟩ := ne _ hg
        rw [ho]
        split at h
        · cases h
          exact ⟨_, rfl, by simp [hs]⟩
        · cases h
      · cases h
    · rename_i c2
      rw [if_neg c2]
      split at h
      · rename_i c3
        rw [if_pos c3]
        split at h
        · rename_i e hg
          obtain ⟨⟨o, m⟩, ho⟩ := ne _ hg
          rw [ho]
          cases h
          dsimp only
          split
          · exact ⟨_, rfl, by simp [hs]⟩
          · cases m
            · exact ⟨_, rfl, by simp [hs]⟩
            · exact ⟨_, rfl, by simp [hs]⟩
        · cases h
      · rename_i c3
        rw [if_neg c3]
        cases h
        exact ⟨_, rfl, hs⟩
theorem rowsChk_ok {ths : List Th} {later : List D} {ws : List Str} {b : Int} : ∀ {rows : List D} {n i : Nat} {op : List (Nat × Str)} {met : List D} {s : JS} {x : Nat × List D}, rowsChk ths later n op met rows = .ok x → s.op.length = op.length → (∀ row ∈ rows, isRowD row = true) ∧ ∃ s', jRun ws b i (rows.map headD) s = some s'
  | [], n, i, op, met, s, x, h, hs => ⟨fun _ h => (by cases h), s, rfl⟩
  | row :: rows, n, i, op, met, s, x, h, hs => by
    have h : (match rowErr ths n row later met with
      | some e => (.error e : Except Er (Nat × List D))
      | none => match opStep op n (headD row) with
        | .error e => .error e
        | .ok op' => rowsChk ths later (n + 1) op' (metP met row) rows) = .ok x := h
    split at h
    · cases h
    · rename_i q
      split at h
      · cases h
      · rename_i op' q2
        obtain ⟨s1, e1, l1⟩ := jStep_len (ws := ws) (b := b) (i := i) q2 hs
        obtain ⟨h1, s2, e2⟩ := rowsChk_ok (ws := ws) (b := b) (i := i + 1) h l1
        refine ⟨fun r hr => ?_, s2, ?_⟩
        · rcases List.mem_cons.mp hr with rfl | hr
          · exact rowErr_row q
          · exact h1 r hr
        · show (jStep ws b i (headD row) s).bind (jRun ws b (i + 1) (rows.map headD)) = _
          rw [e1]
          exact e2
theorem partsChk_ok {ths : List Th} : ∀ {qs : List (D × List D)} {n : Nat} {met : List D}, partsChk ths n met qs = none → ∀ q ∈ qs, (∀ row ∈ q.2, isRowD row = true) ∧ ∀ b, ∃ s, jumps q.2 b = some s
  | [], _, _, _, q, hq => by cases hq
  | (nm, rows) :: qs, n, met, h, q, hq => by
    have h : (match rowsChk ths (qs.map (·.1)) n [] met rows with
      | .error e => some e
      | .ok (n', met') => partsChk ths n' met' qs) = none := h
    split at h
    · cases h
    · rename_i n' met' q1
      rcases List.mem_cons.mp hq with rfl | hq
      · exact ⟨(rowsChk_ok (ws := []) (b := 0) (i := 0) (s := ⟨[], [], []⟩) q1 rfl).1, fun b => (rowsChk_ok (ws := rows.map headD) (b := b) (i := 0) (s := js0 b rows.length) q1 rfl).2⟩
      · exact partsChk_ok h q hq
/-- what a program holds -/
def allR (qs : List (D × List D)) : List D := qs.flatMap (·.2)
def beg (qs : List (D × List D)) (i : Nat) : Int := (((qs.take i).map fun q => q.2.length).sum : Nat)
def begs (qs : List (D × List D)) : List D := (List.range (qs.length + 1)).map fun i => .int (beg qs i)
def ptD (q : D × List D) : D := .tup [q.1, .tup q.2]
def jmp (d : D) : D := match d with | .tup [.tup [_, .tup rows], .int b] => (match jumps rows b with | some s => .tup [.lst (s.on.map .int), .lst (s.ot.map .int)] | none => .non) | _ => .non
def fstL (d : D) : List D := match d with | .tup [.lst a, _] => a | _ => []
def sndL (d : D) : List D := match d with | .tup [_, .lst a] => a | _ => []
def jmps (qs : List (D × List D)) : List D := (zipD (qs.map ptD) (begs qs)).map jmp
def isAsD (row : D) : Bool := headD row == "assert"
def pgV (CT : Addr) (ths : List Th) (qs : List (D × List D)) : List D := [.tup (ths.map (thD CT)), .tup (qs.map ptD), .tup (allR qs), .tup (((allR qs).filter isPrD).map row1), .tup (((allR qs).filter isAsD).map row1), .lst (begs qs), .lst ((jmps qs).flatMap fstL), .lst ((jmps qs).flatMap sndL)]
def pgErr (ths : List Th) (qs : List (D × List D)) : Option Er := match twice [] (ths.map fun t : Th => D.str t.nm) with
  | some x => some (.tw x)
  | none => match badF [] ths with
    | some o => some (.nt (.str o))
    | none => if 8 < ths.length then some (.tm 8) else needPts ths qs
theorem uniq_of2 : ∀ {ths : List Th} {s : List Str}, twice (s.map .str) (ths.map fun t : Th => D.str t.nm) = none → uniq ths ∧ ∀ t ∈ ths, t.nm ∉ s
  | [], s, _ => ⟨List.nodup_nil, fun t h => by cases h⟩
  | t :: ths, s, h => by
    have h : (if memD (.str t.nm) (s.map .str) = true then some (D.str t.nm) else twice (s.map .str ++ [.str t.nm]) (ths.map fun t : Th => D.str t.nm)) = none := h
    have ms : memD (.str t.nm) (s.map .str) = s.any fun y => y == t.nm := by
      unfold memD
      rw [List.any_map]
      rfl
    by_cases q : memD (.str t.nm) (s.map .str) = true
    · rw [if_pos q] at h; cases h
    · rw [if_neg q] at h
      have e : s.map D.str ++ [.str t.nm] = (s ++ [t.nm]).map .str := by rw [List.map_append]; rfl
      rw [e] at h
      obtain ⟨h1, h2⟩ := uniq_of2 h
      rw [ms] at q
      have nq : t.nm ∉ s := fun m => q (List.any_eq_true.mpr ⟨_, m, beq_self_eq_true _⟩)
      refine ⟨List.nodup_cons.mpr ⟨fun m => ?_, h1⟩, fun t' ht' => ?_⟩
      · obtain ⟨t', ht', e'⟩ := List.mem_map.mp m
        exact h2 t' ht' (by rw [e']; exact List.mem_append.mpr (.inr List.mem_cons_self))
      · rcases List.mem_cons.mp ht' with rfl | ht'
        · exact nq
        · exact fun m => h2 t' ht' (List.mem_append.mpr (.inl m))
theorem cutD_upto (n : Nat) (xs : List D) : cutD xs none (some (n : Int)) = xs.take n := by
  unfold cutD
  have e : HT.sIx xs.length xs.length (some (n : Int)) = min n xs.length := HT.sIx_nat xs.length xs.length n
  rw [e, HT.sIx_none, List.drop_zero, Nat.sub_zero]
  rcases Nat.le_total n xs.length with h | h
  · rw [Nat.min_eq_left h]
  · rw [Nat.min_eq_right h, List.take_length, List.take_of_length_le h]
theorem needPts_ok {ths : List Th} {qs : List (D × List D)} (h : needPts ths qs = none) : qs.length ≤ 5 ∧ (qs.map fun p => p.2.length).sum ≤ 60 ∧ (∀ q ∈ qs, isNameD q.1 = true) ∧ partsChk ths 0 [] qs = none := by
  unfold needPts at h
  split at h
  · cases h
  split at h
  · cases h
  split at h
  · cases h
  rename_i h3
  split at h
  · cases h
  split at h
  · cases h
  rename_i h1 h2 h4 h5 h6
  refine ⟨by omega, by omega, fun q hq => ?_, h⟩
  have := List.find?_eq_none.mp h3 q.1 (List.mem_map.mpr ⟨q, hq, rfl⟩)
  simpa using this
theorem sl_tup {xs : List D} {lo hi : Option Int} {k : D → Prop} (h : k (.tup (cutD xs lo hi))) : oSl (.tup xs) lo hi k := ⟨h⟩
theorem begs_len (qs : List (D × List D)) : (begs qs).length = qs.length + 1 := by unfold begs; simp
theorem le_sum : ∀ {l : List Nat} {n : Nat}, n ∈ l → n ≤ l.sum
  | [], _, h => by cases h
  | x :: l, n, h => by
    rw [List.sum_cons]
    rcases List.mem_cons.mp h with rfl | h
    · omega
    · have := le_sum h
      omega
theorem flat_le {α β : Type} {f : α → List β} {k : Nat} : ∀ {l : List α}, (∀ e ∈ l, (f e).length ≤ k) → (l.flatMap f).length ≤ l.length * k
  | [], _ => Nat.zero_le _
  | x :: l, h => by
    rw [List.flatMap_cons, List.length_append, List.length_cons, Nat.add_mul]
    have h1 := h x List.mem_cons_self
    have h2 := flat_le (l := l) fun e he => h e (List.mem_cons_of_mem _ he)
    omega
theorem jRun_len {ws : List Str} {b : Int} {n : Nat} : ∀ {l : List Str} {i : Nat} {s s' : JS}, JOk n i s → jRun ws b i l s = some s' → s'.on.length = n ∧ s'.ot.length = n
  | [], i, s, s', h, e => by cases e; exact ⟨h.on, h.ot⟩
  | w :: l, i, s, s', h, e => by
    obtain ⟨s1, e1, e2⟩ := Option.bind_eq_some_iff.mp (show (jStep ws b i w s).bind (jRun ws b (i + 1) l) = some s' from e)
    exact jRun_len (jStep_ok h e1) e2
theorem jumps_len {rows : List D} {b : Int} {s : JS} (h : jumps rows b = some s) : s.on.length = rows.length ∧ s.ot.length = rows.length :=
  jRun_len (s := js0 b rows.length) (i := 0) ⟨by simp [js0], by simp [js0], Nat.zero_le _, fun e he => (by cases he), fun e he => (by cases he)⟩ h
theorem jmps_ex {qs : List (D × List D)} (okr : ∀ q ∈ qs, ∀ b, ∃ s, jumps q.2 b = some s) (l60 : (qs.map fun p => p.2.length).sum ≤ 60) : ∀ e ∈ jmps qs, ∃ on ot : List D, e = .tup [.lst on, .lst ot] ∧ on.length ≤ 60 ∧ ot.length ≤ 60 := fun e he => by
  obtain ⟨d, hd, rfl⟩ := List.mem_map.mp he
  unfold zipD at hd
  obtain ⟨⟨x, y⟩, he2, rfl⟩ := List.mem_map.mp hd
  obtain ⟨m1, m2⟩ := List.of_mem_zip he2
  obtain ⟨q0, hq0, rfl⟩ := List.mem_map.mp m1
  obtain ⟨i, _, rfl⟩ := List.mem_map.mp m2
  obtain ⟨s0, hs0⟩ := okr q0 hq0 (beg qs i)
  have lq : q0.2.length ≤ 60 := Nat.le_trans (le_sum (List.mem_map.mpr ⟨q0, hq0, rfl⟩)) l60
  obtain ⟨l1, l2⟩ := jumps_len hs0
  refine ⟨s0.on.map .int, s0.ot.map .int, ?_, by rw [List.length_map]; omega, by rw [List.length_map]; omega⟩
  unfold jmp ptD
  dsimp only
  rw [hs0]
theorem jmps_len (qs : List (D × List D)) : (jmps qs).length = qs.length := by
  unfold jmps
  rw [List.length_map, zipD_lenM (by rw [List.length_map, begs_len]; omega), List.length_map]
theorem allR_len (qs : List (D × List D)) : (allR qs).length = (qs.map fun p => p.2.length).sum := by
  unfold allR
  rw [List.length_flatMap]
def spProg (CT CP : Addr) (E : EA) : SpX := fun ds r P XR => ∃ (a : Addr) (pre : Rs) (d : D) (ths : List Th) (ps : List (D × D × List D)), ds = [.adr a, d, .tup (ps.map partD)] ∧ r = pre ++ [insA a CP [] []] ∧ seqD d = some (ths.map (thD CT)) ∧ ths.length ≤ 100 ∧ (∀ t ∈ ths, t.kd = ("field" : Str) → t.ps ≠ []) ∧ OkPs ps ∧
  (∀ e, pgErr ths (ps.map pq) = some e → e.rz E XR r) ∧ (pgErr ths (ps.map pq) = none → P .non (pre ++ [insA a CP pgF (pgV CT ths (ps.map pq))]))
abbrev N_Program___init__ : List Str := ["self", "things", "parts", "name", "rows", "row", "at", "jumps", "begin", "number", "onward", "otherwise"]
theorem sc_Program___init__ : FnScope N_Program___init__ ["self", "things", "parts"] (defScope s_Program___init__) := ⟨rfl, rfl, rfl, by decide +kernel, rfl, by decide +kernel, by decide +kernel⟩
set_option maxHeartbeats 2000000 in
theorem c_Program_init {CT CP : Addr} {E0 : EA} (B : Bl mg) (K_Thing : KCls K mg "Thing" CT thF) (K_Program : KCls K mg "Program" CP pgF) (C_need_things : Cl P w K mg base 4 "need_things" ["things"] (spNeedTh CT E0.tw E0.nt E0.tm)) (C_need_parts : Cl P w K mg base 9 "need_parts" ["things", "parts"] (spNeedParts CT E0)) (C_is_probe : Cl P w K mg base 1 "is_probe" ["row"] spIsProbe) (C_jumps_of : Cl P w K mg base 1 "jumps_of" ["rows", "begin"] spJumps)
    (Dx : DfNS K CP "Program.__init__" s_Program___init__ ["self", "things"] "parts") : ClN P w K mg base 10 CP [] (starP 2 (spProg CT CP E0)) := by
  have sc := sc_Program___init__
  refine clns_of (ps := ["self", "things"]) Dx sc (fun f cdv A outer s H E hr tk po => ?_)
  have hu := hr.units
  have hi := u65 hr
  refine ⟨_, (ss_cons (s_expr (d_fn C_need_things tk hr (dl_cons (dv 1) dl_nil)))
  (ss_cons (s_expr (d_fn C_need_parts tk hr (dl_cons (dv 1) (dl_cons (dv 2) dl_nil))))
  (ss_cons (s_put (K_Program.no "things" (by decide)) (dv 0) (d_cut (d_ty c_tuple (by rfl) B.tuple (dl_cons (dv 1) dl_nil))))
  (ss_cons (s_put (K_Program.no "parts" (by decide)) (dv 0) (d_ty c_tuple (by rfl) B.tuple (dl_cons (d_lc (js := [3, 4]) (own := [("name", 3), ("rows", 4)]) sc.nd (i_tup (dv 2)) (blkOk_by (own := [("name", 3), ("rows", 4)]) (N := N_Program___init__) (sc := defScope s_Program___init__) (by decide +kernel)) (fun _ _ _ _ _ => (g_tup (is := [3, 4]) (pgs_n (i := 3) sc.nd (pgs_n (i := 4) sc.nd pgs_nil)))) (fun _ _ _ _ _ => pts_no) (fun _ _ _ _ _ => (d_tup (dl_cons (dv 3) (dl_cons (d_ty c_tuple (by rfl) B.tuple (dl_cons (dv 4) dl_nil)) dl_nil))))) dl_nil)))
  (ss_cons (s_put (K_Program.no "rows" (by decide)) (dv 0) (d_ty c_tuple (by rfl) B.tuple (dl_cons (d_lc2 (js := [3, 4]) (js1 := [5]) (vs1 := [5]) (own := [("name", 3), ("rows", 4), ("row", 5)]) sc.nd (i_tup (d_fld (dv 0))) (blkOk_by (own := [("name", 3), ("rows", 4), ("row", 5)]) (N := N_Program___init__) (sc := defScope s_Program___init__) (by decide +kernel)) (by decide) (fun _ _ _ _ _ => (g_tup (is := [3, 4]) (pgs_n (i := 3) sc.nd (pgs_n (i := 4) sc.nd pgs_nil)))) (fun _ _ _ _ _ => (i_tup (dv 4))) (fun _ _ _ _ _ => (g_name (i := 5) sc.nd)) (fun _ _ _ _ _ => (dv 5))) dl_nil)))
  (ss_cons (s_put (K_Program.no "probes" (by decide)) (dv 0) (d_ty c_tuple (by rfl) B.tuple (dl_cons (d_lc (js := [5]) (own := [("row", 5)]) sc.nd (i_tup (d_fld (dv 0))) (blkOk_by (own := [("row", 5)]) (N := N_Program___init__) (sc := defScope s_Program___init__) (by decide +kernel)) (fun _ _ _ _ _ => (g_name (i := 5) sc.nd)) (fun _ _ _ _ _ => (pts_1 (b_tru (d_fnN C_is_probe hr (dl_cons (dv 5) dl_nil))))) (fun _ _ _ _ _ => (d_ix (dv 5) d_int))) dl_nil)))
  (ss_cons (s_put (K_Program.no "asserts" (by decide)) (dv 0) (d_ty c_tuple (by rfl) B.tuple (dl_cons (d_lc (js := [5]) (own := [("row", 5)]) sc.nd (i_tup (d_fld (dv 0))) (blkOk_by (own := [("row", 5)]) (N := N_Program___init__) (sc := defScope s_Program___init__) (by decide +kernel)) (fun _ _ _ _ _ => (g_name (i := 5) sc.nd)) (fun _ _ _ _ _ => (pts_1 (b_cmp (p_eq hu) (d_ix (dv 5) d_int) d_str))) (fun _ _ _ _ _ => (d_ix (dv 5) d_int))) dl_nil)))
  (ss_cons (s_put (K_Program.no "begins" (by decide)) (dv 0) (d_lc (js := [6]) (own := [("at", 6)]) sc.nd (i_r1 (by rfl) B.range (dl_cons (d_bin p_add (d_blt c_len (by rfl) B.len (dl_cons (dv 2) dl_nil)) d_int) dl_nil)) (blkOk_by (own := [("at", 6)]) (N := N_Program___init__) (sc := defScope s_Program___init__) (by decide +kernel)) (fun _ _ _ _ _ => (g_name (i := 6) sc.nd)) (fun _ _ _ _ _ => pts_no) (fun _ _ _ _ _ => (d_blt c_sum (by rfl) B.sum (dl_cons (d_lc (js := [3, 4]) (own := [("name", 3), ("rows", 4)]) sc.nd (i_tup (d_sl (dv 2) o_no (o_some (dv 6)))) (blkOk_by (own := [("name", 3), ("rows", 4)]) (N := N_Program___init__) (by with_unfolding_all rfl)) (fun _ _ _ _ _ => (g_tup (is := [3, 4]) (pgs_n (i := 3) sc.nd (pgs_n (i := 4) sc.nd pgs_nil)))) (fun _ _ _ _ _ => pts_no) (fun _ _ _ _ _ => (d_blt c_len (by rfl) B.len (dl_cons (dv 4) dl_nil)))) dl_nil)))))
  (ss_cons (s_setLc (i := 7) (js := [3, 4, 8]) (own := [("begin", 8), ("name", 3), ("rows", 4)]) sc.nd (i_zipM (by rfl) B.zip (dl_cons (d_fld (dv 0)) (dl_cons (d_fld (dv 0)) dl_nil))) (blkOk_by (own := [("begin", 8), ("name", 3), ("rows", 4)]) (N := N_Program___init__) (sc := defScope s_Program___init__) (by decide +kernel)) (fun _ _ _ _ _ => (g_mix (ps := [.t [3, 4], .n 8]) (pms_t (is := [3, 4]) (pgs_n (i := 3) sc.nd (pgs_n (i := 4) sc.nd pgs_nil)) (pms_n (i := 8) sc.nd pms_nil)))) (fun _ _ _ _ _ => pts_no) (fun _ _ _ _ _ => (d_fnN C_jumps_of hr (dl_cons (dv 4) (dl_cons (dv 8) dl_nil)))) (sw_true rfl rfl rfl (by decide +kernel)))
  (ss_cons (s_put (K_Program.no "onward" (by decide)) (dv 0) (d_lc2 (js := [10, 11]) (js1 := [9]) (vs1 := [9]) (own := [("onward", 10), ("otherwise", 11), ("number", 9)]) sc.nd (i_list (dv 7)) (blkOk_by (own := [("onward", 10), ("otherwise", 11), ("number", 9)]) (N := N_Program___init__) (sc := defScope s_Program___init__) (by decide +kernel)) (by decide) (fun _ _ _ _ _ => (g_tup (is := [10, 11]) (pgs_n (i := 10) sc.nd (pgs_n (i := 11) sc.nd pgs_nil)))) (fun _ _ _ _ _ => (i_list (dv 10))) (fun _ _ _ _ _ => (g_name (i := 9) sc.nd)) (fun _ _ _ _ _ => (dv 9))))
  (ss_one (s_put (K_Program.no "otherwise" (by decide)) (dv 0) (d_lc2 (js := [10, 11]) (js1 := [9]) (vs1 := [9]) (own := [("onward", 10), ("otherwise", 11), ("number", 9)]) sc.nd (i_list (dv 7)) (blkOk_by (own := [("onward", 10), ("otherwise", 11), ("number", 9)]) (N := N_Program___init__) (sc := defScope s_Program___init__) (by decide +kernel)) (by decide) (fun _ _ _ _ _ => (g_tup (is := [10, 11]) (pgs_n (i := 10) sc.nd (pgs_n (i := 11) sc.nd pgs_nil)))) (fun _ _ _ _ _ => (i_list (dv 11))) (fun _ _ _ _ _ => (g_name (i := 9) sc.nd)) (fun _ _ _ _ _ => (dv 9))))))))))))))), fun ds r P' XR h => ?_⟩
  obtain ⟨a, pre, d, ths, ps, rfl, rfl, hsq, hz, hf, okp, h1, h2⟩ := h
  have rz : ∀ e : Er, pgErr ths (ps.map pq) = some e → e.rz E0 (fun C fs es r' => fitX XR C fs es [] r') (pre ++ [insA a CP [] []]) := fun e he => Er.rz_le le.refl [] e (h1 e he)
  unfold pgErr at rz h2
  refine ⟨d, ths, rfl, hsq, hz, hf, fun x hx => ?_, fun qt => ⟨fun o ho => ?_, fun qb => ⟨fun q8 => ?_, fun q8 => ?_⟩⟩⟩
  · rw [hx] at rz
    exact rz _ rfl
  · rw [qt, ho] at rz
    exact rz _ rfl
  · rw [qt, qb, if_pos q8] at rz
    exact rz _ rfl
  rw [qt, qb, if_neg (by omega)] at rz h2
  dsimp only at rz h2
  refine ⟨d, ths, ps, rfl, hsq, hz, (uniq_of2 (s := []) qt).1, okp, rz, fun qn => ?_⟩
  replace h2 := fit.of (h2 qn)
  obtain ⟨l5, l60, nms, chk⟩ := needPts_ok qn
  have okr := partsChk_ok chk
  generalize hqs : ps.map pq = qs at *
  have lps : ps.length = qs.length := by rw [← hqs, List.length_map]
  have ptq : (ps.map partD).map (fun d => match d with | .tup [n, .lst xs] => D.tup [n, .tup xs] | .tup [n, .tup xs] => .tup [n, .tup xs] | _ => .non) = qs.map ptD := by
    rw [← hqs, List.map_map, List.map_map]
    refine List.map_congr_left fun p hp => ?_
    obtain ⟨n, rw_, rs⟩ := p
    have hs : seqD rw_ = some rs := okp.sq _ hp
    cases rw_ <;> first | (cases hs; done) | (cases hs; rfl)
  have efl : (qs.map ptD).flatMap (fun d => match d with | .tup [_, .tup xs] => xs | _ => []) = allR qs := by
    rw [List.flatMap_map]
    rfl
  have mall : ∀ row ∈ allR qs, isRowD row = true := fun row hr => by
    obtain ⟨q, hq, hr⟩ := List.mem_flatMap.mp hr
    exact (okr q hq).1 row hr
  have lall : (allR qs).length ≤ 60 := by rw [allR_len]; exact l60
  refine ⟨fun d' r' => d' = .tup (ths.map (thD CT)) ∧ r' = pre ++ [insA a CP [] []], ?_, ?_⟩
  · cases d <;> first | (cases hsq; done) | (cases hsq; exact ⟨rfl, rfl⟩)
  rintro _ _ ⟨rfl, rfl⟩
  refine oPut.new pre [] rfl (by decide) (by decide) ?_
  refine lc_map (fun d => match d with | .tup [n, .lst xs] => D.tup [n, .tup xs] | .tup [n, .tup xs] => .tup [n, .tup xs] | _ => .non) (by rw [List.length_map]; unfold small; omega) (fun e he r2 P2 q => ?_) ?_
  · obtain ⟨p, hp, rfl⟩ := List.mem_map.mp he
    obtain ⟨n, rw_, rs⟩ := p
    have hs : seqD rw_ = some rs := okp.sq _ hp
    cases rw_ <;> first | (cases hs; done) | (cases hs; exact ⟨rfl, Nat.le_of_ble_eq_true rfl, q⟩)
  rw [ptq]
  refine oPut.new pre [] rfl (by decide) (by decide) ?_
  -- rows
  refine oFld.own pre [] 1 _ rfl (by decide) rfl (lc2_flat (fun d => match d with | .tup [_, .tup xs] => xs | _ => []) ?_ (fun e he Q h => ?_) ?_)
  · rw [efl]
    unfold small
    omega
  · obtain ⟨q, hq, rfl⟩ := List.mem_map.mp he
    exact ⟨rfl, h _ (fun r2 P2 p => p) (fun x hx r2 P2 p => p)⟩
  rw [efl]
  refine oPut.new pre [] rfl (by decide) (by decide) ?_
  -- probes
  have w_ex : ∀ row ∈ allR qs, ∃ w vs, row = .tup (.str w :: vs) ∧ headD row = w := fun row hr => row_ex (mall row hr)
  refine oFld.own pre [] 2 _ rfl (by decide) rfl (lc_fm isPrD row1 (by unfold small; omega) (fun e he r2 Q1 Q2 q1 q2 => ?_) ?_)
  · obtain ⟨w, vs, ew, hw⟩ := w_ex e he
    have hpr : isPrD e = hasS ["probe", "assert"] w := by unfold isPrD; rw [hw]
    refine ⟨w, vs, by rw [ew], ⟨fun q => ?_, fun q => q2 (hpr.trans q)⟩⟩
    have hp2 := hpr.trans q
    obtain ⟨w', nm, g, a, b, er, _⟩ := pr_ex (mall e he) hp2
    have := q1 hp2
    rw [er] at this ⊢
    exact ix_t at1 this
  refine oPut.new pre [] rfl (by decide) (by decide) ?_
  -- asserts
  refine oFld.own pre [] 2 _ rfl (by decide) rfl (lc_fm isAsD row1 (by unfold small; omega) (fun e he r2 Q1 Q2 q1 q2 => ?_) ?_)
  · obtain ⟨w, vs, ew, hw⟩ := w_ex e he
    have has : isAsD e = (w == "assert") := by unfold isAsD; rw [hw]
    have at0_ : ∀ k : D → Prop, k (.str w) → oIx e (.int 0) k := fun k q => by rw [ew]; exact ix_t at0 q
    refine at0_ _ ⟨Nat.zero_le _, Nat.zero_le _, ⟨fun q => ?_, fun q => q2 (has.trans q)⟩⟩
    have hp2 : isPrD e = true := by
      unfold isPrD
      rw [hw, eq_of_beq (show (w == ("assert" : Str)) = true from q)]
      rfl
    obtain ⟨w', nm, g, a, b, er, _⟩ := pr_ex (mall e he) hp2
    have := q1 (has.trans q)
    rw [er] at this ⊢
    exact ix_t at1 this
  refine oPut.new pre [] rfl (by decide) (by decide) ?_
  -- begins
  have epl : (ps.map partD).length = qs.length := by rw [List.length_map, lps]
  have ebg : ((List.range (((ps.map partD).length : Nat) + 1 : Int).toNat).map fun i : Nat => D.int (i : Int)).map (fun d => match d with | .int i => D.int (beg qs i.toNat) | _ => .non) = begs qs := by
    rw [epl]
    unfold begs
    rw [List.map_map, show (((qs.length : Nat) : Int) + 1).toNat = qs.length + 1 by omega]
    rfl
  refine fun _ => ⟨⟨by rw [epl]; omega, by rw [epl]; omega⟩, lc_map (fun d => match d with | .int i => D.int (beg qs i.toNat) | _ => .non) (by rw [epl]; unfold small; simp; omega) (fun e he r2 P2 q => ?_) ?_⟩
  · obtain ⟨i, _, rfl⟩ := List.mem_map.mp he
    refine sl_tup ?_
    rw [cutD_upto]
    refine lc_map (fun d => match d with | .tup [_, .lst xs] => .int (xs.length : Nat) | .tup [_, .tup xs] => .int (xs.length : Nat) | _ => .non) (by rw [List.length_take, epl]; unfold small; omega) (fun e he2 r3 P3 q3 => ?_) ?_
    · obtain ⟨p, hp, rfl⟩ := List.mem_map.mp (List.mem_of_mem_take he2)
      obtain ⟨n, rw_, rs⟩ := p
      have hs : seqD rw_ = some rs := okp.sq _ hp
      cases rw_ <;> first | (cases hs; done) | (cases hs; exact ⟨rfl, fun _ => q3⟩)
    have eS : ((ps.map partD).take i).map (fun d => match d with | .tup [_, .lst xs] => D.int (xs.length : Nat) | .tup [_, .tup xs] => .int (xs.length : Nat) | _ => .non) = (((qs.take i).map fun p => p.2.length).map fun n : Nat => (n : Int)).map .int := by
      rw [← hqs, ← List.map_take, ← List.map_take, List.map_map, List.map_map, List.map_map, List.map_map]
      refine List.map_congr_left fun p hp => ?_
      obtain ⟨n, rw_, rs⟩ := p
      have hs : seqD rw_ = some rs := okp.sq _ (List.mem_of_mem_take hp)
      cases rw_ <;> first | (cases hs; done) | (cases hs; rfl)
    rw [eS]
    refine ⟨⟨_, _, rfl, intL_map _, ?_⟩⟩
    rw [sum_cast]
    exact q
  rw [ebg]
  refine oPut.new pre [] rfl (by decide) (by decide) ?_
  -- jumps
  refine oFld.own pre [] 1 _ rfl (by decide) rfl (oFld.own pre [] 5 _ rfl (by decide) rfl ⟨_, _, rfl, by rw [List.length_map, begs_len]; omega, lc_map jmp ?_ (fun e he r2 P2 q => ?_) ?_⟩)
  · rw [zipD_lenM (by rw [List.length_map, begs_len]; omega), List.length_map]
    unfold small
    omega
  · unfold zipD at he
    obtain ⟨⟨x, y⟩, he2, rfl⟩ := List.mem_map.mp he
    obtain ⟨m1, m2⟩ := List.of_mem_zip he2
    obtain ⟨q0, hq0, rfl⟩ := List.mem_map.mp m1
    obtain ⟨i, _, rfl⟩ := List.mem_map.mp m2
    obtain ⟨s0, hs0⟩ := (okr q0 hq0).2 (beg qs i)
    have lq : q0.2.length ≤ 60 := by
      have : q0.2.length ≤ (qs.map fun p => p.2.length).sum := le_sum (List.mem_map.mpr ⟨q0, hq0, rfl⟩)
      omega
    refine ⟨rfl, rfl, rfl, q0.2, beg qs i, s0, rfl, by omega, fun row hr => ?_, hs0, ?_⟩
    · obtain ⟨w, vs, e, _⟩ := row_ex ((okr q0 hq0).1 row hr)
      exact ⟨w, vs, e⟩
    · have ej : jmp (.tup [ptD q0, .int (beg qs i)]) = .tup [.lst (s0.on.map .int), .lst (s0.ot.map .int)] := by
        unfold jmp ptD
        dsimp only
        rw [hs0]
      rw [ej] at q
      exact q
  have jl := jmps_ex (fun q hq => (okr q hq).2) l60
  have jn := jmps_len qs
  show sSeq _ _ _ _ _
  refine lc2_flat fstL ?_ (fun e he Q h => ?_) (oPut.new pre [] rfl (by decide) (by decide) (lc2_flat sndL ?_ (fun e he Q h => ?_) (oPut.new pre [] rfl (by decide) (by decide) h2)))
  · have := flat_le (l := jmps qs) (f := fstL) (k := 60) fun e he => by
      obtain ⟨on, ot, rfl, l1, l2⟩ := jl e he
      exact l1
    show small ((jmps qs).flatMap fstL).length
    unfold small
    omega
  · obtain ⟨on, ot, rfl, l1, l2⟩ := jl e he
    exact ⟨rfl, h _ (fun r2 P2 p => p) (fun x hx r2 P2 p => p)⟩
  · have := flat_le (l := jmps qs) (f := sndL) (k := 60) fun e he => by
      obtain ⟨on, ot, rfl, l1, l2⟩ := jl e he
      exact l2
    show small ((jmps qs).flatMap sndL).length
    unfold small
    omega
  · obtain ⟨on, ot, rfl, l1, l2⟩ := jl e he
    exact ⟨rfl, h _ (fun r2 P2 p => p) (fun x hx r2 P2 p => p)⟩
def spNames : SpX := fun ds r P _ => ∃ (p a : Addr) (N : Nat) (X : Rs) (m : Nat), ds = [.adr p, .int (m : Nat)] ∧ r = poolA p a N :: X ∧ N < 1000000 ∧ m ≤ 26 ∧ ∀ zs : List Str, zs.length = m → zs.Nodup → (∀ z ∈ zs, isNm z = true) → P (.lst (zs.map .str)) (poolA p a (N + 2 + 8 * m) :: X)
theorem nm_app1 {c : Nat} {cs : List Nat} (hc : isLet c = true) (hl : cs.length ≤ 7) (h : ∀ x ∈ cs, isLet x = true) : isNm (⟨#[c]⟩ ++ tJoin "" (cs.map sg)) = true ∧ isNm (tJoin "" (cs.map sg) ++ ⟨#[c]⟩) = true ∧ tl ((⟨#[c]⟩ : Str) ++ tJoin "" (cs.map sg)) = c :: cs ∧ tl (tJoin "" (cs.map sg) ++ (⟨#[c]⟩ : Str)) = cs ++ [c] := by
  have t1 : tl ((⟨#[c]⟩ : Str) ++ tJoin "" (cs.map sg)) = c :: cs := by
    show ((#[c] : Array Nat) ++ (tJoin "" (cs.map sg)).cps).toList = _
    rw [Array.toList_append]
    show [c] ++ tl (tJoin ⟨#[]⟩ (cs.map sg)) = _
    rw [tl_signs]
    rfl
  have t2 : tl (tJoin "" (cs.map sg) ++ (⟨#[c]⟩ : Str)) = cs ++ [c] := by
    show ((tJoin "" (cs.map sg)).cps ++ (#[c] : Array Nat)).toList = _
    rw [Array.toList_append]
    show tl (tJoin ⟨#[]⟩ (cs.map sg)) ++ [c] = _
    rw [tl_signs]
  refine ⟨?_, ?_, t1, t2⟩
  · unfold isNm
    rw [len_tl, t1, List.length_cons]
    simp only [Bool.and_eq_true, decide_eq_true_eq, List.all_eq_true]
    exact ⟨⟨by omega, by omega⟩, fun x hx => (List.mem_cons.mp hx).elim (fun e => e ▸ hc) (h x)⟩
  · unfold isNm
    rw [len_tl, t2, List.length_append, List.length_singleton]
    simp only [Bool.and_eq_true, decide_eq_true_eq, List.all_eq_true]
    exact ⟨⟨by omega, by omega⟩, fun x hx => (List.mem_append.mp hx).elim (h x) fun q => (List.mem_singleton.mp q) ▸ hc⟩
theorem abc_let {i c : Nat} (h : (tl abc)[i]? = some c) : c = 97 + i ∧ isLet c = true := by
  have q : ((List.range 26).all fun n => decide ((tl abc)[n]? = some (97 + n))) = true := by decide +kernel
  have l : (tl abc).length = 26 := by decide +kernel
  have hi := (List.getElem?_eq_some_iff.mp h).1
  rw [l] at hi
  have e := of_decide_eq_true (List.all_eq_true.mp q i (List.mem_range.mpr hi))
  rw [h] at e
  have e := Option.some.inj e
  subst e
  refine ⟨rfl, ?_⟩
  unfold isLet
  rw [decide_eq_true (by omega), decide_eq_true (by omega)]
  rfl
abbrev N__law_names : List Str := ["_law_pool_here", "_law_many", "_law_letters", "_law_size", "_law_front", "_law_names_here", "_law_k", "_law_word_here", "_law_j"]
theorem sc__law_names : FnScope N__law_names ["_law_pool_here", "_law_many"] (defScope s__law_names) := ⟨rfl, rfl, rfl, by decide +kernel, rfl, by decide +kernel, by decide +kernel⟩
theorem c__law_names (B : Bl mg) (C__law_draw : Cl P w K mg base 1 "_law_draw" ["_law_pool_here", "_law_many"] spDraw) (Dx : Dfn K mg "_law_names" s__law_names ["_law_pool_here", "_law_many"]) : Cl P w K mg base 2 "_law_names" ["_law_pool_here", "_law_many"] spNames := by
  have sc := sc__law_names
  refine cl_of Dx sc (fun ds r P' XR ⟨_, _, _, _, _, e, _⟩ => by rw [e]; rfl) (fun f cdv A outer s H E hr tk po => ⟨_, (ss_cons (s_set (i := 2) sc.nd d_str)
  (ss_cons (s_set (i := 3) sc.nd (d_fn C__law_draw tk hr (dl_cons (dv 0) (dl_cons d_int dl_nil))))
  (ss_cons (s_set (i := 4) sc.nd (d_fn C__law_draw tk hr (dl_cons (dv 0) (dl_cons d_int dl_nil))))
  (ss_cons (s_set (i := 5) sc.nd (d_lstO dl_nil))
  (ss_cons (s_for (i_r1 (by rfl) B.range (dl_cons (dv 1) dl_nil)) (g_name (i := 6) sc.nd)
  (ss_cons (s_set (i := 7) sc.nd (d_join d_str (d_lc (js := [8]) (own := [("_law_j", 8)]) sc.nd (i_r1 (by rfl) B.range (dl_cons (dv 3) dl_nil)) (blkOk_by (own := [("_law_j", 8)]) (N := N__law_names) (sc := defScope s__law_names) (by decide +kernel)) (fun _ _ _ _ _ => (g_name (i := 8) sc.nd)) (fun _ _ _ _ _ => pts_no) (fun _ _ _ _ _ => (d_ix (dv 2) (d_fnN C__law_draw hr (dl_cons (dv 0) (dl_cons d_int dl_nil))))))))
  (ss_one (s_expr (d_app (dv 5) (dl_cons (d_if (b_tru (dv 4)) (d_bin p_add (d_ix (dv 2) (dv 6)) (dv 7)) (d_bin p_add (dv 7) (d_ix (dv 2) (dv 6)))) dl_nil))))) po)
  (ss_one (s_melt 5 (s_ret (dv 5))))))))), fun ds r P' XR h => ?_⟩)
  obtain ⟨p, a, N, X, m, rfl, rfl, hN, hm, hP⟩ := h
  refine ⟨p, a, 8, N, X, rfl, rfl, ⟨by decide, by decide⟩, by omega, fun sz s0 s8 => ⟨p, a, 2, N + 1, X, rfl, rfl, ⟨by decide, by decide⟩, by omega, fun fr f0 f2 => ⟨Nat.zero_le _, fun q => ⟨⟨by omega, by omega⟩, ?_⟩⟩⟩⟩
  obtain ⟨sz, rfl⟩ : ∃ n : Nat, sz = n := ⟨sz.toNat, by omega⟩
  refine ⟨fun i δ r' => (∃ e6 e7 e8, δ = [some (.adr p), some (.int (m : Nat)), some (.str abc), some (.int sz), some (.int fr), some (.adr q), e6, e7, e8]) ∧ ∃ (zs : List Str) (n : Nat), r' = poolA p a n :: (X ++ [lstA q (zs.map .str)]) ∧ n ≤ N + 2 + 8 * i ∧ zs.length = i ∧ zs.Nodup ∧ (∀ z ∈ zs, isNm z = true) ∧ ∀ j z, zs[j]? = some z → (fr ≠ 0 → (tl z).head? = some (97 + j)) ∧ (fr = 0 → (tl z).getLast? = some (97 + j)), ⟨⟨_, _, _, rfl⟩, [], _, rfl, Nat.le_refl _, rfl, List.nodup_nil, fun _ h => (by cases h), fun j z h => (by cases h)⟩, ?_, ?_⟩
  · rintro i d δ r' hd ⟨⟨e6, e7, e8, rfl⟩, zs, n, rfl, hn, hzl, hnd, hnm, hch⟩
    have hi : i < m := by
      have := (List.getElem?_eq_some_iff.mp hd).1
      rw [List.length_map, List.length_range] at this
      omega
    rw [List.getElem?_map, List.getElem?_range (by omega)] at hd
    cases hd
    refine ⟨⟨by omega, by omega⟩, ⟨fun j acc r' => ∃ cs : List Nat, acc = cs.map (fun c => D.str (sg c)) ∧ cs.length = j ∧ (∀ c ∈ cs, isLet c = true) ∧ r' = poolA p a (n + j) :: (X ++ [lstA q (zs.map .str)]), ⟨[], rfl, rfl, fun _ h => (by cases h), rfl⟩, ?_, ?_⟩⟩
    · rintro pp j d acc r' hd ⟨cs, rfl, hc, hl, rfl⟩
      have hj : j < sz := by
        have := (List.getElem?_eq_some_iff.mp hd).1
        rw [List.length_map, List.length_range] at this
        omega
      refine brT ⟨p, a, 26, _, _, rfl, rfl, ⟨by decide, by decide⟩, by omega, fun k k0 k1 => ?_⟩
      obtain ⟨c, hat, hc2⟩ := abc_at k0 k1
      refine ix_s hat ⟨?_, poolA p a (n + j + 1) :: (X ++ [lstA q (zs.map .str)]), le.refl, cs ++ [c], by rw [List.map_append]; rfl, by rw [List.length_append, hc]; rfl, fun x hx => (List.mem_append.mp hx).elim (hl x) fun h => (List.mem_singleton.mp h) ▸ hc2, rfl⟩
      rw [List.length_map, hc]
      unfold small
      omega
    · rintro acc r' ⟨cs, rfl, hc, hl, rfl⟩
      rw [List.length_map, List.length_range] at hc
      have hc : cs.length = sz := by omega
      have hc7 : cs.length ≤ 7 := by omega
      have lr : (List.map (fun i : Nat => D.int (i : Int)) (List.range ((sz : Int)).toNat)).length = sz := by rw [List.length_map, List.length_range]; omega
      refine join_l (strL_sg cs) (by rw [sum_ones, List.length_map]; show cs.length + cs.length * 0 ≤ 1000000; omega) ?_
      have l26 : (tl abc).length = 26 := by decide +kernel
      have hlt : i < (tl abc).length := by omega
      obtain ⟨c, hcat⟩ : ∃ c, (tl abc)[i]? = some c := ⟨_, List.getElem?_eq_getElem hlt⟩
      obtain ⟨ec, hlc⟩ := abc_let hcat
      obtain ⟨n1, n2, t1, t2⟩ := nm_app1 hlc hc7 hl
      have fin : ∀ z : Str, isNm z = true → (fr ≠ 0 → (tl z).head? = some (97 + i)) → (fr = 0 → (tl z).getLast? = some (97 + i)) → (zs ++ [z]).length = i + 1 ∧ (zs ++ [z]).Nodup ∧ (∀ z' ∈ zs ++ [z], isNm z' = true) ∧ ∀ j z', (zs ++ [z])[j]? = some z' → (fr ≠ 0 → (tl z').head? = some (97 + j)) ∧ (fr = 0 → (tl z').getLast? = some (97 + j)) := fun z hz h1 h2 => by
        have hch2 : ∀ j z', (zs ++ [z])[j]? = some z' → (fr ≠ 0 → (tl z').head? = some (97 + j)) ∧ (fr = 0 → (tl z').getLast? = some (97 + j)) := fun j z' hj => by
          rw [List.getElem?_append] at hj
          split at hj
          · exact hch j z' hj
          · rename_i hn
            have hj0 : j - zs.length = 0 := by
              have := (List.getElem?_eq_some_iff.mp hj).1
              rw [List.length_singleton] at this
              omega
            rw [hj0] at hj
            cases hj
            have : j = i := by omega
            subst this
            exact ⟨h1, h2⟩
        refine ⟨by rw [List.length_append, List.length_singleton, hzl], ?_, fun z' hz' => (List.mem_append.mp hz').elim (hnm z') fun h => (List.mem_singleton.mp h) ▸ hz, hch2⟩
        refine List.nodup_append.mpr ⟨hnd, by simp, fun x hx y hy e => ?_⟩
        rw [List.mem_singleton] at hy
        subst hy
        subst e
        obtain ⟨j, hj⟩ := List.mem_iff_getElem?.mp hx
        have hjl := (List.getElem?_eq_some_iff.mp hj).1
        obtain ⟨q1, q2⟩ := hch j x hj
        by_cases hf : fr = 0
        · have := (q2 hf).symm.trans (h2 hf)
          have := Option.some.inj this
          omega
        · have := (q1 hf).symm.trans (h1 hf)
          have := Option.some.inj this
          omega
      have sz8 : (tJoin "" (cs.map sg)).length ≤ 7 := by show (tJoin ⟨#[]⟩ (cs.map sg)).length ≤ 7; rw [len_tl, tl_signs]; exact hc7
      refine ⟨q, zs.map .str, rfl, ⟨_ :: X, [], rfl⟩, fun z => ?_, fun z => ?_⟩
      · have hf : fr ≠ 0 := by simpa using z
        refine ix_s (L2.atI_nat hcat) ?_
        refine ⟨by show 1 + _ ≤ _; omega, ⟨_ :: X, zs.map .str, [], .str _, rfl, rfl, by unfold small; rw [List.length_map]; omega, ⟨_, _, _, rfl⟩, zs ++ [_], _, by rw [List.map_append]; rfl, by omega, fin _ n1 (fun _ => by rw [t1, ec]; rfl) (fun e => absurd e hf)⟩⟩
      · have hf : fr = 0 := by simpa using z
        refine ix_s (L2.atI_nat hcat) ?_
        refine ⟨by show _ + 1 ≤ _; omega, ⟨_ :: X, zs.map .str, [], .str _, rfl, rfl, by unfold small; rw [List.length_map]; omega, ⟨_, _, _, rfl⟩, zs ++ [_], _, by rw [List.map_append]; rfl, by omega, fin _ n2 (fun e => absurd hf e) (fun _ => by rw [t2, ec]; simp)⟩⟩
  · rintro δ r' ⟨⟨e6, e7, e8, rfl⟩, zs, n, rfl, hn, hzl, hnd, hnm, hch⟩
    rw [List.length_map, List.length_range] at hzl hn
    have hzl : zs.length = m := by omega
    refine ⟨q, zs.map .str, _ :: X, [], rfl, rfl, ?_⟩
    rw [List.append_nil]
    exact ⟨_, pool_mono (by omega), hP zs hzl hnd hnm⟩
theorem ff {A : Prop} (h : false = true) : A := by cases h
theorem tf {A : Prop} (h : true = false) : A := by cases h
def resP (qs : List (D × List D)) : D := match pgErr [] qs with
  | some (.um n) => .tup [.str "Unmatched", .int (n : Nat)]
  | some (.tm k) => .tup [.str "TooMany", .int (k : Nat)]
  | some _ => .non
  | none => .tup [.str "rows", .tup (allR qs)]
def spTry27 : SpX := fun ds r P _ => ∃ ps : List (D × D × List D), ds = [.lst (ps.map partD)] ∧ 1 ≤ ps.length ∧ ps.length ≤ 3 ∧ OkPs ps ∧ (∀ e, pgErr [] (ps.map pq) = some e → (∃ n, e = .um n) ∨ ∃ k, e = .tm k) ∧ P (resP (ps.map pq)) r
abbrev N__law_try : List Str := ["_law_parts", "e"]
theorem sc__law_try : FnScope N__law_try ["_law_parts"] (defScope s__law_try) := ⟨rfl, rfl, rfl, by decide +kernel, rfl, by decide +kernel, by decide +kernel⟩
theorem c__law_try {CT CP CQ : Addr} {E0 : EA} (B : Bl mg) (K_Thing : KCls K mg "Thing" CT thF) (K_Program : KCls K mg "Program" CP pgF) (X_Unmatched : ErrX P w K mg base "Unmatched" E0.um "number") (X_TooMany : ErrX P w K mg base "TooMany" E0.tm "limit") (gQ : mg "QuietError" = some (.ref CQ))
    (smu : PySem.W.subIn K (.ref E0.tm) (.ref E0.um) = some false) (N_Program : ClN P w K mg base 10 CP [] (starP 2 (spProg CT CP E0)))
    (Dx : Dfn K mg "_law_try" s__law_try ["_law_parts"]) : Cl P w K mg base 12 "_law_try" ["_law_parts"] spTry27 := by
  have sc := sc__law_try
  refine cl_of Dx sc (fun ds r P' XR ⟨_, e, _⟩ => by rw [e]; rfl) (fun f cdv A outer s H E hr tk po => ?_)
  have hu := hr.units
  have hi := u65 hr
  refine ⟨_, (ss_one (s_try tk (fun W2 pn xe tk po => (ss_cons (s_if (b_cmp (p_eq hu) (d_blt c_len (by rfl) B.len (dl_cons (dv 0) dl_nil)) d_int)
  (ss_one (s_ret (d_tup (dl_cons d_str (dl_cons (d_cut (d_fld (d_frz (d_mk 0 N_Program K_Program tk hr (dl_cons (d_lst dl_nil) (dl_cons (d_ix (dv 0) d_int) dl_nil)))))) dl_nil)))))
  ss_nil)
  (ss_cons (s_if (b_cmp (p_eq hu) (d_blt c_len (by rfl) B.len (dl_cons (dv 0) dl_nil)) d_int)
  (ss_one (s_ret (d_tup (dl_cons d_str (dl_cons (d_cut (d_fld (d_frz (d_mk 0 N_Program K_Program tk hr (dl_cons (d_tup dl_nil) (dl_cons (d_ix (dv 0) d_int) (dl_cons (d_ix (dv 0) d_int) dl_nil))))))) dl_nil)))))
  ss_nil)
  (ss_one (s_ret (d_tup (dl_cons d_str (dl_cons (d_cut (d_fld (d_frz (d_mk 0 N_Program K_Program tk hr (dl_cons (d_lst dl_nil) (dl_cons (d_ix (dv 0) d_int) (dl_cons (d_ix (dv 0) d_int) (dl_cons (d_ix (dv 0) d_int) dl_nil)))))))) dl_nil)))))))) (.as (i := 1) sc.nd rfl rfl ⟨rfl, by decide, .inl X_Unmatched.c.g⟩ (hcc (X_Unmatched.exm X_Unmatched.se) (hcc (X_Unmatched.exm smu) hc0)) (fun a oe cls d pn hz hf => (ss_one (s_ret (d_tup (dl_cons d_str (dl_cons (d_xf (fm_cons ⟨X_Unmatched.xf, X_Unmatched.no⟩ fm_nil) hz hf (dv 1)) dl_nil)))))) (.as (i := 1) sc.nd rfl rfl ⟨rfl, by decide, .inl X_TooMany.c.g⟩ (hcc (X_TooMany.exm X_TooMany.se) hc0) (fun a oe cls d pn hz hf => (ss_one (s_ret (d_tup (dl_cons d_str (dl_cons (d_xf (fm_cons ⟨X_TooMany.xf, X_TooMany.no⟩ fm_nil) hz hf (dv 1)) dl_nil)))))) (.cons ⟨rfl, by decide, .inl gQ⟩ hc0 (fun a oe cls d pn hz hf => (ss_one (s_ret d_non))) .nil))))), fun ds r P' XR h => ?_⟩
  obtain ⟨ps, rfl, l1, l3, okp, hg, h⟩ := h
  unfold resP at h
  have l2 : ∀ {t1 t2 : Rs}, le ((r ++ t1) ++ t2) r := le.drop.trans le.drop
  match ps, l1, l3, okp, hg, h with
  | [p0], _, _, okp, hg, h =>
    refine fun _ => ⟨Nat.zero_le _, Nat.zero_le _, brT ?_⟩
    refine ⟨fun d r' => pgErr [] [pq p0] = none ∧ d = .tup (allR [pq p0]) ∧ ∃ t, r' = r ++ t, ?_, ?_⟩
    · refine ⟨Nat.le_of_ble_eq_true rfl, ix_l at0 fun a => ⟨[.adr a, .lst []], [partD p0], rfl, rfl, Nat.le_of_ble_eq_true rfl, a, r, .lst [], [], [p0], rfl, rfl, rfl, Nat.zero_le _, fun _ h => (by cases h), okp, fun e he => ?_, fun e => ⟨rfl, a, CP, _, _, r, [], rfl, rfl, .fro 2 _ (by decide) rfl ⟨e, rfl, [], rfl⟩⟩⟩⟩
      have he : pgErr [] ([p0].map pq) = some e := he
      rw [he] at h
      rcases hg e he with ⟨n, rfl⟩ | ⟨k, rfl⟩
      · refine ⟨true, .head _, fun _ a dd hn => ?_, tf⟩
        cases dd with
        | none => cases (hn rfl).1
        | some dx => exact ⟨rfl, E0.um, dx, _, _, 0, _, r ++ _, [], .head _, rfl, rfl, rfl, by decide, rfl, Nat.le_of_ble_eq_true rfl, r, l2, fit.of h⟩
      · refine ⟨false, .tail _ (.head _), ff, fun _ => ⟨true, .head _, fun _ a dd hn => ?_, tf⟩⟩
        cases dd with
        | none => cases (hn rfl).1
        | some dx => exact ⟨rfl, E0.tm, dx, _, _, 0, _, r ++ _, [], .head _, rfl, rfl, rfl, by decide, rfl, Nat.le_of_ble_eq_true rfl, r, l2, fit.of h⟩
    · rintro _ _ ⟨e, rfl, t, rfl⟩
      rw [show pgErr [] ([p0].map pq) = none from e] at h
      exact ⟨Nat.le_of_ble_eq_true rfl, r, le.drop, h⟩
  | [p0, p1], _, _, okp, hg, h =>
    refine fun _ => ⟨Nat.zero_le _, Nat.zero_le _, brF fun _ => ⟨Nat.zero_le _, Nat.zero_le _, brT ?_⟩⟩
    refine ⟨fun d r' => pgErr [] [pq p0, pq p1] = none ∧ d = .tup (allR [pq p0, pq p1]) ∧ ∃ t, r' = r ++ t, ?_, ?_⟩
    · refine ⟨Nat.le_of_ble_eq_true rfl, ix_l at0 (ix_l at1 fun a => ⟨[.adr a, .tup []], [partD p0, partD p1], rfl, rfl, Nat.le_of_ble_eq_true rfl, a, r, .tup [], [], [p0, p1], rfl, rfl, rfl, Nat.zero_le _, fun _ h => (by cases h), okp, fun e he => ?_, fun e => ⟨rfl, a, CP, _, _, r, [], rfl, rfl, .fro 2 _ (by decide) rfl ⟨e, rfl, [], rfl⟩⟩⟩)⟩
      have he : pgErr [] ([p0, p1].map pq) = some e := he
      rw [he] at h
      rcases hg e he with ⟨n, rfl⟩ | ⟨k, rfl⟩
      · refine ⟨true, .head _, fun _ a dd hn => ?_, tf⟩
        cases dd with
        | none => cases (hn rfl).1
        | some dx => exact ⟨rfl, E0.um, dx, _, _, 0, _, r ++ _, [], .head _, rfl, rfl, rfl, by decide, rfl, Nat.le_of_ble_eq_true rfl, r, l2, fit.of h⟩
      · refine ⟨false, .tail _ (.head _), ff, fun _ => ⟨true, .head _, fun _ a dd hn => ?_, tf⟩⟩
        cases dd with
        | none => cases (hn rfl).1
        | some dx => exact ⟨rfl, E0.tm, dx, _, _, 0, _, r ++ _, [], .head _, rfl, rfl, rfl, by decide, rfl, Nat.le_of_ble_eq_true rfl, r, l2, fit.of h⟩
    · rintro _ _ ⟨e, rfl, t, rfl⟩
      rw [show pgErr [] ([p0, p1].map pq) = none from e] at h
      exact ⟨Nat.le_of_ble_eq_true rfl, r, le.drop, h⟩
  | [p0, p1, p2], _, _, okp, hg, h =>
    refine fun _ => ⟨Nat.zero_le _, Nat.zero_le _, brF fun _ => ⟨Nat.zero_le _, Nat.zero_le _, brF ?_⟩⟩
    refine ⟨fun d r' => pgErr [] [pq p0, pq p1, pq p2] = none ∧ d = .tup (allR [pq p0, pq p1, pq p2]) ∧ ∃ t, r' = r ++ t, ?_, ?_⟩
    · refine ⟨Nat.le_of_ble_eq_true rfl, ix_l at0 (ix_l at1 (ix_l at2 fun a => ⟨[.adr a, .lst []], [partD p0, partD p1, partD p2], rfl, rfl, Nat.le_of_ble_eq_true rfl, a, r, .lst [], [], [p0, p1, p2], rfl, rfl, rfl, Nat.zero_le _, fun _ h => (by cases h), okp, fun e he => ?_, fun e => ⟨rfl, a, CP, _, _, r, [], rfl, rfl, .fro 2 _ (by decide) rfl ⟨e, rfl, [], rfl⟩⟩⟩))⟩
      have he : pgErr [] ([p0, p1, p2].map pq) = some e := he
      rw [he] at h
      rcases hg e he with ⟨n, rfl⟩ | ⟨k, rfl⟩
      · refine ⟨true, .head _, fun _ a dd hn => ?_, tf⟩
        cases dd with
        | none => cases (hn rfl).1
        | some dx => exact ⟨rfl, E0.um, dx, _, _, 0, _, r ++ _, [], .head _, rfl, rfl, rfl, by decide, rfl, Nat.le_of_ble_eq_true rfl, r, l2, fit.of h⟩
      · refine ⟨false, .tail _ (.head _), ff, fun _ => ⟨true, .head _, fun _ a dd hn => ?_, tf⟩⟩
        cases dd with
        | none => cases (hn rfl).1
        | some dx => exact ⟨rfl, E0.tm, dx, _, _, 0, _, r ++ _, [], .head _, rfl, rfl, rfl, by decide, rfl, Nat.le_of_ble_eq_true rfl, r, l2, fit.of h⟩
    · rintro _ _ ⟨e, rfl, t, rfl⟩
      rw [show pgErr [] ([p0, p1, p2].map pq) = none from e] at h
      exact ⟨Nat.le_of_ble_eq_true rfl, r, le.drop, h⟩
  | [], l1, _, _, _, _ => exact absurd l1 (by decide)
  | _ :: _ :: _ :: _ :: _, _, l3, _, _, _ => exact absurd l3 (by simp)
/-- the rows of blocks alone -/
def bRow (x : Str) (row : D) : Prop := row = .tup [.str "if", .str "ask", .str x] ∨ row = .tup [.str "while", .str "ask", .str x] ∨ row = .tup [.str "else"] ∨ row = .tup [.str "end"] ∨ row = .tup [.str "say", .str x] ∨ row = .tup [.str "stop"]
def blkRun : Nat → List (Nat × Str) → List D → Except Er Nat
  | n, op, [] => (match op.getLast? with | some (k, _) => .error (.um k) | none => .ok n)
  | n, op, row :: rows => match opStep op n (headD row) with | .error e => .error e | .ok op' => blkRun (n + 1) op' rows
def blkParts : Nat → List (List D) → Option Er
  | _, [] => none
  | n, rs :: l => match blkRun n [] rs with | .error e => some e | .ok n' => blkParts n' l
def resE (e : Option Er) (qs : List (D × List D)) : D := match e with
  | some (.um n) => .tup [.str "Unmatched", .int (n : Nat)]
  | some (.tm k) => .tup [.str "TooMany", .int (k : Nat)]
  | some _ => .non
  | none => .tup [.str "rows", .tup (allR qs)]
theorem bRow_ok {x : Str} (hx : isNm x = true) {row : D} (h : bRow x row) : isRowD row = true ∧ isPrD row = false ∧ (headD row == "call") = false ∧ (namedD row).findSome? (knErr []) = none ∧ plain row = true ∧ dep row ≤ 2 := by
  rcases h with rfl | rfl | rfl | rfl | rfl | rfl
  all_goals refine ⟨?_, rfl, rfl, rfl, rfl, Nat.le_of_ble_eq_true rfl⟩
  · show (decide (2 = 1 + 1) && (isNm x && true)) = true
    rw [hx]; rfl
  · show (decide (2 = 1 + 1) && (isNm x && true)) = true
    rw [hx]; rfl
  · decide +kernel
  · decide +kernel
  · show (decide (2 = 1 + 1) && (isNm x && true)) = true
    rw [hx]; rfl
  · decide +kernel
theorem rowErr_b {x : Str} (hx : isNm x = true) {row : D} (h : bRow x row) {n : Nat} {later met : List D} : rowErr [] n row later met = none := by
  obtain ⟨h1, h2, h3, h4, _⟩ := bRow_ok hx h
  unfold rowErr
  rw [if_pos h1, h4]
  dsimp only
  rw [h2, h3]
  rfl
theorem rowsChk_b {later : List D} : ∀ {rows : List D} {n : Nat} {op : List (Nat × Str)}, (∀ row ∈ rows, ∃ x, isNm x = true ∧ bRow x row) → rowsChk [] later n op [] rows = match blkRun n op rows with | .error e => .error e | .ok n' => .ok (n', [])
  | [], n, op, _ => by
    show (match op.getLast? with | some (k, _) => .error (.um k) | none => .ok (n, [])) = (match (match op.getLast? with | some (k, _) => (.error (.um k) : Except Er Nat) | none => .ok n) with | .error e => (.error e : Except Er (Nat × List D)) | .ok n' => .ok (n', []))
    cases op.getLast? <;> rfl
  | row :: rows, n, op, h => by
    obtain ⟨x, hx, hb⟩ := h row List.mem_cons_self
    show (match rowErr [] n row later [] with
      | some e => (.error e : Except Er (Nat × List D))
      | none => match opStep op n (headD row) with
        | .error e => .error e
        | .ok op' => rowsChk [] later (n + 1) op' (metP [] row) rows) = (match (match opStep op n (headD row) with | .error e => (.error e : Except Er Nat) | .ok op' => blkRun (n + 1) op' rows) with | .error e => (.error e : Except Er (Nat × List D)) | .ok n' => .ok (n', []))
    rw [rowErr_b hx hb]
    dsimp only
    have em : metP [] row = [] := by unfold metP; rw [if_neg (by rw [(bRow_ok hx hb).2.1]; decide)]
    rw [em]
    cases opStep op n (headD row) with
    | error e => rfl
    | ok op' => exact rowsChk_b fun r hr => h r (List.mem_cons_of_mem _ hr)
theorem partsChk_b : ∀ {qs : List (D × List D)} {n : Nat}, (∀ q ∈ qs, ∀ row ∈ q.2, ∃ x, isNm x = true ∧ bRow x row) → partsChk [] n [] qs = blkParts n (qs.map (·.2))
  | [], n, _ => rfl
  | (nm, rows) :: qs, n, h => by
    show (match rowsChk [] (qs.map (·.1)) n [] [] rows with | .error e => some e | .ok (n', met') => partsChk [] n' met' qs) = (match blkRun n [] rows with | .error e => some e | .ok n' => blkParts n' (qs.map (·.2)))
    rw [rowsChk_b (h _ List.mem_cons_self)]
    cases blkRun n [] rows with
    | error e => rfl
    | ok n' => exact partsChk_b fun q hq => h q (List.mem_cons_of_mem _ hq)
def opE (e : Nat × Str) : D := .tup [.int (e.1 : Nat), .str e.2]
theorem opE_last {op : List (Nat × Str)} {k : Nat} {v : Str} (h : op.getLast? = some (k, v)) : atI (op.map opE) (-1) = some (.tup [.int (k : Nat), .str v]) := opD_last h
theorem opE_dep (op : List (Nat × Str)) : deps (op.map opE) ≤ 60 := deps_le fun d hd => by
  obtain ⟨e, _, rfl⟩ := List.mem_map.mp hd
  exact Nat.le_of_ble_eq_true rfl
theorem eq_nilE (op : List (Nat × Str)) : eqD (.lst (op.map opE)) (.lst []) = op.isEmpty := by
  rw [eq_nil]
  cases op <;> rfl
theorem set_last {l : List (Nat × Str)} {e : Nat × Str} {y : D} (h : l.getLast? = some e) : (l.map opE).set l.dropLast.length y = l.dropLast.map opE ++ [y] := by
  obtain ⟨l', rfl⟩ := List.getLast?_eq_some_iff.mp h
  simp
def spAllR : SpX := fun ds r P _ => ∃ ps : List (D × D × List D), ds = [.lst (ps.map partD)] ∧ (∀ p ∈ ps, p.2.1 = .lst p.2.2) ∧ (allR (ps.map pq)).length ≤ 1000 ∧ P (.lst (allR (ps.map pq))) r
abbrev N__law_all_rows : List Str := ["_law_parts", "_law_rows", "_law_name", "_law_part"]
theorem sc__law_all_rows : FnScope N__law_all_rows ["_law_parts"] (defScope s__law_all_rows) := ⟨rfl, rfl, rfl, by decide +kernel, rfl, by decide +kernel, by decide +kernel⟩
theorem c__law_all_rows (B : Bl mg) (Dx : Dfn K mg "_law_all_rows" s__law_all_rows ["_law_parts"]) : Cl P w K mg base 1 "_law_all_rows" ["_law_parts"] spAllR := by
  have sc := sc__law_all_rows
  refine cl_of Dx sc (fun ds r P' XR ⟨_, e, _⟩ => by rw [e]; rfl) (fun f cdv A outer s H E hr tk po => ?_)
  have hu := hr.units
  refine ⟨_, (ss_cons (s_set (i := 1) sc.nd (d_lst dl_nil))
  (ss_cons (s_for (i_list (dv 0)) (g_tup (is := [2, 3]) (pgs_n (i := 2) sc.nd (pgs_n (i := 3) sc.nd pgs_nil)))
  (ss_one (s_set (i := 1) sc.nd (d_bin p_add (dv 1) (d_ty c_list (by rfl) B.list (dl_cons (dv 3) dl_nil))))) po)
  (ss_one (s_ret (dv 1))))), fun ds r P' XR h => ?_⟩
  obtain ⟨ps, rfl, hp, hl, h⟩ := h
  refine ⟨Nat.le_of_ble_eq_true rfl, ⟨fun i δ r' => (∃ x2 x3, δ = [some (.lst (ps.map partD)), some (.lst (allR ((ps.take i).map pq))), x2, x3]) ∧ r' = r, ⟨⟨_, _, rfl⟩, rfl⟩, ?_, ?_⟩⟩
  · rintro i e δ r' he ⟨⟨x2, x3, rfl⟩, rfl⟩
    rw [List.getElem?_map] at he
    obtain ⟨p, hpi, rfl⟩ := Option.map_eq_some_iff.mp he
    have e1 : allR ((ps.take (i + 1)).map pq) = allR ((ps.take i).map pq) ++ p.2.2 := by
      rw [List.take_add_one, hpi, List.map_append]
      unfold allR
      rw [List.flatMap_append]
      simp [pq]
    have e2 := congrArg (fun l => (allR (l.map pq)).length) (List.take_append_drop (i + 1) ps)
    have lt : (allR ((ps.take (i + 1)).map pq)).length ≤ 1000 := by
      refine Nat.le_trans ?_ hl
      rw [← show (allR ((ps.take (i + 1) ++ ps.drop (i + 1)).map pq)).length = (allR (ps.map pq)).length from e2, List.map_append]
      unfold allR
      rw [List.flatMap_append, List.length_append]
      omega
    have hp2 := hp p (List.mem_of_getElem? hpi)
    obtain ⟨n, rw_, rs⟩ := p
    have hp2 : rw_ = .lst rs := hp2
    subst hp2
    rw [e1] at lt
    have lt : (allR ((ps.take i).map pq) ++ rs).length ≤ 1000 := lt
    refine ⟨rfl, ⟨?_, ⟨some n, some (.lst rs), ?_⟩, rfl⟩⟩
    · unfold small
      rw [List.length_append] at lt
      omega
    · rw [e1]
      rfl
  · rintro δ r' ⟨⟨x2, x3, rfl⟩, rfl⟩
    rw [List.length_map, List.take_length]
    exact fit.of h
def spDue27 : SpX := fun ds r P _ => ∃ ps : List (D × D × List D), ds = [.lst (ps.map partD)] ∧ (∀ p ∈ ps, p.2.1 = .lst p.2.2) ∧ (allR (ps.map pq)).length ≤ 1000 ∧ (∀ p ∈ ps, ∀ row ∈ p.2.2, ∃ x, isNm x = true ∧ bRow x row) ∧ P (resE (blkParts 0 (ps.map (·.2.2))) (ps.map pq)) r
abbrev N__law_due : List Str := ["_law_parts", "_law_n", "_law_name", "_law_rows", "_law_blocks", "_law_row", "_law_word_here"]
theorem sc__law_due : FnScope N__law_due ["_law_parts"] (defScope s__law_due) := ⟨rfl, rfl, rfl, by decide +kernel, rfl, by decide +kernel, by decide +kernel⟩
set_option maxHeartbeats 2000000 in
theorem c__law_due (B : Bl mg) (C__law_all_rows : Cl P w K mg base 1 "_law_all_rows" ["_law_parts"] spAllR) (Dx : Dfn K mg "_law_due" s__law_due ["_law_parts"]) : Cl P w K mg base 2 "_law_due" ["_law_parts"] spDue27 := by
  have sc := sc__law_due
  refine cl_of Dx sc (fun ds r P' XR ⟨_, e, _⟩ => by rw [e]; rfl) (fun f cdv A outer s H E hr tk po => ?_)
  have hu := hr.units
  have hi := u65 hr
  refine ⟨_, (ss_cons (s_set (i := 1) sc.nd d_int)
  (ss_cons (s_for (i_list (dv 0)) (g_tup (is := [2, 3]) (pgs_n (i := 2) sc.nd (pgs_n (i := 3) sc.nd pgs_nil)))
  (ss_cons (s_set (i := 4) sc.nd (d_lstO dl_nil))
  (ss_cons (s_for (i_list (dv 3)) (g_name (i := 5) sc.nd)
  (ss_cons (s_set (i := 6) sc.nd (d_ix (dv 5) d_int))
  (ss_cons (s_cut (s_if (b_w (w_and (b_cmp (p_in hi) (dv 6) (d_tup (dl_cons d_str (dl_cons d_str dl_nil)))) (w_and1 (b_cmpO (p_eqO hu) (dv 4) (d_lst dl_nil)))))
  (ss_one (s_ret (d_tup (dl_cons d_str (dl_cons (dv 1) dl_nil)))))
  ss_nil))
  (ss_cons (s_cut (s_if (b_cmp (p_eq hu) (dv 6) d_str)
  (ss_cons (s_if (b_cmp (p_ne hu) (d_ix (d_ixO (dv 4) (d_neg d_int)) d_int) d_str)
  (ss_one (s_ret (d_tup (dl_cons d_str (dl_cons (dv 1) dl_nil)))))
  ss_nil)
  (ss_one (s_setI (d_tup (dl_cons (d_ix (d_ixO (dv 4) (d_neg d_int)) d_int) (dl_cons d_str dl_nil))) (dv 4) (d_neg d_int))))
  ss_nil))
  (ss_cons (s_cut (s_if (b_cmp (p_eq hu) (dv 6) d_str)
  (ss_one (s_expr (d_pop0 (dv 4))))
  ss_nil))
  (ss_cons (s_cut (s_if (b_cmp (p_in hi) (dv 6) (d_tup (dl_cons d_str (dl_cons d_str dl_nil))))
  (ss_cons (s_if (b_cmp (p_eq hu) (d_blt2 c_lenO (by rfl) B.len (dl_cons (dv 4) dl_nil)) d_int)
  (ss_one (s_ret (d_tup (dl_cons d_str (dl_cons d_int dl_nil)))))
  ss_nil)
  (ss_one (s_expr (d_app (dv 4) (dl_cons (d_tup (dl_cons (dv 1) (dl_cons (dv 6) dl_nil))) dl_nil)))))
  ss_nil))
  (ss_one (s_aug (i := 1) sc.nd p_iadd d_int))))))) po)
  (ss_one (s_if (b_truO (dv 4))
  (ss_one (s_ret (d_tup (dl_cons d_str (dl_cons (d_ix (d_ixO (dv 4) (d_neg d_int)) d_int) dl_nil)))))
  ss_nil)))) po)
  (ss_one (s_ret (d_tup (dl_cons d_str (dl_cons (d_ty c_tuple (by rfl) B.tuple (dl_cons (d_fn C__law_all_rows tk hr (dl_cons (dv 0) dl_nil)) dl_nil)) dl_nil))))))), fun ds r P' XR h => ?_⟩
  obtain ⟨ps, rfl, hp, hl, hb, h⟩ := h
  have fin : ∀ {e : Option Er} {d : D} {r' : Rs}, le r' r → blkParts 0 (ps.map (·.2.2)) = e → d = resE e (ps.map pq) → fit P' d r' := fun l e1 e2 => by
    subst e1 e2
    exact ⟨r, l, h⟩
  refine ⟨fun i δ r' => ∃ (n : Nat) (x2 x3 x4 x5 x6 : Option D), δ = [some (.lst (ps.map partD)), some (.int (n : Nat)), x2, x3, x4, x5, x6] ∧ le r' r ∧ i ≤ ps.length ∧ blkParts 0 (ps.map (·.2.2)) = blkParts n ((ps.drop i).map (·.2.2)), ⟨0, _, _, _, _, _, rfl, le.refl, Nat.zero_le _, rfl⟩, ?_, ?_⟩
  · rintro i e δ rX he ⟨n, x2, x3, x4, x5, x6, rfl, lX, hil, hB⟩
    rw [List.getElem?_map] at he
    obtain ⟨p, hpi, rfl⟩ := Option.map_eq_some_iff.mp he
    have hi2 := (List.getElem?_eq_some_iff.mp hpi).1
    have mp := List.mem_of_getElem? hpi
    have dr : ps.drop i = p :: ps.drop (i + 1) := by
      rw [← (List.getElem?_eq_some_iff.mp hpi).2]
      exact (List.getElem_cons_drop hi2).symm
    rw [dr] at hB
    have hB : blkParts 0 (ps.map (·.2.2)) = match blkRun n [] p.2.2 with | .error e => some e | .ok n' => blkParts n' ((ps.drop (i + 1)).map (·.2.2)) := hB
    have hr1 := hb p mp
    obtain ⟨nm, rw_, rows⟩ := p
    have hp2 : rw_ = .lst rows := hp _ mp
    subst hp2
    have hr1 : ∀ row ∈ rows, ∃ x, isNm x = true ∧ bRow x row := hr1
    have hB : blkParts 0 (ps.map (·.2.2)) = match blkRun n [] rows with | .error e => some e | .ok n' => blkParts n' ((ps.drop (i + 1)).map (·.2.2)) := hB
    have lrows : rows.length ≤ 1000 := by
      refine Nat.le_trans ?_ hl
      rw [allR_len, List.map_map]
      exact le_sum (List.mem_map.mpr ⟨_, mp, rfl⟩)
    refine ⟨rfl, Nat.le_of_ble_eq_true rfl, fun q => ?_⟩
    refine ⟨fun j δ r' => ∃ (op : List (Nat × Str)) (x5 x6 : Option D), δ = [some (.lst (ps.map partD)), some (.int ((n + j : Nat) : Int)), some nm, some (.lst rows), some (.adr q), x5, x6] ∧ r' = rX ++ [lstA q (op.map opE)] ∧ j ≤ rows.length ∧ op.length ≤ j ∧ blkRun n [] rows = blkRun (n + j) op (rows.drop j), ⟨[], _, _, rfl, rfl, Nat.zero_le _, Nat.le_refl _, rfl⟩, ?_, ?_⟩
    · rintro j row δ r' hj ⟨op, x5, x6, rfl, rfl, hjl, hol, hR⟩
      have hj2 := (List.getElem?_eq_some_iff.mp hj).1
      have dr2 : rows.drop j = row :: rows.drop (j + 1) := by
        rw [← (List.getElem?_eq_some_iff.mp hj).2]
        exact (List.getElem_cons_drop hj2).symm
      rw [dr2] at hR
      have hR : blkRun n [] rows = match opStep op (n + j) (headD row) with | .error e => .error e | .ok op' => blkRun (n + j + 1) op' (rows.drop (j + 1)) := hR
      obtain ⟨x, hx, hbr⟩ := hr1 row (List.mem_of_getElem? hj)
      obtain ⟨w, vs, ew, hw⟩ := row_ex (bRow_ok hx hbr).1
      subst ew
      rw [hw] at hR
      have err : ∀ (e : Er) (d : D) (t : Rs), opStep op (n + j) w = .error e → d = resE (some e) (ps.map pq) → fit P' d (rX ++ t) := fun e d t e1 e2 => by
        rw [e1] at hR
        dsimp only at hR
        rw [hR] at hB
        exact fin (le.drop.trans lX) hB e2
      have ow : ∀ {C : List D}, Own (rX ++ [lstA q C]) q C := fun {C} => ⟨rX, [], rfl⟩
      have hin : ∀ a b : Str, hasS [a, b] w = (w == a || w == b) := fun a b => by
        show (a == w || (b == w || false)) = _
        simp [Bool.beq_comm (a := w)]
      refine ix_t at0 ⟨fun δ' r2 => (∃ y, δ' = [some (.lst (ps.map partD)), some (.int ((n + j : Nat) : Int)), some nm, some (.lst rows), some (.adr q), y, some (.str w)]) ∧ r2 = rX ++ [lstA q (op.map opE)] ∧ ((w == "else" || w == "end") = true → op.isEmpty = false), ⟨Nat.le_of_ble_eq_true rfl, oIn_t (xs := ["else", "end"]) (k := fun d => (match d with | .bl b => _ | _ => False)) ?_⟩, ?_⟩
      · cases q1 : (w == "else" || w == "end") with
        | false => exact brf ((hin _ _).trans q1) (brF ⟨⟨_, rfl⟩, rfl, fun z => (by cases z)⟩)
        | true =>
          refine brt ((hin _ _).trans q1) ⟨Nat.le_of_ble_eq_true rfl, ⟨q, _, rfl, ow, by have := opE_dep op; omega, Nat.le_of_ble_eq_true rfl, ?_⟩⟩
          cases q2 : op.isEmpty with
          | false => exact brf ((eq_nilE op).trans q2) ⟨⟨_, rfl⟩, rfl, fun _ => rfl⟩
          | true =>
            have e0 : op = [] := List.isEmpty_iff.mp q2
            subst e0
            refine brt ((eq_nilE []).trans rfl) ⟨Nat.le_of_ble_eq_true rfl, err (.um (n + j)) _ _ ?_ rfl⟩
            unfold opStep
            have nif : (w == "if" || w == "while") = false := by
              rcases Bool.or_eq_true_iff.mp q1 with h1 | h1 <;> rw [eq_of_beq h1] <;> rfl
            rw [if_neg (by rw [nif]; decide)]
            cases q3 : w == "else" with
            | true => rfl
            | false =>
              rw [q3, Bool.false_or] at q1
              rw [if_neg (by decide), if_pos q1]
              rfl
      rintro δ2 r2 ⟨⟨y, rfl⟩, rfl, hne⟩
      refine ⟨fun δ' r2 => (∃ y, δ' = [some (.lst (ps.map partD)), some (.int ((n + j : Nat) : Int)), some nm, some (.lst rows), some (.adr q), y, some (.str w)]) ∧ ∃ op2, r2 = rX ++ [lstA q (op2.map opE)] ∧ ((w == "else") = true → opStep op (n + j) w = .ok op2) ∧ ((w == "else") = false → op2 = op), ⟨Nat.zero_le _, Nat.zero_le _, ?_⟩, ?_⟩
      · cases q1 : w == "else" with
        | false => exact brf q1 ⟨⟨_, rfl⟩, op, rfl, fun z => (by cases z), fun _ => rfl⟩
        | true =>
          have ew := eq_of_beq q1
          subst ew
          refine brt rfl ?_
          have hne := hne rfl
          cases hg : op.getLast? with
          | none => rw [List.getLast?_eq_none_iff.mp hg] at hne; cases hne
          | some e =>
            obtain ⟨k, v⟩ := e
            have es := last_split hg
            have st : opStep op (n + j) "else" = if v == "if" then .ok (op.dropLast ++ [(k, ("else" : Str))]) else .error (.um (n + j)) := by
              unfold opStep
              rw [hg]
              rfl
            refine ⟨q, _, _, _, rfl, rfl, ow, opE_last hg, ix_t at1 ⟨Nat.zero_le _, Nat.zero_le _, ?_⟩⟩
            cases q2 : v == "if" with
            | false => exact brt (by show (!(v == "if")) = true; rw [q2]; rfl) ⟨Nat.le_of_ble_eq_true rfl, err (.um (n + j)) _ _ (by rw [st, q2]; rfl) rfl⟩
            | true =>
              refine brf (by show (!(v == "if")) = false; rw [q2]; rfl) ⟨q, _, _, _, rfl, rfl, ow, opE_last hg, ix_t at0 ⟨Nat.le_of_ble_eq_true rfl, ?_⟩⟩
              have ln : op.length = op.dropLast.length + 1 := by
                have := congrArg List.length es
                rw [List.length_append] at this
                exact this
              refine ⟨q, rX, _, [], -1, op.dropLast.length, rfl, rfl, rfl, ?_, ⟨_, rfl⟩, op.dropLast ++ [(k, ("else" : Str))], ?_, fun _ => by rw [st, q2]; rfl, fun z => (by cases z)⟩
              · rw [List.length_map, ixN_last (by omega), ln]
                rfl
              · have : (op.map opE).set op.dropLast.length (.tup [.int (k : Nat), .str "else"]) = (op.dropLast ++ [(k, ("else" : Str))]).map opE := by
                  rw [set_last hg, List.map_append]
                  rfl
                rw [this]
      rintro δ2 r2 ⟨⟨y, rfl⟩, op2, rfl, ho1, ho2⟩
      refine ⟨fun δ' r2 => (∃ y, δ' = [some (.lst (ps.map partD)), some (.int ((n + j : Nat) : Int)), some nm, some (.lst rows), some (.adr q), y, some (.str w)]) ∧ ∃ op3, r2 = rX ++ [lstA q (op3.map opE)] ∧ ((w == "else" || w == "end") = true → opStep op (n + j) w = .ok op3) ∧ ((w == "else" || w == "end") = false → op3 = op), ⟨Nat.zero_le _, Nat.zero_le _, ?_⟩, ?_⟩
      · cases q1 : w == "end" with
        | false =>
          refine brf q1 ⟨⟨_, rfl⟩, op2, rfl, fun z => ho1 ?_, fun z => ho2 ?_⟩
          · rw [Bool.or_false] at z; exact z
          · rw [Bool.or_false] at z; exact z
        | true =>
          have ew := eq_of_beq q1
          subst ew
          obtain rfl := ho2 rfl
          have hne := hne rfl
          cases hg : op2.getLast? with
          | none => rw [List.getLast?_eq_none_iff.mp hg] at hne; cases hne
          | some e =>
            have es := last_split hg
            have st : opStep op2 (n + j) "end" = .ok op2.dropLast := by
              unfold opStep
              rw [hg]
              rfl
            have em : op2.map opE = op2.dropLast.map opE ++ [opE e] := by rw [← List.map_singleton, ← List.map_append, ← es]
            rw [em]
            exact brt rfl ⟨q, rfl, ⟨rX, _, [], _, rfl, ⟨_, rfl⟩, _, rfl, fun _ => st, fun z => (by cases z)⟩⟩
      rintro δ2 r2 ⟨⟨y, rfl⟩, op3, rfl, ho3, ho4⟩
      refine ⟨fun δ' r2 => (∃ y, δ' = [some (.lst (ps.map partD)), some (.int ((n + j : Nat) : Int)), some nm, some (.lst rows), some (.adr q), y, some (.str w)]) ∧ ∃ op4, r2 = rX ++ [lstA q (op4.map opE)] ∧ opStep op (n + j) w = .ok op4, ⟨Nat.le_of_ble_eq_true rfl, oIn_t (xs := ["if", "while"]) (k := fun d => (match d with | .bl b => _ | _ => False)) ?_⟩, ?_⟩
      · cases q1 : (w == "if" || w == "while") with
        | false =>
          refine brf ((hin _ _).trans q1) ⟨⟨_, rfl⟩, op3, rfl, ?_⟩
          cases q2 : (w == "else" || w == "end") with
          | true => exact ho3 q2
          | false =>
            rw [ho4 q2]
            obtain ⟨q3, q4⟩ := Bool.or_eq_false_iff.mp q2
            unfold opStep
            rw [if_neg (by rw [q1]; decide), if_neg (by rw [q3]; decide), if_neg (by rw [q4]; decide)]
        | true =>
          have q2 : (w == "else" || w == "end") = false := by
            rcases Bool.or_eq_true_iff.mp q1 with h1 | h1 <;> rw [eq_of_beq h1] <;> rfl
          obtain rfl := ho4 q2
          have st : opStep op3 (n + j) w = if op3.length = 8 then .error (.tm 8) else .ok (op3 ++ [(n + j, w)]) := by
            unfold opStep
            rw [if_pos q1]
          have lo3 : op3.length ≤ 1000 := by omega
          refine brt ((hin _ _).trans q1) ⟨q, _, rfl, ow, fun _ => ⟨Nat.zero_le _, Nat.zero_le _, ?_⟩⟩
          have e8 : ∀ b, decide (op3.length = 8) = b → eqD (.int (((op3.map opE).length : Nat) : Int)) (.int 8) = b := fun b e => by
            rw [List.length_map, ← e]
            show decide (((op3.length : Nat) : Int) = 8) = _
            exact decide_eq_decide.mpr (by omega)
          cases q8 : decide (op3.length = 8) with
          | true => exact brt (e8 _ q8) ⟨Nat.le_of_ble_eq_true rfl, err (.tm 8) _ _ (by rw [st, if_pos (of_decide_eq_true q8)]) rfl⟩
          | false =>
            refine brf (e8 _ q8) ⟨q, _, rfl, ow, Nat.le_of_ble_eq_true rfl, ⟨rX, _, [], _, rfl, rfl, by unfold small; rw [List.length_map]; omega, ⟨_, rfl⟩, op3 ++ [(n + j, w)], ?_, by rw [st, if_neg (of_decide_eq_false q8)]⟩⟩
            rw [List.map_append]
            rfl
      rintro δ2 r2 ⟨⟨y, rfl⟩, op4, rfl, ho5⟩
      rw [ho5] at hR
      have hpj : ((n + j : Nat) : Int) + 1 = ((n + (j + 1) : Nat) : Int) := by omega
      exact ⟨op4, _, _, by rw [← hpj]; rfl, rfl, hj2, by have := op_len ho5; omega, hR⟩
    · rintro δ r' ⟨op, x5, x6, rfl, rfl, hjl, hol, hR⟩
      rw [List.drop_length] at hR
      have hR : blkRun n [] rows = (match op.getLast? with | some (k, _) => .error (.um k) | none => .ok (n + rows.length)) := hR
      have emp : (op.map opE).isEmpty = op.isEmpty := by cases op <;> rfl
      refine ⟨q, _, rfl, ⟨rX, [], rfl⟩, ?_⟩
      cases hg : op.getLast? with
      | none =>
        rw [hg] at hR
        rw [List.getLast?_eq_none_iff.mp hg]
        rw [hR] at hB
        exact brF ⟨_, _, _, _, _, _, rfl, le.drop.trans lX, hi2, hB⟩
      | some e =>
        obtain ⟨k, v⟩ := e
        rw [hg] at hR
        dsimp only at hR
        rw [hR] at hB
        have hne : (op.map opE).isEmpty = false := by
          rw [emp]
          cases op with
          | nil => cases hg
          | cons _ _ => rfl
        exact brt (by rw [hne]; rfl) ⟨q, _, _, _, rfl, rfl, ⟨rX, [], rfl⟩, opE_last hg, ix_t at0 ⟨Nat.le_of_ble_eq_true rfl, fin (le.drop.trans lX) hB rfl⟩⟩
  · rintro δ r' ⟨n, x2, x3, x4, x5, x6, rfl, lX, hil, hB⟩
    rw [List.length_map, List.drop_length] at hB
    exact ⟨ps, rfl, hp, hl, Nat.le_of_ble_eq_true rfl, fin lX hB rfl⟩
def spRows27 : SpX := fun ds r P _ => ∃ (p a : Addr) (N : Nat) (X : Rs) (deep : Bool), ds = [.adr p, .bl deep] ∧ r = poolA p a N :: X ∧ N < 1000000 ∧ ∀ (rows : List D) (x : Str), isNm x = true → (∀ row ∈ rows, bRow x row) → rows.length ≤ 20 → P (.lst rows) (poolA p a (N + 60) :: X)
theorem last_at {xs : List D} {y : D} : atI (xs ++ [y]) (-1) = some y := by
  unfold atI
  rw [ixN_last (by rw [List.length_append, List.length_singleton]; omega)]
  show (xs ++ [y])[(xs ++ [y]).length - 1]? = _
  simp
abbrev N__law_rows_of : List Str := ["_law_pool_here", "_law_deep", "_law_x", "_law_rows", "_law_opened", "_law_closes", "_law_k", "_law_pick"]
theorem sc__law_rows_of : FnScope N__law_rows_of ["_law_pool_here", "_law_deep"] (defScope s__law_rows_of) := ⟨rfl, rfl, rfl, by decide +kernel, rfl, by decide +kernel, by decide +kernel⟩
set_option maxHeartbeats 2000000 in
theorem c__law_rows_of (B : Bl mg) (C__law_draw : Cl P w K mg base 1 "_law_draw" ["_law_pool_here", "_law_many"] spDraw) (C__law_word : Cl P w K mg base 2 "_law_word" ["_law_pool_here"] spWord) (Dx : Dfn K mg "_law_rows_of" s__law_rows_of ["_law_pool_here", "_law_deep"]) : Cl P w K mg base 3 "_law_rows_of" ["_law_pool_here", "_law_deep"] spRows27 := by
  have sc := sc__law_rows_of
  refine cl_of Dx sc (fun ds r P' XR ⟨_, _, _, _, _, e, _⟩ => by rw [e]; rfl) (fun f cdv A outer s H E hr tk po => ?_)
  have hu := hr.units
  have hi := u65 hr
  refine ⟨_, (ss_cons (s_set (i := 2) sc.nd (d_fn C__law_word tk hr (dl_cons (dv 0) dl_nil)))
  (ss_cons (s_set (i := 3) sc.nd (d_lstO dl_nil))
  (ss_cons (s_set (i := 4) sc.nd (d_lstO dl_nil))
  (ss_cons (s_set (i := 5) sc.nd (d_cmp (p_eq hu) (d_fn C__law_draw tk hr (dl_cons (dv 0) (dl_cons d_int dl_nil))) d_int))
  (ss_cons (s_for (i_r1 (by rfl) B.range (dl_cons (d_fn C__law_draw tk hr (dl_cons (dv 0) (dl_cons (d_cut (d_if (b_tru (dv 5)) d_int d_int)) dl_nil))) dl_nil)) (g_name (i := 6) sc.nd)
  (ss_cons (s_set (i := 7) sc.nd (d_fn C__law_draw tk hr (dl_cons (dv 0) (dl_cons d_int dl_nil))))
  (ss_cons (s_cut (s_if (b_cmp p_lt (dv 7) (d_cut (d_if (b_tru (dv 1)) d_int d_int)))
  (ss_one (s_expr (d_app (dv 3) (dl_cons (d_ix (d_lst (dl_cons (d_tup (dl_cons d_str (dl_cons d_str (dl_cons (dv 2) dl_nil)))) (dl_cons (d_tup (dl_cons d_str (dl_cons d_str (dl_cons (dv 2) dl_nil)))) dl_nil))) (d_fn C__law_draw tk hr (dl_cons (dv 0) (dl_cons d_int dl_nil)))) dl_nil))))
  (ss_one (s_expr (d_app (dv 3) (dl_cons (d_ix (d_lst (dl_cons (d_tup (dl_cons d_str dl_nil)) (dl_cons (d_tup (dl_cons d_str dl_nil)) (dl_cons (d_tup (dl_cons d_str (dl_cons (dv 2) dl_nil))) (dl_cons (d_tup (dl_cons d_str dl_nil)) (dl_cons (d_tup (dl_cons d_str dl_nil)) dl_nil)))))) (d_fn C__law_draw tk hr (dl_cons (dv 0) (dl_cons d_int dl_nil)))) dl_nil))))))
  (ss_cons (s_cut (s_if (b_cmp (p_in hi) (d_ix (d_ixO (dv 3) (d_neg d_int)) d_int) (d_tup (dl_cons d_str (dl_cons d_str dl_nil))))
  (ss_one (s_expr (d_app (dv 4) (dl_cons (dv 6) dl_nil))))
  ss_nil))
  (ss_one (s_if (b_w (w_and (b_cmp (p_eq hu) (d_ix (d_ixO (dv 3) (d_neg d_int)) d_int) d_str) (w_and1 (b_truO (dv 4)))))
  (ss_one (s_expr (d_pop0 (dv 4))))
  ss_nil))))) po)
  (ss_one (s_melt 3 (s_melt 4 (s_ret (d_bin p_add (dv 3) (d_sl (d_lc (js := [6]) (own := [("_law_k", 6)]) sc.nd (i_list (dv 4)) (blkOk_by (own := [("_law_k", 6)]) (N := N__law_rows_of) (sc := defScope s__law_rows_of) (by decide +kernel)) (fun _ _ _ _ _ => (g_name (i := 6) sc.nd)) (fun _ _ _ _ _ => (pts_1 (b_tru (dv 5)))) (fun _ _ _ _ _ => (d_tup (dl_cons d_str dl_nil)))) o_no (o_some (d_bin p_sub d_int (d_blt c_len (by rfl) B.len (dl_cons (dv 3) dl_nil))))))))))))))), fun ds r P' XR h => ?_⟩
  obtain ⟨p, a, N, X, deep, rfl, rfl, hN, h⟩ := h
  refine ⟨p, a, N, X, rfl, rfl, by omega, fun x hx => ⟨Nat.le_of_ble_eq_true rfl, fun q2 => ⟨Nat.le_of_ble_eq_true rfl, fun q3 => ?_⟩⟩⟩
  have eR : ∀ (m : Nat) (A B : List D), (poolA p a m :: X ++ [lstA q2 A]) ++ [lstA q3 B] = poolA p a m :: (X ++ [lstA q2 A, lstA q3 B]) := fun m A B => by simp
  rw [eR]
  refine ⟨p, a, 2, _, _, rfl, rfl, ⟨by decide, by decide⟩, by omega, fun k k0 k1 => ⟨Nat.zero_le _, Nat.zero_le _, ?_⟩⟩
  generalize eqD (.int k) (.int 1) = cl
  have ow2 : ∀ {m : Nat} {A C : List D}, Own (poolA p a m :: (X ++ [lstA q2 A, lstA q3 C])) q2 A := fun {m A C} => ⟨poolA p a m :: X, [lstA q3 C], rfl⟩
  have ow3 : ∀ {m : Nat} {A C : List D}, Own (poolA p a m :: (X ++ [lstA q2 A, lstA q3 C])) q3 C := fun {m A C} => ⟨poolA p a m :: (X ++ [lstA q2 A]), [], by simp⟩
  have e3 : ∀ {m : Nat} {A C : List D}, poolA p a m :: (X ++ [lstA q2 A, lstA q3 C]) = (poolA p a m :: (X ++ [lstA q2 A])) ++ lstA q3 C :: [] := by simp
  refine ⟨fun d' r' => r' = poolA p a (N + 9 + 1) :: (X ++ [lstA q2 [], lstA q3 []]) ∧ ∃ M : Nat, d' = .int (M : Nat) ∧ 1 ≤ M ∧ M ≤ 21, ⟨fun _ => ⟨rfl, 12, rfl, by decide, by decide⟩, fun _ => ⟨rfl, 21, rfl, by decide, by decide⟩⟩, ?_⟩
  rintro _ _ ⟨rfl, M, rfl, hM1, hM⟩
  refine ⟨p, a, M, _, _, rfl, rfl, ⟨by omega, by omega⟩, by omega, fun n n0 n1 => ?_⟩
  refine ⟨⟨by omega, by omega⟩, ⟨fun i δ r' => ∃ (m : Nat) (rows op : List D) (x6 x7 : Option D), δ = [some (.adr p), some (.bl deep), some (.str x), some (.adr q2), some (.adr q3), some (.bl cl), x6, x7] ∧ r' = poolA p a m :: (X ++ [lstA q2 rows, lstA q3 op]) ∧ m ≤ N + 11 + 2 * i ∧ rows.length = i ∧ op.length ≤ i ∧ ∀ row ∈ rows, bRow x row, ⟨N + 9 + 1 + 1, [], [], _, _, rfl, rfl, by omega, rfl, Nat.le_refl _, fun _ h => (by cases h)⟩, ?_, ?_⟩⟩
  · rintro i e δ r' he ⟨m, rows, op, x6, x7, rfl, rfl, hm, hrl, hol, hb⟩
    have hi20 : i < 20 := by
      have := (List.getElem?_eq_some_iff.mp he).1
      rw [List.length_map, List.length_range] at this
      omega
    refine ⟨p, a, 12, m, _, rfl, rfl, ⟨by decide, by decide⟩, by omega, fun c c0 c1 => ?_⟩
    refine ⟨fun δ' r2 => ∃ (m' : Nat) (y : D), δ' = [some (.adr p), some (.bl deep), some (.str x), some (.adr q2), some (.adr q3), some (.bl cl), some e, some (.int c)] ∧ r2 = poolA p a m' :: (X ++ [lstA q2 (rows ++ [y]), lstA q3 op]) ∧ m' ≤ m + 2 ∧ bRow x y, ?_, ?_⟩
    · refine ⟨fun d' r2 => r2 = poolA p a (m + 1) :: (X ++ [lstA q2 rows, lstA q3 op]) ∧ ∃ M : Nat, d' = .int (M : Nat), ⟨fun _ => ⟨rfl, 7, rfl⟩, fun _ => ⟨rfl, 3, rfl⟩⟩, ?_⟩
      rintro _ _ ⟨rfl, M2, rfl⟩
      have put : ∀ y : D, bRow x y → ∃ (pre : Rs) (xs : List D) (post : Rs) (y' : D), [y] = [y'] ∧ poolA p a (m + 1 + 1) :: (X ++ [lstA q2 rows, lstA q3 op]) = pre ++ lstA q2 xs :: post ∧ small (xs.length + 1) ∧ ∃ (m' : Nat) (y2 : D), [some (.adr p), some (.bl deep), some (.str x), some (.adr q2), some (.adr q3), some (.bl cl), some e, some (.int c)] = [some (.adr p), some (.bl deep), some (.str x), some (.adr q2), some (.adr q3), some (.bl cl), some e, some (.int c)] ∧ pre ++ lstA q2 (xs ++ [y']) :: post = poolA p a m' :: (X ++ [lstA q2 (rows ++ [y2]), lstA q3 op]) ∧ m' ≤ m + 2 ∧ bRow x y2 := fun y hy =>
        ⟨poolA p a (m + 1 + 1) :: X, rows, [lstA q3 op], y, rfl, rfl, by unfold small; omega, m + 1 + 1, y, rfl, rfl, by omega, hy⟩
      refine ⟨fun _ => ?_, fun _ => ?_⟩
      · refine ⟨q2, rows, rfl, ow2, Nat.le_of_ble_eq_true rfl, Nat.le_of_ble_eq_true rfl, Nat.le_of_ble_eq_true rfl, p, a, 2, m + 1, _, rfl, rfl, ⟨by decide, by decide⟩, by omega, fun t t0 t1 => ?_⟩
        obtain ⟨y, my, ey⟩ := pick_in (l := [.tup [.str "if", .str "ask", .str x], .tup [.str "while", .str "ask", .str x]]) t0 t1
        refine ix_l ey ⟨put y ?_⟩
        simp only [List.mem_cons, List.not_mem_nil, or_false] at my
        rcases my with rfl | rfl
        · exact .inl rfl
        · exact .inr (.inl rfl)
      · refine ⟨q2, rows, rfl, ow2, Nat.le_of_ble_eq_true rfl, Nat.le_of_ble_eq_true rfl, Nat.le_of_ble_eq_true rfl, Nat.le_of_ble_eq_true rfl, Nat.le_of_ble_eq_true rfl, Nat.le_of_ble_eq_true rfl, p, a, 5, m + 1, _, rfl, rfl, ⟨by decide, by decide⟩, by omega, fun t t0 t1 => ?_⟩
        obtain ⟨y, my, ey⟩ := pick_in (l := [.tup [.str "else"], .tup [.str "end"], .tup [.str "say", .str x], .tup [.str "end"], .tup [.str "stop"]]) t0 t1
        refine ix_l ey ⟨put y ?_⟩
        simp only [List.mem_cons, List.not_mem_nil, or_false] at my
        rcases my with rfl | rfl | rfl | rfl | rfl
        · exact .inr (.inr (.inl rfl))
        · exact .inr (.inr (.inr (.inl rfl)))
        · exact .inr (.inr (.inr (.inr (.inl rfl))))
        · exact .inr (.inr (.inr (.inl rfl)))
        · exact .inr (.inr (.inr (.inr (.inr rfl))))
    rintro _ _ ⟨m', y, rfl, rfl, hm', hy⟩
    obtain ⟨w, vs, ew, hw⟩ := row_ex (bRow_ok hx hy).1
    have hb2 : ∀ row ∈ rows ++ [y], bRow x row := fun row hr => (List.mem_append.mp hr).elim (hb row) fun h => by rw [List.mem_singleton.mp h]; exact hy
    subst ew
    refine ⟨fun δ' r2 => ∃ op' : List D, δ' = [some (.adr p), some (.bl deep), some (.str x), some (.adr q2), some (.adr q3), some (.bl cl), some e, some (.int c)] ∧ r2 = poolA p a m' :: (X ++ [lstA q2 (rows ++ [.tup (.str w :: vs)]), lstA q3 op']) ∧ op'.length ≤ i + 1, ?_, ?_⟩
    · refine ⟨q2, _, _, _, rfl, rfl, ow2, last_at, ix_t at0 ⟨Nat.le_of_ble_eq_true rfl, oIn_t (xs := ["if", "while"]) (k := fun d => (match d with | .bl b => _ | _ => False)) ⟨fun _ => ?_, fun _ => ⟨op, rfl, rfl, by omega⟩⟩⟩⟩
      exact ⟨q3, op, rfl, ow3, ⟨_, op, [], _, rfl, e3, by unfold small; omega, op ++ [e], rfl, e3.symm, by rw [List.length_append, List.length_singleton]; omega⟩⟩
    rintro _ _ ⟨op', rfl, rfl, hop'⟩
    have fin : ∀ op2 : List D, op2.length ≤ i + 1 → ∃ (m2 : Nat) (rows2 op3 : List D) (x6 x7 : Option D), [some (.adr p), some (.bl deep), some (.str x), some (.adr q2), some (.adr q3), some (.bl cl), some e, some (.int c)] = [some (.adr p), some (.bl deep), some (.str x), some (.adr q2), some (.adr q3), some (.bl cl), x6, x7] ∧ poolA p a m' :: (X ++ [lstA q2 (rows ++ [.tup (.str w :: vs)]), lstA q3 op2]) = poolA p a m2 :: (X ++ [lstA q2 rows2, lstA q3 op3]) ∧ m2 ≤ N + 11 + 2 * (i + 1) ∧ rows2.length = i + 1 ∧ op3.length ≤ i + 1 ∧ ∀ row ∈ rows2, bRow x row := fun op2 h2 => ⟨m', _, op2, _, _, rfl, rfl, by omega, by rw [List.length_append, List.length_singleton, hrl], h2, hb2⟩
    refine ⟨q2, _, _, _, rfl, rfl, ow2, last_at, ix_t at0 ⟨Nat.zero_le _, Nat.zero_le _, ⟨fun _ => ⟨q3, op', rfl, ow3, ?_⟩, fun _ => brF (fin op' hop')⟩⟩⟩
    cases hg : op'.getLast? with
    | none =>
      rw [List.getLast?_eq_none_iff.mp hg]
      exact brF (fin [] (Nat.zero_le _))
    | some z =>
      have es := last_split hg
      have ne : op'.isEmpty = false := by
        cases op' with
        | nil => cases hg
        | cons _ _ => rfl
      have ln : op'.dropLast.length ≤ i + 1 := by rw [List.length_dropLast]; omega
      refine brt (by rw [ne]; rfl) ⟨q3, rfl, ⟨_, op'.dropLast, [], z, by rw [← es]; exact e3, ?_⟩⟩
      rw [← e3]
      exact fin _ ln
  · rintro δ r' ⟨m, rows, op, x6, x7, rfl, rfl, hm, hrl, hol, hb⟩
    rw [List.length_map, List.length_range] at hm hrl hol
    have l20 : rows.length ≤ 20 := by omega
    refine ⟨q2, rows, poolA p a m :: X, [lstA q3 op], rfl, rfl, ⟨q3, op, poolA p a m :: X, [], rfl, rfl, ?_⟩⟩
    refine lc_fm (fun _ => cl) (fun _ => .tup [.str "end"]) (by unfold small; omega) (fun d hd r2 Q1 Q2 q1 q2 => ⟨fun z => ⟨Nat.le_of_ble_eq_true rfl, q1 z⟩, fun z => q2 z⟩) ?_
    generalize hE : (op.filter fun _ => cl).map (fun _ => D.tup [.str "end"]) = ends
    have hends : ∀ row ∈ ends, bRow x row := fun row hr => by
      rw [← hE] at hr
      obtain ⟨_, _, rfl⟩ := List.mem_map.mp hr
      exact .inr (.inr (.inr (.inl rfl)))
    refine fun _ => sl_l ?_
    have ec : cutD ends none (some ((20 : Int) - ((rows.length : Nat) : Int))) = ends.take (20 - rows.length) := by
      rw [show (20 : Int) - ((rows.length : Nat) : Int) = ((20 - rows.length : Nat) : Int) by omega]
      exact cutD_upto _ _
    have ll : (rows ++ ends.take (20 - rows.length)).length ≤ 20 := by
      rw [List.length_append, List.length_take]
      omega
    rw [ec]
    refine ⟨?_, poolA p a (N + 60) :: X, ?_, h _ x hx (fun row hr => ?_) ll⟩
    · rw [List.length_append] at ll
      unfold small
      omega
    · rw [List.append_nil]
      exact pool_mono (by omega)
    · rcases List.mem_append.mp hr with hr | hr
      · exact hb row hr
      · exact hends row (List.mem_of_mem_take hr)
theorem same_of {a b : D} (e : a = b) (h : G.plain b = true) : (!G.same a b) = false := by
  rw [e, same_refl _ h]
  rfl
theorem nodup_twice : ∀ {s zs : List Str}, zs.Nodup → (∀ z ∈ zs, z ∉ s) → twice (s.map D.str) (zs.map D.str) = none
  | s, [], _, _ => rfl
  | s, z :: zs, h, d => by
    obtain ⟨h1, h2⟩ := List.nodup_cons.mp h
    have ms : memD (.str z) (s.map D.str) = s.any fun y => y == z := by
      unfold memD
      rw [List.any_map]
      rfl
    have nm : memD (.str z) (s.map D.str) = false := by
      rw [ms]
      rw [Bool.eq_false_iff]
      intro q
      obtain ⟨y, hy, e⟩ := List.any_eq_true.mp q
      rw [eq_of_beq e] at hy
      exact d z List.mem_cons_self hy
    show (if memD (.str z) (s.map D.str) = true then some (D.str z) else twice (s.map D.str ++ [.str z]) (zs.map D.str)) = none
    rw [if_neg (by rw [nm]; decide), show s.map D.str ++ [.str z] = (s ++ [z]).map D.str by rw [List.map_append]; rfl]
    refine nodup_twice h2 fun y hy => ?_
    rw [List.mem_append, List.mem_singleton, not_or]
    exact ⟨d y (List.mem_cons_of_mem _ hy), fun e => h1 (e ▸ hy)⟩
/-- a program of parts named apart, of few rows of blocks -/
theorem pgErr_b {qs : List (D × List D)} {zs : List Str} (h1 : qs.map (·.1) = zs.map D.str) (hn : zs.Nodup) (hz : ∀ z ∈ zs, isNm z = true) (l1 : 1 ≤ qs.length) (l3 : qs.length ≤ 3) (l20 : ∀ q ∈ qs, q.2.length ≤ 20) (hb : ∀ q ∈ qs, ∀ row ∈ q.2, ∃ x, isNm x = true ∧ bRow x row) : pgErr [] qs = blkParts 0 (qs.map (·.2)) := by
  show needPts [] qs = _
  unfold needPts
  have e0 : qs.isEmpty = false := by
    cases qs with
    | nil => exact absurd l1 (by decide)
    | cons _ _ => rfl
  rw [if_neg (by rw [e0]; decide), if_neg (by omega), h1]
  have f0 : (zs.map D.str).find? (fun d => !isNameD d) = none := List.find?_eq_none.mpr fun d hd => by
    obtain ⟨z, m, rfl⟩ := List.mem_map.mp hd
    rw [show isNameD (.str z) = true from hz z m]
    decide
  rw [f0]
  dsimp only
  have t0 : twice [] (zs.map D.str) = none := nodup_twice (s := []) hn fun _ _ m => by cases m
  rw [t0]
  dsimp only
  have sm : (qs.map fun p => p.2.length).sum ≤ 60 := by
    rw [← allR_len]
    have := flat_le (l := qs) (f := fun q : D × List D => q.2) (k := 20) l20
    have e : allR qs = qs.flatMap (·.2) := rfl
    rw [e]
    omega
  rw [if_neg (by omega)]
  exact partsChk_b hb
theorem blk_err : ∀ {rows : List D} {n : Nat} {op : List (Nat × Str)} {e : Er}, blkRun n op rows = .error e → (∃ n, e = .um n) ∨ ∃ k, e = .tm k
  | [], n, op, e, h => by
    have h : (match op.getLast? with | some (k, _) => (.error (.um k) : Except Er Nat) | none => .ok n) = .error e := h
    split at h
    · cases h; exact .inl ⟨_, rfl⟩
    · cases h
  | row :: rows, n, op, e, h => by
    have h : (match opStep op n (headD row) with | .error e => (.error e : Except Er Nat) | .ok op' => blkRun (n + 1) op' rows) = .error e := h
    split at h
    · rename_i e' q
      cases h
      unfold opStep at q
      split at q
      · split at q
        · cases q; exact .inr ⟨_, rfl⟩
        · cases q
      · split at q
        · split at q
          · split at q
            · cases q
            · cases q; exact .inl ⟨_, rfl⟩
          · cases q; exact .inl ⟨_, rfl⟩
        · split at q
          · split at q
            · cases q
            · cases q; exact .inl ⟨_, rfl⟩
          · cases q
    · exact blk_err h
theorem blkParts_err : ∀ {l : List (List D)} {n : Nat} {e : Er}, blkParts n l = some e → (∃ n, e = .um n) ∨ ∃ k, e = .tm k
  | [], n, e, h => by cases h
  | rs :: l, n, e, h => by
    have h : (match blkRun n [] rs with | .error e => some e | .ok n' => blkParts n' l) = some e := h
    split at h
    · rename_i q
      cases h
      exact blk_err q
    · exact blkParts_err h
theorem resE_ok {e : Option Er} {qs : List (D × List D)} (hl : (allR qs).length ≤ 1000) (hb : ∀ row ∈ allR qs, plain row = true ∧ dep row ≤ 2) : plain (resE e qs) = true ∧ dep (resE e qs) ≤ 8 := by
  have p1 : plains (allR qs) = true := plains_of fun d m => (hb d m).1
  have d1 : deps (allR qs) ≤ 2 := deps_le fun d m => (hb d m).2
  cases e with
  | none =>
    refine ⟨?_, ?_⟩
    · show (true && (true && ((decide ((allR qs).length ≤ 1000000) && plains (allR qs)) && true))) = true
      rw [p1, decide_eq_true (by omega)]
      rfl
    · show max 0 (max (deps (allR qs) + 1) 0) + 1 ≤ 8
      omega
  | some e => cases e <;> exact ⟨rfl, Nat.le_of_ble_eq_true rfl⟩
theorem resP_E (qs : List (D × List D)) : resP qs = resE (pgErr [] qs) qs := by
  unfold resP resE
  cases pgErr [] qs with
  | none => rfl
  | some e => cases e <;> rfl
abbrev N_law : List Str := ["_law_script", "_law_pool_here", "_law_turn", "_law_titles", "_law_deep", "_law_parts", "_law_k", "_law_name", "_law_rows"]
theorem sc_law : FnScope N_law ["_law_script"] (defScope s_law) := ⟨rfl, rfl, rfl, by decide +kernel, rfl, by decide +kernel, by decide +kernel⟩
set_option maxHeartbeats 2000000 in
theorem ok_law {fl fp : Addr} {fd fdp : FuncData} (F : Fun K "law" "law" s_law fl fd) (GP : FnOk P w K mg base CX0 1 fp fdp ["_law_script"] (spPool K)) (gP : mg "_law_pool" = some (.ref fp)) (kP : PySem.W.keepIn K (.ref fp) = true) (bP : Binds K fdp ["_law_script"] [])
    (C__law_draw : Cl P w K mg base 1 "_law_draw" ["_law_pool_here", "_law_many"] spDraw) (C__law_names : Cl P w K mg base 2 "_law_names" ["_law_pool_here", "_law_many"] spNames) (C__law_same : Cl P w K mg base 9 "_law_same" ["_law_actual", "_law_due_here"] (spSame 9)) (C__law_rows_of : Cl P w K mg base 3 "_law_rows_of" ["_law_pool_here", "_law_deep"] spRows27) (C__law_try : Cl P w K mg base 12 "_law_try" ["_law_parts"] spTry27) (C__law_due : Cl P w K mg base 2 "_law_due" ["_law_parts"] spDue27) (B : Bl mg) :
    FnOk P w K mg base CX0 14 fl fd ["_law_script"] (spLaw K) := by
  have sc := sc_law
  refine F.ok sc (fun vs H Q E h => ?_) (fun cdv A outer s H vs Q E hr h => ?_)
  · obtain ⟨a, ns, rfl, _⟩ := h
    rfl
  obtain ⟨a, ns, rfl, hS, hl, hQ⟩ := h
  have hu := hr.units
  have hi := u65 hr
  refine ⟨_, pss_cons (ps_set (i := 1) sc.nd rfl (.inr rfl) (pe_call GP (hr.mono (by decide)) (by rfl) gP kP bP .nil pass0 (pa_cons (pv 0) pa_nil))) ((ss_cons (s_for (i_r1 (by rfl) B.range (dl_cons d_int dl_nil)) (g_name (i := 2) sc.nd)
  (ss_cons (s_set (i := 3) sc.nd (d_fn C__law_names takes0 hr (dl_cons (dv 1) (dl_cons d_int dl_nil))))
  (ss_cons (s_set (i := 4) sc.nd (d_cmp (p_eq hu) (d_fn C__law_draw takes0 hr (dl_cons (dv 1) (dl_cons d_int dl_nil))) d_int))
  (ss_cons (s_setLc (i := 5) (js := [6]) (own := [("_law_k", 6)]) sc.nd (i_r1 (by rfl) B.range (dl_cons (d_bin p_add d_int (d_fn C__law_draw takes0 hr (dl_cons (dv 1) (dl_cons d_int dl_nil)))) dl_nil)) (blkOk_by (own := [("_law_k", 6)]) (N := N_law) (sc := defScope s_law) (by decide +kernel)) (fun _ _ _ _ _ => (g_name (i := 6) sc.nd)) (fun _ _ _ _ _ => pts_no) (fun _ _ _ _ _ => (d_tup (dl_cons (d_ix (dv 3) (dv 6)) (dl_cons (d_fnN C__law_rows_of hr (dl_cons (dv 1) (dl_cons (dv 4) dl_nil))) dl_nil)))) (sw_true rfl rfl rfl (by decide +kernel)))
  (ss_one (s_if (b_not (b_tru (d_fn C__law_same takes0 hr (dl_cons (d_fn C__law_try takes0 hr (dl_cons (d_lc (js := [7, 8]) (own := [("_law_name", 7), ("_law_rows", 8)]) sc.nd (i_list (dv 5)) (blkOk_by (own := [("_law_name", 7), ("_law_rows", 8)]) (N := N_law) (sc := defScope s_law) (by decide +kernel)) (fun _ _ _ _ _ => (g_tup (is := [7, 8]) (pgs_n (i := 7) sc.nd (pgs_n (i := 8) sc.nd pgs_nil)))) (fun _ _ _ _ _ => pts_no) (fun _ _ _ _ _ => (d_tup (dl_cons (dv 7) (dl_cons (d_ty c_list (by rfl) B.list (dl_cons (dv 8) dl_nil)) dl_nil))))) dl_nil)) (dl_cons (d_fn C__law_due takes0 hr (dl_cons (dv 5) dl_nil)) dl_nil)))))
  (ss_one (s_ret d_bl))
  ss_nil))))) PassesOwn.never)
  (ss_one (s_ret d_bl))) : PBD _ W0 _ _), ?_⟩
  refine ⟨_, rfl, a, ns, rfl, hS, hl, fun p a' H' ro => law_go ro hQ ?_⟩
  refine ⟨⟨by decide, by decide⟩, fun i δ r => (∃ d2 d3 d4 d5 d6 d7 d8, δ = [none, some (.adr p), d2, d3, d4, d5, d6, d7, d8]) ∧ ∃ m X, m ≤ i * 1000 ∧ r = poolA p a' m :: X, ⟨⟨_, _, _, _, _, _, _, rfl⟩, 0, [], Nat.le_refl _, rfl⟩, ?_, fun δ r _ => rfl⟩
  rintro i d δ r hd ⟨⟨d2, d3, d4, d5, d6, d7, d8, rfl⟩, m, X, hm0, rfl⟩
  have hi5 : i < 5 := by
    have := (List.getElem?_eq_some_iff.mp hd).1
    simpa using this
  refine ⟨p, a', m, X, 3, rfl, rfl, by omega, by decide, fun zs hzl hnd hnm => ?_⟩
  refine ⟨p, a', 2, _, X, rfl, rfl, ⟨by decide, by decide⟩, by omega, fun k k0 k1 => ⟨Nat.zero_le _, Nat.zero_le _, ?_⟩⟩
  generalize eqD (.int k) (.int 1) = deep
  refine ⟨p, a', 3, _, X, rfl, rfl, ⟨by decide, by decide⟩, by omega, fun n n0 n1 => ?_⟩
  refine ⟨⟨by omega, by omega⟩, ⟨fun i2 acc r' => ∃ (m2 : Nat) (ps : List (D × D × List D)), acc = ps.map partD ∧ ps.length = i2 ∧ ps.map (·.1) = (zs.take i2).map D.str ∧ (∀ q ∈ ps, q.2.1 = .lst q.2.2 ∧ q.2.2.length ≤ 20 ∧ ∀ row ∈ q.2.2, ∃ x, isNm x = true ∧ bRow x row) ∧ m2 ≤ m + 100 + 60 * i2 ∧ r' = poolA p a' m2 :: X, ⟨_, [], rfl, rfl, rfl, fun _ h => (by cases h), by omega, rfl⟩, ?_, ?_⟩⟩
  · rintro q i2 e acc r' he ⟨m2, ps, rfl, hpl, hpn, hps, hm2, rfl⟩
    have hi3 : i2 < 3 := by
      have := (List.getElem?_eq_some_iff.mp he).1
      rw [List.length_map, List.length_range] at this
      omega
    have ee : e = .int (i2 : Nat) := by
      have := (List.getElem?_eq_some_iff.mp he).2
      rw [← this]
      simp
    subst ee
    obtain ⟨z, hz⟩ : ∃ z, zs[i2]? = some z := ⟨_, List.getElem?_eq_getElem (by omega)⟩
    have ez : (zs.map D.str)[i2]? = some (.str z) := by rw [List.getElem?_map, hz]; rfl
    refine ⟨fun _ => ?_, fun z => (by cases z)⟩
    refine ix_l (L2.atI_nat ez) ⟨p, a', m2, X ++ [lstA q (ps.map partD)], deep, rfl, rfl, by omega, fun rows x hx hb hl20 => ⟨Nat.le_of_ble_eq_true rfl, ?_, poolA p a' (m2 + 60) :: X, le.refl, m2 + 60, ps ++ [(.str z, .lst rows, rows)], ?_, ?_, ?_, ?_, by omega, rfl⟩⟩
    · rw [List.length_map]; unfold small; omega
    · rw [List.map_append]; rfl
    · rw [List.length_append, hpl]; rfl
    · rw [List.map_append, hpn, List.take_add_one, hz, List.map_append]; rfl
    · intro q hq
      rcases List.mem_append.mp hq with hq | hq
      · exact hps q hq
      · rw [List.mem_singleton.mp hq]
        exact ⟨rfl, hl20, fun row hr => ⟨x, hx, hb row hr⟩⟩
  rintro acc r' ⟨m2, ps, rfl, hpl, hpn, hps, hm2, rfl⟩
  rw [List.length_map, List.length_range] at hpl hpn hm2
  have l1 : 1 ≤ ps.length := by omega
  have l3 : ps.length ≤ 3 := by omega
  have eq1 : (ps.map pq).map (·.1) = (zs.take (1 + n).toNat).map D.str := by rw [← hpn, List.map_map]; rfl
  have hb2 : ∀ q ∈ ps.map pq, ∀ row ∈ q.2, ∃ x, isNm x = true ∧ bRow x row := fun q hq => by
    obtain ⟨p0, hp0, rfl⟩ := List.mem_map.mp hq
    exact (hps p0 hp0).2.2
  have l20 : ∀ q ∈ ps.map pq, q.2.length ≤ 20 := fun q hq => by
    obtain ⟨p0, hp0, rfl⟩ := List.mem_map.mp hq
    exact (hps p0 hp0).2.1
  have nmz : ∀ z ∈ zs.take (1 + n).toNat, isNm z = true := fun z hz => hnm z (List.mem_of_mem_take hz)
  have eB := pgErr_b eq1 (hnd.sublist (List.take_sublist _ _)) nmz (by rw [List.length_map]; exact l1) (by rw [List.length_map]; exact l3) l20 hb2
  have eB2 : (ps.map pq).map (·.2) = ps.map (·.2.2) := by rw [List.map_map]; rfl
  rw [eB2] at eB
  have okp : OkPs ps := by
    refine ⟨by omega, fun q hq => by rw [(hps q hq).1]; rfl, fun q hq => ?_, fun q hq => by have := (hps q hq).2.1; omega, fun q hq row hr => ?_⟩
    · have : q.1 ∈ ps.map (·.1) := List.mem_map.mpr ⟨q, hq, rfl⟩
      rw [hpn] at this
      obtain ⟨z, _, e⟩ := List.mem_map.mp this
      rw [← e]
      rfl
    · obtain ⟨x, hx, hb⟩ := (hps q hq).2.2 row hr
      exact (bRow_ok hx hb).2.2.2.2.1
  have hall : (allR (ps.map pq)).length ≤ 60 := by
    have := flat_le (l := ps.map pq) (f := fun q : D × List D => q.2) (k := 20) l20
    rw [List.length_map] at this
    have e : allR (ps.map pq) = (ps.map pq).flatMap (·.2) := rfl
    rw [e]
    omega
  have hpd : ∀ row ∈ allR (ps.map pq), plain row = true ∧ dep row ≤ 2 := fun row hr => by
    obtain ⟨q, hq, hr⟩ := List.mem_flatMap.mp hr
    obtain ⟨x, hx, hb⟩ := hb2 q hq row hr
    exact (bRow_ok hx hb).2.2.2.2
  obtain ⟨rp, rd⟩ := resE_ok (e := blkParts 0 (ps.map (·.2.2))) (by omega) hpd
  refine lc_map (fun d => d) (by rw [List.length_map]; unfold small; omega) (fun e he r2 P2 q => ?_) ?_
  · obtain ⟨p0, hp0, rfl⟩ := List.mem_map.mp he
    have e1 := (hps p0 hp0).1
    obtain ⟨nm, rw_, rs⟩ := p0
    have e1 : rw_ = .lst rs := e1
    subst e1
    exact ⟨rfl, Nat.le_of_ble_eq_true rfl, q⟩
  rw [List.map_id']
  refine ⟨ps, rfl, l1, l3, okp, fun e he => blkParts_err (by rw [← eB]; exact he), ?_⟩
  refine ⟨ps, rfl, fun q hq => (hps q hq).1, by omega, fun q hq => (hps q hq).2.2, ?_⟩
  rw [resP_E, eB]
  refine ⟨_, _, rfl, rp, rp, by omega, by omega, brf (same_of rfl rp) ⟨⟨_, _, _, _, _, _, _, rfl⟩, m2, X, by omega, rfl⟩⟩
end
set_option maxHeartbeats 0 in
def KF (P : PySem.Params) : PySem.W.Frag :=
(nat_lit 2, (@PySem.Obj.mk PySem.Value.none Option.none (@PySem.Data.dict (List.toArray []) (0 : Nat)) (List.toArray []))) ::
(nat_lit 3, (@PySem.Obj.mk (@PySem.Value.type "dict") Option.none (@PySem.Data.dict (List.toArray ((@PySem.DictEntry.mk (@PySem.PyData.keyHash P (@PySem.Str.ofString "__name__")) (@PySem.Value.str (@PySem.Str.ofString "__name__") (165 : Nat)) (@PySem.Value.str (@PySem.Str.ofString "law_quietprobes_k27_blocks_that_do_not_match") (1344 : Nat))) :: (@PySem.DictEntry.mk (@PySem.PyData.keyHash P (@PySem.Str.ofString "__doc__")) (@PySem.Value.str (@PySem.Str.ofString "__doc__") (166 : Nat)) PySem.Value.none) :: (@PySem.DictEntry.mk (@PySem.PyData.keyHash P (@PySem.Str.ofString "__package__")) (@PySem.Value.str (@PySem.Str.ofString "__package__") (167 : Nat)) PySem.Value.none) :: (@PySem.DictEntry.mk (@PySem.PyData.keyHash P (@PySem.Str.ofString "__loader__")) (@PySem.Value.str (@PySem.Str.ofString "__loader__") (168 : Nat)) (@PySem.Value.builtin "__main__.__loader__#opaque")) :: (@PySem.DictEntry.mk (@PySem.PyData.keyHash P (@PySem.Str.ofString "__spec__")) (@PySem.Value.str (@PySem.Str.ofString "__spec__") (169 : Nat)) PySem.Value.none) :: (@PySem.DictEntry.mk (@PySem.PyData.keyHash P (@PySem.Str.ofString "__annotations__")) (@PySem.Value.str (@PySem.Str.ofString "__annotations__") (170 : Nat)) (@PySem.Value.ref (6 : Nat))) :: (@PySem.DictEntry.mk (@PySem.PyData.keyHash P (@PySem.Str.ofString "__builtins__")) (@PySem.Value.str (@PySem.Str.ofString "__builtins__") (171 : Nat)) (@PySem.Value.ref (4 : Nat))) :: (@PySem.DictEntry.mk (@PySem.PyData.keyHash P (@PySem.Str.ofString "__file__")) (@PySem.Value.str (@PySem.Str.ofString "__file__") (173 : Nat)) (@PySem.Value.str (@PySem.Str.ofString "/claim/cut.py") (172 : Nat))) :: (@PySem.DictEntry.mk (@PySem.PyData.keyHash P (@PySem.Str.ofString "__cached__")) (@PySem.Value.str (@PySem.Str.ofString "__cached__") (174 : Nat)) PySem.Value.none) :: (@PySem.DictEntry.mk (@PySem.PyData.keyHash P (@PySem.Str.ofString "_wall")) (@PySem.Value.str (@PySem.Str.ofString "_wall") (193 : Nat)) (@PySem.Value.ref (21 : Nat))) :: (@PySem.DictEntry.mk (@PySem.PyData.keyHash P (@PySem.Str.ofString "QuietError")) (@PySem.Value.str (@PySem.Str.ofString "QuietError") (213 : Nat)) (@PySem.Value.ref (31 : Nat))) :: (@PySem.DictEntry.mk (@PySem.PyData.keyHash P (@PySem.Str.ofString "BadName")) (@PySem.Value.str (@PySem.Str.ofString "BadName") (240 : Nat)) (@PySem.Value.ref (53 : Nat))) :: (@PySem.DictEntry.mk (@PySem.PyData.keyHash P (@PySem.Str.ofString "BadRow")) (@PySem.Value.str (@PySem.Str.ofString "BadRow") (267 : Nat)) (@PySem.Value.ref (74 : Nat))) :: (@PySem.DictEntry.mk (@PySem.PyData.keyHash P (@PySem.Str.ofString "BadPlace")) (@PySem.Value.str (@PySem.Str.ofString "BadPlace") (294 : Nat)) (@PySem.Value.ref (95 : Nat))) :: (@PySem.DictEntry.mk (@PySem.PyData.keyHash P (@PySem.Str.ofString "BadText")) (@PySem.Value.str (@PySem.Str.ofString "BadText") (321 : Nat)) (@PySem.Value.ref (116 : Nat))) :: (@PySem.DictEntry.mk (@PySem.PyData.keyHash P (@PySem.Str.ofString "NoThing")) (@PySem.Value.str (@PySem.Str.ofString "NoThing") (348 : Nat)) (@PySem.Value.ref (137 : Nat))) :: (@PySem.DictEntry.mk (@PySem.PyData.keyHash P (@PySem.Str.ofString "NoKey")) (@PySem.Value.str (@PySem.Str.ofString "NoKey") (375 : Nat)) (@PySem.Value.ref (158 : Nat))) :: (@PySem.DictEntry.mk (@PySem.PyData.keyHash P (@PySem.Str.ofString "NoPart")) (@PySem.Value.str (@PySem.Str.ofString "NoPart") (402 : Nat)) (@PySem.Value.ref (179 : Nat))) :: (@PySem.DictEntry.mk (@PySem.PyData.keyHash P (@PySem.Str.ofString "NoRow")) (@PySem.Value.str (@PySem.Str.ofString "NoRow") (429 : Nat)) (@PySem.Value.ref (200 : Nat))) :: (@PySem.DictEntry.mk (@PySem.PyData.keyHash P (@PySem.Str.ofString "NoProbe")) (@PySem.Value.str (@PySem.Str.ofString "NoProbe") (456 : Nat)) (@PySem.Value.ref (221 : Nat))) :: (@PySem.DictEntry.mk (@PySem.PyData.keyHash P (@PySem.Str.ofString "Twice")) (@PySem.Value.str (@PySem.Str.ofString "Twice") (483 : Nat)) (@PySem.Value.ref (242 : Nat))) :: (@PySem.DictEntry.mk (@PySem.PyData.keyHash P (@PySem.Str.ofString "Unmatched")) (@PySem.Value.str (@PySem.Str.ofString "Unmatched") (510 : Nat)) (@PySem.Value.ref (263 : Nat))) :: (@PySem.DictEntry.mk (@PySem.PyData.keyHash P (@PySem.Str.ofString "TooMany")) (@PySem.Value.str (@PySem.Str.ofString "TooMany") (537 : Nat)) (@PySem.Value.ref (284 : Nat))) :: (@PySem.DictEntry.mk (@PySem.PyData.keyHash P (@PySem.Str.ofString "LETTERS")) (@PySem.Value.str (@PySem.Str.ofString "LETTERS") (541 : Nat)) (@PySem.Value.str (@PySem.Str.ofString "abcdefghijklmnopqrstuvwxyz") (540 : Nat))) :: (@PySem.DictEntry.mk (@PySem.PyData.keyHash P (@PySem.Str.ofString "MOST_LETTERS")) (@PySem.Value.str (@PySem.Str.ofString "MOST_LETTERS") (543 : Nat)) (@PySem.Value.int (8 : Int) (542 : Nat))) :: (@PySem.DictEntry.mk (@PySem.PyData.keyHash P (@PySem.Str.ofString "MOST_KEYS")) (@PySem.Value.str (@PySem.Str.ofString "MOST_KEYS") (545 : Nat)) (@PySem.Value.int (4 : Int) (544 : Nat))) :: (@PySem.DictEntry.mk (@PySem.PyData.keyHash P (@PySem.Str.ofString "MOST_THINGS")) (@PySem.Value.str (@PySem.Str.ofString "MOST_THINGS") (547 : Nat)) (@PySem.Value.int (8 : Int) (546 : Nat))) :: (@PySem.DictEntry.mk (@PySem.PyData.keyHash P (@PySem.Str.ofString "is_name")) (@PySem.Value.str (@PySem.Str.ofString "is_name") (553 : Nat)) (@PySem.Value.ref (291 : Nat))) :: (@PySem.DictEntry.mk (@PySem.PyData.keyHash P (@PySem.Str.ofString "need_names")) (@PySem.Value.str (@PySem.Str.ofString "need_names") (561 : Nat)) (@PySem.Value.ref (298 : Nat))) :: (@PySem.DictEntry.mk (@PySem.PyData.keyHash P (@PySem.Str.ofString "need_unlike")) (@PySem.Value.str (@PySem.Str.ofString "need_unlike") (570 : Nat)) (@PySem.Value.ref (305 : Nat))) :: (@PySem.DictEntry.mk (@PySem.PyData.keyHash P (@PySem.Str.ofString "Thing")) (@PySem.Value.str (@PySem.Str.ofString "Thing") (762 : Nat)) (@PySem.Value.ref (409 : Nat))) :: (@PySem.DictEntry.mk (@PySem.PyData.keyHash P (@PySem.Str.ofString "need_things")) (@PySem.Value.str (@PySem.Str.ofString "need_things") (768 : Nat)) (@PySem.Value.ref (418 : Nat))) :: (@PySem.DictEntry.mk (@PySem.PyData.keyHash P (@PySem.Str.ofString "read_thing")) (@PySem.Value.str (@PySem.Str.ofString "read_thing") (774 : Nat)) (@PySem.Value.ref (423 : Nat))) :: (@PySem.DictEntry.mk (@PySem.PyData.keyHash P (@PySem.Str.ofString "MOST_ITEMS")) (@PySem.Value.str (@PySem.Str.ofString "MOST_ITEMS") (780 : Nat)) (@PySem.Value.int (1000000000000000000000000000000 : Int) (779 : Nat))) :: (@PySem.DictEntry.mk (@PySem.PyData.keyHash P (@PySem.Str.ofString "FREE")) (@PySem.Value.str (@PySem.Str.ofString "FREE") (785 : Nat)) (@PySem.Value.ref (424 : Nat))) :: (@PySem.DictEntry.mk (@PySem.PyData.keyHash P (@PySem.Str.ofString "DEEDS")) (@PySem.Value.str (@PySem.Str.ofString "DEEDS") (887 : Nat)) (@PySem.Value.ref (425 : Nat))) :: (@PySem.DictEntry.mk (@PySem.PyData.keyHash P (@PySem.Str.ofString "LOOKS")) (@PySem.Value.str (@PySem.Str.ofString "LOOKS") (906 : Nat)) (@PySem.Value.ref (457 : Nat))) :: (@PySem.DictEntry.mk (@PySem.PyData.keyHash P (@PySem.Str.ofString "UNSAID")) (@PySem.Value.str (@PySem.Str.ofString "UNSAID") (911 : Nat)) (@PySem.Value.ref (458 : Nat))) :: (@PySem.DictEntry.mk (@PySem.PyData.keyHash P (@PySem.Str.ofString "PLAIN")) (@PySem.Value.str (@PySem.Str.ofString "PLAIN") (930 : Nat)) (@PySem.Value.ref (459 : Nat))) :: (@PySem.DictEntry.mk (@PySem.PyData.keyHash P (@PySem.Str.ofString "look_codes")) (@PySem.Value.str (@PySem.Str.ofString "look_codes") (937 : Nat)) (@PySem.Value.ref (473 : Nat))) :: (@PySem.DictEntry.mk (@PySem.PyData.keyHash P (@PySem.Str.ofString "row_codes")) (@PySem.Value.str (@PySem.Str.ofString "row_codes") (944 : Nat)) (@PySem.Value.ref (480 : Nat))) :: (@PySem.DictEntry.mk (@PySem.PyData.keyHash P (@PySem.Str.ofString "branch_codes")) (@PySem.Value.str (@PySem.Str.ofString "branch_codes") (952 : Nat)) (@PySem.Value.ref (487 : Nat))) :: (@PySem.DictEntry.mk (@PySem.PyData.keyHash P (@PySem.Str.ofString "is_integer")) (@PySem.Value.str (@PySem.Str.ofString "is_integer") (959 : Nat)) (@PySem.Value.ref (494 : Nat))) :: (@PySem.DictEntry.mk (@PySem.PyData.keyHash P (@PySem.Str.ofString "head")) (@PySem.Value.str (@PySem.Str.ofString "head") (966 : Nat)) (@PySem.Value.ref (501 : Nat))) :: (@PySem.DictEntry.mk (@PySem.PyData.keyHash P (@PySem.Str.ofString "suits")) (@PySem.Value.str (@PySem.Str.ofString "suits") (972 : Nat)) (@PySem.Value.ref (506 : Nat))) :: (@PySem.DictEntry.mk (@PySem.PyData.keyHash P (@PySem.Str.ofString "fits")) (@PySem.Value.str (@PySem.Str.ofString "fits") (978 : Nat)) (@PySem.Value.ref (511 : Nat))) :: (@PySem.DictEntry.mk (@PySem.PyData.keyHash P (@PySem.Str.ofString "need_known")) (@PySem.Value.str (@PySem.Str.ofString "need_known") (989 : Nat)) (@PySem.Value.ref (518 : Nat))) :: (@PySem.DictEntry.mk (@PySem.PyData.keyHash P (@PySem.Str.ofString "GATES")) (@PySem.Value.str (@PySem.Str.ofString "GATES") (996 : Nat)) (@PySem.Value.ref (519 : Nat))) :: (@PySem.DictEntry.mk (@PySem.PyData.keyHash P (@PySem.Str.ofString "ASSERTED")) (@PySem.Value.str (@PySem.Str.ofString "ASSERTED") (1001 : Nat)) (@PySem.Value.ref (520 : Nat))) :: (@PySem.DictEntry.mk (@PySem.PyData.keyHash P (@PySem.Str.ofString "MOST_LOOKS")) (@PySem.Value.str (@PySem.Str.ofString "MOST_LOOKS") (1003 : Nat)) (@PySem.Value.int (6 : Int) (1002 : Nat))) :: (@PySem.DictEntry.mk (@PySem.PyData.keyHash P (@PySem.Str.ofString "is_look")) (@PySem.Value.str (@PySem.Str.ofString "is_look") (1010 : Nat)) (@PySem.Value.ref (527 : Nat))) :: (@PySem.DictEntry.mk (@PySem.PyData.keyHash P (@PySem.Str.ofString "is_looks")) (@PySem.Value.str (@PySem.Str.ofString "is_looks") (1016 : Nat)) (@PySem.Value.ref (532 : Nat))) :: (@PySem.DictEntry.mk (@PySem.PyData.keyHash P (@PySem.Str.ofString "is_watcher")) (@PySem.Value.str (@PySem.Str.ofString "is_watcher") (1023 : Nat)) (@PySem.Value.ref (539 : Nat))) :: (@PySem.DictEntry.mk (@PySem.PyData.keyHash P (@PySem.Str.ofString "is_row")) (@PySem.Value.str (@PySem.Str.ofString "is_row") (1029 : Nat)) (@PySem.Value.ref (544 : Nat))) :: (@PySem.DictEntry.mk (@PySem.PyData.keyHash P (@PySem.Str.ofString "is_probe")) (@PySem.Value.str (@PySem.Str.ofString "is_probe") (1036 : Nat)) (@PySem.Value.ref (551 : Nat))) :: (@PySem.DictEntry.mk (@PySem.PyData.keyHash P (@PySem.Str.ofString "named")) (@PySem.Value.str (@PySem.Str.ofString "named") (1042 : Nat)) (@PySem.Value.ref (556 : Nat))) :: (@PySem.DictEntry.mk (@PySem.PyData.keyHash P (@PySem.Str.ofString "looks_text")) (@PySem.Value.str (@PySem.Str.ofString "looks_text") (1051 : Nat)) (@PySem.Value.ref (563 : Nat))) :: (@PySem.DictEntry.mk (@PySem.PyData.keyHash P (@PySem.Str.ofString "row_text")) (@PySem.Value.str (@PySem.Str.ofString "row_text") (1059 : Nat)) (@PySem.Value.ref (570 : Nat))) :: (@PySem.DictEntry.mk (@PySem.PyData.keyHash P (@PySem.Str.ofString "read_looks")) (@PySem.Value.str (@PySem.Str.ofString "read_looks") (1069 : Nat)) (@PySem.Value.ref (577 : Nat))) :: (@PySem.DictEntry.mk (@PySem.PyData.keyHash P (@PySem.Str.ofString "read_watcher")) (@PySem.Value.str (@PySem.Str.ofString "read_watcher") (1084 : Nat)) (@PySem.Value.ref (584 : Nat))) :: (@PySem.DictEntry.mk (@PySem.PyData.keyHash P (@PySem.Str.ofString "read_row")) (@PySem.Value.str (@PySem.Str.ofString "read_row") (1093 : Nat)) (@PySem.Value.ref (591 : Nat))) :: (@PySem.DictEntry.mk (@PySem.PyData.keyHash P (@PySem.Str.ofString "MOST_PARTS")) (@PySem.Value.str (@PySem.Str.ofString "MOST_PARTS") (1097 : Nat)) (@PySem.Value.int (5 : Int) (1096 : Nat))) :: (@PySem.DictEntry.mk (@PySem.PyData.keyHash P (@PySem.Str.ofString "MOST_ROWS")) (@PySem.Value.str (@PySem.Str.ofString "MOST_ROWS") (1099 : Nat)) (@PySem.Value.int (60 : Int) (1098 : Nat))) :: (@PySem.DictEntry.mk (@PySem.PyData.keyHash P (@PySem.Str.ofString "MOST_BLOCKS")) (@PySem.Value.str (@PySem.Str.ofString "MOST_BLOCKS") (1101 : Nat)) (@PySem.Value.int (8 : Int) (1100 : Nat))) :: (@PySem.DictEntry.mk (@PySem.PyData.keyHash P (@PySem.Str.ofString "need_row")) (@PySem.Value.str (@PySem.Str.ofString "need_row") (1114 : Nat)) (@PySem.Value.ref (598 : Nat))) :: (@PySem.DictEntry.mk (@PySem.PyData.keyHash P (@PySem.Str.ofString "opened_behind")) (@PySem.Value.str (@PySem.Str.ofString "opened_behind") (1120 : Nat)) (@PySem.Value.ref (603 : Nat))) :: (@PySem.DictEntry.mk (@PySem.PyData.keyHash P (@PySem.Str.ofString "need_parts")) (@PySem.Value.str (@PySem.Str.ofString "need_parts") (1126 : Nat)) (@PySem.Value.ref (608 : Nat))) :: (@PySem.DictEntry.mk (@PySem.PyData.keyHash P (@PySem.Str.ofString "jumps_of")) (@PySem.Value.str (@PySem.Str.ofString "jumps_of") (1132 : Nat)) (@PySem.Value.ref (613 : Nat))) :: (@PySem.DictEntry.mk (@PySem.PyData.keyHash P (@PySem.Str.ofString "read_part")) (@PySem.Value.str (@PySem.Str.ofString "read_part") (1142 : Nat)) (@PySem.Value.ref (620 : Nat))) :: (@PySem.DictEntry.mk (@PySem.PyData.keyHash P (@PySem.Str.ofString "Program")) (@PySem.Value.str (@PySem.Str.ofString "Program") (1343 : Nat)) (@PySem.Value.ref (759 : Nat))) :: (@PySem.DictEntry.mk (@PySem.PyData.keyHash P (@PySem.Str.ofString "_law_all_rows")) (@PySem.Value.str (@PySem.Str.ofString "_law_all_rows") (1355 : Nat)) (@PySem.Value.ref (770 : Nat))) :: (@PySem.DictEntry.mk (@PySem.PyData.keyHash P (@PySem.Str.ofString "_law_draw")) (@PySem.Value.str (@PySem.Str.ofString "_law_draw") (1368 : Nat)) (@PySem.Value.ref (777 : Nat))) :: (@PySem.DictEntry.mk (@PySem.PyData.keyHash P (@PySem.Str.ofString "_law_word")) (@PySem.Value.str (@PySem.Str.ofString "_law_word") (1374 : Nat)) (@PySem.Value.ref (782 : Nat))) :: (@PySem.DictEntry.mk (@PySem.PyData.keyHash P (@PySem.Str.ofString "_law_pool")) (@PySem.Value.str (@PySem.Str.ofString "_law_pool") (1381 : Nat)) (@PySem.Value.ref (789 : Nat))) :: (@PySem.DictEntry.mk (@PySem.PyData.keyHash P (@PySem.Str.ofString "_law_names")) (@PySem.Value.str (@PySem.Str.ofString "_law_names") (1387 : Nat)) (@PySem.Value.ref (794 : Nat))) :: (@PySem.DictEntry.mk (@PySem.PyData.keyHash P (@PySem.Str.ofString "_law_same")) (@PySem.Value.str (@PySem.Str.ofString "_law_same") (1396 : Nat)) (@PySem.Value.ref (801 : Nat))) :: (@PySem.DictEntry.mk (@PySem.PyData.keyHash P (@PySem.Str.ofString "_law_try")) (@PySem.Value.str (@PySem.Str.ofString "_law_try") (1404 : Nat)) (@PySem.Value.ref (808 : Nat))) :: (@PySem.DictEntry.mk (@PySem.PyData.keyHash P (@PySem.Str.ofString "_law_due")) (@PySem.Value.str (@PySem.Str.ofString "_law_due") (1417 : Nat)) (@PySem.Value.ref (815 : Nat))) :: (@PySem.DictEntry.mk (@PySem.PyData.keyHash P (@PySem.Str.ofString "_law_rows_of")) (@PySem.Value.str (@PySem.Str.ofString "_law_rows_of") (1423 : Nat)) (@PySem.Value.ref (820 : Nat))) :: (@PySem.DictEntry.mk (@PySem.PyData.keyHash P (@PySem.Str.ofString "law")) (@PySem.Value.str (@PySem.Str.ofString "law") (1429 : Nat)) (@PySem.Value.ref (825 : Nat))) :: [])) (80 : Nat)) (List.toArray []))) ::
(nat_lit 15, (@PySem.Obj.mk (@PySem.Value.type "tuple") Option.none (@PySem.Data.seq (List.toArray []) (0 : Nat)) (List.toArray []))) ::
(nat_lit 17, (@PySem.Obj.mk (@PySem.Value.type "tuple") Option.none (@PySem.Data.seq (List.toArray [(@PySem.Value.str (@PySem.Str.ofString "k") (190 : Nat))]) (0 : Nat)) (List.toArray []))) ::
(nat_lit 18, (@PySem.Obj.mk (@PySem.Value.type "tuple") Option.none (@PySem.Data.seq (List.toArray []) (0 : Nat)) (List.toArray []))) ::
(nat_lit 20, (@PySem.Obj.mk (@PySem.Value.type "code") Option.none (@PySem.Data.fields (List.toArray [(@PySem.Value.str (@PySem.Str.ofString "_wall") (187 : Nat)), (@PySem.Value.str (@PySem.Str.ofString "_wall") (188 : Nat)), (@PySem.Value.str (@PySem.Str.ofString "/claim/cut.py") (189 : Nat)), (@PySem.Value.int (1 : Int) (0 : Nat)), (@PySem.Value.int (1 : Int) (0 : Nat)), (@PySem.Value.int (0 : Int) (0 : Nat)), (@PySem.Value.int (0 : Int) (0 : Nat)), (@PySem.Value.int (3 : Int) (0 : Nat)), (@PySem.Value.ref (15 : Nat)), (@PySem.Value.bool Bool.true), (@PySem.Value.int (181 : Int) (0 : Nat)), (@PySem.Value.ref (16 : Nat)), PySem.Value.none, (@PySem.Value.ref (17 : Nat)), (@PySem.Value.ref (18 : Nat)), (@PySem.Value.ref (19 : Nat)), (@PySem.Value.int (191 : Int) (0 : Nat)), (@PySem.Value.int (1 : Int) (0 : Nat)), (@PySem.Value.str (@PySem.Str.ofString "/claim/cut.py") (192 : Nat))])) (List.toArray []))) ::
(nat_lit 21, (@PySem.Obj.mk (@PySem.Value.type "function") Option.none (@PySem.Data.func (PySem.FuncData.mk (@PySem.Str.ofString "_wall") (@PySem.Str.ofString "_wall") (defArgs s__wall) (PySem.FuncBody.stmts (defBody s__wall)) (defScope s__wall) (3 : Nat) [] PySem.Value.none PySem.Value.none PySem.Value.none (@PySem.Value.str (@PySem.Str.ofString "__main__") (164 : Nat)) Option.none (@PySem.Value.ref (20 : Nat)) PySem.Value.none (0 : Nat))) (List.toArray []))) ::
(nat_lit 22, (@PySem.Obj.mk (@PySem.Value.type "tuple") Option.none (@PySem.Data.seq (List.toArray [(@PySem.Value.type "ValueError")]) (0 : Nat)) (List.toArray []))) ::
(nat_lit 29, (@PySem.Obj.mk (@PySem.Value.type "tuple") Option.none (@PySem.Data.seq (List.toArray []) (0 : Nat)) (List.toArray []))) ::
(nat_lit 30, (@PySem.Obj.mk (@PySem.Value.type "dict") Option.none (@PySem.Data.dict (List.toArray [(@PySem.DictEntry.mk (@PySem.PyData.keyHash P (@PySem.Str.ofString "__module__")) (@PySem.Value.str (@PySem.Str.ofString "__module__") (203 : Nat)) (@PySem.Value.str (@PySem.Str.ofString "quietprobes.errors") (194 : Nat))), (@PySem.DictEntry.mk (@PySem.PyData.keyHash P (@PySem.Str.ofString "__firstlineno__")) (@PySem.Value.str (@PySem.Str.ofString "__firstlineno__") (207 : Nat)) (@PySem.Value.int (5 : Int) (206 : Nat))), (@PySem.DictEntry.mk (@PySem.PyData.keyHash P (@PySem.Str.ofString "__static_attributes__")) (@PySem.Value.str (@PySem.Str.ofString "__static_attributes__") (208 : Nat)) (@PySem.Value.ref (29 : Nat))), (@PySem.DictEntry.mk (@PySem.PyData.keyHash P (@PySem.Str.ofString "__weakref__")) (@PySem.Value.str (@PySem.Str.ofString "__weakref__") (210 : Nat)) (@PySem.Value.ref (32 : Nat))), (@PySem.DictEntry.mk (@PySem.PyData.keyHash P (@PySem.Str.ofString "__doc__")) (@PySem.Value.str (@PySem.Str.ofString "__doc__") (211 : Nat)) PySem.Value.none)]) (3 : Nat)) (List.toArray []))) ::
(nat_lit 31, (@PySem.Obj.mk (@PySem.Value.type "type") Option.none (@PySem.Data.cls (@PySem.ClassData.mk (@PySem.Str.ofString "QuietError") [(@PySem.Value.type "ValueError")] [(@PySem.Value.ref (31 : Nat)), (@PySem.Value.type "ValueError"), (@PySem.Value.type "Exception"), (@PySem.Value.type "BaseException"), (@PySem.Value.type "object")] (30 : Nat) (@PySem.Str.ofString "QuietError") Bool.true [] [(@PySem.Value.ref (53 : Nat)), (@PySem.Value.ref (74 : Nat)), (@PySem.Value.ref (95 : Nat)), (@PySem.Value.ref (116 : Nat)), (@PySem.Value.ref (137 : Nat)), (@PySem.Value.ref (158 : Nat)), (@PySem.Value.ref (179 : Nat)), (@PySem.Value.ref (200 : Nat)), (@PySem.Value.ref (221 : Nat)), (@PySem.Value.ref (242 : Nat)), (@PySem.Value.ref (263 : Nat)), (@PySem.Value.ref (284 : Nat))] Bool.false Option.none Bool.false)) (List.toArray [(Option.some (@PySem.Value.ref (22 : Nat))), Option.none, (Option.some (@PySem.Value.str (@PySem.Str.ofString "QuietError") (196 : Nat))), (Option.some (@PySem.Value.str (@PySem.Str.ofString "QuietError") (204 : Nat))), (Option.some (@PySem.Value.builtin "ValueError.__new__")), (Option.some (@PySem.Value.bool Bool.true))]))) ::
(nat_lit 32, (@PySem.Obj.mk (@PySem.Value.type "getset_descriptor") Option.none (@PySem.Data.fields (List.toArray [(@PySem.Value.str (@PySem.Str.ofString "__weakref__") (209 : Nat)), (@PySem.Value.ref (31 : Nat)), (@PySem.Value.builtin "ExceptionGroup.__weakref__"), PySem.Value.none])) (List.toArray []))) ::
(nat_lit 35, (@PySem.Obj.mk (@PySem.Value.type "tuple") Option.none (@PySem.Data.seq (List.toArray [(@PySem.Value.ref (31 : Nat))]) (0 : Nat)) (List.toArray []))) ::
(nat_lit 38, (@PySem.Obj.mk (@PySem.Value.type "cell") Option.none (@PySem.Data.cell (Option.some (@PySem.Value.ref (53 : Nat)))) (List.toArray []))) ::
(nat_lit 43, (@PySem.Obj.mk (@PySem.Value.type "tuple") Option.none (@PySem.Data.seq (List.toArray [(@PySem.Value.ref (38 : Nat))]) (0 : Nat)) (List.toArray []))) ::
(nat_lit 44, (@PySem.Obj.mk (@PySem.Value.type "tuple") Option.none (@PySem.Data.seq (List.toArray [(@PySem.Value.str (@PySem.Str.ofString "__class__") (229 : Nat))]) (0 : Nat)) (List.toArray []))) ::
(nat_lit 46, (@PySem.Obj.mk (@PySem.Value.type "tuple") Option.none (@PySem.Data.seq (List.toArray [(@PySem.Value.str (@PySem.Str.ofString "self") (230 : Nat)), (@PySem.Value.str (@PySem.Str.ofString "name") (231 : Nat))]) (0 : Nat)) (List.toArray []))) ::
(nat_lit 47, (@PySem.Obj.mk (@PySem.Value.type "tuple") Option.none (@PySem.Data.seq (List.toArray []) (0 : Nat)) (List.toArray []))) ::
(nat_lit 49, (@PySem.Obj.mk (@PySem.Value.type "code") Option.none (@PySem.Data.fields (List.toArray [(@PySem.Value.str (@PySem.Str.ofString "__init__") (226 : Nat)), (@PySem.Value.str (@PySem.Str.ofString "BadName.__init__") (227 : Nat)), (@PySem.Value.str (@PySem.Str.ofString "/claim/cut.py") (228 : Nat)), (@PySem.Value.int (9 : Int) (0 : Nat)), (@PySem.Value.int (2 : Int) (0 : Nat)), (@PySem.Value.int (0 : Int) (0 : Nat)), (@PySem.Value.int (0 : Int) (0 : Nat)), (@PySem.Value.int (3 : Int) (0 : Nat)), (@PySem.Value.ref (44 : Nat)), (@PySem.Value.bool Bool.true), (@PySem.Value.int (181 : Int) (0 : Nat)), (@PySem.Value.ref (45 : Nat)), PySem.Value.none, (@PySem.Value.ref (46 : Nat)), (@PySem.Value.ref (47 : Nat)), (@PySem.Value.ref (48 : Nat)), (@PySem.Value.int (232 : Int) (0 : Nat)), (@PySem.Value.int (9 : Int) (0 : Nat)), (@PySem.Value.str (@PySem.Str.ofString "/claim/cut.py") (233 : Nat))])) (List.toArray []))) ::
(nat_lit 50, (@PySem.Obj.mk (@PySem.Value.type "function") Option.none (@PySem.Data.func (PySem.FuncData.mk (@PySem.Str.ofString "__init__") (@PySem.Str.ofString "BadName.__init__") (defArgs s_BadName___init__) (PySem.FuncBody.stmts (defBody s_BadName___init__)) (defScope s_BadName___init__) (3 : Nat) [((@PySem.Str.ofString "__class__"), (38 : Nat))] PySem.Value.none PySem.Value.none PySem.Value.none (@PySem.Value.str (@PySem.Str.ofString "quietprobes.errors") (194 : Nat)) Option.none (@PySem.Value.ref (49 : Nat)) (@PySem.Value.ref (43 : Nat)) (0 : Nat))) (List.toArray []))) ::
(nat_lit 51, (@PySem.Obj.mk (@PySem.Value.type "tuple") Option.none (@PySem.Data.seq (List.toArray [(@PySem.Value.str (@PySem.Str.ofString "name") (235 : Nat))]) (0 : Nat)) (List.toArray []))) ::
(nat_lit 52, (@PySem.Obj.mk (@PySem.Value.type "dict") Option.none (@PySem.Data.dict (List.toArray [(@PySem.DictEntry.mk (@PySem.PyData.keyHash P (@PySem.Str.ofString "__module__")) (@PySem.Value.str (@PySem.Str.ofString "__module__") (221 : Nat)) (@PySem.Value.str (@PySem.Str.ofString "quietprobes.errors") (194 : Nat))), (@PySem.DictEntry.mk (@PySem.PyData.keyHash P (@PySem.Str.ofString "__firstlineno__")) (@PySem.Value.str (@PySem.Str.ofString "__firstlineno__") (225 : Nat)) (@PySem.Value.int (7 : Int) (224 : Nat))), (@PySem.DictEntry.mk (@PySem.PyData.keyHash P (@PySem.Str.ofString "__init__")) (@PySem.Value.str (@PySem.Str.ofString "__init__") (234 : Nat)) (@PySem.Value.ref (50 : Nat))), (@PySem.DictEntry.mk (@PySem.PyData.keyHash P (@PySem.Str.ofString "__static_attributes__")) (@PySem.Value.str (@PySem.Str.ofString "__static_attributes__") (236 : Nat)) (@PySem.Value.ref (51 : Nat))), (@PySem.DictEntry.mk (@PySem.PyData.keyHash P (@PySem.Str.ofString "__doc__")) (@PySem.Value.str (@PySem.Str.ofString "__doc__") (238 : Nat)) PySem.Value.none)]) (3 : Nat)) (List.toArray []))) ::
(nat_lit 53, (@PySem.Obj.mk (@PySem.Value.type "type") Option.none (@PySem.Data.cls (@PySem.ClassData.mk (@PySem.Str.ofString "BadName") [(@PySem.Value.ref (31 : Nat))] [(@PySem.Value.ref (53 : Nat)), (@PySem.Value.ref (31 : Nat)), (@PySem.Value.type "ValueError"), (@PySem.Value.type "Exception"), (@PySem.Value.type "BaseException"), (@PySem.Value.type "object")] (52 : Nat) (@PySem.Str.ofString "BadName") Bool.true [] [] Bool.false Option.none Bool.false)) (List.toArray [(Option.some (@PySem.Value.ref (35 : Nat))), Option.none, (Option.some (@PySem.Value.str (@PySem.Str.ofString "BadName") (214 : Nat))), (Option.some (@PySem.Value.str (@PySem.Str.ofString "BadName") (222 : Nat))), (Option.some (@PySem.Value.builtin "ValueError.__new__")), (Option.some (@PySem.Value.bool Bool.true))]))) ::
(nat_lit 56, (@PySem.Obj.mk (@PySem.Value.type "tuple") Option.none (@PySem.Data.seq (List.toArray [(@PySem.Value.ref (31 : Nat))]) (0 : Nat)) (List.toArray []))) ::
(nat_lit 59, (@PySem.Obj.mk (@PySem.Value.type "cell") Option.none (@PySem.Data.cell (Option.some (@PySem.Value.ref (74 : Nat)))) (List.toArray []))) ::
(nat_lit 64, (@PySem.Obj.mk (@PySem.Value.type "tuple") Option.none (@PySem.Data.seq (List.toArray [(@PySem.Value.ref (59 : Nat))]) (0 : Nat)) (List.toArray []))) ::
(nat_lit 65, (@PySem.Obj.mk (@PySem.Value.type "tuple") Option.none (@PySem.Data.seq (List.toArray [(@PySem.Value.str (@PySem.Str.ofString "__class__") (256 : Nat))]) (0 : Nat)) (List.toArray []))) ::
(nat_lit 67, (@PySem.Obj.mk (@PySem.Value.type "tuple") Option.none (@PySem.Data.seq (List.toArray [(@PySem.Value.str (@PySem.Str.ofString "self") (257 : Nat)), (@PySem.Value.str (@PySem.Str.ofString "number") (258 : Nat))]) (0 : Nat)) (List.toArray []))) ::
(nat_lit 68, (@PySem.Obj.mk (@PySem.Value.type "tuple") Option.none (@PySem.Data.seq (List.toArray []) (0 : Nat)) (List.toArray []))) ::
(nat_lit 70, (@PySem.Obj.mk (@PySem.Value.type "code") Option.none (@PySem.Data.fields (List.toArray [(@PySem.Value.str (@PySem.Str.ofString "__init__") (253 : Nat)), (@PySem.Value.str (@PySem.Str.ofString "BadRow.__init__") (254 : Nat)), (@PySem.Value.str (@PySem.Str.ofString "/claim/cut.py") (255 : Nat)), (@PySem.Value.int (14 : Int) (0 : Nat)), (@PySem.Value.int (2 : Int) (0 : Nat)), (@PySem.Value.int (0 : Int) (0 : Nat)), (@PySem.Value.int (0 : Int) (0 : Nat)), (@PySem.Value.int (3 : Int) (0 : Nat)), (@PySem.Value.ref (65 : Nat)), (@PySem.Value.bool Bool.true), (@PySem.Value.int (181 : Int) (0 : Nat)), (@PySem.Value.ref (66 : Nat)), PySem.Value.none, (@PySem.Value.ref (67 : Nat)), (@PySem.Value.ref (68 : Nat)), (@PySem.Value.ref (69 : Nat)), (@PySem.Value.int (259 : Int) (0 : Nat)), (@PySem.Value.int (14 : Int) (0 : Nat)), (@PySem.Value.str (@PySem.Str.ofString "/claim/cut.py") (260 : Nat))])) (List.toArray []))) ::
(nat_lit 71, (@PySem.Obj.mk (@PySem.Value.type "function") Option.none (@PySem.Data.func (PySem.FuncData.mk (@PySem.Str.ofString "__init__") (@PySem.Str.ofString "BadRow.__init__") (defArgs s_BadRow___init__) (PySem.FuncBody.stmts (defBody s_BadRow___init__)) (defScope s_BadRow___init__) (3 : Nat) [((@PySem.Str.ofString "__class__"), (59 : Nat))] PySem.Value.none PySem.Value.none PySem.Value.none (@PySem.Value.str (@PySem.Str.ofString "quietprobes.errors") (194 : Nat)) Option.none (@PySem.Value.ref (70 : Nat)) (@PySem.Value.ref (64 : Nat)) (0 : Nat))) (List.toArray []))) ::
(nat_lit 72, (@PySem.Obj.mk (@PySem.Value.type "tuple") Option.none (@PySem.Data.seq (List.toArray [(@PySem.Value.str (@PySem.Str.ofString "number") (262 : Nat))]) (0 : Nat)) (List.toArray []))) ::
(nat_lit 73, (@PySem.Obj.mk (@PySem.Value.type "dict") Option.none (@PySem.Data.dict (List.toArray [(@PySem.DictEntry.mk (@PySem.PyData.keyHash P (@PySem.Str.ofString "__module__")) (@PySem.Value.str (@PySem.Str.ofString "__module__") (248 : Nat)) (@PySem.Value.str (@PySem.Str.ofString "quietprobes.errors") (194 : Nat))), (@PySem.DictEntry.mk (@PySem.PyData.keyHash P (@PySem.Str.ofString "__firstlineno__")) (@PySem.Value.str (@PySem.Str.ofString "__firstlineno__") (252 : Nat)) (@PySem.Value.int (12 : Int) (251 : Nat))), (@PySem.DictEntry.mk (@PySem.PyData.keyHash P (@PySem.Str.ofString "__init__")) (@PySem.Value.str (@PySem.Str.ofString "__init__") (261 : Nat)) (@PySem.Value.ref (71 : Nat))), (@PySem.DictEntry.mk (@PySem.PyData.keyHash P (@PySem.Str.ofString "__static_attributes__")) (@PySem.Value.str (@PySem.Str.ofString "__static_attributes__") (263 : Nat)) (@PySem.Value.ref (72 : Nat))), (@PySem.DictEntry.mk (@PySem.PyData.keyHash P (@PySem.Str.ofString "__doc__")) (@PySem.Value.str (@PySem.Str.ofString "__doc__") (265 : Nat)) PySem.Value.none)]) (3 : Nat)) (List.toArray []))) ::
(nat_lit 74, (@PySem.Obj.mk (@PySem.Value.type "type") Option.none (@PySem.Data.cls (@PySem.ClassData.mk (@PySem.Str.ofString "BadRow") [(@PySem.Value.ref (31 : Nat))] [(@PySem.Value.ref (74 : Nat)), (@PySem.Value.ref (31 : Nat)), (@PySem.Value.type "ValueError"), (@PySem.Value.type "Exception"), (@PySem.Value.type "BaseException"), (@PySem.Value.type "object")] (73 : Nat) (@PySem.Str.ofString "BadRow") Bool.true [] [] Bool.false Option.none Bool.false)) (List.toArray [(Option.some (@PySem.Value.ref (56 : Nat))), Option.none, (Option.some (@PySem.Value.str (@PySem.Str.ofString "BadRow") (241 : Nat))), (Option.some (@PySem.Value.str (@PySem.Str.ofString "BadRow") (249 : Nat))), (Option.some (@PySem.Value.builtin "ValueError.__new__")), (Option.some (@PySem.Value.bool Bool.true))]))) ::
(nat_lit 77, (@PySem.Obj.mk (@PySem.Value.type "tuple") Option.none (@PySem.Data.seq (List.toArray [(@PySem.Value.ref (31 : Nat))]) (0 : Nat)) (List.toArray []))) ::
(nat_lit 80, (@PySem.Obj.mk (@PySem.Value.type "cell") Option.none (@PySem.Data.cell (Option.some (@PySem.Value.ref (95 : Nat)))) (List.toArray []))) ::
(nat_lit 85, (@PySem.Obj.mk (@PySem.Value.type "tuple") Option.none (@PySem.Data.seq (List.toArray [(@PySem.Value.ref (80 : Nat))]) (0 : Nat)) (List.toArray []))) ::
(nat_lit 86, (@PySem.Obj.mk (@PySem.Value.type "tuple") Option.none (@PySem.Data.seq (List.toArray [(@PySem.Value.str (@PySem.Str.ofString "__class__") (283 : Nat))]) (0 : Nat)) (List.toArray []))) ::
(nat_lit 88, (@PySem.Obj.mk (@PySem.Value.type "tuple") Option.none (@PySem.Data.seq (List.toArray [(@PySem.Value.str (@PySem.Str.ofString "self") (284 : Nat)), (@PySem.Value.str (@PySem.Str.ofString "place") (285 : Nat))]) (0 : Nat)) (List.toArray []))) ::
(nat_lit 89, (@PySem.Obj.mk (@PySem.Value.type "tuple") Option.none (@PySem.Data.seq (List.toArray []) (0 : Nat)) (List.toArray []))) ::
(nat_lit 91, (@PySem.Obj.mk (@PySem.Value.type "code") Option.none (@PySem.Data.fields (List.toArray [(@PySem.Value.str (@PySem.Str.ofString "__init__") (280 : Nat)), (@PySem.Value.str (@PySem.Str.ofString "BadPlace.__init__") (281 : Nat)), (@PySem.Value.str (@PySem.Str.ofString "/claim/cut.py") (282 : Nat)), (@PySem.Value.int (19 : Int) (0 : Nat)), (@PySem.Value.int (2 : Int) (0 : Nat)), (@PySem.Value.int (0 : Int) (0 : Nat)), (@PySem.Value.int (0 : Int) (0 : Nat)), (@PySem.Value.int (3 : Int) (0 : Nat)), (@PySem.Value.ref (86 : Nat)), (@PySem.Value.bool Bool.true), (@PySem.Value.int (181 : Int) (0 : Nat)), (@PySem.Value.ref (87 : Nat)), PySem.Value.none, (@PySem.Value.ref (88 : Nat)), (@PySem.Value.ref (89 : Nat)), (@PySem.Value.ref (90 : Nat)), (@PySem.Value.int (286 : Int) (0 : Nat)), (@PySem.Value.int (19 : Int) (0 : Nat)), (@PySem.Value.str (@PySem.Str.ofString "/claim/cut.py") (287 : Nat))])) (List.toArray []))) ::
(nat_lit 92, (@PySem.Obj.mk (@PySem.Value.type "function") Option.none (@PySem.Data.func (PySem.FuncData.mk (@PySem.Str.ofString "__init__") (@PySem.Str.ofString "BadPlace.__init__") (defArgs s_BadPlace___init__) (PySem.FuncBody.stmts (defBody s_BadPlace___init__)) (defScope s_BadPlace___init__) (3 : Nat) [((@PySem.Str.ofString "__class__"), (80 : Nat))] PySem.Value.none PySem.Value.none PySem.Value.none (@PySem.Value.str (@PySem.Str.ofString "quietprobes.errors") (194 : Nat)) Option.none (@PySem.Value.ref (91 : Nat)) (@PySem.Value.ref (85 : Nat)) (0 : Nat))) (List.toArray []))) ::
(nat_lit 93, (@PySem.Obj.mk (@PySem.Value.type "tuple") Option.none (@PySem.Data.seq (List.toArray [(@PySem.Value.str (@PySem.Str.ofString "place") (289 : Nat))]) (0 : Nat)) (List.toArray []))) ::
(nat_lit 94, (@PySem.Obj.mk (@PySem.Value.type "dict") Option.none (@PySem.Data.dict (List.toArray [(@PySem.DictEntry.mk (@PySem.PyData.keyHash P (@PySem.Str.ofString "__module__")) (@PySem.Value.str (@PySem.Str.ofString "__module__") (275 : Nat)) (@PySem.Value.str (@PySem.Str.ofString "quietprobes.errors") (194 : Nat))), (@PySem.DictEntry.mk (@PySem.PyData.keyHash P (@PySem.Str.ofString "__firstlineno__")) (@PySem.Value.str (@PySem.Str.ofString "__firstlineno__") (279 : Nat)) (@PySem.Value.int (17 : Int) (278 : Nat))), (@PySem.DictEntry.mk (@PySem.PyData.keyHash P (@PySem.Str.ofString "__init__")) (@PySem.Value.str (@PySem.Str.ofString "__init__") (288 : Nat)) (@PySem.Value.ref (92 : Nat))), (@PySem.DictEntry.mk (@PySem.PyData.keyHash P (@PySem.Str.ofString "__static_attributes__")) (@PySem.Value.str (@PySem.Str.ofString "__static_attributes__") (290 : Nat)) (@PySem.Value.ref (93 : Nat))), (@PySem.DictEntry.mk (@PySem.PyData.keyHash P (@PySem.Str.ofString "__doc__")) (@PySem.Value.str (@PySem.Str.ofString "__doc__") (292 : Nat)) PySem.Value.none)]) (3 : Nat)) (List.toArray []))) ::
(nat_lit 95, (@PySem.Obj.mk (@PySem.Value.type "type") Option.none (@PySem.Data.cls (@PySem.ClassData.mk (@PySem.Str.ofString "BadPlace") [(@PySem.Value.ref (31 : Nat))] [(@PySem.Value.ref (95 : Nat)), (@PySem.Value.ref (31 : Nat)), (@PySem.Value.type "ValueError"), (@PySem.Value.type "Exception"), (@PySem.Value.type "BaseException"), (@PySem.Value.type "object")] (94 : Nat) (@PySem.Str.ofString "BadPlace") Bool.true [] [] Bool.false Option.none Bool.false)) (List.toArray [(Option.some (@PySem.Value.ref (77 : Nat))), Option.none, (Option.some (@PySem.Value.str (@PySem.Str.ofString "BadPlace") (268 : Nat))), (Option.some (@PySem.Value.str (@PySem.Str.ofString "BadPlace") (276 : Nat))), (Option.some (@PySem.Value.builtin "ValueError.__new__")), (Option.some (@PySem.Value.bool Bool.true))]))) ::
(nat_lit 98, (@PySem.Obj.mk (@PySem.Value.type "tuple") Option.none (@PySem.Data.seq (List.toArray [(@PySem.Value.ref (31 : Nat))]) (0 : Nat)) (List.toArray []))) ::
(nat_lit 101, (@PySem.Obj.mk (@PySem.Value.type "cell") Option.none (@PySem.Data.cell (Option.some (@PySem.Value.ref (116 : Nat)))) (List.toArray []))) ::
(nat_lit 106, (@PySem.Obj.mk (@PySem.Value.type "tuple") Option.none (@PySem.Data.seq (List.toArray [(@PySem.Value.ref (101 : Nat))]) (0 : Nat)) (List.toArray []))) ::
(nat_lit 107, (@PySem.Obj.mk (@PySem.Value.type "tuple") Option.none (@PySem.Data.seq (List.toArray [(@PySem.Value.str (@PySem.Str.ofString "__class__") (310 : Nat))]) (0 : Nat)) (List.toArray []))) ::
(nat_lit 109, (@PySem.Obj.mk (@PySem.Value.type "tuple") Option.none (@PySem.Data.seq (List.toArray [(@PySem.Value.str (@PySem.Str.ofString "self") (311 : Nat)), (@PySem.Value.str (@PySem.Str.ofString "line") (312 : Nat))]) (0 : Nat)) (List.toArray []))) ::
(nat_lit 110, (@PySem.Obj.mk (@PySem.Value.type "tuple") Option.none (@PySem.Data.seq (List.toArray []) (0 : Nat)) (List.toArray []))) ::
(nat_lit 112, (@PySem.Obj.mk (@PySem.Value.type "code") Option.none (@PySem.Data.fields (List.toArray [(@PySem.Value.str (@PySem.Str.ofString "__init__") (307 : Nat)), (@PySem.Value.str (@PySem.Str.ofString "BadText.__init__") (308 : Nat)), (@PySem.Value.str (@PySem.Str.ofString "/claim/cut.py") (309 : Nat)), (@PySem.Value.int (24 : Int) (0 : Nat)), (@PySem.Value.int (2 : Int) (0 : Nat)), (@PySem.Value.int (0 : Int) (0 : Nat)), (@PySem.Value.int (0 : Int) (0 : Nat)), (@PySem.Value.int (3 : Int) (0 : Nat)), (@PySem.Value.ref (107 : Nat)), (@PySem.Value.bool Bool.true), (@PySem.Value.int (181 : Int) (0 : Nat)), (@PySem.Value.ref (108 : Nat)), PySem.Value.none, (@PySem.Value.ref (109 : Nat)), (@PySem.Value.ref (110 : Nat)), (@PySem.Value.ref (111 : Nat)), (@PySem.Value.int (313 : Int) (0 : Nat)), (@PySem.Value.int (24 : Int) (0 : Nat)), (@PySem.Value.str (@PySem.Str.ofString "/claim/cut.py") (314 : Nat))])) (List.toArray []))) ::
(nat_lit 113, (@PySem.Obj.mk (@PySem.Value.type "function") Option.none (@PySem.Data.func (PySem.FuncData.mk (@PySem.Str.ofString "__init__") (@PySem.Str.ofString "BadText.__init__") (defArgs s_BadText___init__) (PySem.FuncBody.stmts (defBody s_BadText___init__)) (defScope s_BadText___init__) (3 : Nat) [((@PySem.Str.ofString "__class__"), (101 : Nat))] PySem.Value.none PySem.Value.none PySem.Value.none (@PySem.Value.str (@PySem.Str.ofString "quietprobes.errors") (194 : Nat)) Option.none (@PySem.Value.ref (112 : Nat)) (@PySem.Value.ref (106 : Nat)) (0 : Nat))) (List.toArray []))) ::
(nat_lit 114, (@PySem.Obj.mk (@PySem.Value.type "tuple") Option.none (@PySem.Data.seq (List.toArray [(@PySem.Value.str (@PySem.Str.ofString "line") (316 : Nat))]) (0 : Nat)) (List.toArray []))) ::
(nat_lit 115, (@PySem.Obj.mk (@PySem.Value.type "dict") Option.none (@PySem.Data.dict (List.toArray [(@PySem.DictEntry.mk (@PySem.PyData.keyHash P (@PySem.Str.ofString "__module__")) (@PySem.Value.str (@PySem.Str.ofString "__module__") (302 : Nat)) (@PySem.Value.str (@PySem.Str.ofString "quietprobes.errors") (194 : Nat))), (@PySem.DictEntry.mk (@PySem.PyData.keyHash P (@PySem.Str.ofString "__firstlineno__")) (@PySem.Value.str (@PySem.Str.ofString "__firstlineno__") (306 : Nat)) (@PySem.Value.int (22 : Int) (305 : Nat))), (@PySem.DictEntry.mk (@PySem.PyData.keyHash P (@PySem.Str.ofString "__init__")) (@PySem.Value.str (@PySem.Str.ofString "__init__") (315 : Nat)) (@PySem.Value.ref (113 : Nat))), (@PySem.DictEntry.mk (@PySem.PyData.keyHash P (@PySem.Str.ofString "__static_attributes__")) (@PySem.Value.str (@PySem.Str.ofString "__static_attributes__") (317 : Nat)) (@PySem.Value.ref (114 : Nat))), (@PySem.DictEntry.mk (@PySem.PyData.keyHash P (@PySem.Str.ofString "__doc__")) (@PySem.Value.str (@PySem.Str.ofString "__doc__") (319 : Nat)) PySem.Value.none)]) (3 : Nat)) (List.toArray []))) ::
(nat_lit 116, (@PySem.Obj.mk (@PySem.Value.type "type") Option.none (@PySem.Data.cls (@PySem.ClassData.mk (@PySem.Str.ofString "BadText") [(@PySem.Value.ref (31 : Nat))] [(@PySem.Value.ref (116 : Nat)), (@PySem.Value.ref (31 : Nat)), (@PySem.Value.type "ValueError"), (@PySem.Value.type "Exception"), (@PySem.Value.type "BaseException"), (@PySem.Value.type "object")] (115 : Nat) (@PySem.Str.ofString "BadText") Bool.true [] [] Bool.false Option.none Bool.false)) (List.toArray [(Option.some (@PySem.Value.ref (98 : Nat))), Option.none, (Option.some (@PySem.Value.str (@PySem.Str.ofString "BadText") (295 : Nat))), (Option.some (@PySem.Value.str (@PySem.Str.ofString "BadText") (303 : Nat))), (Option.some (@PySem.Value.builtin "ValueError.__new__")), (Option.some (@PySem.Value.bool Bool.true))]))) ::
(nat_lit 119, (@PySem.Obj.mk (@PySem.Value.type "tuple") Option.none (@PySem.Data.seq (List.toArray [(@PySem.Value.ref (31 : Nat))]) (0 : Nat)) (List.toArray []))) ::
(nat_lit 122, (@PySem.Obj.mk (@PySem.Value.type "cell") Option.none (@PySem.Data.cell (Option.some (@PySem.Value.ref (137 : Nat)))) (List.toArray []))) ::
(nat_lit 127, (@PySem.Obj.mk (@PySem.Value.type "tuple") Option.none (@PySem.Data.seq (List.toArray [(@PySem.Value.ref (122 : Nat))]) (0 : Nat)) (List.toArray []))) ::
(nat_lit 128, (@PySem.Obj.mk (@PySem.Value.type "tuple") Option.none (@PySem.Data.seq (List.toArray [(@PySem.Value.str (@PySem.Str.ofString "__class__") (337 : Nat))]) (0 : Nat)) (List.toArray []))) ::
(nat_lit 130, (@PySem.Obj.mk (@PySem.Value.type "tuple") Option.none (@PySem.Data.seq (List.toArray [(@PySem.Value.str (@PySem.Str.ofString "self") (338 : Nat)), (@PySem.Value.str (@PySem.Str.ofString "name") (339 : Nat))]) (0 : Nat)) (List.toArray []))) ::
(nat_lit 131, (@PySem.Obj.mk (@PySem.Value.type "tuple") Option.none (@PySem.Data.seq (List.toArray []) (0 : Nat)) (List.toArray []))) ::
(nat_lit 133, (@PySem.Obj.mk (@PySem.Value.type "code") Option.none (@PySem.Data.fields (List.toArray [(@PySem.Value.str (@PySem.Str.ofString "__init__") (334 : Nat)), (@PySem.Value.str (@PySem.Str.ofString "NoThing.__init__") (335 : Nat)), (@PySem.Value.str (@PySem.Str.ofString "/claim/cut.py") (336 : Nat)), (@PySem.Value.int (29 : Int) (0 : Nat)), (@PySem.Value.int (2 : Int) (0 : Nat)), (@PySem.Value.int (0 : Int) (0 : Nat)), (@PySem.Value.int (0 : Int) (0 : Nat)), (@PySem.Value.int (3 : Int) (0 : Nat)), (@PySem.Value.ref (128 : Nat)), (@PySem.Value.bool Bool.true), (@PySem.Value.int (181 : Int) (0 : Nat)), (@PySem.Value.ref (129 : Nat)), PySem.Value.none, (@PySem.Value.ref (130 : Nat)), (@PySem.Value.ref (131 : Nat)), (@PySem.Value.ref (132 : Nat)), (@PySem.Value.int (340 : Int) (0 : Nat)), (@PySem.Value.int (29 : Int) (0 : Nat)), (@PySem.Value.str (@PySem.Str.ofString "/claim/cut.py") (341 : Nat))])) (List.toArray []))) ::
(nat_lit 134, (@PySem.Obj.mk (@PySem.Value.type "function") Option.none (@PySem.Data.func (PySem.FuncData.mk (@PySem.Str.ofString "__init__") (@PySem.Str.ofString "NoThing.__init__") (defArgs s_NoThing___init__) (PySem.FuncBody.stmts (defBody s_NoThing___init__)) (defScope s_NoThing___init__) (3 : Nat) [((@PySem.Str.ofString "__class__"), (122 : Nat))] PySem.Value.none PySem.Value.none PySem.Value.none (@PySem.Value.str (@PySem.Str.ofString "quietprobes.errors") (194 : Nat)) Option.none (@PySem.Value.ref (133 : Nat)) (@PySem.Value.ref (127 : Nat)) (0 : Nat))) (List.toArray []))) ::
(nat_lit 135, (@PySem.Obj.mk (@PySem.Value.type "tuple") Option.none (@PySem.Data.seq (List.toArray [(@PySem.Value.str (@PySem.Str.ofString "name") (343 : Nat))]) (0 : Nat)) (List.toArray []))) ::
(nat_lit 136, (@PySem.Obj.mk (@PySem.Value.type "dict") Option.none (@PySem.Data.dict (List.toArray [(@PySem.DictEntry.mk (@PySem.PyData.keyHash P (@PySem.Str.ofString "__module__")) (@PySem.Value.str (@PySem.Str.ofString "__module__") (329 : Nat)) (@PySem.Value.str (@PySem.Str.ofString "quietprobes.errors") (194 : Nat))), (@PySem.DictEntry.mk (@PySem.PyData.keyHash P (@PySem.Str.ofString "__firstlineno__")) (@PySem.Value.str (@PySem.Str.ofString "__firstlineno__") (333 : Nat)) (@PySem.Value.int (27 : Int) (332 : Nat))), (@PySem.DictEntry.mk (@PySem.PyData.keyHash P (@PySem.Str.ofString "__init__")) (@PySem.Value.str (@PySem.Str.ofString "__init__") (342 : Nat)) (@PySem.Value.ref (134 : Nat))), (@PySem.DictEntry.mk (@PySem.PyData.keyHash P (@PySem.Str.ofString "__static_attributes__")) (@PySem.Value.str (@PySem.Str.ofString "__static_attributes__") (344 : Nat)) (@PySem.Value.ref (135 : Nat))), (@PySem.DictEntry.mk (@PySem.PyData.keyHash P (@PySem.Str.ofString "__doc__")) (@PySem.Value.str (@PySem.Str.ofString "__doc__") (346 : Nat)) PySem.Value.none)]) (3 : Nat)) (List.toArray []))) ::
(nat_lit 137, (@PySem.Obj.mk (@PySem.Value.type "type") Option.none (@PySem.Data.cls (@PySem.ClassData.mk (@PySem.Str.ofString "NoThing") [(@PySem.Value.ref (31 : Nat))] [(@PySem.Value.ref (137 : Nat)), (@PySem.Value.ref (31 : Nat)), (@PySem.Value.type "ValueError"), (@PySem.Value.type "Exception"), (@PySem.Value.type "BaseException"), (@PySem.Value.type "object")] (136 : Nat) (@PySem.Str.ofString "NoThing") Bool.true [] [] Bool.false Option.none Bool.false)) (List.toArray [(Option.some (@PySem.Value.ref (119 : Nat))), Option.none, (Option.some (@PySem.Value.str (@PySem.Str.ofString "NoThing") (322 : Nat))), (Option.some (@PySem.Value.str (@PySem.Str.ofString "NoThing") (330 : Nat))), (Option.some (@PySem.Value.builtin "ValueError.__new__")), (Option.some (@PySem.Value.bool Bool.true))]))) ::
(nat_lit 140, (@PySem.Obj.mk (@PySem.Value.type "tuple") Option.none (@PySem.Data.seq (List.toArray [(@PySem.Value.ref (31 : Nat))]) (0 : Nat)) (List.toArray []))) ::
(nat_lit 143, (@PySem.Obj.mk (@PySem.Value.type "cell") Option.none (@PySem.Data.cell (Option.some (@PySem.Value.ref (158 : Nat)))) (List.toArray []))) ::
(nat_lit 148, (@PySem.Obj.mk (@PySem.Value.type "tuple") Option.none (@PySem.Data.seq (List.toArray [(@PySem.Value.ref (143 : Nat))]) (0 : Nat)) (List.toArray []))) ::
(nat_lit 149, (@PySem.Obj.mk (@PySem.Value.type "tuple") Option.none (@PySem.Data.seq (List.toArray [(@PySem.Value.str (@PySem.Str.ofString "__class__") (364 : Nat))]) (0 : Nat)) (List.toArray []))) ::
(nat_lit 151, (@PySem.Obj.mk (@PySem.Value.type "tuple") Option.none (@PySem.Data.seq (List.toArray [(@PySem.Value.str (@PySem.Str.ofString "self") (365 : Nat)), (@PySem.Value.str (@PySem.Str.ofString "key") (366 : Nat))]) (0 : Nat)) (List.toArray []))) ::
(nat_lit 152, (@PySem.Obj.mk (@PySem.Value.type "tuple") Option.none (@PySem.Data.seq (List.toArray []) (0 : Nat)) (List.toArray []))) ::
(nat_lit 154, (@PySem.Obj.mk (@PySem.Value.type "code") Option.none (@PySem.Data.fields (List.toArray [(@PySem.Value.str (@PySem.Str.ofString "__init__") (361 : Nat)), (@PySem.Value.str (@PySem.Str.ofString "NoKey.__init__") (362 : Nat)), (@PySem.Value.str (@PySem.Str.ofString "/claim/cut.py") (363 : Nat)), (@PySem.Value.int (34 : Int) (0 : Nat)), (@PySem.Value.int (2 : Int) (0 : Nat)), (@PySem.Value.int (0 : Int) (0 : Nat)), (@PySem.Value.int (0 : Int) (0 : Nat)), (@PySem.Value.int (3 : Int) (0 : Nat)), (@PySem.Value.ref (149 : Nat)), (@PySem.Value.bool Bool.true), (@PySem.Value.int (181 : Int) (0 : Nat)), (@PySem.Value.ref (150 : Nat)), PySem.Value.none, (@PySem.Value.ref (151 : Nat)), (@PySem.Value.ref (152 : Nat)), (@PySem.Value.ref (153 : Nat)), (@PySem.Value.int (367 : Int) (0 : Nat)), (@PySem.Value.int (34 : Int) (0 : Nat)), (@PySem.Value.str (@PySem.Str.ofString "/claim/cut.py") (368 : Nat))])) (List.toArray []))) ::
(nat_lit 155, (@PySem.Obj.mk (@PySem.Value.type "function") Option.none (@PySem.Data.func (PySem.FuncData.mk (@PySem.Str.ofString "__init__") (@PySem.Str.ofString "NoKey.__init__") (defArgs s_NoKey___init__) (PySem.FuncBody.stmts (defBody s_NoKey___init__)) (defScope s_NoKey___init__) (3 : Nat) [((@PySem.Str.ofString "__class__"), (143 : Nat))] PySem.Value.none PySem.Value.none PySem.Value.none (@PySem.Value.str (@PySem.Str.ofString "quietprobes.errors") (194 : Nat)) Option.none (@PySem.Value.ref (154 : Nat)) (@PySem.Value.ref (148 : Nat)) (0 : Nat))) (List.toArray []))) ::
(nat_lit 156, (@PySem.Obj.mk (@PySem.Value.type "tuple") Option.none (@PySem.Data.seq (List.toArray [(@PySem.Value.str (@PySem.Str.ofString "key") (370 : Nat))]) (0 : Nat)) (List.toArray []))) ::
(nat_lit 157, (@PySem.Obj.mk (@PySem.Value.type "dict") Option.none (@PySem.Data.dict (List.toArray [(@PySem.DictEntry.mk (@PySem.PyData.keyHash P (@PySem.Str.ofString "__module__")) (@PySem.Value.str (@PySem.Str.ofString "__module__") (356 : Nat)) (@PySem.Value.str (@PySem.Str.ofString "quietprobes.errors") (194 : Nat))), (@PySem.DictEntry.mk (@PySem.PyData.keyHash P (@PySem.Str.ofString "__firstlineno__")) (@PySem.Value.str (@PySem.Str.ofString "__firstlineno__") (360 : Nat)) (@PySem.Value.int (32 : Int) (359 : Nat))), (@PySem.DictEntry.mk (@PySem.PyData.keyHash P (@PySem.Str.ofString "__init__")) (@PySem.Value.str (@PySem.Str.ofString "__init__") (369 : Nat)) (@PySem.Value.ref (155 : Nat))), (@PySem.DictEntry.mk (@PySem.PyData.keyHash P (@PySem.Str.ofString "__static_attributes__")) (@PySem.Value.str (@PySem.Str.ofString "__static_attributes__") (371 : Nat)) (@PySem.Value.ref (156 : Nat))), (@PySem.DictEntry.mk (@PySem.PyData.keyHash P (@PySem.Str.ofString "__doc__")) (@PySem.Value.str (@PySem.Str.ofString "__doc__") (373 : Nat)) PySem.Value.none)]) (3 : Nat)) (List.toArray []))) ::
(nat_lit 158, (@PySem.Obj.mk (@PySem.Value.type "type") Option.none (@PySem.Data.cls (@PySem.ClassData.mk (@PySem.Str.ofString "NoKey") [(@PySem.Value.ref (31 : Nat))] [(@PySem.Value.ref (158 : Nat)), (@PySem.Value.ref (31 : Nat)), (@PySem.Value.type "ValueError"), (@PySem.Value.type "Exception"), (@PySem.Value.type "BaseException"), (@PySem.Value.type "object")] (157 : Nat) (@PySem.Str.ofString "NoKey") Bool.true [] [] Bool.false Option.none Bool.false)) (List.toArray [(Option.some (@PySem.Value.ref (140 : Nat))), Option.none, (Option.some (@PySem.Value.str (@PySem.Str.ofString "NoKey") (349 : Nat))), (Option.some (@PySem.Value.str (@PySem.Str.ofString "NoKey") (357 : Nat))), (Option.some (@PySem.Value.builtin "ValueError.__new__")), (Option.some (@PySem.Value.bool Bool.true))]))) ::
(nat_lit 161, (@PySem.Obj.mk (@PySem.Value.type "tuple") Option.none (@PySem.Data.seq (List.toArray [(@PySem.Value.ref (31 : Nat))]) (0 : Nat)) (List.toArray []))) ::
(nat_lit 164, (@PySem.Obj.mk (@PySem.Value.type "cell") Option.none (@PySem.Data.cell (Option.some (@PySem.Value.ref (179 : Nat)))) (List.toArray []))) ::
(nat_lit 169, (@PySem.Obj.mk (@PySem.Value.type "tuple") Option.none (@PySem.Data.seq (List.toArray [(@PySem.Value.ref (164 : Nat))]) (0 : Nat)) (List.toArray []))) ::
(nat_lit 170, (@PySem.Obj.mk (@PySem.Value.type "tuple") Option.none (@PySem.Data.seq (List.toArray [(@PySem.Value.str (@PySem.Str.ofString "__class__") (391 : Nat))]) (0 : Nat)) (List.toArray []))) ::
(nat_lit 172, (@PySem.Obj.mk (@PySem.Value.type "tuple") Option.none (@PySem.Data.seq (List.toArray [(@PySem.Value.str (@PySem.Str.ofString "self") (392 : Nat)), (@PySem.Value.str (@PySem.Str.ofString "name") (393 : Nat))]) (0 : Nat)) (List.toArray []))) ::
(nat_lit 173, (@PySem.Obj.mk (@PySem.Value.type "tuple") Option.none (@PySem.Data.seq (List.toArray []) (0 : Nat)) (List.toArray []))) ::
(nat_lit 175, (@PySem.Obj.mk (@PySem.Value.type "code") Option.none (@PySem.Data.fields (List.toArray [(@PySem.Value.str (@PySem.Str.ofString "__init__") (388 : Nat)), (@PySem.Value.str (@PySem.Str.ofString "NoPart.__init__") (389 : Nat)), (@PySem.Value.str (@PySem.Str.ofString "/claim/cut.py") (390 : Nat)), (@PySem.Value.int (39 : Int) (0 : Nat)), (@PySem.Value.int (2 : Int) (0 : Nat)), (@PySem.Value.int (0 : Int) (0 : Nat)), (@PySem.Value.int (0 : Int) (0 : Nat)), (@PySem.Value.int (3 : Int) (0 : Nat)), (@PySem.Value.ref (170 : Nat)), (@PySem.Value.bool Bool.true), (@PySem.Value.int (181 : Int) (0 : Nat)), (@PySem.Value.ref (171 : Nat)), PySem.Value.none, (@PySem.Value.ref (172 : Nat)), (@PySem.Value.ref (173 : Nat)), (@PySem.Value.ref (174 : Nat)), (@PySem.Value.int (394 : Int) (0 : Nat)), (@PySem.Value.int (39 : Int) (0 : Nat)), (@PySem.Value.str (@PySem.Str.ofString "/claim/cut.py") (395 : Nat))])) (List.toArray []))) ::
(nat_lit 176, (@PySem.Obj.mk (@PySem.Value.type "function") Option.none (@PySem.Data.func (PySem.FuncData.mk (@PySem.Str.ofString "__init__") (@PySem.Str.ofString "NoPart.__init__") (defArgs s_NoPart___init__) (PySem.FuncBody.stmts (defBody s_NoPart___init__)) (defScope s_NoPart___init__) (3 : Nat) [((@PySem.Str.ofString "__class__"), (164 : Nat))] PySem.Value.none PySem.Value.none PySem.Value.none (@PySem.Value.str (@PySem.Str.ofString "quietprobes.errors") (194 : Nat)) Option.none (@PySem.Value.ref (175 : Nat)) (@PySem.Value.ref (169 : Nat)) (0 : Nat))) (List.toArray []))) ::
(nat_lit 177, (@PySem.Obj.mk (@PySem.Value.type "tuple") Option.none (@PySem.Data.seq (List.toArray [(@PySem.Value.str (@PySem.Str.ofString "name") (397 : Nat))]) (0 : Nat)) (List.toArray []))) ::
(nat_lit 178, (@PySem.Obj.mk (@PySem.Value.type "dict") Option.none (@PySem.Data.dict (List.toArray [(@PySem.DictEntry.mk (@PySem.PyData.keyHash P (@PySem.Str.ofString "__module__")) (@PySem.Value.str (@PySem.Str.ofString "__module__") (383 : Nat)) (@PySem.Value.str (@PySem.Str.ofString "quietprobes.errors") (194 : Nat))), (@PySem.DictEntry.mk (@PySem.PyData.keyHash P (@PySem.Str.ofString "__firstlineno__")) (@PySem.Value.str (@PySem.Str.ofString "__firstlineno__") (387 : Nat)) (@PySem.Value.int (37 : Int) (386 : Nat))), (@PySem.DictEntry.mk (@PySem.PyData.keyHash P (@PySem.Str.ofString "__init__")) (@PySem.Value.str (@PySem.Str.ofString "__init__") (396 : Nat)) (@PySem.Value.ref (176 : Nat))), (@PySem.DictEntry.mk (@PySem.PyData.keyHash P (@PySem.Str.ofString "__static_attributes__")) (@PySem.Value.str (@PySem.Str.ofString "__static_attributes__") (398 : Nat)) (@PySem.Value.ref (177 : Nat))), (@PySem.DictEntry.mk (@PySem.PyData.keyHash P (@PySem.Str.ofString "__doc__")) (@PySem.Value.str (@PySem.Str.ofString "__doc__") (400 : Nat)) PySem.Value.none)]) (3 : Nat)) (List.toArray []))) ::
(nat_lit 179, (@PySem.Obj.mk (@PySem.Value.type "type") Option.none (@PySem.Data.cls (@PySem.ClassData.mk (@PySem.Str.ofString "NoPart") [(@PySem.Value.ref (31 : Nat))] [(@PySem.Value.ref (179 : Nat)), (@PySem.Value.ref (31 : Nat)), (@PySem.Value.type "ValueError"), (@PySem.Value.type "Exception"), (@PySem.Value.type "BaseException"), (@PySem.Value.type "object")] (178 : Nat) (@PySem.Str.ofString "NoPart") Bool.true [] [] Bool.false Option.none Bool.false)) (List.toArray [(Option.some (@PySem.Value.ref (161 : Nat))), Option.none, (Option.some (@PySem.Value.str (@PySem.Str.ofString "NoPart") (376 : Nat))), (Option.some (@PySem.Value.str (@PySem.Str.ofString "NoPart") (384 : Nat))), (Option.some (@PySem.Value.builtin "ValueError.__new__")), (Option.some (@PySem.Value.bool Bool.true))]))) ::
(nat_lit 182, (@PySem.Obj.mk (@PySem.Value.type "tuple") Option.none (@PySem.Data.seq (List.toArray [(@PySem.Value.ref (31 : Nat))]) (0 : Nat)) (List.toArray []))) ::
(nat_lit 185, (@PySem.Obj.mk (@PySem.Value.type "cell") Option.none (@PySem.Data.cell (Option.some (@PySem.Value.ref (200 : Nat)))) (List.toArray []))) ::
(nat_lit 190, (@PySem.Obj.mk (@PySem.Value.type "tuple") Option.none (@PySem.Data.seq (List.toArray [(@PySem.Value.ref (185 : Nat))]) (0 : Nat)) (List.toArray []))) ::
(nat_lit 191, (@PySem.Obj.mk (@PySem.Value.type "tuple") Option.none (@PySem.Data.seq (List.toArray [(@PySem.Value.str (@PySem.Str.ofString "__class__") (418 : Nat))]) (0 : Nat)) (List.toArray []))) ::
(nat_lit 193, (@PySem.Obj.mk (@PySem.Value.type "tuple") Option.none (@PySem.Data.seq (List.toArray [(@PySem.Value.str (@PySem.Str.ofString "self") (419 : Nat)), (@PySem.Value.str (@PySem.Str.ofString "number") (420 : Nat))]) (0 : Nat)) (List.toArray []))) ::
(nat_lit 194, (@PySem.Obj.mk (@PySem.Value.type "tuple") Option.none (@PySem.Data.seq (List.toArray []) (0 : Nat)) (List.toArray []))) ::
(nat_lit 196, (@PySem.Obj.mk (@PySem.Value.type "code") Option.none (@PySem.Data.fields (List.toArray [(@PySem.Value.str (@PySem.Str.ofString "__init__") (415 : Nat)), (@PySem.Value.str (@PySem.Str.ofString "NoRow.__init__") (416 : Nat)), (@PySem.Value.str (@PySem.Str.ofString "/claim/cut.py") (417 : Nat)), (@PySem.Value.int (44 : Int) (0 : Nat)), (@PySem.Value.int (2 : Int) (0 : Nat)), (@PySem.Value.int (0 : Int) (0 : Nat)), (@PySem.Value.int (0 : Int) (0 : Nat)), (@PySem.Value.int (3 : Int) (0 : Nat)), (@PySem.Value.ref (191 : Nat)), (@PySem.Value.bool Bool.true), (@PySem.Value.int (181 : Int) (0 : Nat)), (@PySem.Value.ref (192 : Nat)), PySem.Value.none, (@PySem.Value.ref (193 : Nat)), (@PySem.Value.ref (194 : Nat)), (@PySem.Value.ref (195 : Nat)), (@PySem.Value.int (421 : Int) (0 : Nat)), (@PySem.Value.int (44 : Int) (0 : Nat)), (@PySem.Value.str (@PySem.Str.ofString "/claim/cut.py") (422 : Nat))])) (List.toArray []))) ::
(nat_lit 197, (@PySem.Obj.mk (@PySem.Value.type "function") Option.none (@PySem.Data.func (PySem.FuncData.mk (@PySem.Str.ofString "__init__") (@PySem.Str.ofString "NoRow.__init__") (defArgs s_NoRow___init__) (PySem.FuncBody.stmts (defBody s_NoRow___init__)) (defScope s_NoRow___init__) (3 : Nat) [((@PySem.Str.ofString "__class__"), (185 : Nat))] PySem.Value.none PySem.Value.none PySem.Value.none (@PySem.Value.str (@PySem.Str.ofString "quietprobes.errors") (194 : Nat)) Option.none (@PySem.Value.ref (196 : Nat)) (@PySem.Value.ref (190 : Nat)) (0 : Nat))) (List.toArray []))) ::
(nat_lit 198, (@PySem.Obj.mk (@PySem.Value.type "tuple") Option.none (@PySem.Data.seq (List.toArray [(@PySem.Value.str (@PySem.Str.ofString "number") (424 : Nat))]) (0 : Nat)) (List.toArray []))) ::
(nat_lit 199, (@PySem.Obj.mk (@PySem.Value.type "dict") Option.none (@PySem.Data.dict (List.toArray [(@PySem.DictEntry.mk (@PySem.PyData.keyHash P (@PySem.Str.ofString "__module__")) (@PySem.Value.str (@PySem.Str.ofString "__module__") (410 : Nat)) (@PySem.Value.str (@PySem.Str.ofString "quietprobes.errors") (194 : Nat))), (@PySem.DictEntry.mk (@PySem.PyData.keyHash P (@PySem.Str.ofString "__firstlineno__")) (@PySem.Value.str (@PySem.Str.ofString "__firstlineno__") (414 : Nat)) (@PySem.Value.int (42 : Int) (413 : Nat))), (@PySem.DictEntry.mk (@PySem.PyData.keyHash P (@PySem.Str.ofString "__init__")) (@PySem.Value.str (@PySem.Str.ofString "__init__") (423 : Nat)) (@PySem.Value.ref (197 : Nat))), (@PySem.DictEntry.mk (@PySem.PyData.keyHash P (@PySem.Str.ofString "__static_attributes__")) (@PySem.Value.str (@PySem.Str.ofString "__static_attributes__") (425 : Nat)) (@PySem.Value.ref (198 : Nat))), (@PySem.DictEntry.mk (@PySem.PyData.keyHash P (@PySem.Str.ofString "__doc__")) (@PySem.Value.str (@PySem.Str.ofString "__doc__") (427 : Nat)) PySem.Value.none)]) (3 : Nat)) (List.toArray []))) ::
(nat_lit 200, (@PySem.Obj.mk (@PySem.Value.type "type") Option.none (@PySem.Data.cls (@PySem.ClassData.mk (@PySem.Str.ofString "NoRow") [(@PySem.Value.ref (31 : Nat))] [(@PySem.Value.ref (200 : Nat)), (@PySem.Value.ref (31 : Nat)), (@PySem.Value.type "ValueError"), (@PySem.Value.type "Exception"), (@PySem.Value.type "BaseException"), (@PySem.Value.type "object")] (199 : Nat) (@PySem.Str.ofString "NoRow") Bool.true [] [] Bool.false Option.none Bool.false)) (List.toArray [(Option.some (@PySem.Value.ref (182 : Nat))), Option.none, (Option.some (@PySem.Value.str (@PySem.Str.ofString "NoRow") (403 : Nat))), (Option.some (@PySem.Value.str (@PySem.Str.ofString "NoRow") (411 : Nat))), (Option.some (@PySem.Value.builtin "ValueError.__new__")), (Option.some (@PySem.Value.bool Bool.true))]))) ::
(nat_lit 203, (@PySem.Obj.mk (@PySem.Value.type "tuple") Option.none (@PySem.Data.seq (List.toArray [(@PySem.Value.ref (31 : Nat))]) (0 : Nat)) (List.toArray []))) ::
(nat_lit 206, (@PySem.Obj.mk (@PySem.Value.type "cell") Option.none (@PySem.Data.cell (Option.some (@PySem.Value.ref (221 : Nat)))) (List.toArray []))) ::
(nat_lit 211, (@PySem.Obj.mk (@PySem.Value.type "tuple") Option.none (@PySem.Data.seq (List.toArray [(@PySem.Value.ref (206 : Nat))]) (0 : Nat)) (List.toArray []))) ::
(nat_lit 212, (@PySem.Obj.mk (@PySem.Value.type "tuple") Option.none (@PySem.Data.seq (List.toArray [(@PySem.Value.str (@PySem.Str.ofString "__class__") (445 : Nat))]) (0 : Nat)) (List.toArray []))) ::
(nat_lit 214, (@PySem.Obj.mk (@PySem.Value.type "tuple") Option.none (@PySem.Data.seq (List.toArray [(@PySem.Value.str (@PySem.Str.ofString "self") (446 : Nat)), (@PySem.Value.str (@PySem.Str.ofString "name") (447 : Nat))]) (0 : Nat)) (List.toArray []))) ::
(nat_lit 215, (@PySem.Obj.mk (@PySem.Value.type "tuple") Option.none (@PySem.Data.seq (List.toArray []) (0 : Nat)) (List.toArray []))) ::
(nat_lit 217, (@PySem.Obj.mk (@PySem.Value.type "code") Option.none (@PySem.Data.fields (List.toArray [(@PySem.Value.str (@PySem.Str.ofString "__init__") (442 : Nat)), (@PySem.Value.str (@PySem.Str.ofString "NoProbe.__init__") (443 : Nat)), (@PySem.Value.str (@PySem.Str.ofString "/claim/cut.py") (444 : Nat)), (@PySem.Value.int (49 : Int) (0 : Nat)), (@PySem.Value.int (2 : Int) (0 : Nat)), (@PySem.Value.int (0 : Int) (0 : Nat)), (@PySem.Value.int (0 : Int) (0 : Nat)), (@PySem.Value.int (3 : Int) (0 : Nat)), (@PySem.Value.ref (212 : Nat)), (@PySem.Value.bool Bool.true), (@PySem.Value.int (181 : Int) (0 : Nat)), (@PySem.Value.ref (213 : Nat)), PySem.Value.none, (@PySem.Value.ref (214 : Nat)), (@PySem.Value.ref (215 : Nat)), (@PySem.Value.ref (216 : Nat)), (@PySem.Value.int (448 : Int) (0 : Nat)), (@PySem.Value.int (49 : Int) (0 : Nat)), (@PySem.Value.str (@PySem.Str.ofString "/claim/cut.py") (449 : Nat))])) (List.toArray []))) ::
(nat_lit 218, (@PySem.Obj.mk (@PySem.Value.type "function") Option.none (@PySem.Data.func (PySem.FuncData.mk (@PySem.Str.ofString "__init__") (@PySem.Str.ofString "NoProbe.__init__") (defArgs s_NoProbe___init__) (PySem.FuncBody.stmts (defBody s_NoProbe___init__)) (defScope s_NoProbe___init__) (3 : Nat) [((@PySem.Str.ofString "__class__"), (206 : Nat))] PySem.Value.none PySem.Value.none PySem.Value.none (@PySem.Value.str (@PySem.Str.ofString "quietprobes.errors") (194 : Nat)) Option.none (@PySem.Value.ref (217 : Nat)) (@PySem.Value.ref (211 : Nat)) (0 : Nat))) (List.toArray []))) ::
(nat_lit 219, (@PySem.Obj.mk (@PySem.Value.type "tuple") Option.none (@PySem.Data.seq (List.toArray [(@PySem.Value.str (@PySem.Str.ofString "name") (451 : Nat))]) (0 : Nat)) (List.toArray []))) ::
(nat_lit 220, (@PySem.Obj.mk (@PySem.Value.type "dict") Option.none (@PySem.Data.dict (List.toArray [(@PySem.DictEntry.mk (@PySem.PyData.keyHash P (@PySem.Str.ofString "__module__")) (@PySem.Value.str (@PySem.Str.ofString "__module__") (437 : Nat)) (@PySem.Value.str (@PySem.Str.ofString "quietprobes.errors") (194 : Nat))), (@PySem.DictEntry.mk (@PySem.PyData.keyHash P (@PySem.Str.ofString "__firstlineno__")) (@PySem.Value.str (@PySem.Str.ofString "__firstlineno__") (441 : Nat)) (@PySem.Value.int (47 : Int) (440 : Nat))), (@PySem.DictEntry.mk (@PySem.PyData.keyHash P (@PySem.Str.ofString "__init__")) (@PySem.Value.str (@PySem.Str.ofString "__init__") (450 : Nat)) (@PySem.Value.ref (218 : Nat))), (@PySem.DictEntry.mk (@PySem.PyData.keyHash P (@PySem.Str.ofString "__static_attributes__")) (@PySem.Value.str (@PySem.Str.ofString "__static_attributes__") (452 : Nat)) (@PySem.Value.ref (219 : Nat))), (@PySem.DictEntry.mk (@PySem.PyData.keyHash P (@PySem.Str.ofString "__doc__")) (@PySem.Value.str (@PySem.Str.ofString "__doc__") (454 : Nat)) PySem.Value.none)]) (3 : Nat)) (List.toArray []))) ::
(nat_lit 221, (@PySem.Obj.mk (@PySem.Value.type "type") Option.none (@PySem.Data.cls (@PySem.ClassData.mk (@PySem.Str.ofString "NoProbe") [(@PySem.Value.ref (31 : Nat))] [(@PySem.Value.ref (221 : Nat)), (@PySem.Value.ref (31 : Nat)), (@PySem.Value.type "ValueError"), (@PySem.Value.type "Exception"), (@PySem.Value.type "BaseException"), (@PySem.Value.type "object")] (220 : Nat) (@PySem.Str.ofString "NoProbe") Bool.true [] [] Bool.false Option.none Bool.false)) (List.toArray [(Option.some (@PySem.Value.ref (203 : Nat))), Option.none, (Option.some (@PySem.Value.str (@PySem.Str.ofString "NoProbe") (430 : Nat))), (Option.some (@PySem.Value.str (@PySem.Str.ofString "NoProbe") (438 : Nat))), (Option.some (@PySem.Value.builtin "ValueError.__new__")), (Option.some (@PySem.Value.bool Bool.true))]))) ::
(nat_lit 224, (@PySem.Obj.mk (@PySem.Value.type "tuple") Option.none (@PySem.Data.seq (List.toArray [(@PySem.Value.ref (31 : Nat))]) (0 : Nat)) (List.toArray []))) ::
(nat_lit 227, (@PySem.Obj.mk (@PySem.Value.type "cell") Option.none (@PySem.Data.cell (Option.some (@PySem.Value.ref (242 : Nat)))) (List.toArray []))) ::
(nat_lit 232, (@PySem.Obj.mk (@PySem.Value.type "tuple") Option.none (@PySem.Data.seq (List.toArray [(@PySem.Value.ref (227 : Nat))]) (0 : Nat)) (List.toArray []))) ::
(nat_lit 233, (@PySem.Obj.mk (@PySem.Value.type "tuple") Option.none (@PySem.Data.seq (List.toArray [(@PySem.Value.str (@PySem.Str.ofString "__class__") (472 : Nat))]) (0 : Nat)) (List.toArray []))) ::
(nat_lit 235, (@PySem.Obj.mk (@PySem.Value.type "tuple") Option.none (@PySem.Data.seq (List.toArray [(@PySem.Value.str (@PySem.Str.ofString "self") (473 : Nat)), (@PySem.Value.str (@PySem.Str.ofString "name") (474 : Nat))]) (0 : Nat)) (List.toArray []))) ::
(nat_lit 236, (@PySem.Obj.mk (@PySem.Value.type "tuple") Option.none (@PySem.Data.seq (List.toArray []) (0 : Nat)) (List.toArray []))) ::
(nat_lit 238, (@PySem.Obj.mk (@PySem.Value.type "code") Option.none (@PySem.Data.fields (List.toArray [(@PySem.Value.str (@PySem.Str.ofString "__init__") (469 : Nat)), (@PySem.Value.str (@PySem.Str.ofString "Twice.__init__") (470 : Nat)), (@PySem.Value.str (@PySem.Str.ofString "/claim/cut.py") (471 : Nat)), (@PySem.Value.int (54 : Int) (0 : Nat)), (@PySem.Value.int (2 : Int) (0 : Nat)), (@PySem.Value.int (0 : Int) (0 : Nat)), (@PySem.Value.int (0 : Int) (0 : Nat)), (@PySem.Value.int (3 : Int) (0 : Nat)), (@PySem.Value.ref (233 : Nat)), (@PySem.Value.bool Bool.true), (@PySem.Value.int (181 : Int) (0 : Nat)), (@PySem.Value.ref (234 : Nat)), PySem.Value.none, (@PySem.Value.ref (235 : Nat)), (@PySem.Value.ref (236 : Nat)), (@PySem.Value.ref (237 : Nat)), (@PySem.Value.int (475 : Int) (0 : Nat)), (@PySem.Value.int (54 : Int) (0 : Nat)), (@PySem.Value.str (@PySem.Str.ofString "/claim/cut.py") (476 : Nat))])) (List.toArray []))) ::
(nat_lit 239, (@PySem.Obj.mk (@PySem.Value.type "function") Option.none (@PySem.Data.func (PySem.FuncData.mk (@PySem.Str.ofString "__init__") (@PySem.Str.ofString "Twice.__init__") (defArgs s_Twice___init__) (PySem.FuncBody.stmts (defBody s_Twice___init__)) (defScope s_Twice___init__) (3 : Nat) [((@PySem.Str.ofString "__class__"), (227 : Nat))] PySem.Value.none PySem.Value.none PySem.Value.none (@PySem.Value.str (@PySem.Str.ofString "quietprobes.errors") (194 : Nat)) Option.none (@PySem.Value.ref (238 : Nat)) (@PySem.Value.ref (232 : Nat)) (0 : Nat))) (List.toArray []))) ::
(nat_lit 240, (@PySem.Obj.mk (@PySem.Value.type "tuple") Option.none (@PySem.Data.seq (List.toArray [(@PySem.Value.str (@PySem.Str.ofString "name") (478 : Nat))]) (0 : Nat)) (List.toArray []))) ::
(nat_lit 241, (@PySem.Obj.mk (@PySem.Value.type "dict") Option.none (@PySem.Data.dict (List.toArray [(@PySem.DictEntry.mk (@PySem.PyData.keyHash P (@PySem.Str.ofString "__module__")) (@PySem.Value.str (@PySem.Str.ofString "__module__") (464 : Nat)) (@PySem.Value.str (@PySem.Str.ofString "quietprobes.errors") (194 : Nat))), (@PySem.DictEntry.mk (@PySem.PyData.keyHash P (@PySem.Str.ofString "__firstlineno__")) (@PySem.Value.str (@PySem.Str.ofString "__firstlineno__") (468 : Nat)) (@PySem.Value.int (52 : Int) (467 : Nat))), (@PySem.DictEntry.mk (@PySem.PyData.keyHash P (@PySem.Str.ofString "__init__")) (@PySem.Value.str (@PySem.Str.ofString "__init__") (477 : Nat)) (@PySem.Value.ref (239 : Nat))), (@PySem.DictEntry.mk (@PySem.PyData.keyHash P (@PySem.Str.ofString "__static_attributes__")) (@PySem.Value.str (@PySem.Str.ofString "__static_attributes__") (479 : Nat)) (@PySem.Value.ref (240 : Nat))), (@PySem.DictEntry.mk (@PySem.PyData.keyHash P (@PySem.Str.ofString "__doc__")) (@PySem.Value.str (@PySem.Str.ofString "__doc__") (481 : Nat)) PySem.Value.none)]) (3 : Nat)) (List.toArray []))) ::
(nat_lit 242, (@PySem.Obj.mk (@PySem.Value.type "type") Option.none (@PySem.Data.cls (@PySem.ClassData.mk (@PySem.Str.ofString "Twice") [(@PySem.Value.ref (31 : Nat))] [(@PySem.Value.ref (242 : Nat)), (@PySem.Value.ref (31 : Nat)), (@PySem.Value.type "ValueError"), (@PySem.Value.type "Exception"), (@PySem.Value.type "BaseException"), (@PySem.Value.type "object")] (241 : Nat) (@PySem.Str.ofString "Twice") Bool.true [] [] Bool.false Option.none Bool.false)) (List.toArray [(Option.some (@PySem.Value.ref (224 : Nat))), Option.none, (Option.some (@PySem.Value.str (@PySem.Str.ofString "Twice") (457 : Nat))), (Option.some (@PySem.Value.str (@PySem.Str.ofString "Twice") (465 : Nat))), (Option.some (@PySem.Value.builtin "ValueError.__new__")), (Option.some (@PySem.Value.bool Bool.true))]))) ::
(nat_lit 245, (@PySem.Obj.mk (@PySem.Value.type "tuple") Option.none (@PySem.Data.seq (List.toArray [(@PySem.Value.ref (31 : Nat))]) (0 : Nat)) (List.toArray []))) ::
(nat_lit 248, (@PySem.Obj.mk (@PySem.Value.type "cell") Option.none (@PySem.Data.cell (Option.some (@PySem.Value.ref (263 : Nat)))) (List.toArray []))) ::
(nat_lit 253, (@PySem.Obj.mk (@PySem.Value.type "tuple") Option.none (@PySem.Data.seq (List.toArray [(@PySem.Value.ref (248 : Nat))]) (0 : Nat)) (List.toArray []))) ::
(nat_lit 254, (@PySem.Obj.mk (@PySem.Value.type "tuple") Option.none (@PySem.Data.seq (List.toArray [(@PySem.Value.str (@PySem.Str.ofString "__class__") (499 : Nat))]) (0 : Nat)) (List.toArray []))) ::
(nat_lit 256, (@PySem.Obj.mk (@PySem.Value.type "tuple") Option.none (@PySem.Data.seq (List.toArray [(@PySem.Value.str (@PySem.Str.ofString "self") (500 : Nat)), (@PySem.Value.str (@PySem.Str.ofString "number") (501 : Nat))]) (0 : Nat)) (List.toArray []))) ::
(nat_lit 257, (@PySem.Obj.mk (@PySem.Value.type "tuple") Option.none (@PySem.Data.seq (List.toArray []) (0 : Nat)) (List.toArray []))) ::
(nat_lit 259, (@PySem.Obj.mk (@PySem.Value.type "code") Option.none (@PySem.Data.fields (List.toArray [(@PySem.Value.str (@PySem.Str.ofString "__init__") (496 : Nat)), (@PySem.Value.str (@PySem.Str.ofString "Unmatched.__init__") (497 : Nat)), (@PySem.Value.str (@PySem.Str.ofString "/claim/cut.py") (498 : Nat)), (@PySem.Value.int (59 : Int) (0 : Nat)), (@PySem.Value.int (2 : Int) (0 : Nat)), (@PySem.Value.int (0 : Int) (0 : Nat)), (@PySem.Value.int (0 : Int) (0 : Nat)), (@PySem.Value.int (3 : Int) (0 : Nat)), (@PySem.Value.ref (254 : Nat)), (@PySem.Value.bool Bool.true), (@PySem.Value.int (181 : Int) (0 : Nat)), (@PySem.Value.ref (255 : Nat)), PySem.Value.none, (@PySem.Value.ref (256 : Nat)), (@PySem.Value.ref (257 : Nat)), (@PySem.Value.ref (258 : Nat)), (@PySem.Value.int (502 : Int) (0 : Nat)), (@PySem.Value.int (59 : Int) (0 : Nat)), (@PySem.Value.str (@PySem.Str.ofString "/claim/cut.py") (503 : Nat))])) (List.toArray []))) ::
(nat_lit 260, (@PySem.Obj.mk (@PySem.Value.type "function") Option.none (@PySem.Data.func (PySem.FuncData.mk (@PySem.Str.ofString "__init__") (@PySem.Str.ofString "Unmatched.__init__") (defArgs s_Unmatched___init__) (PySem.FuncBody.stmts (defBody s_Unmatched___init__)) (defScope s_Unmatched___init__) (3 : Nat) [((@PySem.Str.ofString "__class__"), (248 : Nat))] PySem.Value.none PySem.Value.none PySem.Value.none (@PySem.Value.str (@PySem.Str.ofString "quietprobes.errors") (194 : Nat)) Option.none (@PySem.Value.ref (259 : Nat)) (@PySem.Value.ref (253 : Nat)) (0 : Nat))) (List.toArray []))) ::
(nat_lit 261, (@PySem.Obj.mk (@PySem.Value.type "tuple") Option.none (@PySem.Data.seq (List.toArray [(@PySem.Value.str (@PySem.Str.ofString "number") (505 : Nat))]) (0 : Nat)) (List.toArray []))) ::
(nat_lit 262, (@PySem.Obj.mk (@PySem.Value.type "dict") Option.none (@PySem.Data.dict (List.toArray [(@PySem.DictEntry.mk (@PySem.PyData.keyHash P (@PySem.Str.ofString "__module__")) (@PySem.Value.str (@PySem.Str.ofString "__module__") (491 : Nat)) (@PySem.Value.str (@PySem.Str.ofString "quietprobes.errors") (194 : Nat))), (@PySem.DictEntry.mk (@PySem.PyData.keyHash P (@PySem.Str.ofString "__firstlineno__")) (@PySem.Value.str (@PySem.Str.ofString "__firstlineno__") (495 : Nat)) (@PySem.Value.int (57 : Int) (494 : Nat))), (@PySem.DictEntry.mk (@PySem.PyData.keyHash P (@PySem.Str.ofString "__init__")) (@PySem.Value.str (@PySem.Str.ofString "__init__") (504 : Nat)) (@PySem.Value.ref (260 : Nat))), (@PySem.DictEntry.mk (@PySem.PyData.keyHash P (@PySem.Str.ofString "__static_attributes__")) (@PySem.Value.str (@PySem.Str.ofString "__static_attributes__") (506 : Nat)) (@PySem.Value.ref (261 : Nat))), (@PySem.DictEntry.mk (@PySem.PyData.keyHash P (@PySem.Str.ofString "__doc__")) (@PySem.Value.str (@PySem.Str.ofString "__doc__") (508 : Nat)) PySem.Value.none)]) (3 : Nat)) (List.toArray []))) ::
(nat_lit 263, (@PySem.Obj.mk (@PySem.Value.type "type") Option.none (@PySem.Data.cls (@PySem.ClassData.mk (@PySem.Str.ofString "Unmatched") [(@PySem.Value.ref (31 : Nat))] [(@PySem.Value.ref (263 : Nat)), (@PySem.Value.ref (31 : Nat)), (@PySem.Value.type "ValueError"), (@PySem.Value.type "Exception"), (@PySem.Value.type "BaseException"), (@PySem.Value.type "object")] (262 : Nat) (@PySem.Str.ofString "Unmatched") Bool.true [] [] Bool.false Option.none Bool.false)) (List.toArray [(Option.some (@PySem.Value.ref (245 : Nat))), Option.none, (Option.some (@PySem.Value.str (@PySem.Str.ofString "Unmatched") (484 : Nat))), (Option.some (@PySem.Value.str (@PySem.Str.ofString "Unmatched") (492 : Nat))), (Option.some (@PySem.Value.builtin "ValueError.__new__")), (Option.some (@PySem.Value.bool Bool.true))]))) ::
(nat_lit 266, (@PySem.Obj.mk (@PySem.Value.type "tuple") Option.none (@PySem.Data.seq (List.toArray [(@PySem.Value.ref (31 : Nat))]) (0 : Nat)) (List.toArray []))) ::
(nat_lit 269, (@PySem.Obj.mk (@PySem.Value.type "cell") Option.none (@PySem.Data.cell (Option.some (@PySem.Value.ref (284 : Nat)))) (List.toArray []))) ::
(nat_lit 274, (@PySem.Obj.mk (@PySem.Value.type "tuple") Option.none (@PySem.Data.seq (List.toArray [(@PySem.Value.ref (269 : Nat))]) (0 : Nat)) (List.toArray []))) ::
(nat_lit 275, (@PySem.Obj.mk (@PySem.Value.type "tuple") Option.none (@PySem.Data.seq (List.toArray [(@PySem.Value.str (@PySem.Str.ofString "__class__") (526 : Nat))]) (0 : Nat)) (List.toArray []))) ::
(nat_lit 277, (@PySem.Obj.mk (@PySem.Value.type "tuple") Option.none (@PySem.Data.seq (List.toArray [(@PySem.Value.str (@PySem.Str.ofString "self") (527 : Nat)), (@PySem.Value.str (@PySem.Str.ofString "limit") (528 : Nat))]) (0 : Nat)) (List.toArray []))) ::
(nat_lit 278, (@PySem.Obj.mk (@PySem.Value.type "tuple") Option.none (@PySem.Data.seq (List.toArray []) (0 : Nat)) (List.toArray []))) ::
(nat_lit 280, (@PySem.Obj.mk (@PySem.Value.type "code") Option.none (@PySem.Data.fields (List.toArray [(@PySem.Value.str (@PySem.Str.ofString "__init__") (523 : Nat)), (@PySem.Value.str (@PySem.Str.ofString "TooMany.__init__") (524 : Nat)), (@PySem.Value.str (@PySem.Str.ofString "/claim/cut.py") (525 : Nat)), (@PySem.Value.int (64 : Int) (0 : Nat)), (@PySem.Value.int (2 : Int) (0 : Nat)), (@PySem.Value.int (0 : Int) (0 : Nat)), (@PySem.Value.int (0 : Int) (0 : Nat)), (@PySem.Value.int (3 : Int) (0 : Nat)), (@PySem.Value.ref (275 : Nat)), (@PySem.Value.bool Bool.true), (@PySem.Value.int (181 : Int) (0 : Nat)), (@PySem.Value.ref (276 : Nat)), PySem.Value.none, (@PySem.Value.ref (277 : Nat)), (@PySem.Value.ref (278 : Nat)), (@PySem.Value.ref (279 : Nat)), (@PySem.Value.int (529 : Int) (0 : Nat)), (@PySem.Value.int (64 : Int) (0 : Nat)), (@PySem.Value.str (@PySem.Str.ofString "/claim/cut.py") (530 : Nat))])) (List.toArray []))) ::
(nat_lit 281, (@PySem.Obj.mk (@PySem.Value.type "function") Option.none (@PySem.Data.func (PySem.FuncData.mk (@PySem.Str.ofString "__init__") (@PySem.Str.ofString "TooMany.__init__") (defArgs s_TooMany___init__) (PySem.FuncBody.stmts (defBody s_TooMany___init__)) (defScope s_TooMany___init__) (3 : Nat) [((@PySem.Str.ofString "__class__"), (269 : Nat))] PySem.Value.none PySem.Value.none PySem.Value.none (@PySem.Value.str (@PySem.Str.ofString "quietprobes.errors") (194 : Nat)) Option.none (@PySem.Value.ref (280 : Nat)) (@PySem.Value.ref (274 : Nat)) (0 : Nat))) (List.toArray []))) ::
(nat_lit 282, (@PySem.Obj.mk (@PySem.Value.type "tuple") Option.none (@PySem.Data.seq (List.toArray [(@PySem.Value.str (@PySem.Str.ofString "limit") (532 : Nat))]) (0 : Nat)) (List.toArray []))) ::
(nat_lit 283, (@PySem.Obj.mk (@PySem.Value.type "dict") Option.none (@PySem.Data.dict (List.toArray [(@PySem.DictEntry.mk (@PySem.PyData.keyHash P (@PySem.Str.ofString "__module__")) (@PySem.Value.str (@PySem.Str.ofString "__module__") (518 : Nat)) (@PySem.Value.str (@PySem.Str.ofString "quietprobes.errors") (194 : Nat))), (@PySem.DictEntry.mk (@PySem.PyData.keyHash P (@PySem.Str.ofString "__firstlineno__")) (@PySem.Value.str (@PySem.Str.ofString "__firstlineno__") (522 : Nat)) (@PySem.Value.int (62 : Int) (521 : Nat))), (@PySem.DictEntry.mk (@PySem.PyData.keyHash P (@PySem.Str.ofString "__init__")) (@PySem.Value.str (@PySem.Str.ofString "__init__") (531 : Nat)) (@PySem.Value.ref (281 : Nat))), (@PySem.DictEntry.mk (@PySem.PyData.keyHash P (@PySem.Str.ofString "__static_attributes__")) (@PySem.Value.str (@PySem.Str.ofString "__static_attributes__") (533 : Nat)) (@PySem.Value.ref (282 : Nat))), (@PySem.DictEntry.mk (@PySem.PyData.keyHash P (@PySem.Str.ofString "__doc__")) (@PySem.Value.str (@PySem.Str.ofString "__doc__") (535 : Nat)) PySem.Value.none)]) (3 : Nat)) (List.toArray []))) ::
(nat_lit 284, (@PySem.Obj.mk (@PySem.Value.type "type") Option.none (@PySem.Data.cls (@PySem.ClassData.mk (@PySem.Str.ofString "TooMany") [(@PySem.Value.ref (31 : Nat))] [(@PySem.Value.ref (284 : Nat)), (@PySem.Value.ref (31 : Nat)), (@PySem.Value.type "ValueError"), (@PySem.Value.type "Exception"), (@PySem.Value.type "BaseException"), (@PySem.Value.type "object")] (283 : Nat) (@PySem.Str.ofString "TooMany") Bool.true [] [] Bool.false Option.none Bool.false)) (List.toArray [(Option.some (@PySem.Value.ref (266 : Nat))), Option.none, (Option.some (@PySem.Value.str (@PySem.Str.ofString "TooMany") (511 : Nat))), (Option.some (@PySem.Value.str (@PySem.Str.ofString "TooMany") (519 : Nat))), (Option.some (@PySem.Value.builtin "ValueError.__new__")), (Option.some (@PySem.Value.bool Bool.true))]))) ::
(nat_lit 287, (@PySem.Obj.mk (@PySem.Value.type "tuple") Option.none (@PySem.Data.seq (List.toArray []) (0 : Nat)) (List.toArray []))) ::
(nat_lit 290, (@PySem.Obj.mk (@PySem.Value.type "code") Option.none (@PySem.Data.fields (List.toArray [(@PySem.Value.str (@PySem.Str.ofString "is_name") (548 : Nat)), (@PySem.Value.str (@PySem.Str.ofString "is_name") (549 : Nat)), (@PySem.Value.str (@PySem.Str.ofString "/claim/cut.py") (550 : Nat)), (@PySem.Value.int (72 : Int) (0 : Nat)), (@PySem.Value.int (1 : Int) (0 : Nat)), (@PySem.Value.int (0 : Int) (0 : Nat)), (@PySem.Value.int (0 : Int) (0 : Nat)), (@PySem.Value.int (3 : Int) (0 : Nat)), (@PySem.Value.ref (287 : Nat)), (@PySem.Value.bool Bool.true), (@PySem.Value.int (181 : Int) (0 : Nat)), (@PySem.Value.ref (288 : Nat)), PySem.Value.none, PySem.Value.none, PySem.Value.none, (@PySem.Value.ref (289 : Nat)), (@PySem.Value.int (551 : Int) (0 : Nat)), (@PySem.Value.int (72 : Int) (0 : Nat)), (@PySem.Value.str (@PySem.Str.ofString "/claim/cut.py") (552 : Nat))])) (List.toArray []))) ::
(nat_lit 291, (@PySem.Obj.mk (@PySem.Value.type "function") Option.none (@PySem.Data.func (PySem.FuncData.mk (@PySem.Str.ofString "is_name") (@PySem.Str.ofString "is_name") (defArgs s_is_name) (PySem.FuncBody.stmts (defBody s_is_name)) (defScope s_is_name) (3 : Nat) [] PySem.Value.none PySem.Value.none PySem.Value.none (@PySem.Value.str (@PySem.Str.ofString "quietprobes.things") (538 : Nat)) Option.none (@PySem.Value.ref (290 : Nat)) PySem.Value.none (0 : Nat))) (List.toArray []))) ::
(nat_lit 292, (@PySem.Obj.mk (@PySem.Value.type "tuple") Option.none (@PySem.Data.seq (List.toArray []) (0 : Nat)) (List.toArray []))) ::
(nat_lit 294, (@PySem.Obj.mk (@PySem.Value.type "tuple") Option.none (@PySem.Data.seq (List.toArray [(@PySem.Value.str (@PySem.Str.ofString "values") (557 : Nat)), (@PySem.Value.str (@PySem.Str.ofString "value") (558 : Nat))]) (0 : Nat)) (List.toArray []))) ::
(nat_lit 295, (@PySem.Obj.mk (@PySem.Value.type "tuple") Option.none (@PySem.Data.seq (List.toArray []) (0 : Nat)) (List.toArray []))) ::
(nat_lit 297, (@PySem.Obj.mk (@PySem.Value.type "code") Option.none (@PySem.Data.fields (List.toArray [(@PySem.Value.str (@PySem.Str.ofString "need_names") (554 : Nat)), (@PySem.Value.str (@PySem.Str.ofString "need_names") (555 : Nat)), (@PySem.Value.str (@PySem.Str.ofString "/claim/cut.py") (556 : Nat)), (@PySem.Value.int (76 : Int) (0 : Nat)), (@PySem.Value.int (1 : Int) (0 : Nat)), (@PySem.Value.int (0 : Int) (0 : Nat)), (@PySem.Value.int (0 : Int) (0 : Nat)), (@PySem.Value.int (3 : Int) (0 : Nat)), (@PySem.Value.ref (292 : Nat)), (@PySem.Value.bool Bool.true), (@PySem.Value.int (181 : Int) (0 : Nat)), (@PySem.Value.ref (293 : Nat)), PySem.Value.none, (@PySem.Value.ref (294 : Nat)), (@PySem.Value.ref (295 : Nat)), (@PySem.Value.ref (296 : Nat)), (@PySem.Value.int (559 : Int) (0 : Nat)), (@PySem.Value.int (76 : Int) (0 : Nat)), (@PySem.Value.str (@PySem.Str.ofString "/claim/cut.py") (560 : Nat))])) (List.toArray []))) ::
(nat_lit 298, (@PySem.Obj.mk (@PySem.Value.type "function") Option.none (@PySem.Data.func (PySem.FuncData.mk (@PySem.Str.ofString "need_names") (@PySem.Str.ofString "need_names") (defArgs s_need_names) (PySem.FuncBody.stmts (defBody s_need_names)) (defScope s_need_names) (3 : Nat) [] PySem.Value.none PySem.Value.none PySem.Value.none (@PySem.Value.str (@PySem.Str.ofString "quietprobes.things") (538 : Nat)) Option.none (@PySem.Value.ref (297 : Nat)) PySem.Value.none (0 : Nat))) (List.toArray []))) ::
(nat_lit 299, (@PySem.Obj.mk (@PySem.Value.type "tuple") Option.none (@PySem.Data.seq (List.toArray []) (0 : Nat)) (List.toArray []))) ::
(nat_lit 301, (@PySem.Obj.mk (@PySem.Value.type "tuple") Option.none (@PySem.Data.seq (List.toArray [(@PySem.Value.str (@PySem.Str.ofString "names") (565 : Nat)), (@PySem.Value.str (@PySem.Str.ofString "seen") (566 : Nat)), (@PySem.Value.str (@PySem.Str.ofString "name") (567 : Nat))]) (0 : Nat)) (List.toArray []))) ::
(nat_lit 302, (@PySem.Obj.mk (@PySem.Value.type "tuple") Option.none (@PySem.Data.seq (List.toArray []) (0 : Nat)) (List.toArray []))) ::
(nat_lit 304, (@PySem.Obj.mk (@PySem.Value.type "code") Option.none (@PySem.Data.fields (List.toArray [(@PySem.Value.str (@PySem.Str.ofString "need_unlike") (562 : Nat)), (@PySem.Value.str (@PySem.Str.ofString "need_unlike") (563 : Nat)), (@PySem.Value.str (@PySem.Str.ofString "/claim/cut.py") (564 : Nat)), (@PySem.Value.int (80 : Int) (0 : Nat)), (@PySem.Value.int (1 : Int) (0 : Nat)), (@PySem.Value.int (0 : Int) (0 : Nat)), (@PySem.Value.int (0 : Int) (0 : Nat)), (@PySem.Value.int (3 : Int) (0 : Nat)), (@PySem.Value.ref (299 : Nat)), (@PySem.Value.bool Bool.true), (@PySem.Value.int (181 : Int) (0 : Nat)), (@PySem.Value.ref (300 : Nat)), PySem.Value.none, (@PySem.Value.ref (301 : Nat)), (@PySem.Value.ref (302 : Nat)), (@PySem.Value.ref (303 : Nat)), (@PySem.Value.int (568 : Int) (0 : Nat)), (@PySem.Value.int (80 : Int) (0 : Nat)), (@PySem.Value.str (@PySem.Str.ofString "/claim/cut.py") (569 : Nat))])) (List.toArray []))) ::
(nat_lit 305, (@PySem.Obj.mk (@PySem.Value.type "function") Option.none (@PySem.Data.func (PySem.FuncData.mk (@PySem.Str.ofString "need_unlike") (@PySem.Str.ofString "need_unlike") (defArgs s_need_unlike) (PySem.FuncBody.stmts (defBody s_need_unlike)) (defScope s_need_unlike) (3 : Nat) [] PySem.Value.none PySem.Value.none PySem.Value.none (@PySem.Value.str (@PySem.Str.ofString "quietprobes.things") (538 : Nat)) Option.none (@PySem.Value.ref (304 : Nat)) PySem.Value.none (0 : Nat))) (List.toArray []))) ::
(nat_lit 313, (@PySem.Obj.mk (@PySem.Value.type "tuple") Option.none (@PySem.Data.seq (List.toArray [(@PySem.Value.str (@PySem.Str.ofString "feed") (583 : Nat)), (@PySem.Value.str (@PySem.Str.ofString "dice") (584 : Nat)), (@PySem.Value.str (@PySem.Str.ofString "table") (585 : Nat)), (@PySem.Value.str (@PySem.Str.ofString "source") (586 : Nat)), (@PySem.Value.str (@PySem.Str.ofString "field") (587 : Nat)), (@PySem.Value.str (@PySem.Str.ofString "flag") (588 : Nat)), (@PySem.Value.str (@PySem.Str.ofString "slot") (589 : Nat))]) (0 : Nat)) (List.toArray []))) ::
(nat_lit 314, (@PySem.Obj.mk (@PySem.Value.type "tuple") Option.none (@PySem.Data.seq (List.toArray []) (0 : Nat)) (List.toArray []))) ::
(nat_lit 315, (@PySem.Obj.mk (@PySem.Value.type "tuple") Option.none (@PySem.Data.seq (List.toArray [(@PySem.Value.ref (314 : Nat))]) (0 : Nat)) (List.toArray []))) ::
(nat_lit 316, (@PySem.Obj.mk (@PySem.Value.type "tuple") Option.none (@PySem.Data.seq (List.toArray []) (0 : Nat)) (List.toArray []))) ::
(nat_lit 318, (@PySem.Obj.mk (@PySem.Value.type "tuple") Option.none (@PySem.Data.seq (List.toArray [(@PySem.Value.str (@PySem.Str.ofString "self") (594 : Nat)), (@PySem.Value.str (@PySem.Str.ofString "kind") (595 : Nat)), (@PySem.Value.str (@PySem.Str.ofString "name") (596 : Nat)), (@PySem.Value.str (@PySem.Str.ofString "parts") (597 : Nat))]) (0 : Nat)) (List.toArray []))) ::
(nat_lit 319, (@PySem.Obj.mk (@PySem.Value.type "tuple") Option.none (@PySem.Data.seq (List.toArray []) (0 : Nat)) (List.toArray []))) ::
(nat_lit 321, (@PySem.Obj.mk (@PySem.Value.type "code") Option.none (@PySem.Data.fields (List.toArray [(@PySem.Value.str (@PySem.Str.ofString "__init__") (591 : Nat)), (@PySem.Value.str (@PySem.Str.ofString "Thing.__init__") (592 : Nat)), (@PySem.Value.str (@PySem.Str.ofString "/claim/cut.py") (593 : Nat)), (@PySem.Value.int (89 : Int) (0 : Nat)), (@PySem.Value.int (4 : Int) (0 : Nat)), (@PySem.Value.int (0 : Int) (0 : Nat)), (@PySem.Value.int (0 : Int) (0 : Nat)), (@PySem.Value.int (3 : Int) (0 : Nat)), (@PySem.Value.ref (316 : Nat)), (@PySem.Value.bool Bool.true), (@PySem.Value.int (181 : Int) (0 : Nat)), (@PySem.Value.ref (317 : Nat)), PySem.Value.none, (@PySem.Value.ref (318 : Nat)), (@PySem.Value.ref (319 : Nat)), (@PySem.Value.ref (320 : Nat)), (@PySem.Value.int (598 : Int) (0 : Nat)), (@PySem.Value.int (89 : Int) (0 : Nat)), (@PySem.Value.str (@PySem.Str.ofString "/claim/cut.py") (599 : Nat))])) (List.toArray []))) ::
(nat_lit 322, (@PySem.Obj.mk (@PySem.Value.type "function") Option.none (@PySem.Data.func (PySem.FuncData.mk (@PySem.Str.ofString "__init__") (@PySem.Str.ofString "Thing.__init__") (defArgs s_Thing___init__) (PySem.FuncBody.stmts (defBody s_Thing___init__)) (defScope s_Thing___init__) (3 : Nat) [] (@PySem.Value.ref (315 : Nat)) PySem.Value.none PySem.Value.none (@PySem.Value.str (@PySem.Str.ofString "quietprobes.things") (538 : Nat)) Option.none (@PySem.Value.ref (321 : Nat)) PySem.Value.none (0 : Nat))) (List.toArray []))) ::
(nat_lit 323, (@PySem.Obj.mk (@PySem.Value.type "tuple") Option.none (@PySem.Data.seq (List.toArray []) (0 : Nat)) (List.toArray []))) ::
(nat_lit 325, (@PySem.Obj.mk (@PySem.Value.type "tuple") Option.none (@PySem.Data.seq (List.toArray [(@PySem.Value.str (@PySem.Str.ofString "self") (604 : Nat)), (@PySem.Value.str (@PySem.Str.ofString "other") (605 : Nat))]) (0 : Nat)) (List.toArray []))) ::
(nat_lit 326, (@PySem.Obj.mk (@PySem.Value.type "tuple") Option.none (@PySem.Data.seq (List.toArray []) (0 : Nat)) (List.toArray []))) ::
(nat_lit 328, (@PySem.Obj.mk (@PySem.Value.type "code") Option.none (@PySem.Data.fields (List.toArray [(@PySem.Value.str (@PySem.Str.ofString "__eq__") (601 : Nat)), (@PySem.Value.str (@PySem.Str.ofString "Thing.__eq__") (602 : Nat)), (@PySem.Value.str (@PySem.Str.ofString "/claim/cut.py") (603 : Nat)), (@PySem.Value.int (94 : Int) (0 : Nat)), (@PySem.Value.int (2 : Int) (0 : Nat)), (@PySem.Value.int (0 : Int) (0 : Nat)), (@PySem.Value.int (0 : Int) (0 : Nat)), (@PySem.Value.int (3 : Int) (0 : Nat)), (@PySem.Value.ref (323 : Nat)), (@PySem.Value.bool Bool.true), (@PySem.Value.int (181 : Int) (0 : Nat)), (@PySem.Value.ref (324 : Nat)), PySem.Value.none, (@PySem.Value.ref (325 : Nat)), (@PySem.Value.ref (326 : Nat)), (@PySem.Value.ref (327 : Nat)), (@PySem.Value.int (606 : Int) (0 : Nat)), (@PySem.Value.int (94 : Int) (0 : Nat)), (@PySem.Value.str (@PySem.Str.ofString "/claim/cut.py") (607 : Nat))])) (List.toArray []))) ::
(nat_lit 329, (@PySem.Obj.mk (@PySem.Value.type "function") Option.none (@PySem.Data.func (PySem.FuncData.mk (@PySem.Str.ofString "__eq__") (@PySem.Str.ofString "Thing.__eq__") (defArgs s_Thing___eq__) (PySem.FuncBody.stmts (defBody s_Thing___eq__)) (defScope s_Thing___eq__) (3 : Nat) [] PySem.Value.none PySem.Value.none PySem.Value.none (@PySem.Value.str (@PySem.Str.ofString "quietprobes.things") (538 : Nat)) Option.none (@PySem.Value.ref (328 : Nat)) PySem.Value.none (0 : Nat))) (List.toArray []))) ::
(nat_lit 330, (@PySem.Obj.mk (@PySem.Value.type "tuple") Option.none (@PySem.Data.seq (List.toArray []) (0 : Nat)) (List.toArray []))) ::
(nat_lit 332, (@PySem.Obj.mk (@PySem.Value.type "tuple") Option.none (@PySem.Data.seq (List.toArray [(@PySem.Value.str (@PySem.Str.ofString "self") (612 : Nat))]) (0 : Nat)) (List.toArray []))) ::
(nat_lit 333, (@PySem.Obj.mk (@PySem.Value.type "tuple") Option.none (@PySem.Data.seq (List.toArray []) (0 : Nat)) (List.toArray []))) ::
(nat_lit 335, (@PySem.Obj.mk (@PySem.Value.type "code") Option.none (@PySem.Data.fields (List.toArray [(@PySem.Value.str (@PySem.Str.ofString "__str__") (609 : Nat)), (@PySem.Value.str (@PySem.Str.ofString "Thing.__str__") (610 : Nat)), (@PySem.Value.str (@PySem.Str.ofString "/claim/cut.py") (611 : Nat)), (@PySem.Value.int (97 : Int) (0 : Nat)), (@PySem.Value.int (1 : Int) (0 : Nat)), (@PySem.Value.int (0 : Int) (0 : Nat)), (@PySem.Value.int (0 : Int) (0 : Nat)), (@PySem.Value.int (3 : Int) (0 : Nat)), (@PySem.Value.ref (330 : Nat)), (@PySem.Value.bool Bool.true), (@PySem.Value.int (181 : Int) (0 : Nat)), (@PySem.Value.ref (331 : Nat)), PySem.Value.none, (@PySem.Value.ref (332 : Nat)), (@PySem.Value.ref (333 : Nat)), (@PySem.Value.ref (334 : Nat)), (@PySem.Value.int (613 : Int) (0 : Nat)), (@PySem.Value.int (97 : Int) (0 : Nat)), (@PySem.Value.str (@PySem.Str.ofString "/claim/cut.py") (614 : Nat))])) (List.toArray []))) ::
(nat_lit 336, (@PySem.Obj.mk (@PySem.Value.type "function") Option.none (@PySem.Data.func (PySem.FuncData.mk (@PySem.Str.ofString "__str__") (@PySem.Str.ofString "Thing.__str__") (defArgs s_Thing___str__) (PySem.FuncBody.stmts (defBody s_Thing___str__)) (defScope s_Thing___str__) (3 : Nat) [] PySem.Value.none PySem.Value.none PySem.Value.none (@PySem.Value.str (@PySem.Str.ofString "quietprobes.things") (538 : Nat)) Option.none (@PySem.Value.ref (335 : Nat)) PySem.Value.none (0 : Nat))) (List.toArray []))) ::
(nat_lit 337, (@PySem.Obj.mk (@PySem.Value.type "tuple") Option.none (@PySem.Data.seq (List.toArray []) (0 : Nat)) (List.toArray []))) ::
(nat_lit 339, (@PySem.Obj.mk (@PySem.Value.type "tuple") Option.none (@PySem.Data.seq (List.toArray [(@PySem.Value.str (@PySem.Str.ofString "name") (619 : Nat))]) (0 : Nat)) (List.toArray []))) ::
(nat_lit 340, (@PySem.Obj.mk (@PySem.Value.type "tuple") Option.none (@PySem.Data.seq (List.toArray []) (0 : Nat)) (List.toArray []))) ::
(nat_lit 342, (@PySem.Obj.mk (@PySem.Value.type "code") Option.none (@PySem.Data.fields (List.toArray [(@PySem.Value.str (@PySem.Str.ofString "feed") (616 : Nat)), (@PySem.Value.str (@PySem.Str.ofString "Thing.feed") (617 : Nat)), (@PySem.Value.str (@PySem.Str.ofString "/claim/cut.py") (618 : Nat)), (@PySem.Value.int (100 : Int) (0 : Nat)), (@PySem.Value.int (1 : Int) (0 : Nat)), (@PySem.Value.int (0 : Int) (0 : Nat)), (@PySem.Value.int (0 : Int) (0 : Nat)), (@PySem.Value.int (3 : Int) (0 : Nat)), (@PySem.Value.ref (337 : Nat)), (@PySem.Value.bool Bool.true), (@PySem.Value.int (181 : Int) (0 : Nat)), (@PySem.Value.ref (338 : Nat)), PySem.Value.none, (@PySem.Value.ref (339 : Nat)), (@PySem.Value.ref (340 : Nat)), (@PySem.Value.ref (341 : Nat)), (@PySem.Value.int (620 : Int) (0 : Nat)), (@PySem.Value.int (100 : Int) (0 : Nat)), (@PySem.Value.str (@PySem.Str.ofString "/claim/cut.py") (621 : Nat))])) (List.toArray []))) ::
(nat_lit 343, (@PySem.Obj.mk (@PySem.Value.type "function") Option.none (@PySem.Data.func (PySem.FuncData.mk (@PySem.Str.ofString "feed") (@PySem.Str.ofString "Thing.feed") (defArgs s_Thing_feed) (PySem.FuncBody.stmts (defBody s_Thing_feed)) (defScope s_Thing_feed) (3 : Nat) [] PySem.Value.none PySem.Value.none PySem.Value.none (@PySem.Value.str (@PySem.Str.ofString "quietprobes.things") (538 : Nat)) (Option.some (346 : Nat)) (@PySem.Value.ref (342 : Nat)) PySem.Value.none (0 : Nat))) (List.toArray []))) ::
(nat_lit 344, (@PySem.Obj.mk (@PySem.Value.type "dict") Option.none (@PySem.Data.dict (List.toArray [(@PySem.DictEntry.mk (@PySem.PyData.keyHash P (@PySem.Str.ofString "__module__")) (@PySem.Value.str (@PySem.Str.ofString "__module__") (623 : Nat)) (@PySem.Value.str (@PySem.Str.ofString "quietprobes.things") (538 : Nat))), (@PySem.DictEntry.mk (@PySem.PyData.keyHash P (@PySem.Str.ofString "__name__")) (@PySem.Value.str (@PySem.Str.ofString "__name__") (626 : Nat)) (@PySem.Value.str (@PySem.Str.ofString "feed") (625 : Nat))), (@PySem.DictEntry.mk (@PySem.PyData.keyHash P (@PySem.Str.ofString "__qualname__")) (@PySem.Value.str (@PySem.Str.ofString "__qualname__") (629 : Nat)) (@PySem.Value.str (@PySem.Str.ofString "Thing.feed") (628 : Nat))), (@PySem.DictEntry.mk (@PySem.PyData.keyHash P (@PySem.Str.ofString "__doc__")) (@PySem.Value.str (@PySem.Str.ofString "__doc__") (631 : Nat)) PySem.Value.none), (@PySem.DictEntry.mk (@PySem.PyData.keyHash P (@PySem.Str.ofString "__annotations__")) (@PySem.Value.str (@PySem.Str.ofString "__annotations__") (633 : Nat)) (@PySem.Value.ref (346 : Nat)))]) (5 : Nat)) (List.toArray []))) ::
(nat_lit 345, (@PySem.Obj.mk (@PySem.Value.type "staticmethod") (Option.some (344 : Nat)) (@PySem.Data.fields (List.toArray [(@PySem.Value.ref (343 : Nat)), (@PySem.Value.bool Bool.false)])) (List.toArray []))) ::
(nat_lit 346, (@PySem.Obj.mk (@PySem.Value.type "dict") Option.none (@PySem.Data.dict (List.toArray []) (0 : Nat)) (List.toArray []))) ::
(nat_lit 347, (@PySem.Obj.mk (@PySem.Value.type "tuple") Option.none (@PySem.Data.seq (List.toArray []) (0 : Nat)) (List.toArray []))) ::
(nat_lit 349, (@PySem.Obj.mk (@PySem.Value.type "tuple") Option.none (@PySem.Data.seq (List.toArray [(@PySem.Value.str (@PySem.Str.ofString "name") (638 : Nat))]) (0 : Nat)) (List.toArray []))) ::
(nat_lit 350, (@PySem.Obj.mk (@PySem.Value.type "tuple") Option.none (@PySem.Data.seq (List.toArray []) (0 : Nat)) (List.toArray []))) ::
(nat_lit 352, (@PySem.Obj.mk (@PySem.Value.type "code") Option.none (@PySem.Data.fields (List.toArray [(@PySem.Value.str (@PySem.Str.ofString "dice") (635 : Nat)), (@PySem.Value.str (@PySem.Str.ofString "Thing.dice") (636 : Nat)), (@PySem.Value.str (@PySem.Str.ofString "/claim/cut.py") (637 : Nat)), (@PySem.Value.int (105 : Int) (0 : Nat)), (@PySem.Value.int (1 : Int) (0 : Nat)), (@PySem.Value.int (0 : Int) (0 : Nat)), (@PySem.Value.int (0 : Int) (0 : Nat)), (@PySem.Value.int (3 : Int) (0 : Nat)), (@PySem.Value.ref (347 : Nat)), (@PySem.Value.bool Bool.true), (@PySem.Value.int (181 : Int) (0 : Nat)), (@PySem.Value.ref (348 : Nat)), PySem.Value.none, (@PySem.Value.ref (349 : Nat)), (@PySem.Value.ref (350 : Nat)), (@PySem.Value.ref (351 : Nat)), (@PySem.Value.int (639 : Int) (0 : Nat)), (@PySem.Value.int (105 : Int) (0 : Nat)), (@PySem.Value.str (@PySem.Str.ofString "/claim/cut.py") (640 : Nat))])) (List.toArray []))) ::
(nat_lit 353, (@PySem.Obj.mk (@PySem.Value.type "function") Option.none (@PySem.Data.func (PySem.FuncData.mk (@PySem.Str.ofString "dice") (@PySem.Str.ofString "Thing.dice") (defArgs s_Thing_dice) (PySem.FuncBody.stmts (defBody s_Thing_dice)) (defScope s_Thing_dice) (3 : Nat) [] PySem.Value.none PySem.Value.none PySem.Value.none (@PySem.Value.str (@PySem.Str.ofString "quietprobes.things") (538 : Nat)) (Option.some (356 : Nat)) (@PySem.Value.ref (352 : Nat)) PySem.Value.none (0 : Nat))) (List.toArray []))) ::
(nat_lit 354, (@PySem.Obj.mk (@PySem.Value.type "dict") Option.none (@PySem.Data.dict (List.toArray [(@PySem.DictEntry.mk (@PySem.PyData.keyHash P (@PySem.Str.ofString "__module__")) (@PySem.Value.str (@PySem.Str.ofString "__module__") (642 : Nat)) (@PySem.Value.str (@PySem.Str.ofString "quietprobes.things") (538 : Nat))), (@PySem.DictEntry.mk (@PySem.PyData.keyHash P (@PySem.Str.ofString "__name__")) (@PySem.Value.str (@PySem.Str.ofString "__name__") (645 : Nat)) (@PySem.Value.str (@PySem.Str.ofString "dice") (644 : Nat))), (@PySem.DictEntry.mk (@PySem.PyData.keyHash P (@PySem.Str.ofString "__qualname__")) (@PySem.Value.str (@PySem.Str.ofString "__qualname__") (648 : Nat)) (@PySem.Value.str (@PySem.Str.ofString "Thing.dice") (647 : Nat))), (@PySem.DictEntry.mk (@PySem.PyData.keyHash P (@PySem.Str.ofString "__doc__")) (@PySem.Value.str (@PySem.Str.ofString "__doc__") (650 : Nat)) PySem.Value.none), (@PySem.DictEntry.mk (@PySem.PyData.keyHash P (@PySem.Str.ofString "__annotations__")) (@PySem.Value.str (@PySem.Str.ofString "__annotations__") (652 : Nat)) (@PySem.Value.ref (356 : Nat)))]) (5 : Nat)) (List.toArray []))) ::
(nat_lit 355, (@PySem.Obj.mk (@PySem.Value.type "staticmethod") (Option.some (354 : Nat)) (@PySem.Data.fields (List.toArray [(@PySem.Value.ref (353 : Nat)), (@PySem.Value.bool Bool.false)])) (List.toArray []))) ::
(nat_lit 356, (@PySem.Obj.mk (@PySem.Value.type "dict") Option.none (@PySem.Data.dict (List.toArray []) (0 : Nat)) (List.toArray []))) ::
(nat_lit 357, (@PySem.Obj.mk (@PySem.Value.type "tuple") Option.none (@PySem.Data.seq (List.toArray []) (0 : Nat)) (List.toArray []))) ::
(nat_lit 359, (@PySem.Obj.mk (@PySem.Value.type "tuple") Option.none (@PySem.Data.seq (List.toArray [(@PySem.Value.str (@PySem.Str.ofString "name") (657 : Nat))]) (0 : Nat)) (List.toArray []))) ::
(nat_lit 360, (@PySem.Obj.mk (@PySem.Value.type "tuple") Option.none (@PySem.Data.seq (List.toArray []) (0 : Nat)) (List.toArray []))) ::
(nat_lit 362, (@PySem.Obj.mk (@PySem.Value.type "code") Option.none (@PySem.Data.fields (List.toArray [(@PySem.Value.str (@PySem.Str.ofString "source") (654 : Nat)), (@PySem.Value.str (@PySem.Str.ofString "Thing.source") (655 : Nat)), (@PySem.Value.str (@PySem.Str.ofString "/claim/cut.py") (656 : Nat)), (@PySem.Value.int (110 : Int) (0 : Nat)), (@PySem.Value.int (1 : Int) (0 : Nat)), (@PySem.Value.int (0 : Int) (0 : Nat)), (@PySem.Value.int (0 : Int) (0 : Nat)), (@PySem.Value.int (3 : Int) (0 : Nat)), (@PySem.Value.ref (357 : Nat)), (@PySem.Value.bool Bool.true), (@PySem.Value.int (181 : Int) (0 : Nat)), (@PySem.Value.ref (358 : Nat)), PySem.Value.none, (@PySem.Value.ref (359 : Nat)), (@PySem.Value.ref (360 : Nat)), (@PySem.Value.ref (361 : Nat)), (@PySem.Value.int (658 : Int) (0 : Nat)), (@PySem.Value.int (110 : Int) (0 : Nat)), (@PySem.Value.str (@PySem.Str.ofString "/claim/cut.py") (659 : Nat))])) (List.toArray []))) ::
(nat_lit 363, (@PySem.Obj.mk (@PySem.Value.type "function") Option.none (@PySem.Data.func (PySem.FuncData.mk (@PySem.Str.ofString "source") (@PySem.Str.ofString "Thing.source") (defArgs s_Thing_source) (PySem.FuncBody.stmts (defBody s_Thing_source)) (defScope s_Thing_source) (3 : Nat) [] PySem.Value.none PySem.Value.none PySem.Value.none (@PySem.Value.str (@PySem.Str.ofString "quietprobes.things") (538 : Nat)) (Option.some (366 : Nat)) (@PySem.Value.ref (362 : Nat)) PySem.Value.none (0 : Nat))) (List.toArray []))) ::
(nat_lit 364, (@PySem.Obj.mk (@PySem.Value.type "dict") Option.none (@PySem.Data.dict (List.toArray [(@PySem.DictEntry.mk (@PySem.PyData.keyHash P (@PySem.Str.ofString "__module__")) (@PySem.Value.str (@PySem.Str.ofString "__module__") (661 : Nat)) (@PySem.Value.str (@PySem.Str.ofString "quietprobes.things") (538 : Nat))), (@PySem.DictEntry.mk (@PySem.PyData.keyHash P (@PySem.Str.ofString "__name__")) (@PySem.Value.str (@PySem.Str.ofString "__name__") (664 : Nat)) (@PySem.Value.str (@PySem.Str.ofString "source") (663 : Nat))), (@PySem.DictEntry.mk (@PySem.PyData.keyHash P (@PySem.Str.ofString "__qualname__")) (@PySem.Value.str (@PySem.Str.ofString "__qualname__") (667 : Nat)) (@PySem.Value.str (@PySem.Str.ofString "Thing.source") (666 : Nat))), (@PySem.DictEntry.mk (@PySem.PyData.keyHash P (@PySem.Str.ofString "__doc__")) (@PySem.Value.str (@PySem.Str.ofString "__doc__") (669 : Nat)) PySem.Value.none), (@PySem.DictEntry.mk (@PySem.PyData.keyHash P (@PySem.Str.ofString "__annotations__")) (@PySem.Value.str (@PySem.Str.ofString "__annotations__") (671 : Nat)) (@PySem.Value.ref (366 : Nat)))]) (5 : Nat)) (List.toArray []))) ::
(nat_lit 365, (@PySem.Obj.mk (@PySem.Value.type "staticmethod") (Option.some (364 : Nat)) (@PySem.Data.fields (List.toArray [(@PySem.Value.ref (363 : Nat)), (@PySem.Value.bool Bool.false)])) (List.toArray []))) ::
(nat_lit 366, (@PySem.Obj.mk (@PySem.Value.type "dict") Option.none (@PySem.Data.dict (List.toArray []) (0 : Nat)) (List.toArray []))) ::
(nat_lit 367, (@PySem.Obj.mk (@PySem.Value.type "tuple") Option.none (@PySem.Data.seq (List.toArray []) (0 : Nat)) (List.toArray []))) ::
(nat_lit 369, (@PySem.Obj.mk (@PySem.Value.type "tuple") Option.none (@PySem.Data.seq (List.toArray [(@PySem.Value.str (@PySem.Str.ofString "name") (676 : Nat))]) (0 : Nat)) (List.toArray []))) ::
(nat_lit 370, (@PySem.Obj.mk (@PySem.Value.type "tuple") Option.none (@PySem.Data.seq (List.toArray []) (0 : Nat)) (List.toArray []))) ::
(nat_lit 372, (@PySem.Obj.mk (@PySem.Value.type "code") Option.none (@PySem.Data.fields (List.toArray [(@PySem.Value.str (@PySem.Str.ofString "flag") (673 : Nat)), (@PySem.Value.str (@PySem.Str.ofString "Thing.flag") (674 : Nat)), (@PySem.Value.str (@PySem.Str.ofString "/claim/cut.py") (675 : Nat)), (@PySem.Value.int (115 : Int) (0 : Nat)), (@PySem.Value.int (1 : Int) (0 : Nat)), (@PySem.Value.int (0 : Int) (0 : Nat)), (@PySem.Value.int (0 : Int) (0 : Nat)), (@PySem.Value.int (3 : Int) (0 : Nat)), (@PySem.Value.ref (367 : Nat)), (@PySem.Value.bool Bool.true), (@PySem.Value.int (181 : Int) (0 : Nat)), (@PySem.Value.ref (368 : Nat)), PySem.Value.none, (@PySem.Value.ref (369 : Nat)), (@PySem.Value.ref (370 : Nat)), (@PySem.Value.ref (371 : Nat)), (@PySem.Value.int (677 : Int) (0 : Nat)), (@PySem.Value.int (115 : Int) (0 : Nat)), (@PySem.Value.str (@PySem.Str.ofString "/claim/cut.py") (678 : Nat))])) (List.toArray []))) ::
(nat_lit 373, (@PySem.Obj.mk (@PySem.Value.type "function") Option.none (@PySem.Data.func (PySem.FuncData.mk (@PySem.Str.ofString "flag") (@PySem.Str.ofString "Thing.flag") (defArgs s_Thing_flag) (PySem.FuncBody.stmts (defBody s_Thing_flag)) (defScope s_Thing_flag) (3 : Nat) [] PySem.Value.none PySem.Value.none PySem.Value.none (@PySem.Value.str (@PySem.Str.ofString "quietprobes.things") (538 : Nat)) (Option.some (376 : Nat)) (@PySem.Value.ref (372 : Nat)) PySem.Value.none (0 : Nat))) (List.toArray []))) ::
(nat_lit 374, (@PySem.Obj.mk (@PySem.Value.type "dict") Option.none (@PySem.Data.dict (List.toArray [(@PySem.DictEntry.mk (@PySem.PyData.keyHash P (@PySem.Str.ofString "__module__")) (@PySem.Value.str (@PySem.Str.ofString "__module__") (680 : Nat)) (@PySem.Value.str (@PySem.Str.ofString "quietprobes.things") (538 : Nat))), (@PySem.DictEntry.mk (@PySem.PyData.keyHash P (@PySem.Str.ofString "__name__")) (@PySem.Value.str (@PySem.Str.ofString "__name__") (683 : Nat)) (@PySem.Value.str (@PySem.Str.ofString "flag") (682 : Nat))), (@PySem.DictEntry.mk (@PySem.PyData.keyHash P (@PySem.Str.ofString "__qualname__")) (@PySem.Value.str (@PySem.Str.ofString "__qualname__") (686 : Nat)) (@PySem.Value.str (@PySem.Str.ofString "Thing.flag") (685 : Nat))), (@PySem.DictEntry.mk (@PySem.PyData.keyHash P (@PySem.Str.ofString "__doc__")) (@PySem.Value.str (@PySem.Str.ofString "__doc__") (688 : Nat)) PySem.Value.none), (@PySem.DictEntry.mk (@PySem.PyData.keyHash P (@PySem.Str.ofString "__annotations__")) (@PySem.Value.str (@PySem.Str.ofString "__annotations__") (690 : Nat)) (@PySem.Value.ref (376 : Nat)))]) (5 : Nat)) (List.toArray []))) ::
(nat_lit 375, (@PySem.Obj.mk (@PySem.Value.type "staticmethod") (Option.some (374 : Nat)) (@PySem.Data.fields (List.toArray [(@PySem.Value.ref (373 : Nat)), (@PySem.Value.bool Bool.false)])) (List.toArray []))) ::
(nat_lit 376, (@PySem.Obj.mk (@PySem.Value.type "dict") Option.none (@PySem.Data.dict (List.toArray []) (0 : Nat)) (List.toArray []))) ::
(nat_lit 377, (@PySem.Obj.mk (@PySem.Value.type "tuple") Option.none (@PySem.Data.seq (List.toArray []) (0 : Nat)) (List.toArray []))) ::
(nat_lit 379, (@PySem.Obj.mk (@PySem.Value.type "tuple") Option.none (@PySem.Data.seq (List.toArray [(@PySem.Value.str (@PySem.Str.ofString "name") (695 : Nat))]) (0 : Nat)) (List.toArray []))) ::
(nat_lit 380, (@PySem.Obj.mk (@PySem.Value.type "tuple") Option.none (@PySem.Data.seq (List.toArray []) (0 : Nat)) (List.toArray []))) ::
(nat_lit 382, (@PySem.Obj.mk (@PySem.Value.type "code") Option.none (@PySem.Data.fields (List.toArray [(@PySem.Value.str (@PySem.Str.ofString "slot") (692 : Nat)), (@PySem.Value.str (@PySem.Str.ofString "Thing.slot") (693 : Nat)), (@PySem.Value.str (@PySem.Str.ofString "/claim/cut.py") (694 : Nat)), (@PySem.Value.int (120 : Int) (0 : Nat)), (@PySem.Value.int (1 : Int) (0 : Nat)), (@PySem.Value.int (0 : Int) (0 : Nat)), (@PySem.Value.int (0 : Int) (0 : Nat)), (@PySem.Value.int (3 : Int) (0 : Nat)), (@PySem.Value.ref (377 : Nat)), (@PySem.Value.bool Bool.true), (@PySem.Value.int (181 : Int) (0 : Nat)), (@PySem.Value.ref (378 : Nat)), PySem.Value.none, (@PySem.Value.ref (379 : Nat)), (@PySem.Value.ref (380 : Nat)), (@PySem.Value.ref (381 : Nat)), (@PySem.Value.int (696 : Int) (0 : Nat)), (@PySem.Value.int (120 : Int) (0 : Nat)), (@PySem.Value.str (@PySem.Str.ofString "/claim/cut.py") (697 : Nat))])) (List.toArray []))) ::
(nat_lit 383, (@PySem.Obj.mk (@PySem.Value.type "function") Option.none (@PySem.Data.func (PySem.FuncData.mk (@PySem.Str.ofString "slot") (@PySem.Str.ofString "Thing.slot") (defArgs s_Thing_slot) (PySem.FuncBody.stmts (defBody s_Thing_slot)) (defScope s_Thing_slot) (3 : Nat) [] PySem.Value.none PySem.Value.none PySem.Value.none (@PySem.Value.str (@PySem.Str.ofString "quietprobes.things") (538 : Nat)) (Option.some (386 : Nat)) (@PySem.Value.ref (382 : Nat)) PySem.Value.none (0 : Nat))) (List.toArray []))) ::
(nat_lit 384, (@PySem.Obj.mk (@PySem.Value.type "dict") Option.none (@PySem.Data.dict (List.toArray [(@PySem.DictEntry.mk (@PySem.PyData.keyHash P (@PySem.Str.ofString "__module__")) (@PySem.Value.str (@PySem.Str.ofString "__module__") (699 : Nat)) (@PySem.Value.str (@PySem.Str.ofString "quietprobes.things") (538 : Nat))), (@PySem.DictEntry.mk (@PySem.PyData.keyHash P (@PySem.Str.ofString "__name__")) (@PySem.Value.str (@PySem.Str.ofString "__name__") (702 : Nat)) (@PySem.Value.str (@PySem.Str.ofString "slot") (701 : Nat))), (@PySem.DictEntry.mk (@PySem.PyData.keyHash P (@PySem.Str.ofString "__qualname__")) (@PySem.Value.str (@PySem.Str.ofString "__qualname__") (705 : Nat)) (@PySem.Value.str (@PySem.Str.ofString "Thing.slot") (704 : Nat))), (@PySem.DictEntry.mk (@PySem.PyData.keyHash P (@PySem.Str.ofString "__doc__")) (@PySem.Value.str (@PySem.Str.ofString "__doc__") (707 : Nat)) PySem.Value.none), (@PySem.DictEntry.mk (@PySem.PyData.keyHash P (@PySem.Str.ofString "__annotations__")) (@PySem.Value.str (@PySem.Str.ofString "__annotations__") (709 : Nat)) (@PySem.Value.ref (386 : Nat)))]) (5 : Nat)) (List.toArray []))) ::
(nat_lit 385, (@PySem.Obj.mk (@PySem.Value.type "staticmethod") (Option.some (384 : Nat)) (@PySem.Data.fields (List.toArray [(@PySem.Value.ref (383 : Nat)), (@PySem.Value.bool Bool.false)])) (List.toArray []))) ::
(nat_lit 386, (@PySem.Obj.mk (@PySem.Value.type "dict") Option.none (@PySem.Data.dict (List.toArray []) (0 : Nat)) (List.toArray []))) ::
(nat_lit 387, (@PySem.Obj.mk (@PySem.Value.type "tuple") Option.none (@PySem.Data.seq (List.toArray []) (0 : Nat)) (List.toArray []))) ::
(nat_lit 389, (@PySem.Obj.mk (@PySem.Value.type "tuple") Option.none (@PySem.Data.seq (List.toArray [(@PySem.Value.str (@PySem.Str.ofString "name") (714 : Nat)), (@PySem.Value.str (@PySem.Str.ofString "over") (715 : Nat))]) (0 : Nat)) (List.toArray []))) ::
(nat_lit 390, (@PySem.Obj.mk (@PySem.Value.type "tuple") Option.none (@PySem.Data.seq (List.toArray []) (0 : Nat)) (List.toArray []))) ::
(nat_lit 392, (@PySem.Obj.mk (@PySem.Value.type "code") Option.none (@PySem.Data.fields (List.toArray [(@PySem.Value.str (@PySem.Str.ofString "field") (711 : Nat)), (@PySem.Value.str (@PySem.Str.ofString "Thing.field") (712 : Nat)), (@PySem.Value.str (@PySem.Str.ofString "/claim/cut.py") (713 : Nat)), (@PySem.Value.int (125 : Int) (0 : Nat)), (@PySem.Value.int (2 : Int) (0 : Nat)), (@PySem.Value.int (0 : Int) (0 : Nat)), (@PySem.Value.int (0 : Int) (0 : Nat)), (@PySem.Value.int (3 : Int) (0 : Nat)), (@PySem.Value.ref (387 : Nat)), (@PySem.Value.bool Bool.true), (@PySem.Value.int (181 : Int) (0 : Nat)), (@PySem.Value.ref (388 : Nat)), PySem.Value.none, (@PySem.Value.ref (389 : Nat)), (@PySem.Value.ref (390 : Nat)), (@PySem.Value.ref (391 : Nat)), (@PySem.Value.int (716 : Int) (0 : Nat)), (@PySem.Value.int (125 : Int) (0 : Nat)), (@PySem.Value.str (@PySem.Str.ofString "/claim/cut.py") (717 : Nat))])) (List.toArray []))) ::
(nat_lit 393, (@PySem.Obj.mk (@PySem.Value.type "function") Option.none (@PySem.Data.func (PySem.FuncData.mk (@PySem.Str.ofString "field") (@PySem.Str.ofString "Thing.field") (defArgs s_Thing_field) (PySem.FuncBody.stmts (defBody s_Thing_field)) (defScope s_Thing_field) (3 : Nat) [] PySem.Value.none PySem.Value.none PySem.Value.none (@PySem.Value.str (@PySem.Str.ofString "quietprobes.things") (538 : Nat)) (Option.some (396 : Nat)) (@PySem.Value.ref (392 : Nat)) PySem.Value.none (0 : Nat))) (List.toArray []))) ::
(nat_lit 394, (@PySem.Obj.mk (@PySem.Value.type "dict") Option.none (@PySem.Data.dict (List.toArray [(@PySem.DictEntry.mk (@PySem.PyData.keyHash P (@PySem.Str.ofString "__module__")) (@PySem.Value.str (@PySem.Str.ofString "__module__") (719 : Nat)) (@PySem.Value.str (@PySem.Str.ofString "quietprobes.things") (538 : Nat))), (@PySem.DictEntry.mk (@PySem.PyData.keyHash P (@PySem.Str.ofString "__name__")) (@PySem.Value.str (@PySem.Str.ofString "__name__") (722 : Nat)) (@PySem.Value.str (@PySem.Str.ofString "field") (721 : Nat))), (@PySem.DictEntry.mk (@PySem.PyData.keyHash P (@PySem.Str.ofString "__qualname__")) (@PySem.Value.str (@PySem.Str.ofString "__qualname__") (725 : Nat)) (@PySem.Value.str (@PySem.Str.ofString "Thing.field") (724 : Nat))), (@PySem.DictEntry.mk (@PySem.PyData.keyHash P (@PySem.Str.ofString "__doc__")) (@PySem.Value.str (@PySem.Str.ofString "__doc__") (727 : Nat)) PySem.Value.none), (@PySem.DictEntry.mk (@PySem.PyData.keyHash P (@PySem.Str.ofString "__annotations__")) (@PySem.Value.str (@PySem.Str.ofString "__annotations__") (729 : Nat)) (@PySem.Value.ref (396 : Nat)))]) (5 : Nat)) (List.toArray []))) ::
(nat_lit 395, (@PySem.Obj.mk (@PySem.Value.type "staticmethod") (Option.some (394 : Nat)) (@PySem.Data.fields (List.toArray [(@PySem.Value.ref (393 : Nat)), (@PySem.Value.bool Bool.false)])) (List.toArray []))) ::
(nat_lit 396, (@PySem.Obj.mk (@PySem.Value.type "dict") Option.none (@PySem.Data.dict (List.toArray []) (0 : Nat)) (List.toArray []))) ::
(nat_lit 397, (@PySem.Obj.mk (@PySem.Value.type "tuple") Option.none (@PySem.Data.seq (List.toArray []) (0 : Nat)) (List.toArray []))) ::
(nat_lit 399, (@PySem.Obj.mk (@PySem.Value.type "tuple") Option.none (@PySem.Data.seq (List.toArray [(@PySem.Value.str (@PySem.Str.ofString "name") (734 : Nat)), (@PySem.Value.str (@PySem.Str.ofString "keys") (735 : Nat))]) (0 : Nat)) (List.toArray []))) ::
(nat_lit 400, (@PySem.Obj.mk (@PySem.Value.type "tuple") Option.none (@PySem.Data.seq (List.toArray []) (0 : Nat)) (List.toArray []))) ::
(nat_lit 402, (@PySem.Obj.mk (@PySem.Value.type "code") Option.none (@PySem.Data.fields (List.toArray [(@PySem.Value.str (@PySem.Str.ofString "table") (731 : Nat)), (@PySem.Value.str (@PySem.Str.ofString "Thing.table") (732 : Nat)), (@PySem.Value.str (@PySem.Str.ofString "/claim/cut.py") (733 : Nat)), (@PySem.Value.int (130 : Int) (0 : Nat)), (@PySem.Value.int (1 : Int) (0 : Nat)), (@PySem.Value.int (0 : Int) (0 : Nat)), (@PySem.Value.int (0 : Int) (0 : Nat)), (@PySem.Value.int (7 : Int) (0 : Nat)), (@PySem.Value.ref (397 : Nat)), (@PySem.Value.bool Bool.true), (@PySem.Value.int (181 : Int) (0 : Nat)), (@PySem.Value.ref (398 : Nat)), PySem.Value.none, (@PySem.Value.ref (399 : Nat)), (@PySem.Value.ref (400 : Nat)), (@PySem.Value.ref (401 : Nat)), (@PySem.Value.int (736 : Int) (0 : Nat)), (@PySem.Value.int (130 : Int) (0 : Nat)), (@PySem.Value.str (@PySem.Str.ofString "/claim/cut.py") (737 : Nat))])) (List.toArray []))) ::
(nat_lit 403, (@PySem.Obj.mk (@PySem.Value.type "function") Option.none (@PySem.Data.func (PySem.FuncData.mk (@PySem.Str.ofString "table") (@PySem.Str.ofString "Thing.table") (defArgs s_Thing_table) (PySem.FuncBody.stmts (defBody s_Thing_table)) (defScope s_Thing_table) (3 : Nat) [] PySem.Value.none PySem.Value.none PySem.Value.none (@PySem.Value.str (@PySem.Str.ofString "quietprobes.things") (538 : Nat)) (Option.some (406 : Nat)) (@PySem.Value.ref (402 : Nat)) PySem.Value.none (0 : Nat))) (List.toArray []))) ::
(nat_lit 404, (@PySem.Obj.mk (@PySem.Value.type "dict") Option.none (@PySem.Data.dict (List.toArray [(@PySem.DictEntry.mk (@PySem.PyData.keyHash P (@PySem.Str.ofString "__module__")) (@PySem.Value.str (@PySem.Str.ofString "__module__") (739 : Nat)) (@PySem.Value.str (@PySem.Str.ofString "quietprobes.things") (538 : Nat))), (@PySem.DictEntry.mk (@PySem.PyData.keyHash P (@PySem.Str.ofString "__name__")) (@PySem.Value.str (@PySem.Str.ofString "__name__") (742 : Nat)) (@PySem.Value.str (@PySem.Str.ofString "table") (741 : Nat))), (@PySem.DictEntry.mk (@PySem.PyData.keyHash P (@PySem.Str.ofString "__qualname__")) (@PySem.Value.str (@PySem.Str.ofString "__qualname__") (745 : Nat)) (@PySem.Value.str (@PySem.Str.ofString "Thing.table") (744 : Nat))), (@PySem.DictEntry.mk (@PySem.PyData.keyHash P (@PySem.Str.ofString "__doc__")) (@PySem.Value.str (@PySem.Str.ofString "__doc__") (747 : Nat)) PySem.Value.none), (@PySem.DictEntry.mk (@PySem.PyData.keyHash P (@PySem.Str.ofString "__annotations__")) (@PySem.Value.str (@PySem.Str.ofString "__annotations__") (749 : Nat)) (@PySem.Value.ref (406 : Nat)))]) (5 : Nat)) (List.toArray []))) ::
(nat_lit 405, (@PySem.Obj.mk (@PySem.Value.type "staticmethod") (Option.some (404 : Nat)) (@PySem.Data.fields (List.toArray [(@PySem.Value.ref (403 : Nat)), (@PySem.Value.bool Bool.false)])) (List.toArray []))) ::
(nat_lit 406, (@PySem.Obj.mk (@PySem.Value.type "dict") Option.none (@PySem.Data.dict (List.toArray []) (0 : Nat)) (List.toArray []))) ::
(nat_lit 407, (@PySem.Obj.mk (@PySem.Value.type "tuple") Option.none (@PySem.Data.seq (List.toArray [(@PySem.Value.str (@PySem.Str.ofString "kind") (751 : Nat)), (@PySem.Value.str (@PySem.Str.ofString "name") (752 : Nat)), (@PySem.Value.str (@PySem.Str.ofString "parts") (753 : Nat))]) (0 : Nat)) (List.toArray []))) ::
(nat_lit 408, (@PySem.Obj.mk (@PySem.Value.type "dict") Option.none (@PySem.Data.dict (List.toArray [(@PySem.DictEntry.mk (@PySem.PyData.keyHash P (@PySem.Str.ofString "__module__")) (@PySem.Value.str (@PySem.Str.ofString "__module__") (578 : Nat)) (@PySem.Value.str (@PySem.Str.ofString "quietprobes.things") (538 : Nat))), (@PySem.DictEntry.mk (@PySem.PyData.keyHash P (@PySem.Str.ofString "__firstlineno__")) (@PySem.Value.str (@PySem.Str.ofString "__firstlineno__") (582 : Nat)) (@PySem.Value.int (86 : Int) (581 : Nat))), (@PySem.DictEntry.mk (@PySem.PyData.keyHash P (@PySem.Str.ofString "KINDS")) (@PySem.Value.str (@PySem.Str.ofString "KINDS") (590 : Nat)) (@PySem.Value.ref (313 : Nat))), (@PySem.DictEntry.mk (@PySem.PyData.keyHash P (@PySem.Str.ofString "__init__")) (@PySem.Value.str (@PySem.Str.ofString "__init__") (600 : Nat)) (@PySem.Value.ref (322 : Nat))), (@PySem.DictEntry.mk (@PySem.PyData.keyHash P (@PySem.Str.ofString "__eq__")) (@PySem.Value.str (@PySem.Str.ofString "__eq__") (608 : Nat)) (@PySem.Value.ref (329 : Nat))), (@PySem.DictEntry.mk (@PySem.PyData.keyHash P (@PySem.Str.ofString "__str__")) (@PySem.Value.str (@PySem.Str.ofString "__str__") (615 : Nat)) (@PySem.Value.ref (336 : Nat))), (@PySem.DictEntry.mk (@PySem.PyData.keyHash P (@PySem.Str.ofString "feed")) (@PySem.Value.str (@PySem.Str.ofString "feed") (634 : Nat)) (@PySem.Value.ref (345 : Nat))), (@PySem.DictEntry.mk (@PySem.PyData.keyHash P (@PySem.Str.ofString "dice")) (@PySem.Value.str (@PySem.Str.ofString "dice") (653 : Nat)) (@PySem.Value.ref (355 : Nat))), (@PySem.DictEntry.mk (@PySem.PyData.keyHash P (@PySem.Str.ofString "source")) (@PySem.Value.str (@PySem.Str.ofString "source") (672 : Nat)) (@PySem.Value.ref (365 : Nat))), (@PySem.DictEntry.mk (@PySem.PyData.keyHash P (@PySem.Str.ofString "flag")) (@PySem.Value.str (@PySem.Str.ofString "flag") (691 : Nat)) (@PySem.Value.ref (375 : Nat))), (@PySem.DictEntry.mk (@PySem.PyData.keyHash P (@PySem.Str.ofString "slot")) (@PySem.Value.str (@PySem.Str.ofString "slot") (710 : Nat)) (@PySem.Value.ref (385 : Nat))), (@PySem.DictEntry.mk (@PySem.PyData.keyHash P (@PySem.Str.ofString "field")) (@PySem.Value.str (@PySem.Str.ofString "field") (730 : Nat)) (@PySem.Value.ref (395 : Nat))), (@PySem.DictEntry.mk (@PySem.PyData.keyHash P (@PySem.Str.ofString "table")) (@PySem.Value.str (@PySem.Str.ofString "table") (750 : Nat)) (@PySem.Value.ref (405 : Nat))), (@PySem.DictEntry.mk (@PySem.PyData.keyHash P (@PySem.Str.ofString "__static_attributes__")) (@PySem.Value.str (@PySem.Str.ofString "__static_attributes__") (754 : Nat)) (@PySem.Value.ref (407 : Nat))), (@PySem.DictEntry.mk (@PySem.PyData.keyHash P (@PySem.Str.ofString "__dict__")) (@PySem.Value.str (@PySem.Str.ofString "__dict__") (756 : Nat)) (@PySem.Value.ref (410 : Nat))), (@PySem.DictEntry.mk (@PySem.PyData.keyHash P (@PySem.Str.ofString "__weakref__")) (@PySem.Value.str (@PySem.Str.ofString "__weakref__") (758 : Nat)) (@PySem.Value.ref (411 : Nat))), (@PySem.DictEntry.mk (@PySem.PyData.keyHash P (@PySem.Str.ofString "__doc__")) (@PySem.Value.str (@PySem.Str.ofString "__doc__") (759 : Nat)) PySem.Value.none), (@PySem.DictEntry.mk (@PySem.PyData.keyHash P (@PySem.Str.ofString "__hash__")) (@PySem.Value.str (@PySem.Str.ofString "__hash__") (760 : Nat)) PySem.Value.none)]) (5 : Nat)) (List.toArray []))) ::
(nat_lit 409, (@PySem.Obj.mk (@PySem.Value.type "type") Option.none (@PySem.Data.cls (@PySem.ClassData.mk (@PySem.Str.ofString "Thing") [(@PySem.Value.type "object")] [(@PySem.Value.ref (409 : Nat)), (@PySem.Value.type "object")] (408 : Nat) (@PySem.Str.ofString "Thing") Bool.true [] [] Bool.false Option.none Bool.false)) (List.toArray [Option.none, Option.none, (Option.some (@PySem.Value.str (@PySem.Str.ofString "Thing") (571 : Nat))), (Option.some (@PySem.Value.str (@PySem.Str.ofString "Thing") (579 : Nat))), (Option.some (@PySem.Value.builtin "object.__new__")), (Option.some (@PySem.Value.bool Bool.true))]))) ::
(nat_lit 410, (@PySem.Obj.mk (@PySem.Value.type "getset_descriptor") Option.none (@PySem.Data.fields (List.toArray [(@PySem.Value.str (@PySem.Str.ofString "__dict__") (755 : Nat)), (@PySem.Value.ref (409 : Nat)), (@PySem.Value.builtin "function.__dict__"), (@PySem.Value.builtin "function.__dict__#set")])) (List.toArray []))) ::
(nat_lit 411, (@PySem.Obj.mk (@PySem.Value.type "getset_descriptor") Option.none (@PySem.Data.fields (List.toArray [(@PySem.Value.str (@PySem.Str.ofString "__weakref__") (757 : Nat)), (@PySem.Value.ref (409 : Nat)), (@PySem.Value.builtin "ExceptionGroup.__weakref__"), PySem.Value.none])) (List.toArray []))) ::
(nat_lit 414, (@PySem.Obj.mk (@PySem.Value.type "tuple") Option.none (@PySem.Data.seq (List.toArray []) (0 : Nat)) (List.toArray []))) ::
(nat_lit 417, (@PySem.Obj.mk (@PySem.Value.type "code") Option.none (@PySem.Data.fields (List.toArray [(@PySem.Value.str (@PySem.Str.ofString "need_things") (763 : Nat)), (@PySem.Value.str (@PySem.Str.ofString "need_things") (764 : Nat)), (@PySem.Value.str (@PySem.Str.ofString "/claim/cut.py") (765 : Nat)), (@PySem.Value.int (137 : Int) (0 : Nat)), (@PySem.Value.int (1 : Int) (0 : Nat)), (@PySem.Value.int (0 : Int) (0 : Nat)), (@PySem.Value.int (0 : Int) (0 : Nat)), (@PySem.Value.int (3 : Int) (0 : Nat)), (@PySem.Value.ref (414 : Nat)), (@PySem.Value.bool Bool.true), (@PySem.Value.int (181 : Int) (0 : Nat)), (@PySem.Value.ref (415 : Nat)), PySem.Value.none, PySem.Value.none, PySem.Value.none, (@PySem.Value.ref (416 : Nat)), (@PySem.Value.int (766 : Int) (0 : Nat)), (@PySem.Value.int (137 : Int) (0 : Nat)), (@PySem.Value.str (@PySem.Str.ofString "/claim/cut.py") (767 : Nat))])) (List.toArray []))) ::
(nat_lit 418, (@PySem.Obj.mk (@PySem.Value.type "function") Option.none (@PySem.Data.func (PySem.FuncData.mk (@PySem.Str.ofString "need_things") (@PySem.Str.ofString "need_things") (defArgs s_need_things) (PySem.FuncBody.stmts (defBody s_need_things)) (defScope s_need_things) (3 : Nat) [] PySem.Value.none PySem.Value.none PySem.Value.none (@PySem.Value.str (@PySem.Str.ofString "quietprobes.things") (538 : Nat)) Option.none (@PySem.Value.ref (417 : Nat)) PySem.Value.none (0 : Nat))) (List.toArray []))) ::
(nat_lit 419, (@PySem.Obj.mk (@PySem.Value.type "tuple") Option.none (@PySem.Data.seq (List.toArray []) (0 : Nat)) (List.toArray []))) ::
(nat_lit 422, (@PySem.Obj.mk (@PySem.Value.type "code") Option.none (@PySem.Data.fields (List.toArray [(@PySem.Value.str (@PySem.Str.ofString "read_thing") (769 : Nat)), (@PySem.Value.str (@PySem.Str.ofString "read_thing") (770 : Nat)), (@PySem.Value.str (@PySem.Str.ofString "/claim/cut.py") (771 : Nat)), (@PySem.Value.int (146 : Int) (0 : Nat)), (@PySem.Value.int (1 : Int) (0 : Nat)), (@PySem.Value.int (0 : Int) (0 : Nat)), (@PySem.Value.int (0 : Int) (0 : Nat)), (@PySem.Value.int (3 : Int) (0 : Nat)), (@PySem.Value.ref (419 : Nat)), (@PySem.Value.bool Bool.true), (@PySem.Value.int (181 : Int) (0 : Nat)), (@PySem.Value.ref (420 : Nat)), PySem.Value.none, PySem.Value.none, PySem.Value.none, (@PySem.Value.ref (421 : Nat)), (@PySem.Value.int (772 : Int) (0 : Nat)), (@PySem.Value.int (146 : Int) (0 : Nat)), (@PySem.Value.str (@PySem.Str.ofString "/claim/cut.py") (773 : Nat))])) (List.toArray []))) ::
(nat_lit 423, (@PySem.Obj.mk (@PySem.Value.type "function") Option.none (@PySem.Data.func (PySem.FuncData.mk (@PySem.Str.ofString "read_thing") (@PySem.Str.ofString "read_thing") (defArgs s_read_thing) (PySem.FuncBody.stmts (defBody s_read_thing)) (defScope s_read_thing) (3 : Nat) [] PySem.Value.none PySem.Value.none PySem.Value.none (@PySem.Value.str (@PySem.Str.ofString "quietprobes.things") (538 : Nat)) Option.none (@PySem.Value.ref (422 : Nat)) PySem.Value.none (0 : Nat))) (List.toArray []))) ::
(nat_lit 424, (@PySem.Obj.mk (@PySem.Value.type "tuple") Option.none (@PySem.Data.seq (List.toArray [(@PySem.Value.str (@PySem.Str.ofString "key") (781 : Nat)), (@PySem.Value.str (@PySem.Str.ofString "name") (782 : Nat)), (@PySem.Value.str (@PySem.Str.ofString "length") (783 : Nat)), (@PySem.Value.str (@PySem.Str.ofString "keys") (784 : Nat))]) (0 : Nat)) (List.toArray []))) ::
(nat_lit 425, (@PySem.Obj.mk (@PySem.Value.type "dict") Option.none (@PySem.Data.dict (List.toArray [(@PySem.DictEntry.mk (@PySem.PyData.keyHash P (@PySem.Str.ofString "take")) (@PySem.Value.str (@PySem.Str.ofString "take") (786 : Nat)) (@PySem.Value.ref (426 : Nat))), (@PySem.DictEntry.mk (@PySem.PyData.keyHash P (@PySem.Str.ofString "skip")) (@PySem.Value.str (@PySem.Str.ofString "skip") (789 : Nat)) (@PySem.Value.ref (427 : Nat))), (@PySem.DictEntry.mk (@PySem.PyData.keyHash P (@PySem.Str.ofString "drain")) (@PySem.Value.str (@PySem.Str.ofString "drain") (792 : Nat)) (@PySem.Value.ref (428 : Nat))), (@PySem.DictEntry.mk (@PySem.PyData.keyHash P (@PySem.Str.ofString "fetch")) (@PySem.Value.str (@PySem.Str.ofString "fetch") (795 : Nat)) (@PySem.Value.ref (429 : Nat))), (@PySem.DictEntry.mk (@PySem.PyData.keyHash P (@PySem.Str.ofString "bind")) (@PySem.Value.str (@PySem.Str.ofString "bind") (799 : Nat)) (@PySem.Value.ref (430 : Nat))), (@PySem.DictEntry.mk (@PySem.PyData.keyHash P (@PySem.Str.ofString "roll")) (@PySem.Value.str (@PySem.Str.ofString "roll") (803 : Nat)) (@PySem.Value.ref (431 : Nat))), (@PySem.DictEntry.mk (@PySem.PyData.keyHash P (@PySem.Str.ofString "seed")) (@PySem.Value.str (@PySem.Str.ofString "seed") (806 : Nat)) (@PySem.Value.ref (432 : Nat))), (@PySem.DictEntry.mk (@PySem.PyData.keyHash P (@PySem.Str.ofString "get")) (@PySem.Value.str (@PySem.Str.ofString "get") (809 : Nat)) (@PySem.Value.ref (433 : Nat))), (@PySem.DictEntry.mk (@PySem.PyData.keyHash P (@PySem.Str.ofString "peek")) (@PySem.Value.str (@PySem.Str.ofString "peek") (813 : Nat)) (@PySem.Value.ref (434 : Nat))), (@PySem.DictEntry.mk (@PySem.PyData.keyHash P (@PySem.Str.ofString "has")) (@PySem.Value.str (@PySem.Str.ofString "has") (817 : Nat)) (@PySem.Value.ref (435 : Nat))), (@PySem.DictEntry.mk (@PySem.PyData.keyHash P (@PySem.Str.ofString "put")) (@PySem.Value.str (@PySem.Str.ofString "put") (821 : Nat)) (@PySem.Value.ref (436 : Nat))), (@PySem.DictEntry.mk (@PySem.PyData.keyHash P (@PySem.Str.ofString "fill")) (@PySem.Value.str (@PySem.Str.ofString "fill") (825 : Nat)) (@PySem.Value.ref (437 : Nat))), (@PySem.DictEntry.mk (@PySem.PyData.keyHash P (@PySem.Str.ofString "drop")) (@PySem.Value.str (@PySem.Str.ofString "drop") (829 : Nat)) (@PySem.Value.ref (438 : Nat))), (@PySem.DictEntry.mk (@PySem.PyData.keyHash P (@PySem.Str.ofString "size")) (@PySem.Value.str (@PySem.Str.ofString "size") (833 : Nat)) (@PySem.Value.ref (439 : Nat))), (@PySem.DictEntry.mk (@PySem.PyData.keyHash P (@PySem.Str.ofString "keys")) (@PySem.Value.str (@PySem.Str.ofString "keys") (836 : Nat)) (@PySem.Value.ref (440 : Nat))), (@PySem.DictEntry.mk (@PySem.PyData.keyHash P (@PySem.Str.ofString "load")) (@PySem.Value.str (@PySem.Str.ofString "load") (839 : Nat)) (@PySem.Value.ref (441 : Nat))), (@PySem.DictEntry.mk (@PySem.PyData.keyHash P (@PySem.Str.ofString "wipe")) (@PySem.Value.str (@PySem.Str.ofString "wipe") (843 : Nat)) (@PySem.Value.ref (442 : Nat))), (@PySem.DictEntry.mk (@PySem.PyData.keyHash P (@PySem.Str.ofString "change")) (@PySem.Value.str (@PySem.Str.ofString "change") (846 : Nat)) (@PySem.Value.ref (444 : Nat))), (@PySem.DictEntry.mk (@PySem.PyData.keyHash P (@PySem.Str.ofString "look")) (@PySem.Value.str (@PySem.Str.ofString "look") (848 : Nat)) (@PySem.Value.ref (445 : Nat))), (@PySem.DictEntry.mk (@PySem.PyData.keyHash P (@PySem.Str.ofString "glance")) (@PySem.Value.str (@PySem.Str.ofString "glance") (850 : Nat)) (@PySem.Value.ref (446 : Nat))), (@PySem.DictEntry.mk (@PySem.PyData.keyHash P (@PySem.Str.ofString "renew")) (@PySem.Value.str (@PySem.Str.ofString "renew") (852 : Nat)) (@PySem.Value.ref (447 : Nat))), (@PySem.DictEntry.mk (@PySem.PyData.keyHash P (@PySem.Str.ofString "lift")) (@PySem.Value.str (@PySem.Str.ofString "lift") (854 : Nat)) (@PySem.Value.ref (448 : Nat))), (@PySem.DictEntry.mk (@PySem.PyData.keyHash P (@PySem.Str.ofString "read")) (@PySem.Value.str (@PySem.Str.ofString "read") (856 : Nat)) (@PySem.Value.ref (449 : Nat))), (@PySem.DictEntry.mk (@PySem.PyData.keyHash P (@PySem.Str.ofString "watch")) (@PySem.Value.str (@PySem.Str.ofString "watch") (858 : Nat)) (@PySem.Value.ref (450 : Nat))), (@PySem.DictEntry.mk (@PySem.PyData.keyHash P (@PySem.Str.ofString "keep")) (@PySem.Value.str (@PySem.Str.ofString "keep") (860 : Nat)) (@PySem.Value.ref (451 : Nat))), (@PySem.DictEntry.mk (@PySem.PyData.keyHash P (@PySem.Str.ofString "copy")) (@PySem.Value.str (@PySem.Str.ofString "copy") (862 : Nat)) (@PySem.Value.ref (452 : Nat))), (@PySem.DictEntry.mk (@PySem.PyData.keyHash P (@PySem.Str.ofString "tell")) (@PySem.Value.str (@PySem.Str.ofString "tell") (865 : Nat)) (@PySem.Value.ref (453 : Nat))), (@PySem.DictEntry.mk (@PySem.PyData.keyHash P (@PySem.Str.ofString "bound")) (@PySem.Value.str (@PySem.Str.ofString "bound") (867 : Nat)) (@PySem.Value.ref (454 : Nat))), (@PySem.DictEntry.mk (@PySem.PyData.keyHash P (@PySem.Str.ofString "mark")) (@PySem.Value.str (@PySem.Str.ofString "mark") (869 : Nat)) (@PySem.Value.ref (455 : Nat))), (@PySem.DictEntry.mk (@PySem.PyData.keyHash P (@PySem.Str.ofString "spy")) (@PySem.Value.str (@PySem.Str.ofString "spy") (872 : Nat)) (@PySem.Value.ref (456 : Nat)))]) (30 : Nat)) (List.toArray []))) ::
(nat_lit 426, (@PySem.Obj.mk (@PySem.Value.type "tuple") Option.none (@PySem.Data.seq (List.toArray [(@PySem.Value.str (@PySem.Str.ofString "feed") (787 : Nat))]) (0 : Nat)) (List.toArray []))) ::
(nat_lit 427, (@PySem.Obj.mk (@PySem.Value.type "tuple") Option.none (@PySem.Data.seq (List.toArray [(@PySem.Value.str (@PySem.Str.ofString "feed") (790 : Nat))]) (0 : Nat)) (List.toArray []))) ::
(nat_lit 428, (@PySem.Obj.mk (@PySem.Value.type "tuple") Option.none (@PySem.Data.seq (List.toArray [(@PySem.Value.str (@PySem.Str.ofString "feed") (793 : Nat))]) (0 : Nat)) (List.toArray []))) ::
(nat_lit 429, (@PySem.Obj.mk (@PySem.Value.type "tuple") Option.none (@PySem.Data.seq (List.toArray [(@PySem.Value.str (@PySem.Str.ofString "feed") (796 : Nat)), (@PySem.Value.str (@PySem.Str.ofString "length") (797 : Nat))]) (0 : Nat)) (List.toArray []))) ::
(nat_lit 430, (@PySem.Obj.mk (@PySem.Value.type "tuple") Option.none (@PySem.Data.seq (List.toArray [(@PySem.Value.str (@PySem.Str.ofString "feed") (800 : Nat)), (@PySem.Value.str (@PySem.Str.ofString "feed") (801 : Nat))]) (0 : Nat)) (List.toArray []))) ::
(nat_lit 431, (@PySem.Obj.mk (@PySem.Value.type "tuple") Option.none (@PySem.Data.seq (List.toArray [(@PySem.Value.str (@PySem.Str.ofString "dice") (804 : Nat))]) (0 : Nat)) (List.toArray []))) ::
(nat_lit 432, (@PySem.Obj.mk (@PySem.Value.type "tuple") Option.none (@PySem.Data.seq (List.toArray [(@PySem.Value.str (@PySem.Str.ofString "dice") (807 : Nat))]) (0 : Nat)) (List.toArray []))) ::
(nat_lit 433, (@PySem.Obj.mk (@PySem.Value.type "tuple") Option.none (@PySem.Data.seq (List.toArray [(@PySem.Value.str (@PySem.Str.ofString "table") (810 : Nat)), (@PySem.Value.str (@PySem.Str.ofString "key") (811 : Nat))]) (0 : Nat)) (List.toArray []))) ::
(nat_lit 434, (@PySem.Obj.mk (@PySem.Value.type "tuple") Option.none (@PySem.Data.seq (List.toArray [(@PySem.Value.str (@PySem.Str.ofString "table") (814 : Nat)), (@PySem.Value.str (@PySem.Str.ofString "key") (815 : Nat))]) (0 : Nat)) (List.toArray []))) ::
(nat_lit 435, (@PySem.Obj.mk (@PySem.Value.type "tuple") Option.none (@PySem.Data.seq (List.toArray [(@PySem.Value.str (@PySem.Str.ofString "table") (818 : Nat)), (@PySem.Value.str (@PySem.Str.ofString "key") (819 : Nat))]) (0 : Nat)) (List.toArray []))) ::
(nat_lit 436, (@PySem.Obj.mk (@PySem.Value.type "tuple") Option.none (@PySem.Data.seq (List.toArray [(@PySem.Value.str (@PySem.Str.ofString "table") (822 : Nat)), (@PySem.Value.str (@PySem.Str.ofString "key") (823 : Nat))]) (0 : Nat)) (List.toArray []))) ::
(nat_lit 437, (@PySem.Obj.mk (@PySem.Value.type "tuple") Option.none (@PySem.Data.seq (List.toArray [(@PySem.Value.str (@PySem.Str.ofString "table") (826 : Nat)), (@PySem.Value.str (@PySem.Str.ofString "key") (827 : Nat))]) (0 : Nat)) (List.toArray []))) ::
(nat_lit 438, (@PySem.Obj.mk (@PySem.Value.type "tuple") Option.none (@PySem.Data.seq (List.toArray [(@PySem.Value.str (@PySem.Str.ofString "table") (830 : Nat)), (@PySem.Value.str (@PySem.Str.ofString "key") (831 : Nat))]) (0 : Nat)) (List.toArray []))) ::
(nat_lit 439, (@PySem.Obj.mk (@PySem.Value.type "tuple") Option.none (@PySem.Data.seq (List.toArray [(@PySem.Value.str (@PySem.Str.ofString "table") (834 : Nat))]) (0 : Nat)) (List.toArray []))) ::
(nat_lit 440, (@PySem.Obj.mk (@PySem.Value.type "tuple") Option.none (@PySem.Data.seq (List.toArray [(@PySem.Value.str (@PySem.Str.ofString "table") (837 : Nat))]) (0 : Nat)) (List.toArray []))) ::
(nat_lit 441, (@PySem.Obj.mk (@PySem.Value.type "tuple") Option.none (@PySem.Data.seq (List.toArray [(@PySem.Value.str (@PySem.Str.ofString "table") (840 : Nat)), (@PySem.Value.str (@PySem.Str.ofString "keys") (841 : Nat))]) (0 : Nat)) (List.toArray []))) ::
(nat_lit 442, (@PySem.Obj.mk (@PySem.Value.type "tuple") Option.none (@PySem.Data.seq (List.toArray [(@PySem.Value.str (@PySem.Str.ofString "table") (844 : Nat))]) (0 : Nat)) (List.toArray []))) ::
(nat_lit 444, (@PySem.Obj.mk (@PySem.Value.type "tuple") Option.none (@PySem.Data.seq (List.toArray [(@PySem.Value.str (@PySem.Str.ofString "source") (847 : Nat))]) (0 : Nat)) (List.toArray []))) ::
(nat_lit 445, (@PySem.Obj.mk (@PySem.Value.type "tuple") Option.none (@PySem.Data.seq (List.toArray [(@PySem.Value.str (@PySem.Str.ofString "field") (849 : Nat))]) (0 : Nat)) (List.toArray []))) ::
(nat_lit 446, (@PySem.Obj.mk (@PySem.Value.type "tuple") Option.none (@PySem.Data.seq (List.toArray [(@PySem.Value.str (@PySem.Str.ofString "field") (851 : Nat))]) (0 : Nat)) (List.toArray []))) ::
(nat_lit 447, (@PySem.Obj.mk (@PySem.Value.type "tuple") Option.none (@PySem.Data.seq (List.toArray [(@PySem.Value.str (@PySem.Str.ofString "field") (853 : Nat))]) (0 : Nat)) (List.toArray []))) ::
(nat_lit 448, (@PySem.Obj.mk (@PySem.Value.type "tuple") Option.none (@PySem.Data.seq (List.toArray [(@PySem.Value.str (@PySem.Str.ofString "flag") (855 : Nat))]) (0 : Nat)) (List.toArray []))) ::
(nat_lit 449, (@PySem.Obj.mk (@PySem.Value.type "tuple") Option.none (@PySem.Data.seq (List.toArray [(@PySem.Value.str (@PySem.Str.ofString "flag") (857 : Nat))]) (0 : Nat)) (List.toArray []))) ::
(nat_lit 450, (@PySem.Obj.mk (@PySem.Value.type "tuple") Option.none (@PySem.Data.seq (List.toArray [(@PySem.Value.str (@PySem.Str.ofString "flag") (859 : Nat))]) (0 : Nat)) (List.toArray []))) ::
(nat_lit 451, (@PySem.Obj.mk (@PySem.Value.type "tuple") Option.none (@PySem.Data.seq (List.toArray [(@PySem.Value.str (@PySem.Str.ofString "slot") (861 : Nat))]) (0 : Nat)) (List.toArray []))) ::
(nat_lit 452, (@PySem.Obj.mk (@PySem.Value.type "tuple") Option.none (@PySem.Data.seq (List.toArray [(@PySem.Value.str (@PySem.Str.ofString "slot") (863 : Nat)), (@PySem.Value.str (@PySem.Str.ofString "slot") (864 : Nat))]) (0 : Nat)) (List.toArray []))) ::
(nat_lit 453, (@PySem.Obj.mk (@PySem.Value.type "tuple") Option.none (@PySem.Data.seq (List.toArray [(@PySem.Value.str (@PySem.Str.ofString "slot") (866 : Nat))]) (0 : Nat)) (List.toArray []))) ::
(nat_lit 454, (@PySem.Obj.mk (@PySem.Value.type "tuple") Option.none (@PySem.Data.seq (List.toArray [(@PySem.Value.str (@PySem.Str.ofString "slot") (868 : Nat))]) (0 : Nat)) (List.toArray []))) ::
(nat_lit 455, (@PySem.Obj.mk (@PySem.Value.type "tuple") Option.none (@PySem.Data.seq (List.toArray [(@PySem.Value.str (@PySem.Str.ofString "slot") (870 : Nat)), (@PySem.Value.str (@PySem.Str.ofString "name") (871 : Nat))]) (0 : Nat)) (List.toArray []))) ::
(nat_lit 456, (@PySem.Obj.mk (@PySem.Value.type "tuple") Option.none (@PySem.Data.seq (List.toArray [(@PySem.Value.str (@PySem.Str.ofString "thing") (873 : Nat))]) (0 : Nat)) (List.toArray []))) ::
(nat_lit 457, (@PySem.Obj.mk (@PySem.Value.type "tuple") Option.none (@PySem.Data.seq (List.toArray [(@PySem.Value.str (@PySem.Str.ofString "take") (888 : Nat)), (@PySem.Value.str (@PySem.Str.ofString "drain") (889 : Nat)), (@PySem.Value.str (@PySem.Str.ofString "roll") (890 : Nat)), (@PySem.Value.str (@PySem.Str.ofString "get") (891 : Nat)), (@PySem.Value.str (@PySem.Str.ofString "drop") (892 : Nat)), (@PySem.Value.str (@PySem.Str.ofString "look") (893 : Nat)), (@PySem.Value.str (@PySem.Str.ofString "renew") (894 : Nat)), (@PySem.Value.str (@PySem.Str.ofString "read") (895 : Nat)), (@PySem.Value.str (@PySem.Str.ofString "mark") (896 : Nat)), (@PySem.Value.str (@PySem.Str.ofString "peek") (897 : Nat)), (@PySem.Value.str (@PySem.Str.ofString "has") (898 : Nat)), (@PySem.Value.str (@PySem.Str.ofString "size") (899 : Nat)), (@PySem.Value.str (@PySem.Str.ofString "keys") (900 : Nat)), (@PySem.Value.str (@PySem.Str.ofString "glance") (901 : Nat)), (@PySem.Value.str (@PySem.Str.ofString "watch") (902 : Nat)), (@PySem.Value.str (@PySem.Str.ofString "tell") (903 : Nat)), (@PySem.Value.str (@PySem.Str.ofString "bound") (904 : Nat)), (@PySem.Value.str (@PySem.Str.ofString "spy") (905 : Nat))]) (0 : Nat)) (List.toArray []))) ::
(nat_lit 458, (@PySem.Obj.mk (@PySem.Value.type "tuple") Option.none (@PySem.Data.seq (List.toArray [(@PySem.Value.str (@PySem.Str.ofString "has") (907 : Nat)), (@PySem.Value.str (@PySem.Str.ofString "bound") (908 : Nat)), (@PySem.Value.str (@PySem.Str.ofString "mark") (909 : Nat)), (@PySem.Value.str (@PySem.Str.ofString "spy") (910 : Nat))]) (0 : Nat)) (List.toArray []))) ::
(nat_lit 459, (@PySem.Obj.mk (@PySem.Value.type "dict") Option.none (@PySem.Data.dict (List.toArray [(@PySem.DictEntry.mk (@PySem.PyData.keyHash P (@PySem.Str.ofString "fetch")) (@PySem.Value.str (@PySem.Str.ofString "fetch") (912 : Nat)) (@PySem.Value.ref (460 : Nat))), (@PySem.DictEntry.mk (@PySem.PyData.keyHash P (@PySem.Str.ofString "load")) (@PySem.Value.str (@PySem.Str.ofString "load") (914 : Nat)) (@PySem.Value.ref (461 : Nat))), (@PySem.DictEntry.mk (@PySem.PyData.keyHash P (@PySem.Str.ofString "say")) (@PySem.Value.str (@PySem.Str.ofString "say") (916 : Nat)) (@PySem.Value.ref (462 : Nat))), (@PySem.DictEntry.mk (@PySem.PyData.keyHash P (@PySem.Str.ofString "stop")) (@PySem.Value.str (@PySem.Str.ofString "stop") (918 : Nat)) (@PySem.Value.ref (463 : Nat))), (@PySem.DictEntry.mk (@PySem.PyData.keyHash P (@PySem.Str.ofString "call")) (@PySem.Value.str (@PySem.Str.ofString "call") (919 : Nat)) (@PySem.Value.ref (464 : Nat))), (@PySem.DictEntry.mk (@PySem.PyData.keyHash P (@PySem.Str.ofString "else")) (@PySem.Value.str (@PySem.Str.ofString "else") (921 : Nat)) (@PySem.Value.ref (465 : Nat))), (@PySem.DictEntry.mk (@PySem.PyData.keyHash P (@PySem.Str.ofString "end")) (@PySem.Value.str (@PySem.Str.ofString "end") (922 : Nat)) (@PySem.Value.ref (466 : Nat)))]) (7 : Nat)) (List.toArray []))) ::
(nat_lit 460, (@PySem.Obj.mk (@PySem.Value.type "tuple") Option.none (@PySem.Data.seq (List.toArray [(@PySem.Value.str (@PySem.Str.ofString "feed") (913 : Nat))]) (0 : Nat)) (List.toArray []))) ::
(nat_lit 461, (@PySem.Obj.mk (@PySem.Value.type "tuple") Option.none (@PySem.Data.seq (List.toArray [(@PySem.Value.str (@PySem.Str.ofString "table") (915 : Nat))]) (0 : Nat)) (List.toArray []))) ::
(nat_lit 462, (@PySem.Obj.mk (@PySem.Value.type "tuple") Option.none (@PySem.Data.seq (List.toArray [(@PySem.Value.str (@PySem.Str.ofString "name") (917 : Nat))]) (0 : Nat)) (List.toArray []))) ::
(nat_lit 463, (@PySem.Obj.mk (@PySem.Value.type "tuple") Option.none (@PySem.Data.seq (List.toArray []) (0 : Nat)) (List.toArray []))) ::
(nat_lit 464, (@PySem.Obj.mk (@PySem.Value.type "tuple") Option.none (@PySem.Data.seq (List.toArray [(@PySem.Value.str (@PySem.Str.ofString "name") (920 : Nat))]) (0 : Nat)) (List.toArray []))) ::
(nat_lit 465, (@PySem.Obj.mk (@PySem.Value.type "tuple") Option.none (@PySem.Data.seq (List.toArray []) (0 : Nat)) (List.toArray []))) ::
(nat_lit 466, (@PySem.Obj.mk (@PySem.Value.type "tuple") Option.none (@PySem.Data.seq (List.toArray []) (0 : Nat)) (List.toArray []))) ::
(nat_lit 467, (@PySem.Obj.mk (@PySem.Value.type "tuple") Option.none (@PySem.Data.seq (List.toArray []) (0 : Nat)) (List.toArray []))) ::
(nat_lit 469, (@PySem.Obj.mk (@PySem.Value.type "tuple") Option.none (@PySem.Data.seq (List.toArray [(@PySem.Value.str (@PySem.Str.ofString "word") (934 : Nat))]) (0 : Nat)) (List.toArray []))) ::
(nat_lit 470, (@PySem.Obj.mk (@PySem.Value.type "tuple") Option.none (@PySem.Data.seq (List.toArray []) (0 : Nat)) (List.toArray []))) ::
(nat_lit 472, (@PySem.Obj.mk (@PySem.Value.type "code") Option.none (@PySem.Data.fields (List.toArray [(@PySem.Value.str (@PySem.Str.ofString "look_codes") (931 : Nat)), (@PySem.Value.str (@PySem.Str.ofString "look_codes") (932 : Nat)), (@PySem.Value.str (@PySem.Str.ofString "/claim/cut.py") (933 : Nat)), (@PySem.Value.int (163 : Int) (0 : Nat)), (@PySem.Value.int (1 : Int) (0 : Nat)), (@PySem.Value.int (0 : Int) (0 : Nat)), (@PySem.Value.int (0 : Int) (0 : Nat)), (@PySem.Value.int (3 : Int) (0 : Nat)), (@PySem.Value.ref (467 : Nat)), (@PySem.Value.bool Bool.true), (@PySem.Value.int (181 : Int) (0 : Nat)), (@PySem.Value.ref (468 : Nat)), PySem.Value.none, (@PySem.Value.ref (469 : Nat)), (@PySem.Value.ref (470 : Nat)), (@PySem.Value.ref (471 : Nat)), (@PySem.Value.int (935 : Int) (0 : Nat)), (@PySem.Value.int (163 : Int) (0 : Nat)), (@PySem.Value.str (@PySem.Str.ofString "/claim/cut.py") (936 : Nat))])) (List.toArray []))) ::
(nat_lit 473, (@PySem.Obj.mk (@PySem.Value.type "function") Option.none (@PySem.Data.func (PySem.FuncData.mk (@PySem.Str.ofString "look_codes") (@PySem.Str.ofString "look_codes") (defArgs s_look_codes) (PySem.FuncBody.stmts (defBody s_look_codes)) (defScope s_look_codes) (3 : Nat) [] PySem.Value.none PySem.Value.none PySem.Value.none (@PySem.Value.str (@PySem.Str.ofString "quietprobes.shapes") (775 : Nat)) Option.none (@PySem.Value.ref (472 : Nat)) PySem.Value.none (0 : Nat))) (List.toArray []))) ::
(nat_lit 474, (@PySem.Obj.mk (@PySem.Value.type "tuple") Option.none (@PySem.Data.seq (List.toArray []) (0 : Nat)) (List.toArray []))) ::
(nat_lit 476, (@PySem.Obj.mk (@PySem.Value.type "tuple") Option.none (@PySem.Data.seq (List.toArray [(@PySem.Value.str (@PySem.Str.ofString "word") (941 : Nat))]) (0 : Nat)) (List.toArray []))) ::
(nat_lit 477, (@PySem.Obj.mk (@PySem.Value.type "tuple") Option.none (@PySem.Data.seq (List.toArray []) (0 : Nat)) (List.toArray []))) ::
(nat_lit 479, (@PySem.Obj.mk (@PySem.Value.type "code") Option.none (@PySem.Data.fields (List.toArray [(@PySem.Value.str (@PySem.Str.ofString "row_codes") (938 : Nat)), (@PySem.Value.str (@PySem.Str.ofString "row_codes") (939 : Nat)), (@PySem.Value.str (@PySem.Str.ofString "/claim/cut.py") (940 : Nat)), (@PySem.Value.int (167 : Int) (0 : Nat)), (@PySem.Value.int (1 : Int) (0 : Nat)), (@PySem.Value.int (0 : Int) (0 : Nat)), (@PySem.Value.int (0 : Int) (0 : Nat)), (@PySem.Value.int (3 : Int) (0 : Nat)), (@PySem.Value.ref (474 : Nat)), (@PySem.Value.bool Bool.true), (@PySem.Value.int (181 : Int) (0 : Nat)), (@PySem.Value.ref (475 : Nat)), PySem.Value.none, (@PySem.Value.ref (476 : Nat)), (@PySem.Value.ref (477 : Nat)), (@PySem.Value.ref (478 : Nat)), (@PySem.Value.int (942 : Int) (0 : Nat)), (@PySem.Value.int (167 : Int) (0 : Nat)), (@PySem.Value.str (@PySem.Str.ofString "/claim/cut.py") (943 : Nat))])) (List.toArray []))) ::
(nat_lit 480, (@PySem.Obj.mk (@PySem.Value.type "function") Option.none (@PySem.Data.func (PySem.FuncData.mk (@PySem.Str.ofString "row_codes") (@PySem.Str.ofString "row_codes") (defArgs s_row_codes) (PySem.FuncBody.stmts (defBody s_row_codes)) (defScope s_row_codes) (3 : Nat) [] PySem.Value.none PySem.Value.none PySem.Value.none (@PySem.Value.str (@PySem.Str.ofString "quietprobes.shapes") (775 : Nat)) Option.none (@PySem.Value.ref (479 : Nat)) PySem.Value.none (0 : Nat))) (List.toArray []))) ::
(nat_lit 481, (@PySem.Obj.mk (@PySem.Value.type "tuple") Option.none (@PySem.Data.seq (List.toArray []) (0 : Nat)) (List.toArray []))) ::
(nat_lit 483, (@PySem.Obj.mk (@PySem.Value.type "tuple") Option.none (@PySem.Data.seq (List.toArray [(@PySem.Value.str (@PySem.Str.ofString "opener") (948 : Nat)), (@PySem.Value.str (@PySem.Str.ofString "word") (949 : Nat))]) (0 : Nat)) (List.toArray []))) ::
(nat_lit 484, (@PySem.Obj.mk (@PySem.Value.type "tuple") Option.none (@PySem.Data.seq (List.toArray []) (0 : Nat)) (List.toArray []))) ::
(nat_lit 486, (@PySem.Obj.mk (@PySem.Value.type "code") Option.none (@PySem.Data.fields (List.toArray [(@PySem.Value.str (@PySem.Str.ofString "branch_codes") (945 : Nat)), (@PySem.Value.str (@PySem.Str.ofString "branch_codes") (946 : Nat)), (@PySem.Value.str (@PySem.Str.ofString "/claim/cut.py") (947 : Nat)), (@PySem.Value.int (171 : Int) (0 : Nat)), (@PySem.Value.int (2 : Int) (0 : Nat)), (@PySem.Value.int (0 : Int) (0 : Nat)), (@PySem.Value.int (0 : Int) (0 : Nat)), (@PySem.Value.int (3 : Int) (0 : Nat)), (@PySem.Value.ref (481 : Nat)), (@PySem.Value.bool Bool.true), (@PySem.Value.int (181 : Int) (0 : Nat)), (@PySem.Value.ref (482 : Nat)), PySem.Value.none, (@PySem.Value.ref (483 : Nat)), (@PySem.Value.ref (484 : Nat)), (@PySem.Value.ref (485 : Nat)), (@PySem.Value.int (950 : Int) (0 : Nat)), (@PySem.Value.int (171 : Int) (0 : Nat)), (@PySem.Value.str (@PySem.Str.ofString "/claim/cut.py") (951 : Nat))])) (List.toArray []))) ::
(nat_lit 487, (@PySem.Obj.mk (@PySem.Value.type "function") Option.none (@PySem.Data.func (PySem.FuncData.mk (@PySem.Str.ofString "branch_codes") (@PySem.Str.ofString "branch_codes") (defArgs s_branch_codes) (PySem.FuncBody.stmts (defBody s_branch_codes)) (defScope s_branch_codes) (3 : Nat) [] PySem.Value.none PySem.Value.none PySem.Value.none (@PySem.Value.str (@PySem.Str.ofString "quietprobes.shapes") (775 : Nat)) Option.none (@PySem.Value.ref (486 : Nat)) PySem.Value.none (0 : Nat))) (List.toArray []))) ::
(nat_lit 488, (@PySem.Obj.mk (@PySem.Value.type "tuple") Option.none (@PySem.Data.seq (List.toArray []) (0 : Nat)) (List.toArray []))) ::
(nat_lit 490, (@PySem.Obj.mk (@PySem.Value.type "tuple") Option.none (@PySem.Data.seq (List.toArray [(@PySem.Value.str (@PySem.Str.ofString "value") (956 : Nat))]) (0 : Nat)) (List.toArray []))) ::
(nat_lit 491, (@PySem.Obj.mk (@PySem.Value.type "tuple") Option.none (@PySem.Data.seq (List.toArray []) (0 : Nat)) (List.toArray []))) ::
(nat_lit 493, (@PySem.Obj.mk (@PySem.Value.type "code") Option.none (@PySem.Data.fields (List.toArray [(@PySem.Value.str (@PySem.Str.ofString "is_integer") (953 : Nat)), (@PySem.Value.str (@PySem.Str.ofString "is_integer") (954 : Nat)), (@PySem.Value.str (@PySem.Str.ofString "/claim/cut.py") (955 : Nat)), (@PySem.Value.int (177 : Int) (0 : Nat)), (@PySem.Value.int (1 : Int) (0 : Nat)), (@PySem.Value.int (0 : Int) (0 : Nat)), (@PySem.Value.int (0 : Int) (0 : Nat)), (@PySem.Value.int (3 : Int) (0 : Nat)), (@PySem.Value.ref (488 : Nat)), (@PySem.Value.bool Bool.true), (@PySem.Value.int (181 : Int) (0 : Nat)), (@PySem.Value.ref (489 : Nat)), PySem.Value.none, (@PySem.Value.ref (490 : Nat)), (@PySem.Value.ref (491 : Nat)), (@PySem.Value.ref (492 : Nat)), (@PySem.Value.int (957 : Int) (0 : Nat)), (@PySem.Value.int (177 : Int) (0 : Nat)), (@PySem.Value.str (@PySem.Str.ofString "/claim/cut.py") (958 : Nat))])) (List.toArray []))) ::
(nat_lit 494, (@PySem.Obj.mk (@PySem.Value.type "function") Option.none (@PySem.Data.func (PySem.FuncData.mk (@PySem.Str.ofString "is_integer") (@PySem.Str.ofString "is_integer") (defArgs s_is_integer) (PySem.FuncBody.stmts (defBody s_is_integer)) (defScope s_is_integer) (3 : Nat) [] PySem.Value.none PySem.Value.none PySem.Value.none (@PySem.Value.str (@PySem.Str.ofString "quietprobes.shapes") (775 : Nat)) Option.none (@PySem.Value.ref (493 : Nat)) PySem.Value.none (0 : Nat))) (List.toArray []))) ::
(nat_lit 495, (@PySem.Obj.mk (@PySem.Value.type "tuple") Option.none (@PySem.Data.seq (List.toArray []) (0 : Nat)) (List.toArray []))) ::
(nat_lit 497, (@PySem.Obj.mk (@PySem.Value.type "tuple") Option.none (@PySem.Data.seq (List.toArray [(@PySem.Value.str (@PySem.Str.ofString "value") (963 : Nat))]) (0 : Nat)) (List.toArray []))) ::
(nat_lit 498, (@PySem.Obj.mk (@PySem.Value.type "tuple") Option.none (@PySem.Data.seq (List.toArray []) (0 : Nat)) (List.toArray []))) ::
(nat_lit 500, (@PySem.Obj.mk (@PySem.Value.type "code") Option.none (@PySem.Data.fields (List.toArray [(@PySem.Value.str (@PySem.Str.ofString "head") (960 : Nat)), (@PySem.Value.str (@PySem.Str.ofString "head") (961 : Nat)), (@PySem.Value.str (@PySem.Str.ofString "/claim/cut.py") (962 : Nat)), (@PySem.Value.int (179 : Int) (0 : Nat)), (@PySem.Value.int (1 : Int) (0 : Nat)), (@PySem.Value.int (0 : Int) (0 : Nat)), (@PySem.Value.int (0 : Int) (0 : Nat)), (@PySem.Value.int (3 : Int) (0 : Nat)), (@PySem.Value.ref (495 : Nat)), (@PySem.Value.bool Bool.true), (@PySem.Value.int (181 : Int) (0 : Nat)), (@PySem.Value.ref (496 : Nat)), PySem.Value.none, (@PySem.Value.ref (497 : Nat)), (@PySem.Value.ref (498 : Nat)), (@PySem.Value.ref (499 : Nat)), (@PySem.Value.int (964 : Int) (0 : Nat)), (@PySem.Value.int (179 : Int) (0 : Nat)), (@PySem.Value.str (@PySem.Str.ofString "/claim/cut.py") (965 : Nat))])) (List.toArray []))) ::
(nat_lit 501, (@PySem.Obj.mk (@PySem.Value.type "function") Option.none (@PySem.Data.func (PySem.FuncData.mk (@PySem.Str.ofString "head") (@PySem.Str.ofString "head") (defArgs s_head) (PySem.FuncBody.stmts (defBody s_head)) (defScope s_head) (3 : Nat) [] PySem.Value.none PySem.Value.none PySem.Value.none (@PySem.Value.str (@PySem.Str.ofString "quietprobes.shapes") (775 : Nat)) Option.none (@PySem.Value.ref (500 : Nat)) PySem.Value.none (0 : Nat))) (List.toArray []))) ::
(nat_lit 502, (@PySem.Obj.mk (@PySem.Value.type "tuple") Option.none (@PySem.Data.seq (List.toArray []) (0 : Nat)) (List.toArray []))) ::
(nat_lit 505, (@PySem.Obj.mk (@PySem.Value.type "code") Option.none (@PySem.Data.fields (List.toArray [(@PySem.Value.str (@PySem.Str.ofString "suits") (967 : Nat)), (@PySem.Value.str (@PySem.Str.ofString "suits") (968 : Nat)), (@PySem.Value.str (@PySem.Str.ofString "/claim/cut.py") (969 : Nat)), (@PySem.Value.int (183 : Int) (0 : Nat)), (@PySem.Value.int (2 : Int) (0 : Nat)), (@PySem.Value.int (0 : Int) (0 : Nat)), (@PySem.Value.int (0 : Int) (0 : Nat)), (@PySem.Value.int (3 : Int) (0 : Nat)), (@PySem.Value.ref (502 : Nat)), (@PySem.Value.bool Bool.true), (@PySem.Value.int (181 : Int) (0 : Nat)), (@PySem.Value.ref (503 : Nat)), PySem.Value.none, PySem.Value.none, PySem.Value.none, (@PySem.Value.ref (504 : Nat)), (@PySem.Value.int (970 : Int) (0 : Nat)), (@PySem.Value.int (183 : Int) (0 : Nat)), (@PySem.Value.str (@PySem.Str.ofString "/claim/cut.py") (971 : Nat))])) (List.toArray []))) ::
(nat_lit 506, (@PySem.Obj.mk (@PySem.Value.type "function") Option.none (@PySem.Data.func (PySem.FuncData.mk (@PySem.Str.ofString "suits") (@PySem.Str.ofString "suits") (defArgs s_suits) (PySem.FuncBody.stmts (defBody s_suits)) (defScope s_suits) (3 : Nat) [] PySem.Value.none PySem.Value.none PySem.Value.none (@PySem.Value.str (@PySem.Str.ofString "quietprobes.shapes") (775 : Nat)) Option.none (@PySem.Value.ref (505 : Nat)) PySem.Value.none (0 : Nat))) (List.toArray []))) ::
(nat_lit 507, (@PySem.Obj.mk (@PySem.Value.type "tuple") Option.none (@PySem.Data.seq (List.toArray []) (0 : Nat)) (List.toArray []))) ::
(nat_lit 510, (@PySem.Obj.mk (@PySem.Value.type "code") Option.none (@PySem.Data.fields (List.toArray [(@PySem.Value.str (@PySem.Str.ofString "fits") (973 : Nat)), (@PySem.Value.str (@PySem.Str.ofString "fits") (974 : Nat)), (@PySem.Value.str (@PySem.Str.ofString "/claim/cut.py") (975 : Nat)), (@PySem.Value.int (191 : Int) (0 : Nat)), (@PySem.Value.int (2 : Int) (0 : Nat)), (@PySem.Value.int (0 : Int) (0 : Nat)), (@PySem.Value.int (0 : Int) (0 : Nat)), (@PySem.Value.int (3 : Int) (0 : Nat)), (@PySem.Value.ref (507 : Nat)), (@PySem.Value.bool Bool.true), (@PySem.Value.int (181 : Int) (0 : Nat)), (@PySem.Value.ref (508 : Nat)), PySem.Value.none, PySem.Value.none, PySem.Value.none, (@PySem.Value.ref (509 : Nat)), (@PySem.Value.int (976 : Int) (0 : Nat)), (@PySem.Value.int (191 : Int) (0 : Nat)), (@PySem.Value.str (@PySem.Str.ofString "/claim/cut.py") (977 : Nat))])) (List.toArray []))) ::
(nat_lit 511, (@PySem.Obj.mk (@PySem.Value.type "function") Option.none (@PySem.Data.func (PySem.FuncData.mk (@PySem.Str.ofString "fits") (@PySem.Str.ofString "fits") (defArgs s_fits) (PySem.FuncBody.stmts (defBody s_fits)) (defScope s_fits) (3 : Nat) [] PySem.Value.none PySem.Value.none PySem.Value.none (@PySem.Value.str (@PySem.Str.ofString "quietprobes.shapes") (775 : Nat)) Option.none (@PySem.Value.ref (510 : Nat)) PySem.Value.none (0 : Nat))) (List.toArray []))) ::
(nat_lit 512, (@PySem.Obj.mk (@PySem.Value.type "tuple") Option.none (@PySem.Data.seq (List.toArray []) (0 : Nat)) (List.toArray []))) ::
(nat_lit 514, (@PySem.Obj.mk (@PySem.Value.type "tuple") Option.none (@PySem.Data.seq (List.toArray [(@PySem.Value.str (@PySem.Str.ofString "known") (982 : Nat)), (@PySem.Value.str (@PySem.Str.ofString "words") (983 : Nat)), (@PySem.Value.str (@PySem.Str.ofString "codes") (984 : Nat)), (@PySem.Value.str (@PySem.Str.ofString "word") (985 : Nat)), (@PySem.Value.str (@PySem.Str.ofString "code") (986 : Nat))]) (0 : Nat)) (List.toArray []))) ::
(nat_lit 515, (@PySem.Obj.mk (@PySem.Value.type "tuple") Option.none (@PySem.Data.seq (List.toArray []) (0 : Nat)) (List.toArray []))) ::
(nat_lit 517, (@PySem.Obj.mk (@PySem.Value.type "code") Option.none (@PySem.Data.fields (List.toArray [(@PySem.Value.str (@PySem.Str.ofString "need_known") (979 : Nat)), (@PySem.Value.str (@PySem.Str.ofString "need_known") (980 : Nat)), (@PySem.Value.str (@PySem.Str.ofString "/claim/cut.py") (981 : Nat)), (@PySem.Value.int (195 : Int) (0 : Nat)), (@PySem.Value.int (3 : Int) (0 : Nat)), (@PySem.Value.int (0 : Int) (0 : Nat)), (@PySem.Value.int (0 : Int) (0 : Nat)), (@PySem.Value.int (3 : Int) (0 : Nat)), (@PySem.Value.ref (512 : Nat)), (@PySem.Value.bool Bool.true), (@PySem.Value.int (181 : Int) (0 : Nat)), (@PySem.Value.ref (513 : Nat)), PySem.Value.none, (@PySem.Value.ref (514 : Nat)), (@PySem.Value.ref (515 : Nat)), (@PySem.Value.ref (516 : Nat)), (@PySem.Value.int (987 : Int) (0 : Nat)), (@PySem.Value.int (195 : Int) (0 : Nat)), (@PySem.Value.str (@PySem.Str.ofString "/claim/cut.py") (988 : Nat))])) (List.toArray []))) ::
(nat_lit 518, (@PySem.Obj.mk (@PySem.Value.type "function") Option.none (@PySem.Data.func (PySem.FuncData.mk (@PySem.Str.ofString "need_known") (@PySem.Str.ofString "need_known") (defArgs s_need_known) (PySem.FuncBody.stmts (defBody s_need_known)) (defScope s_need_known) (3 : Nat) [] PySem.Value.none PySem.Value.none PySem.Value.none (@PySem.Value.str (@PySem.Str.ofString "quietprobes.shapes") (775 : Nat)) Option.none (@PySem.Value.ref (517 : Nat)) PySem.Value.none (0 : Nat))) (List.toArray []))) ::
(nat_lit 519, (@PySem.Obj.mk (@PySem.Value.type "tuple") Option.none (@PySem.Data.seq (List.toArray [(@PySem.Value.str (@PySem.Str.ofString "always") (992 : Nat)), (@PySem.Value.str (@PySem.Str.ofString "first") (993 : Nat)), (@PySem.Value.str (@PySem.Str.ofString "later") (994 : Nat)), (@PySem.Value.str (@PySem.Str.ofString "second") (995 : Nat))]) (0 : Nat)) (List.toArray []))) ::
(nat_lit 520, (@PySem.Obj.mk (@PySem.Value.type "tuple") Option.none (@PySem.Data.seq (List.toArray [(@PySem.Value.str (@PySem.Str.ofString "has") (997 : Nat)), (@PySem.Value.str (@PySem.Str.ofString "bound") (998 : Nat)), (@PySem.Value.str (@PySem.Str.ofString "read") (999 : Nat)), (@PySem.Value.str (@PySem.Str.ofString "watch") (1000 : Nat))]) (0 : Nat)) (List.toArray []))) ::
(nat_lit 521, (@PySem.Obj.mk (@PySem.Value.type "tuple") Option.none (@PySem.Data.seq (List.toArray []) (0 : Nat)) (List.toArray []))) ::
(nat_lit 523, (@PySem.Obj.mk (@PySem.Value.type "tuple") Option.none (@PySem.Data.seq (List.toArray [(@PySem.Value.str (@PySem.Str.ofString "row") (1007 : Nat))]) (0 : Nat)) (List.toArray []))) ::
(nat_lit 524, (@PySem.Obj.mk (@PySem.Value.type "tuple") Option.none (@PySem.Data.seq (List.toArray []) (0 : Nat)) (List.toArray []))) ::
(nat_lit 526, (@PySem.Obj.mk (@PySem.Value.type "code") Option.none (@PySem.Data.fields (List.toArray [(@PySem.Value.str (@PySem.Str.ofString "is_look") (1004 : Nat)), (@PySem.Value.str (@PySem.Str.ofString "is_look") (1005 : Nat)), (@PySem.Value.str (@PySem.Str.ofString "/claim/cut.py") (1006 : Nat)), (@PySem.Value.int (207 : Int) (0 : Nat)), (@PySem.Value.int (1 : Int) (0 : Nat)), (@PySem.Value.int (0 : Int) (0 : Nat)), (@PySem.Value.int (0 : Int) (0 : Nat)), (@PySem.Value.int (3 : Int) (0 : Nat)), (@PySem.Value.ref (521 : Nat)), (@PySem.Value.bool Bool.true), (@PySem.Value.int (181 : Int) (0 : Nat)), (@PySem.Value.ref (522 : Nat)), PySem.Value.none, (@PySem.Value.ref (523 : Nat)), (@PySem.Value.ref (524 : Nat)), (@PySem.Value.ref (525 : Nat)), (@PySem.Value.int (1008 : Int) (0 : Nat)), (@PySem.Value.int (207 : Int) (0 : Nat)), (@PySem.Value.str (@PySem.Str.ofString "/claim/cut.py") (1009 : Nat))])) (List.toArray []))) ::
(nat_lit 527, (@PySem.Obj.mk (@PySem.Value.type "function") Option.none (@PySem.Data.func (PySem.FuncData.mk (@PySem.Str.ofString "is_look") (@PySem.Str.ofString "is_look") (defArgs s_is_look) (PySem.FuncBody.stmts (defBody s_is_look)) (defScope s_is_look) (3 : Nat) [] PySem.Value.none PySem.Value.none PySem.Value.none (@PySem.Value.str (@PySem.Str.ofString "quietprobes.rows") (990 : Nat)) Option.none (@PySem.Value.ref (526 : Nat)) PySem.Value.none (0 : Nat))) (List.toArray []))) ::
(nat_lit 528, (@PySem.Obj.mk (@PySem.Value.type "tuple") Option.none (@PySem.Data.seq (List.toArray []) (0 : Nat)) (List.toArray []))) ::
(nat_lit 531, (@PySem.Obj.mk (@PySem.Value.type "code") Option.none (@PySem.Data.fields (List.toArray [(@PySem.Value.str (@PySem.Str.ofString "is_looks") (1011 : Nat)), (@PySem.Value.str (@PySem.Str.ofString "is_looks") (1012 : Nat)), (@PySem.Value.str (@PySem.Str.ofString "/claim/cut.py") (1013 : Nat)), (@PySem.Value.int (209 : Int) (0 : Nat)), (@PySem.Value.int (1 : Int) (0 : Nat)), (@PySem.Value.int (0 : Int) (0 : Nat)), (@PySem.Value.int (0 : Int) (0 : Nat)), (@PySem.Value.int (3 : Int) (0 : Nat)), (@PySem.Value.ref (528 : Nat)), (@PySem.Value.bool Bool.true), (@PySem.Value.int (181 : Int) (0 : Nat)), (@PySem.Value.ref (529 : Nat)), PySem.Value.none, PySem.Value.none, PySem.Value.none, (@PySem.Value.ref (530 : Nat)), (@PySem.Value.int (1014 : Int) (0 : Nat)), (@PySem.Value.int (209 : Int) (0 : Nat)), (@PySem.Value.str (@PySem.Str.ofString "/claim/cut.py") (1015 : Nat))])) (List.toArray []))) ::
(nat_lit 532, (@PySem.Obj.mk (@PySem.Value.type "function") Option.none (@PySem.Data.func (PySem.FuncData.mk (@PySem.Str.ofString "is_looks") (@PySem.Str.ofString "is_looks") (defArgs s_is_looks) (PySem.FuncBody.stmts (defBody s_is_looks)) (defScope s_is_looks) (3 : Nat) [] PySem.Value.none PySem.Value.none PySem.Value.none (@PySem.Value.str (@PySem.Str.ofString "quietprobes.rows") (990 : Nat)) Option.none (@PySem.Value.ref (531 : Nat)) PySem.Value.none (0 : Nat))) (List.toArray []))) ::
(nat_lit 533, (@PySem.Obj.mk (@PySem.Value.type "tuple") Option.none (@PySem.Data.seq (List.toArray []) (0 : Nat)) (List.toArray []))) ::
(nat_lit 535, (@PySem.Obj.mk (@PySem.Value.type "tuple") Option.none (@PySem.Data.seq (List.toArray [(@PySem.Value.str (@PySem.Str.ofString "row") (1020 : Nat))]) (0 : Nat)) (List.toArray []))) ::
(nat_lit 536, (@PySem.Obj.mk (@PySem.Value.type "tuple") Option.none (@PySem.Data.seq (List.toArray []) (0 : Nat)) (List.toArray []))) ::
(nat_lit 538, (@PySem.Obj.mk (@PySem.Value.type "code") Option.none (@PySem.Data.fields (List.toArray [(@PySem.Value.str (@PySem.Str.ofString "is_watcher") (1017 : Nat)), (@PySem.Value.str (@PySem.Str.ofString "is_watcher") (1018 : Nat)), (@PySem.Value.str (@PySem.Str.ofString "/claim/cut.py") (1019 : Nat)), (@PySem.Value.int (211 : Int) (0 : Nat)), (@PySem.Value.int (1 : Int) (0 : Nat)), (@PySem.Value.int (0 : Int) (0 : Nat)), (@PySem.Value.int (0 : Int) (0 : Nat)), (@PySem.Value.int (3 : Int) (0 : Nat)), (@PySem.Value.ref (533 : Nat)), (@PySem.Value.bool Bool.true), (@PySem.Value.int (181 : Int) (0 : Nat)), (@PySem.Value.ref (534 : Nat)), PySem.Value.none, (@PySem.Value.ref (535 : Nat)), (@PySem.Value.ref (536 : Nat)), (@PySem.Value.ref (537 : Nat)), (@PySem.Value.int (1021 : Int) (0 : Nat)), (@PySem.Value.int (211 : Int) (0 : Nat)), (@PySem.Value.str (@PySem.Str.ofString "/claim/cut.py") (1022 : Nat))])) (List.toArray []))) ::
(nat_lit 539, (@PySem.Obj.mk (@PySem.Value.type "function") Option.none (@PySem.Data.func (PySem.FuncData.mk (@PySem.Str.ofString "is_watcher") (@PySem.Str.ofString "is_watcher") (defArgs s_is_watcher) (PySem.FuncBody.stmts (defBody s_is_watcher)) (defScope s_is_watcher) (3 : Nat) [] PySem.Value.none PySem.Value.none PySem.Value.none (@PySem.Value.str (@PySem.Str.ofString "quietprobes.rows") (990 : Nat)) Option.none (@PySem.Value.ref (538 : Nat)) PySem.Value.none (0 : Nat))) (List.toArray []))) ::
(nat_lit 540, (@PySem.Obj.mk (@PySem.Value.type "tuple") Option.none (@PySem.Data.seq (List.toArray []) (0 : Nat)) (List.toArray []))) ::
(nat_lit 543, (@PySem.Obj.mk (@PySem.Value.type "code") Option.none (@PySem.Data.fields (List.toArray [(@PySem.Value.str (@PySem.Str.ofString "is_row") (1024 : Nat)), (@PySem.Value.str (@PySem.Str.ofString "is_row") (1025 : Nat)), (@PySem.Value.str (@PySem.Str.ofString "/claim/cut.py") (1026 : Nat)), (@PySem.Value.int (219 : Int) (0 : Nat)), (@PySem.Value.int (1 : Int) (0 : Nat)), (@PySem.Value.int (0 : Int) (0 : Nat)), (@PySem.Value.int (0 : Int) (0 : Nat)), (@PySem.Value.int (3 : Int) (0 : Nat)), (@PySem.Value.ref (540 : Nat)), (@PySem.Value.bool Bool.true), (@PySem.Value.int (181 : Int) (0 : Nat)), (@PySem.Value.ref (541 : Nat)), PySem.Value.none, PySem.Value.none, PySem.Value.none, (@PySem.Value.ref (542 : Nat)), (@PySem.Value.int (1027 : Int) (0 : Nat)), (@PySem.Value.int (219 : Int) (0 : Nat)), (@PySem.Value.str (@PySem.Str.ofString "/claim/cut.py") (1028 : Nat))])) (List.toArray []))) ::
(nat_lit 544, (@PySem.Obj.mk (@PySem.Value.type "function") Option.none (@PySem.Data.func (PySem.FuncData.mk (@PySem.Str.ofString "is_row") (@PySem.Str.ofString "is_row") (defArgs s_is_row) (PySem.FuncBody.stmts (defBody s_is_row)) (defScope s_is_row) (3 : Nat) [] PySem.Value.none PySem.Value.none PySem.Value.none (@PySem.Value.str (@PySem.Str.ofString "quietprobes.rows") (990 : Nat)) Option.none (@PySem.Value.ref (543 : Nat)) PySem.Value.none (0 : Nat))) (List.toArray []))) ::
(nat_lit 545, (@PySem.Obj.mk (@PySem.Value.type "tuple") Option.none (@PySem.Data.seq (List.toArray []) (0 : Nat)) (List.toArray []))) ::
(nat_lit 547, (@PySem.Obj.mk (@PySem.Value.type "tuple") Option.none (@PySem.Data.seq (List.toArray [(@PySem.Value.str (@PySem.Str.ofString "row") (1033 : Nat))]) (0 : Nat)) (List.toArray []))) ::
(nat_lit 548, (@PySem.Obj.mk (@PySem.Value.type "tuple") Option.none (@PySem.Data.seq (List.toArray []) (0 : Nat)) (List.toArray []))) ::
(nat_lit 550, (@PySem.Obj.mk (@PySem.Value.type "code") Option.none (@PySem.Data.fields (List.toArray [(@PySem.Value.str (@PySem.Str.ofString "is_probe") (1030 : Nat)), (@PySem.Value.str (@PySem.Str.ofString "is_probe") (1031 : Nat)), (@PySem.Value.str (@PySem.Str.ofString "/claim/cut.py") (1032 : Nat)), (@PySem.Value.int (228 : Int) (0 : Nat)), (@PySem.Value.int (1 : Int) (0 : Nat)), (@PySem.Value.int (0 : Int) (0 : Nat)), (@PySem.Value.int (0 : Int) (0 : Nat)), (@PySem.Value.int (3 : Int) (0 : Nat)), (@PySem.Value.ref (545 : Nat)), (@PySem.Value.bool Bool.true), (@PySem.Value.int (181 : Int) (0 : Nat)), (@PySem.Value.ref (546 : Nat)), PySem.Value.none, (@PySem.Value.ref (547 : Nat)), (@PySem.Value.ref (548 : Nat)), (@PySem.Value.ref (549 : Nat)), (@PySem.Value.int (1034 : Int) (0 : Nat)), (@PySem.Value.int (228 : Int) (0 : Nat)), (@PySem.Value.str (@PySem.Str.ofString "/claim/cut.py") (1035 : Nat))])) (List.toArray []))) ::
(nat_lit 551, (@PySem.Obj.mk (@PySem.Value.type "function") Option.none (@PySem.Data.func (PySem.FuncData.mk (@PySem.Str.ofString "is_probe") (@PySem.Str.ofString "is_probe") (defArgs s_is_probe) (PySem.FuncBody.stmts (defBody s_is_probe)) (defScope s_is_probe) (3 : Nat) [] PySem.Value.none PySem.Value.none PySem.Value.none (@PySem.Value.str (@PySem.Str.ofString "quietprobes.rows") (990 : Nat)) Option.none (@PySem.Value.ref (550 : Nat)) PySem.Value.none (0 : Nat))) (List.toArray []))) ::
(nat_lit 552, (@PySem.Obj.mk (@PySem.Value.type "tuple") Option.none (@PySem.Data.seq (List.toArray []) (0 : Nat)) (List.toArray []))) ::
(nat_lit 555, (@PySem.Obj.mk (@PySem.Value.type "code") Option.none (@PySem.Data.fields (List.toArray [(@PySem.Value.str (@PySem.Str.ofString "named") (1037 : Nat)), (@PySem.Value.str (@PySem.Str.ofString "named") (1038 : Nat)), (@PySem.Value.str (@PySem.Str.ofString "/claim/cut.py") (1039 : Nat)), (@PySem.Value.int (230 : Int) (0 : Nat)), (@PySem.Value.int (1 : Int) (0 : Nat)), (@PySem.Value.int (0 : Int) (0 : Nat)), (@PySem.Value.int (0 : Int) (0 : Nat)), (@PySem.Value.int (3 : Int) (0 : Nat)), (@PySem.Value.ref (552 : Nat)), (@PySem.Value.bool Bool.true), (@PySem.Value.int (181 : Int) (0 : Nat)), (@PySem.Value.ref (553 : Nat)), PySem.Value.none, PySem.Value.none, PySem.Value.none, (@PySem.Value.ref (554 : Nat)), (@PySem.Value.int (1040 : Int) (0 : Nat)), (@PySem.Value.int (230 : Int) (0 : Nat)), (@PySem.Value.str (@PySem.Str.ofString "/claim/cut.py") (1041 : Nat))])) (List.toArray []))) ::
(nat_lit 556, (@PySem.Obj.mk (@PySem.Value.type "function") Option.none (@PySem.Data.func (PySem.FuncData.mk (@PySem.Str.ofString "named") (@PySem.Str.ofString "named") (defArgs s_named) (PySem.FuncBody.stmts (defBody s_named)) (defScope s_named) (3 : Nat) [] PySem.Value.none PySem.Value.none PySem.Value.none (@PySem.Value.str (@PySem.Str.ofString "quietprobes.rows") (990 : Nat)) Option.none (@PySem.Value.ref (555 : Nat)) PySem.Value.none (0 : Nat))) (List.toArray []))) ::
(nat_lit 557, (@PySem.Obj.mk (@PySem.Value.type "tuple") Option.none (@PySem.Data.seq (List.toArray []) (0 : Nat)) (List.toArray []))) ::
(nat_lit 559, (@PySem.Obj.mk (@PySem.Value.type "tuple") Option.none (@PySem.Data.seq (List.toArray [(@PySem.Value.str (@PySem.Str.ofString "looks") (1046 : Nat)), (@PySem.Value.str (@PySem.Str.ofString "words") (1047 : Nat)), (@PySem.Value.str (@PySem.Str.ofString "look") (1048 : Nat))]) (0 : Nat)) (List.toArray []))) ::
(nat_lit 560, (@PySem.Obj.mk (@PySem.Value.type "tuple") Option.none (@PySem.Data.seq (List.toArray []) (0 : Nat)) (List.toArray []))) ::
(nat_lit 562, (@PySem.Obj.mk (@PySem.Value.type "code") Option.none (@PySem.Data.fields (List.toArray [(@PySem.Value.str (@PySem.Str.ofString "looks_text") (1043 : Nat)), (@PySem.Value.str (@PySem.Str.ofString "looks_text") (1044 : Nat)), (@PySem.Value.str (@PySem.Str.ofString "/claim/cut.py") (1045 : Nat)), (@PySem.Value.int (237 : Int) (0 : Nat)), (@PySem.Value.int (1 : Int) (0 : Nat)), (@PySem.Value.int (0 : Int) (0 : Nat)), (@PySem.Value.int (0 : Int) (0 : Nat)), (@PySem.Value.int (3 : Int) (0 : Nat)), (@PySem.Value.ref (557 : Nat)), (@PySem.Value.bool Bool.true), (@PySem.Value.int (181 : Int) (0 : Nat)), (@PySem.Value.ref (558 : Nat)), PySem.Value.none, (@PySem.Value.ref (559 : Nat)), (@PySem.Value.ref (560 : Nat)), (@PySem.Value.ref (561 : Nat)), (@PySem.Value.int (1049 : Int) (0 : Nat)), (@PySem.Value.int (237 : Int) (0 : Nat)), (@PySem.Value.str (@PySem.Str.ofString "/claim/cut.py") (1050 : Nat))])) (List.toArray []))) ::
(nat_lit 563, (@PySem.Obj.mk (@PySem.Value.type "function") Option.none (@PySem.Data.func (PySem.FuncData.mk (@PySem.Str.ofString "looks_text") (@PySem.Str.ofString "looks_text") (defArgs s_looks_text) (PySem.FuncBody.stmts (defBody s_looks_text)) (defScope s_looks_text) (3 : Nat) [] PySem.Value.none PySem.Value.none PySem.Value.none (@PySem.Value.str (@PySem.Str.ofString "quietprobes.rows") (990 : Nat)) Option.none (@PySem.Value.ref (562 : Nat)) PySem.Value.none (0 : Nat))) (List.toArray []))) ::
(nat_lit 564, (@PySem.Obj.mk (@PySem.Value.type "tuple") Option.none (@PySem.Data.seq (List.toArray []) (0 : Nat)) (List.toArray []))) ::
(nat_lit 566, (@PySem.Obj.mk (@PySem.Value.type "tuple") Option.none (@PySem.Data.seq (List.toArray [(@PySem.Value.str (@PySem.Str.ofString "row") (1055 : Nat)), (@PySem.Value.str (@PySem.Str.ofString "behind") (1056 : Nat))]) (0 : Nat)) (List.toArray []))) ::
(nat_lit 567, (@PySem.Obj.mk (@PySem.Value.type "tuple") Option.none (@PySem.Data.seq (List.toArray []) (0 : Nat)) (List.toArray []))) ::
(nat_lit 569, (@PySem.Obj.mk (@PySem.Value.type "code") Option.none (@PySem.Data.fields (List.toArray [(@PySem.Value.str (@PySem.Str.ofString "row_text") (1052 : Nat)), (@PySem.Value.str (@PySem.Str.ofString "row_text") (1053 : Nat)), (@PySem.Value.str (@PySem.Str.ofString "/claim/cut.py") (1054 : Nat)), (@PySem.Value.int (244 : Int) (0 : Nat)), (@PySem.Value.int (1 : Int) (0 : Nat)), (@PySem.Value.int (0 : Int) (0 : Nat)), (@PySem.Value.int (0 : Int) (0 : Nat)), (@PySem.Value.int (3 : Int) (0 : Nat)), (@PySem.Value.ref (564 : Nat)), (@PySem.Value.bool Bool.true), (@PySem.Value.int (181 : Int) (0 : Nat)), (@PySem.Value.ref (565 : Nat)), PySem.Value.none, (@PySem.Value.ref (566 : Nat)), (@PySem.Value.ref (567 : Nat)), (@PySem.Value.ref (568 : Nat)), (@PySem.Value.int (1057 : Int) (0 : Nat)), (@PySem.Value.int (244 : Int) (0 : Nat)), (@PySem.Value.str (@PySem.Str.ofString "/claim/cut.py") (1058 : Nat))])) (List.toArray []))) ::
(nat_lit 570, (@PySem.Obj.mk (@PySem.Value.type "function") Option.none (@PySem.Data.func (PySem.FuncData.mk (@PySem.Str.ofString "row_text") (@PySem.Str.ofString "row_text") (defArgs s_row_text) (PySem.FuncBody.stmts (defBody s_row_text)) (defScope s_row_text) (3 : Nat) [] PySem.Value.none PySem.Value.none PySem.Value.none (@PySem.Value.str (@PySem.Str.ofString "quietprobes.rows") (990 : Nat)) Option.none (@PySem.Value.ref (569 : Nat)) PySem.Value.none (0 : Nat))) (List.toArray []))) ::
(nat_lit 571, (@PySem.Obj.mk (@PySem.Value.type "tuple") Option.none (@PySem.Data.seq (List.toArray []) (0 : Nat)) (List.toArray []))) ::
(nat_lit 573, (@PySem.Obj.mk (@PySem.Value.type "tuple") Option.none (@PySem.Data.seq (List.toArray [(@PySem.Value.str (@PySem.Str.ofString "words") (1063 : Nat)), (@PySem.Value.str (@PySem.Str.ofString "looks") (1064 : Nat)), (@PySem.Value.str (@PySem.Str.ofString "part") (1065 : Nat)), (@PySem.Value.str (@PySem.Str.ofString "word") (1066 : Nat))]) (0 : Nat)) (List.toArray []))) ::
(nat_lit 574, (@PySem.Obj.mk (@PySem.Value.type "tuple") Option.none (@PySem.Data.seq (List.toArray []) (0 : Nat)) (List.toArray []))) ::
(nat_lit 576, (@PySem.Obj.mk (@PySem.Value.type "code") Option.none (@PySem.Data.fields (List.toArray [(@PySem.Value.str (@PySem.Str.ofString "read_looks") (1060 : Nat)), (@PySem.Value.str (@PySem.Str.ofString "read_looks") (1061 : Nat)), (@PySem.Value.str (@PySem.Str.ofString "/claim/cut.py") (1062 : Nat)), (@PySem.Value.int (249 : Int) (0 : Nat)), (@PySem.Value.int (1 : Int) (0 : Nat)), (@PySem.Value.int (0 : Int) (0 : Nat)), (@PySem.Value.int (0 : Int) (0 : Nat)), (@PySem.Value.int (3 : Int) (0 : Nat)), (@PySem.Value.ref (571 : Nat)), (@PySem.Value.bool Bool.true), (@PySem.Value.int (181 : Int) (0 : Nat)), (@PySem.Value.ref (572 : Nat)), PySem.Value.none, (@PySem.Value.ref (573 : Nat)), (@PySem.Value.ref (574 : Nat)), (@PySem.Value.ref (575 : Nat)), (@PySem.Value.int (1067 : Int) (0 : Nat)), (@PySem.Value.int (249 : Int) (0 : Nat)), (@PySem.Value.str (@PySem.Str.ofString "/claim/cut.py") (1068 : Nat))])) (List.toArray []))) ::
(nat_lit 577, (@PySem.Obj.mk (@PySem.Value.type "function") Option.none (@PySem.Data.func (PySem.FuncData.mk (@PySem.Str.ofString "read_looks") (@PySem.Str.ofString "read_looks") (defArgs s_read_looks) (PySem.FuncBody.stmts (defBody s_read_looks)) (defScope s_read_looks) (3 : Nat) [] PySem.Value.none PySem.Value.none PySem.Value.none (@PySem.Value.str (@PySem.Str.ofString "quietprobes.rows") (990 : Nat)) Option.none (@PySem.Value.ref (576 : Nat)) PySem.Value.none (0 : Nat))) (List.toArray []))) ::
(nat_lit 578, (@PySem.Obj.mk (@PySem.Value.type "tuple") Option.none (@PySem.Data.seq (List.toArray []) (0 : Nat)) (List.toArray []))) ::
(nat_lit 580, (@PySem.Obj.mk (@PySem.Value.type "tuple") Option.none (@PySem.Data.seq (List.toArray [(@PySem.Value.str (@PySem.Str.ofString "words") (1073 : Nat)), (@PySem.Value.str (@PySem.Str.ofString "word") (1074 : Nat)), (@PySem.Value.str (@PySem.Str.ofString "name") (1075 : Nat)), (@PySem.Value.str (@PySem.Str.ofString "gate") (1076 : Nat)), (@PySem.Value.str (@PySem.Str.ofString "rest") (1077 : Nat)), (@PySem.Value.str (@PySem.Str.ofString "at") (1078 : Nat)), (@PySem.Value.str (@PySem.Str.ofString "args") (1079 : Nat)), (@PySem.Value.str (@PySem.Str.ofString "last") (1080 : Nat)), (@PySem.Value.str (@PySem.Str.ofString "row") (1081 : Nat))]) (0 : Nat)) (List.toArray []))) ::
(nat_lit 581, (@PySem.Obj.mk (@PySem.Value.type "tuple") Option.none (@PySem.Data.seq (List.toArray []) (0 : Nat)) (List.toArray []))) ::
(nat_lit 583, (@PySem.Obj.mk (@PySem.Value.type "code") Option.none (@PySem.Data.fields (List.toArray [(@PySem.Value.str (@PySem.Str.ofString "read_watcher") (1070 : Nat)), (@PySem.Value.str (@PySem.Str.ofString "read_watcher") (1071 : Nat)), (@PySem.Value.str (@PySem.Str.ofString "/claim/cut.py") (1072 : Nat)), (@PySem.Value.int (261 : Int) (0 : Nat)), (@PySem.Value.int (1 : Int) (0 : Nat)), (@PySem.Value.int (0 : Int) (0 : Nat)), (@PySem.Value.int (0 : Int) (0 : Nat)), (@PySem.Value.int (3 : Int) (0 : Nat)), (@PySem.Value.ref (578 : Nat)), (@PySem.Value.bool Bool.true), (@PySem.Value.int (181 : Int) (0 : Nat)), (@PySem.Value.ref (579 : Nat)), PySem.Value.none, (@PySem.Value.ref (580 : Nat)), (@PySem.Value.ref (581 : Nat)), (@PySem.Value.ref (582 : Nat)), (@PySem.Value.int (1082 : Int) (0 : Nat)), (@PySem.Value.int (261 : Int) (0 : Nat)), (@PySem.Value.str (@PySem.Str.ofString "/claim/cut.py") (1083 : Nat))])) (List.toArray []))) ::
(nat_lit 584, (@PySem.Obj.mk (@PySem.Value.type "function") Option.none (@PySem.Data.func (PySem.FuncData.mk (@PySem.Str.ofString "read_watcher") (@PySem.Str.ofString "read_watcher") (defArgs s_read_watcher) (PySem.FuncBody.stmts (defBody s_read_watcher)) (defScope s_read_watcher) (3 : Nat) [] PySem.Value.none PySem.Value.none PySem.Value.none (@PySem.Value.str (@PySem.Str.ofString "quietprobes.rows") (990 : Nat)) Option.none (@PySem.Value.ref (583 : Nat)) PySem.Value.none (0 : Nat))) (List.toArray []))) ::
(nat_lit 585, (@PySem.Obj.mk (@PySem.Value.type "tuple") Option.none (@PySem.Data.seq (List.toArray []) (0 : Nat)) (List.toArray []))) ::
(nat_lit 587, (@PySem.Obj.mk (@PySem.Value.type "tuple") Option.none (@PySem.Data.seq (List.toArray [(@PySem.Value.str (@PySem.Str.ofString "line") (1088 : Nat)), (@PySem.Value.str (@PySem.Str.ofString "words") (1089 : Nat)), (@PySem.Value.str (@PySem.Str.ofString "row") (1090 : Nat))]) (0 : Nat)) (List.toArray []))) ::
(nat_lit 588, (@PySem.Obj.mk (@PySem.Value.type "tuple") Option.none (@PySem.Data.seq (List.toArray []) (0 : Nat)) (List.toArray []))) ::
(nat_lit 590, (@PySem.Obj.mk (@PySem.Value.type "code") Option.none (@PySem.Data.fields (List.toArray [(@PySem.Value.str (@PySem.Str.ofString "read_row") (1085 : Nat)), (@PySem.Value.str (@PySem.Str.ofString "read_row") (1086 : Nat)), (@PySem.Value.str (@PySem.Str.ofString "/claim/cut.py") (1087 : Nat)), (@PySem.Value.int (272 : Int) (0 : Nat)), (@PySem.Value.int (1 : Int) (0 : Nat)), (@PySem.Value.int (0 : Int) (0 : Nat)), (@PySem.Value.int (0 : Int) (0 : Nat)), (@PySem.Value.int (3 : Int) (0 : Nat)), (@PySem.Value.ref (585 : Nat)), (@PySem.Value.bool Bool.true), (@PySem.Value.int (181 : Int) (0 : Nat)), (@PySem.Value.ref (586 : Nat)), PySem.Value.none, (@PySem.Value.ref (587 : Nat)), (@PySem.Value.ref (588 : Nat)), (@PySem.Value.ref (589 : Nat)), (@PySem.Value.int (1091 : Int) (0 : Nat)), (@PySem.Value.int (272 : Int) (0 : Nat)), (@PySem.Value.str (@PySem.Str.ofString "/claim/cut.py") (1092 : Nat))])) (List.toArray []))) ::
(nat_lit 591, (@PySem.Obj.mk (@PySem.Value.type "function") Option.none (@PySem.Data.func (PySem.FuncData.mk (@PySem.Str.ofString "read_row") (@PySem.Str.ofString "read_row") (defArgs s_read_row) (PySem.FuncBody.stmts (defBody s_read_row)) (defScope s_read_row) (3 : Nat) [] PySem.Value.none PySem.Value.none PySem.Value.none (@PySem.Value.str (@PySem.Str.ofString "quietprobes.rows") (990 : Nat)) Option.none (@PySem.Value.ref (590 : Nat)) PySem.Value.none (0 : Nat))) (List.toArray []))) ::
(nat_lit 592, (@PySem.Obj.mk (@PySem.Value.type "tuple") Option.none (@PySem.Data.seq (List.toArray []) (0 : Nat)) (List.toArray []))) ::
(nat_lit 594, (@PySem.Obj.mk (@PySem.Value.type "tuple") Option.none (@PySem.Data.seq (List.toArray [(@PySem.Value.str (@PySem.Str.ofString "known") (1105 : Nat)), (@PySem.Value.str (@PySem.Str.ofString "number") (1106 : Nat)), (@PySem.Value.str (@PySem.Str.ofString "row") (1107 : Nat)), (@PySem.Value.str (@PySem.Str.ofString "later") (1108 : Nat)), (@PySem.Value.str (@PySem.Str.ofString "met") (1109 : Nat)), (@PySem.Value.str (@PySem.Str.ofString "words") (1110 : Nat)), (@PySem.Value.str (@PySem.Str.ofString "codes") (1111 : Nat))]) (0 : Nat)) (List.toArray []))) ::
(nat_lit 595, (@PySem.Obj.mk (@PySem.Value.type "tuple") Option.none (@PySem.Data.seq (List.toArray []) (0 : Nat)) (List.toArray []))) ::
(nat_lit 597, (@PySem.Obj.mk (@PySem.Value.type "code") Option.none (@PySem.Data.fields (List.toArray [(@PySem.Value.str (@PySem.Str.ofString "need_row") (1102 : Nat)), (@PySem.Value.str (@PySem.Str.ofString "need_row") (1103 : Nat)), (@PySem.Value.str (@PySem.Str.ofString "/claim/cut.py") (1104 : Nat)), (@PySem.Value.int (282 : Int) (0 : Nat)), (@PySem.Value.int (5 : Int) (0 : Nat)), (@PySem.Value.int (0 : Int) (0 : Nat)), (@PySem.Value.int (0 : Int) (0 : Nat)), (@PySem.Value.int (3 : Int) (0 : Nat)), (@PySem.Value.ref (592 : Nat)), (@PySem.Value.bool Bool.true), (@PySem.Value.int (181 : Int) (0 : Nat)), (@PySem.Value.ref (593 : Nat)), PySem.Value.none, (@PySem.Value.ref (594 : Nat)), (@PySem.Value.ref (595 : Nat)), (@PySem.Value.ref (596 : Nat)), (@PySem.Value.int (1112 : Int) (0 : Nat)), (@PySem.Value.int (282 : Int) (0 : Nat)), (@PySem.Value.str (@PySem.Str.ofString "/claim/cut.py") (1113 : Nat))])) (List.toArray []))) ::
(nat_lit 598, (@PySem.Obj.mk (@PySem.Value.type "function") Option.none (@PySem.Data.func (PySem.FuncData.mk (@PySem.Str.ofString "need_row") (@PySem.Str.ofString "need_row") (defArgs s_need_row) (PySem.FuncBody.stmts (defBody s_need_row)) (defScope s_need_row) (3 : Nat) [] PySem.Value.none PySem.Value.none PySem.Value.none (@PySem.Value.str (@PySem.Str.ofString "quietprobes.blocks") (1094 : Nat)) Option.none (@PySem.Value.ref (597 : Nat)) PySem.Value.none (0 : Nat))) (List.toArray []))) ::
(nat_lit 599, (@PySem.Obj.mk (@PySem.Value.type "tuple") Option.none (@PySem.Data.seq (List.toArray []) (0 : Nat)) (List.toArray []))) ::
(nat_lit 602, (@PySem.Obj.mk (@PySem.Value.type "code") Option.none (@PySem.Data.fields (List.toArray [(@PySem.Value.str (@PySem.Str.ofString "opened_behind") (1115 : Nat)), (@PySem.Value.str (@PySem.Str.ofString "opened_behind") (1116 : Nat)), (@PySem.Value.str (@PySem.Str.ofString "/claim/cut.py") (1117 : Nat)), (@PySem.Value.int (291 : Int) (0 : Nat)), (@PySem.Value.int (3 : Int) (0 : Nat)), (@PySem.Value.int (0 : Int) (0 : Nat)), (@PySem.Value.int (0 : Int) (0 : Nat)), (@PySem.Value.int (3 : Int) (0 : Nat)), (@PySem.Value.ref (599 : Nat)), (@PySem.Value.bool Bool.true), (@PySem.Value.int (181 : Int) (0 : Nat)), (@PySem.Value.ref (600 : Nat)), PySem.Value.none, PySem.Value.none, PySem.Value.none, (@PySem.Value.ref (601 : Nat)), (@PySem.Value.int (1118 : Int) (0 : Nat)), (@PySem.Value.int (291 : Int) (0 : Nat)), (@PySem.Value.str (@PySem.Str.ofString "/claim/cut.py") (1119 : Nat))])) (List.toArray []))) ::
(nat_lit 603, (@PySem.Obj.mk (@PySem.Value.type "function") Option.none (@PySem.Data.func (PySem.FuncData.mk (@PySem.Str.ofString "opened_behind") (@PySem.Str.ofString "opened_behind") (defArgs s_opened_behind) (PySem.FuncBody.stmts (defBody s_opened_behind)) (defScope s_opened_behind) (3 : Nat) [] PySem.Value.none PySem.Value.none PySem.Value.none (@PySem.Value.str (@PySem.Str.ofString "quietprobes.blocks") (1094 : Nat)) Option.none (@PySem.Value.ref (602 : Nat)) PySem.Value.none (0 : Nat))) (List.toArray []))) ::
(nat_lit 604, (@PySem.Obj.mk (@PySem.Value.type "tuple") Option.none (@PySem.Data.seq (List.toArray []) (0 : Nat)) (List.toArray []))) ::
(nat_lit 607, (@PySem.Obj.mk (@PySem.Value.type "code") Option.none (@PySem.Data.fields (List.toArray [(@PySem.Value.str (@PySem.Str.ofString "need_parts") (1121 : Nat)), (@PySem.Value.str (@PySem.Str.ofString "need_parts") (1122 : Nat)), (@PySem.Value.str (@PySem.Str.ofString "/claim/cut.py") (1123 : Nat)), (@PySem.Value.int (306 : Int) (0 : Nat)), (@PySem.Value.int (2 : Int) (0 : Nat)), (@PySem.Value.int (0 : Int) (0 : Nat)), (@PySem.Value.int (0 : Int) (0 : Nat)), (@PySem.Value.int (3 : Int) (0 : Nat)), (@PySem.Value.ref (604 : Nat)), (@PySem.Value.bool Bool.true), (@PySem.Value.int (181 : Int) (0 : Nat)), (@PySem.Value.ref (605 : Nat)), PySem.Value.none, PySem.Value.none, PySem.Value.none, (@PySem.Value.ref (606 : Nat)), (@PySem.Value.int (1124 : Int) (0 : Nat)), (@PySem.Value.int (306 : Int) (0 : Nat)), (@PySem.Value.str (@PySem.Str.ofString "/claim/cut.py") (1125 : Nat))])) (List.toArray []))) ::
(nat_lit 608, (@PySem.Obj.mk (@PySem.Value.type "function") Option.none (@PySem.Data.func (PySem.FuncData.mk (@PySem.Str.ofString "need_parts") (@PySem.Str.ofString "need_parts") (defArgs s_need_parts) (PySem.FuncBody.stmts (defBody s_need_parts)) (defScope s_need_parts) (3 : Nat) [] PySem.Value.none PySem.Value.none PySem.Value.none (@PySem.Value.str (@PySem.Str.ofString "quietprobes.blocks") (1094 : Nat)) Option.none (@PySem.Value.ref (607 : Nat)) PySem.Value.none (0 : Nat))) (List.toArray []))) ::
(nat_lit 609, (@PySem.Obj.mk (@PySem.Value.type "tuple") Option.none (@PySem.Data.seq (List.toArray []) (0 : Nat)) (List.toArray []))) ::
(nat_lit 612, (@PySem.Obj.mk (@PySem.Value.type "code") Option.none (@PySem.Data.fields (List.toArray [(@PySem.Value.str (@PySem.Str.ofString "jumps_of") (1127 : Nat)), (@PySem.Value.str (@PySem.Str.ofString "jumps_of") (1128 : Nat)), (@PySem.Value.str (@PySem.Str.ofString "/claim/cut.py") (1129 : Nat)), (@PySem.Value.int (329 : Int) (0 : Nat)), (@PySem.Value.int (2 : Int) (0 : Nat)), (@PySem.Value.int (0 : Int) (0 : Nat)), (@PySem.Value.int (0 : Int) (0 : Nat)), (@PySem.Value.int (3 : Int) (0 : Nat)), (@PySem.Value.ref (609 : Nat)), (@PySem.Value.bool Bool.true), (@PySem.Value.int (181 : Int) (0 : Nat)), (@PySem.Value.ref (610 : Nat)), PySem.Value.none, PySem.Value.none, PySem.Value.none, (@PySem.Value.ref (611 : Nat)), (@PySem.Value.int (1130 : Int) (0 : Nat)), (@PySem.Value.int (329 : Int) (0 : Nat)), (@PySem.Value.str (@PySem.Str.ofString "/claim/cut.py") (1131 : Nat))])) (List.toArray []))) ::
(nat_lit 613, (@PySem.Obj.mk (@PySem.Value.type "function") Option.none (@PySem.Data.func (PySem.FuncData.mk (@PySem.Str.ofString "jumps_of") (@PySem.Str.ofString "jumps_of") (defArgs s_jumps_of) (PySem.FuncBody.stmts (defBody s_jumps_of)) (defScope s_jumps_of) (3 : Nat) [] PySem.Value.none PySem.Value.none PySem.Value.none (@PySem.Value.str (@PySem.Str.ofString "quietprobes.blocks") (1094 : Nat)) Option.none (@PySem.Value.ref (612 : Nat)) PySem.Value.none (0 : Nat))) (List.toArray []))) ::
(nat_lit 614, (@PySem.Obj.mk (@PySem.Value.type "tuple") Option.none (@PySem.Data.seq (List.toArray []) (0 : Nat)) (List.toArray []))) ::
(nat_lit 616, (@PySem.Obj.mk (@PySem.Value.type "tuple") Option.none (@PySem.Data.seq (List.toArray [(@PySem.Value.str (@PySem.Str.ofString "line") (1138 : Nat)), (@PySem.Value.str (@PySem.Str.ofString "words") (1139 : Nat))]) (0 : Nat)) (List.toArray []))) ::
(nat_lit 617, (@PySem.Obj.mk (@PySem.Value.type "tuple") Option.none (@PySem.Data.seq (List.toArray []) (0 : Nat)) (List.toArray []))) ::
(nat_lit 619, (@PySem.Obj.mk (@PySem.Value.type "code") Option.none (@PySem.Data.fields (List.toArray [(@PySem.Value.str (@PySem.Str.ofString "read_part") (1135 : Nat)), (@PySem.Value.str (@PySem.Str.ofString "read_part") (1136 : Nat)), (@PySem.Value.str (@PySem.Str.ofString "/claim/cut.py") (1137 : Nat)), (@PySem.Value.int (352 : Int) (0 : Nat)), (@PySem.Value.int (1 : Int) (0 : Nat)), (@PySem.Value.int (0 : Int) (0 : Nat)), (@PySem.Value.int (0 : Int) (0 : Nat)), (@PySem.Value.int (3 : Int) (0 : Nat)), (@PySem.Value.ref (614 : Nat)), (@PySem.Value.bool Bool.true), (@PySem.Value.int (181 : Int) (0 : Nat)), (@PySem.Value.ref (615 : Nat)), PySem.Value.none, (@PySem.Value.ref (616 : Nat)), (@PySem.Value.ref (617 : Nat)), (@PySem.Value.ref (618 : Nat)), (@PySem.Value.int (1140 : Int) (0 : Nat)), (@PySem.Value.int (352 : Int) (0 : Nat)), (@PySem.Value.str (@PySem.Str.ofString "/claim/cut.py") (1141 : Nat))])) (List.toArray []))) ::
(nat_lit 620, (@PySem.Obj.mk (@PySem.Value.type "function") Option.none (@PySem.Data.func (PySem.FuncData.mk (@PySem.Str.ofString "read_part") (@PySem.Str.ofString "read_part") (defArgs s_read_part) (PySem.FuncBody.stmts (defBody s_read_part)) (defScope s_read_part) (3 : Nat) [] PySem.Value.none PySem.Value.none PySem.Value.none (@PySem.Value.str (@PySem.Str.ofString "quietprobes.programs") (1133 : Nat)) Option.none (@PySem.Value.ref (619 : Nat)) PySem.Value.none (0 : Nat))) (List.toArray []))) ::
(nat_lit 628, (@PySem.Obj.mk (@PySem.Value.type "tuple") Option.none (@PySem.Data.seq (List.toArray []) (0 : Nat)) (List.toArray []))) ::
(nat_lit 631, (@PySem.Obj.mk (@PySem.Value.type "code") Option.none (@PySem.Data.fields (List.toArray [(@PySem.Value.str (@PySem.Str.ofString "__init__") (1155 : Nat)), (@PySem.Value.str (@PySem.Str.ofString "Program.__init__") (1156 : Nat)), (@PySem.Value.str (@PySem.Str.ofString "/claim/cut.py") (1157 : Nat)), (@PySem.Value.int (359 : Int) (0 : Nat)), (@PySem.Value.int (2 : Int) (0 : Nat)), (@PySem.Value.int (0 : Int) (0 : Nat)), (@PySem.Value.int (0 : Int) (0 : Nat)), (@PySem.Value.int (7 : Int) (0 : Nat)), (@PySem.Value.ref (628 : Nat)), (@PySem.Value.bool Bool.true), (@PySem.Value.int (181 : Int) (0 : Nat)), (@PySem.Value.ref (629 : Nat)), PySem.Value.none, PySem.Value.none, PySem.Value.none, (@PySem.Value.ref (630 : Nat)), (@PySem.Value.int (1158 : Int) (0 : Nat)), (@PySem.Value.int (359 : Int) (0 : Nat)), (@PySem.Value.str (@PySem.Str.ofString "/claim/cut.py") (1159 : Nat))])) (List.toArray []))) ::
(nat_lit 632, (@PySem.Obj.mk (@PySem.Value.type "function") Option.none (@PySem.Data.func (PySem.FuncData.mk (@PySem.Str.ofString "__init__") (@PySem.Str.ofString "Program.__init__") (defArgs s_Program___init__) (PySem.FuncBody.stmts (defBody s_Program___init__)) (defScope s_Program___init__) (3 : Nat) [] PySem.Value.none PySem.Value.none PySem.Value.none (@PySem.Value.str (@PySem.Str.ofString "quietprobes.programs") (1133 : Nat)) Option.none (@PySem.Value.ref (631 : Nat)) PySem.Value.none (0 : Nat))) (List.toArray []))) ::
(nat_lit 633, (@PySem.Obj.mk (@PySem.Value.type "tuple") Option.none (@PySem.Data.seq (List.toArray []) (0 : Nat)) (List.toArray []))) ::
(nat_lit 635, (@PySem.Obj.mk (@PySem.Value.type "tuple") Option.none (@PySem.Data.seq (List.toArray [(@PySem.Value.str (@PySem.Str.ofString "self") (1164 : Nat))]) (0 : Nat)) (List.toArray []))) ::
(nat_lit 636, (@PySem.Obj.mk (@PySem.Value.type "tuple") Option.none (@PySem.Data.seq (List.toArray []) (0 : Nat)) (List.toArray []))) ::
(nat_lit 638, (@PySem.Obj.mk (@PySem.Value.type "code") Option.none (@PySem.Data.fields (List.toArray [(@PySem.Value.str (@PySem.Str.ofString "__len__") (1161 : Nat)), (@PySem.Value.str (@PySem.Str.ofString "Program.__len__") (1162 : Nat)), (@PySem.Value.str (@PySem.Str.ofString "/claim/cut.py") (1163 : Nat)), (@PySem.Value.int (372 : Int) (0 : Nat)), (@PySem.Value.int (1 : Int) (0 : Nat)), (@PySem.Value.int (0 : Int) (0 : Nat)), (@PySem.Value.int (0 : Int) (0 : Nat)), (@PySem.Value.int (3 : Int) (0 : Nat)), (@PySem.Value.ref (633 : Nat)), (@PySem.Value.bool Bool.true), (@PySem.Value.int (181 : Int) (0 : Nat)), (@PySem.Value.ref (634 : Nat)), PySem.Value.none, (@PySem.Value.ref (635 : Nat)), (@PySem.Value.ref (636 : Nat)), (@PySem.Value.ref (637 : Nat)), (@PySem.Value.int (1165 : Int) (0 : Nat)), (@PySem.Value.int (372 : Int) (0 : Nat)), (@PySem.Value.str (@PySem.Str.ofString "/claim/cut.py") (1166 : Nat))])) (List.toArray []))) ::
(nat_lit 639, (@PySem.Obj.mk (@PySem.Value.type "function") Option.none (@PySem.Data.func (PySem.FuncData.mk (@PySem.Str.ofString "__len__") (@PySem.Str.ofString "Program.__len__") (defArgs s_Program___len__) (PySem.FuncBody.stmts (defBody s_Program___len__)) (defScope s_Program___len__) (3 : Nat) [] PySem.Value.none PySem.Value.none PySem.Value.none (@PySem.Value.str (@PySem.Str.ofString "quietprobes.programs") (1133 : Nat)) Option.none (@PySem.Value.ref (638 : Nat)) PySem.Value.none (0 : Nat))) (List.toArray []))) ::
(nat_lit 640, (@PySem.Obj.mk (@PySem.Value.type "tuple") Option.none (@PySem.Data.seq (List.toArray []) (0 : Nat)) (List.toArray []))) ::
(nat_lit 642, (@PySem.Obj.mk (@PySem.Value.type "tuple") Option.none (@PySem.Data.seq (List.toArray [(@PySem.Value.str (@PySem.Str.ofString "self") (1171 : Nat))]) (0 : Nat)) (List.toArray []))) ::
(nat_lit 643, (@PySem.Obj.mk (@PySem.Value.type "tuple") Option.none (@PySem.Data.seq (List.toArray []) (0 : Nat)) (List.toArray []))) ::
(nat_lit 645, (@PySem.Obj.mk (@PySem.Value.type "code") Option.none (@PySem.Data.fields (List.toArray [(@PySem.Value.str (@PySem.Str.ofString "__iter__") (1168 : Nat)), (@PySem.Value.str (@PySem.Str.ofString "Program.__iter__") (1169 : Nat)), (@PySem.Value.str (@PySem.Str.ofString "/claim/cut.py") (1170 : Nat)), (@PySem.Value.int (375 : Int) (0 : Nat)), (@PySem.Value.int (1 : Int) (0 : Nat)), (@PySem.Value.int (0 : Int) (0 : Nat)), (@PySem.Value.int (0 : Int) (0 : Nat)), (@PySem.Value.int (3 : Int) (0 : Nat)), (@PySem.Value.ref (640 : Nat)), (@PySem.Value.bool Bool.true), (@PySem.Value.int (181 : Int) (0 : Nat)), (@PySem.Value.ref (641 : Nat)), PySem.Value.none, (@PySem.Value.ref (642 : Nat)), (@PySem.Value.ref (643 : Nat)), (@PySem.Value.ref (644 : Nat)), (@PySem.Value.int (1172 : Int) (0 : Nat)), (@PySem.Value.int (375 : Int) (0 : Nat)), (@PySem.Value.str (@PySem.Str.ofString "/claim/cut.py") (1173 : Nat))])) (List.toArray []))) ::
(nat_lit 646, (@PySem.Obj.mk (@PySem.Value.type "function") Option.none (@PySem.Data.func (PySem.FuncData.mk (@PySem.Str.ofString "__iter__") (@PySem.Str.ofString "Program.__iter__") (defArgs s_Program___iter__) (PySem.FuncBody.stmts (defBody s_Program___iter__)) (defScope s_Program___iter__) (3 : Nat) [] PySem.Value.none PySem.Value.none PySem.Value.none (@PySem.Value.str (@PySem.Str.ofString "quietprobes.programs") (1133 : Nat)) Option.none (@PySem.Value.ref (645 : Nat)) PySem.Value.none (0 : Nat))) (List.toArray []))) ::
(nat_lit 647, (@PySem.Obj.mk (@PySem.Value.type "tuple") Option.none (@PySem.Data.seq (List.toArray []) (0 : Nat)) (List.toArray []))) ::
(nat_lit 649, (@PySem.Obj.mk (@PySem.Value.type "tuple") Option.none (@PySem.Data.seq (List.toArray [(@PySem.Value.str (@PySem.Str.ofString "self") (1178 : Nat)), (@PySem.Value.str (@PySem.Str.ofString "number") (1179 : Nat))]) (0 : Nat)) (List.toArray []))) ::
(nat_lit 650, (@PySem.Obj.mk (@PySem.Value.type "tuple") Option.none (@PySem.Data.seq (List.toArray []) (0 : Nat)) (List.toArray []))) ::
(nat_lit 652, (@PySem.Obj.mk (@PySem.Value.type "code") Option.none (@PySem.Data.fields (List.toArray [(@PySem.Value.str (@PySem.Str.ofString "__getitem__") (1175 : Nat)), (@PySem.Value.str (@PySem.Str.ofString "Program.__getitem__") (1176 : Nat)), (@PySem.Value.str (@PySem.Str.ofString "/claim/cut.py") (1177 : Nat)), (@PySem.Value.int (378 : Int) (0 : Nat)), (@PySem.Value.int (2 : Int) (0 : Nat)), (@PySem.Value.int (0 : Int) (0 : Nat)), (@PySem.Value.int (0 : Int) (0 : Nat)), (@PySem.Value.int (3 : Int) (0 : Nat)), (@PySem.Value.ref (647 : Nat)), (@PySem.Value.bool Bool.true), (@PySem.Value.int (181 : Int) (0 : Nat)), (@PySem.Value.ref (648 : Nat)), PySem.Value.none, (@PySem.Value.ref (649 : Nat)), (@PySem.Value.ref (650 : Nat)), (@PySem.Value.ref (651 : Nat)), (@PySem.Value.int (1180 : Int) (0 : Nat)), (@PySem.Value.int (378 : Int) (0 : Nat)), (@PySem.Value.str (@PySem.Str.ofString "/claim/cut.py") (1181 : Nat))])) (List.toArray []))) ::
(nat_lit 653, (@PySem.Obj.mk (@PySem.Value.type "function") Option.none (@PySem.Data.func (PySem.FuncData.mk (@PySem.Str.ofString "__getitem__") (@PySem.Str.ofString "Program.__getitem__") (defArgs s_Program___getitem__) (PySem.FuncBody.stmts (defBody s_Program___getitem__)) (defScope s_Program___getitem__) (3 : Nat) [] PySem.Value.none PySem.Value.none PySem.Value.none (@PySem.Value.str (@PySem.Str.ofString "quietprobes.programs") (1133 : Nat)) Option.none (@PySem.Value.ref (652 : Nat)) PySem.Value.none (0 : Nat))) (List.toArray []))) ::
(nat_lit 654, (@PySem.Obj.mk (@PySem.Value.type "tuple") Option.none (@PySem.Data.seq (List.toArray []) (0 : Nat)) (List.toArray []))) ::
(nat_lit 656, (@PySem.Obj.mk (@PySem.Value.type "tuple") Option.none (@PySem.Data.seq (List.toArray [(@PySem.Value.str (@PySem.Str.ofString "self") (1186 : Nat)), (@PySem.Value.str (@PySem.Str.ofString "name") (1187 : Nat))]) (0 : Nat)) (List.toArray []))) ::
(nat_lit 657, (@PySem.Obj.mk (@PySem.Value.type "tuple") Option.none (@PySem.Data.seq (List.toArray []) (0 : Nat)) (List.toArray []))) ::
(nat_lit 659, (@PySem.Obj.mk (@PySem.Value.type "code") Option.none (@PySem.Data.fields (List.toArray [(@PySem.Value.str (@PySem.Str.ofString "__contains__") (1183 : Nat)), (@PySem.Value.str (@PySem.Str.ofString "Program.__contains__") (1184 : Nat)), (@PySem.Value.str (@PySem.Str.ofString "/claim/cut.py") (1185 : Nat)), (@PySem.Value.int (383 : Int) (0 : Nat)), (@PySem.Value.int (2 : Int) (0 : Nat)), (@PySem.Value.int (0 : Int) (0 : Nat)), (@PySem.Value.int (0 : Int) (0 : Nat)), (@PySem.Value.int (3 : Int) (0 : Nat)), (@PySem.Value.ref (654 : Nat)), (@PySem.Value.bool Bool.true), (@PySem.Value.int (181 : Int) (0 : Nat)), (@PySem.Value.ref (655 : Nat)), PySem.Value.none, (@PySem.Value.ref (656 : Nat)), (@PySem.Value.ref (657 : Nat)), (@PySem.Value.ref (658 : Nat)), (@PySem.Value.int (1188 : Int) (0 : Nat)), (@PySem.Value.int (383 : Int) (0 : Nat)), (@PySem.Value.str (@PySem.Str.ofString "/claim/cut.py") (1189 : Nat))])) (List.toArray []))) ::
(nat_lit 660, (@PySem.Obj.mk (@PySem.Value.type "function") Option.none (@PySem.Data.func (PySem.FuncData.mk (@PySem.Str.ofString "__contains__") (@PySem.Str.ofString "Program.__contains__") (defArgs s_Program___contains__) (PySem.FuncBody.stmts (defBody s_Program___contains__)) (defScope s_Program___contains__) (3 : Nat) [] PySem.Value.none PySem.Value.none PySem.Value.none (@PySem.Value.str (@PySem.Str.ofString "quietprobes.programs") (1133 : Nat)) Option.none (@PySem.Value.ref (659 : Nat)) PySem.Value.none (0 : Nat))) (List.toArray []))) ::
(nat_lit 661, (@PySem.Obj.mk (@PySem.Value.type "tuple") Option.none (@PySem.Data.seq (List.toArray []) (0 : Nat)) (List.toArray []))) ::
(nat_lit 663, (@PySem.Obj.mk (@PySem.Value.type "tuple") Option.none (@PySem.Data.seq (List.toArray [(@PySem.Value.str (@PySem.Str.ofString "self") (1194 : Nat)), (@PySem.Value.str (@PySem.Str.ofString "other") (1195 : Nat))]) (0 : Nat)) (List.toArray []))) ::
(nat_lit 664, (@PySem.Obj.mk (@PySem.Value.type "tuple") Option.none (@PySem.Data.seq (List.toArray []) (0 : Nat)) (List.toArray []))) ::
(nat_lit 666, (@PySem.Obj.mk (@PySem.Value.type "code") Option.none (@PySem.Data.fields (List.toArray [(@PySem.Value.str (@PySem.Str.ofString "__eq__") (1191 : Nat)), (@PySem.Value.str (@PySem.Str.ofString "Program.__eq__") (1192 : Nat)), (@PySem.Value.str (@PySem.Str.ofString "/claim/cut.py") (1193 : Nat)), (@PySem.Value.int (386 : Int) (0 : Nat)), (@PySem.Value.int (2 : Int) (0 : Nat)), (@PySem.Value.int (0 : Int) (0 : Nat)), (@PySem.Value.int (0 : Int) (0 : Nat)), (@PySem.Value.int (3 : Int) (0 : Nat)), (@PySem.Value.ref (661 : Nat)), (@PySem.Value.bool Bool.true), (@PySem.Value.int (181 : Int) (0 : Nat)), (@PySem.Value.ref (662 : Nat)), PySem.Value.none, (@PySem.Value.ref (663 : Nat)), (@PySem.Value.ref (664 : Nat)), (@PySem.Value.ref (665 : Nat)), (@PySem.Value.int (1196 : Int) (0 : Nat)), (@PySem.Value.int (386 : Int) (0 : Nat)), (@PySem.Value.str (@PySem.Str.ofString "/claim/cut.py") (1197 : Nat))])) (List.toArray []))) ::
(nat_lit 667, (@PySem.Obj.mk (@PySem.Value.type "function") Option.none (@PySem.Data.func (PySem.FuncData.mk (@PySem.Str.ofString "__eq__") (@PySem.Str.ofString "Program.__eq__") (defArgs s_Program___eq__) (PySem.FuncBody.stmts (defBody s_Program___eq__)) (defScope s_Program___eq__) (3 : Nat) [] PySem.Value.none PySem.Value.none PySem.Value.none (@PySem.Value.str (@PySem.Str.ofString "quietprobes.programs") (1133 : Nat)) Option.none (@PySem.Value.ref (666 : Nat)) PySem.Value.none (0 : Nat))) (List.toArray []))) ::
(nat_lit 668, (@PySem.Obj.mk (@PySem.Value.type "tuple") Option.none (@PySem.Data.seq (List.toArray []) (0 : Nat)) (List.toArray []))) ::
(nat_lit 671, (@PySem.Obj.mk (@PySem.Value.type "code") Option.none (@PySem.Data.fields (List.toArray [(@PySem.Value.str (@PySem.Str.ofString "__sub__") (1199 : Nat)), (@PySem.Value.str (@PySem.Str.ofString "Program.__sub__") (1200 : Nat)), (@PySem.Value.str (@PySem.Str.ofString "/claim/cut.py") (1201 : Nat)), (@PySem.Value.int (389 : Int) (0 : Nat)), (@PySem.Value.int (2 : Int) (0 : Nat)), (@PySem.Value.int (0 : Int) (0 : Nat)), (@PySem.Value.int (0 : Int) (0 : Nat)), (@PySem.Value.int (3 : Int) (0 : Nat)), (@PySem.Value.ref (668 : Nat)), (@PySem.Value.bool Bool.true), (@PySem.Value.int (181 : Int) (0 : Nat)), (@PySem.Value.ref (669 : Nat)), PySem.Value.none, PySem.Value.none, PySem.Value.none, (@PySem.Value.ref (670 : Nat)), (@PySem.Value.int (1202 : Int) (0 : Nat)), (@PySem.Value.int (389 : Int) (0 : Nat)), (@PySem.Value.str (@PySem.Str.ofString "/claim/cut.py") (1203 : Nat))])) (List.toArray []))) ::
(nat_lit 672, (@PySem.Obj.mk (@PySem.Value.type "function") Option.none (@PySem.Data.func (PySem.FuncData.mk (@PySem.Str.ofString "__sub__") (@PySem.Str.ofString "Program.__sub__") (defArgs s_Program___sub__) (PySem.FuncBody.stmts (defBody s_Program___sub__)) (defScope s_Program___sub__) (3 : Nat) [] PySem.Value.none PySem.Value.none PySem.Value.none (@PySem.Value.str (@PySem.Str.ofString "quietprobes.programs") (1133 : Nat)) Option.none (@PySem.Value.ref (671 : Nat)) PySem.Value.none (0 : Nat))) (List.toArray []))) ::
(nat_lit 673, (@PySem.Obj.mk (@PySem.Value.type "tuple") Option.none (@PySem.Data.seq (List.toArray []) (0 : Nat)) (List.toArray []))) ::
(nat_lit 676, (@PySem.Obj.mk (@PySem.Value.type "code") Option.none (@PySem.Data.fields (List.toArray [(@PySem.Value.str (@PySem.Str.ofString "__str__") (1205 : Nat)), (@PySem.Value.str (@PySem.Str.ofString "Program.__str__") (1206 : Nat)), (@PySem.Value.str (@PySem.Str.ofString "/claim/cut.py") (1207 : Nat)), (@PySem.Value.int (394 : Int) (0 : Nat)), (@PySem.Value.int (1 : Int) (0 : Nat)), (@PySem.Value.int (0 : Int) (0 : Nat)), (@PySem.Value.int (0 : Int) (0 : Nat)), (@PySem.Value.int (3 : Int) (0 : Nat)), (@PySem.Value.ref (673 : Nat)), (@PySem.Value.bool Bool.true), (@PySem.Value.int (181 : Int) (0 : Nat)), (@PySem.Value.ref (674 : Nat)), PySem.Value.none, PySem.Value.none, PySem.Value.none, (@PySem.Value.ref (675 : Nat)), (@PySem.Value.int (1208 : Int) (0 : Nat)), (@PySem.Value.int (394 : Int) (0 : Nat)), (@PySem.Value.str (@PySem.Str.ofString "/claim/cut.py") (1209 : Nat))])) (List.toArray []))) ::
(nat_lit 677, (@PySem.Obj.mk (@PySem.Value.type "function") Option.none (@PySem.Data.func (PySem.FuncData.mk (@PySem.Str.ofString "__str__") (@PySem.Str.ofString "Program.__str__") (defArgs s_Program___str__) (PySem.FuncBody.stmts (defBody s_Program___str__)) (defScope s_Program___str__) (3 : Nat) [] PySem.Value.none PySem.Value.none PySem.Value.none (@PySem.Value.str (@PySem.Str.ofString "quietprobes.programs") (1133 : Nat)) Option.none (@PySem.Value.ref (676 : Nat)) PySem.Value.none (0 : Nat))) (List.toArray []))) ::
(nat_lit 678, (@PySem.Obj.mk (@PySem.Value.type "tuple") Option.none (@PySem.Data.seq (List.toArray []) (0 : Nat)) (List.toArray []))) ::
(nat_lit 680, (@PySem.Obj.mk (@PySem.Value.type "tuple") Option.none (@PySem.Data.seq (List.toArray [(@PySem.Value.str (@PySem.Str.ofString "self") (1214 : Nat)), (@PySem.Value.str (@PySem.Str.ofString "number") (1215 : Nat))]) (0 : Nat)) (List.toArray []))) ::
(nat_lit 681, (@PySem.Obj.mk (@PySem.Value.type "tuple") Option.none (@PySem.Data.seq (List.toArray []) (0 : Nat)) (List.toArray []))) ::
(nat_lit 683, (@PySem.Obj.mk (@PySem.Value.type "code") Option.none (@PySem.Data.fields (List.toArray [(@PySem.Value.str (@PySem.Str.ofString "is_number") (1211 : Nat)), (@PySem.Value.str (@PySem.Str.ofString "Program.is_number") (1212 : Nat)), (@PySem.Value.str (@PySem.Str.ofString "/claim/cut.py") (1213 : Nat)), (@PySem.Value.int (401 : Int) (0 : Nat)), (@PySem.Value.int (2 : Int) (0 : Nat)), (@PySem.Value.int (0 : Int) (0 : Nat)), (@PySem.Value.int (0 : Int) (0 : Nat)), (@PySem.Value.int (3 : Int) (0 : Nat)), (@PySem.Value.ref (678 : Nat)), (@PySem.Value.bool Bool.true), (@PySem.Value.int (181 : Int) (0 : Nat)), (@PySem.Value.ref (679 : Nat)), PySem.Value.none, (@PySem.Value.ref (680 : Nat)), (@PySem.Value.ref (681 : Nat)), (@PySem.Value.ref (682 : Nat)), (@PySem.Value.int (1216 : Int) (0 : Nat)), (@PySem.Value.int (401 : Int) (0 : Nat)), (@PySem.Value.str (@PySem.Str.ofString "/claim/cut.py") (1217 : Nat))])) (List.toArray []))) ::
(nat_lit 684, (@PySem.Obj.mk (@PySem.Value.type "function") Option.none (@PySem.Data.func (PySem.FuncData.mk (@PySem.Str.ofString "is_number") (@PySem.Str.ofString "Program.is_number") (defArgs s_Program_is_number) (PySem.FuncBody.stmts (defBody s_Program_is_number)) (defScope s_Program_is_number) (3 : Nat) [] PySem.Value.none PySem.Value.none PySem.Value.none (@PySem.Value.str (@PySem.Str.ofString "quietprobes.programs") (1133 : Nat)) Option.none (@PySem.Value.ref (683 : Nat)) PySem.Value.none (0 : Nat))) (List.toArray []))) ::
(nat_lit 685, (@PySem.Obj.mk (@PySem.Value.type "tuple") Option.none (@PySem.Data.seq (List.toArray []) (0 : Nat)) (List.toArray []))) ::
(nat_lit 687, (@PySem.Obj.mk (@PySem.Value.type "tuple") Option.none (@PySem.Data.seq (List.toArray [(@PySem.Value.str (@PySem.Str.ofString "self") (1222 : Nat)), (@PySem.Value.str (@PySem.Str.ofString "number") (1223 : Nat)), (@PySem.Value.str (@PySem.Str.ofString "at") (1224 : Nat))]) (0 : Nat)) (List.toArray []))) ::
(nat_lit 688, (@PySem.Obj.mk (@PySem.Value.type "tuple") Option.none (@PySem.Data.seq (List.toArray []) (0 : Nat)) (List.toArray []))) ::
(nat_lit 690, (@PySem.Obj.mk (@PySem.Value.type "code") Option.none (@PySem.Data.fields (List.toArray [(@PySem.Value.str (@PySem.Str.ofString "part_at") (1219 : Nat)), (@PySem.Value.str (@PySem.Str.ofString "Program.part_at") (1220 : Nat)), (@PySem.Value.str (@PySem.Str.ofString "/claim/cut.py") (1221 : Nat)), (@PySem.Value.int (404 : Int) (0 : Nat)), (@PySem.Value.int (2 : Int) (0 : Nat)), (@PySem.Value.int (0 : Int) (0 : Nat)), (@PySem.Value.int (0 : Int) (0 : Nat)), (@PySem.Value.int (3 : Int) (0 : Nat)), (@PySem.Value.ref (685 : Nat)), (@PySem.Value.bool Bool.true), (@PySem.Value.int (181 : Int) (0 : Nat)), (@PySem.Value.ref (686 : Nat)), PySem.Value.none, (@PySem.Value.ref (687 : Nat)), (@PySem.Value.ref (688 : Nat)), (@PySem.Value.ref (689 : Nat)), (@PySem.Value.int (1225 : Int) (0 : Nat)), (@PySem.Value.int (404 : Int) (0 : Nat)), (@PySem.Value.str (@PySem.Str.ofString "/claim/cut.py") (1226 : Nat))])) (List.toArray []))) ::
(nat_lit 691, (@PySem.Obj.mk (@PySem.Value.type "function") Option.none (@PySem.Data.func (PySem.FuncData.mk (@PySem.Str.ofString "part_at") (@PySem.Str.ofString "Program.part_at") (defArgs s_Program_part_at) (PySem.FuncBody.stmts (defBody s_Program_part_at)) (defScope s_Program_part_at) (3 : Nat) [] PySem.Value.none PySem.Value.none PySem.Value.none (@PySem.Value.str (@PySem.Str.ofString "quietprobes.programs") (1133 : Nat)) Option.none (@PySem.Value.ref (690 : Nat)) PySem.Value.none (0 : Nat))) (List.toArray []))) ::
(nat_lit 692, (@PySem.Obj.mk (@PySem.Value.type "tuple") Option.none (@PySem.Data.seq (List.toArray []) (0 : Nat)) (List.toArray []))) ::
(nat_lit 695, (@PySem.Obj.mk (@PySem.Value.type "code") Option.none (@PySem.Data.fields (List.toArray [(@PySem.Value.str (@PySem.Str.ofString "part_named") (1228 : Nat)), (@PySem.Value.str (@PySem.Str.ofString "Program.part_named") (1229 : Nat)), (@PySem.Value.str (@PySem.Str.ofString "/claim/cut.py") (1230 : Nat)), (@PySem.Value.int (410 : Int) (0 : Nat)), (@PySem.Value.int (2 : Int) (0 : Nat)), (@PySem.Value.int (0 : Int) (0 : Nat)), (@PySem.Value.int (0 : Int) (0 : Nat)), (@PySem.Value.int (3 : Int) (0 : Nat)), (@PySem.Value.ref (692 : Nat)), (@PySem.Value.bool Bool.true), (@PySem.Value.int (181 : Int) (0 : Nat)), (@PySem.Value.ref (693 : Nat)), PySem.Value.none, PySem.Value.none, PySem.Value.none, (@PySem.Value.ref (694 : Nat)), (@PySem.Value.int (1231 : Int) (0 : Nat)), (@PySem.Value.int (410 : Int) (0 : Nat)), (@PySem.Value.str (@PySem.Str.ofString "/claim/cut.py") (1232 : Nat))])) (List.toArray []))) ::
(nat_lit 696, (@PySem.Obj.mk (@PySem.Value.type "function") Option.none (@PySem.Data.func (PySem.FuncData.mk (@PySem.Str.ofString "part_named") (@PySem.Str.ofString "Program.part_named") (defArgs s_Program_part_named) (PySem.FuncBody.stmts (defBody s_Program_part_named)) (defScope s_Program_part_named) (3 : Nat) [] PySem.Value.none PySem.Value.none PySem.Value.none (@PySem.Value.str (@PySem.Str.ofString "quietprobes.programs") (1133 : Nat)) Option.none (@PySem.Value.ref (695 : Nat)) PySem.Value.none (0 : Nat))) (List.toArray []))) ::
(nat_lit 697, (@PySem.Obj.mk (@PySem.Value.type "tuple") Option.none (@PySem.Data.seq (List.toArray []) (0 : Nat)) (List.toArray []))) ::
(nat_lit 699, (@PySem.Obj.mk (@PySem.Value.type "tuple") Option.none (@PySem.Data.seq (List.toArray [(@PySem.Value.str (@PySem.Str.ofString "self") (1237 : Nat)), (@PySem.Value.str (@PySem.Str.ofString "name") (1238 : Nat)), (@PySem.Value.str (@PySem.Str.ofString "number") (1239 : Nat))]) (0 : Nat)) (List.toArray []))) ::
(nat_lit 700, (@PySem.Obj.mk (@PySem.Value.type "tuple") Option.none (@PySem.Data.seq (List.toArray []) (0 : Nat)) (List.toArray []))) ::
(nat_lit 702, (@PySem.Obj.mk (@PySem.Value.type "code") Option.none (@PySem.Data.fields (List.toArray [(@PySem.Value.str (@PySem.Str.ofString "row_of") (1234 : Nat)), (@PySem.Value.str (@PySem.Str.ofString "Program.row_of") (1235 : Nat)), (@PySem.Value.str (@PySem.Str.ofString "/claim/cut.py") (1236 : Nat)), (@PySem.Value.int (413 : Int) (0 : Nat)), (@PySem.Value.int (2 : Int) (0 : Nat)), (@PySem.Value.int (0 : Int) (0 : Nat)), (@PySem.Value.int (0 : Int) (0 : Nat)), (@PySem.Value.int (3 : Int) (0 : Nat)), (@PySem.Value.ref (697 : Nat)), (@PySem.Value.bool Bool.true), (@PySem.Value.int (181 : Int) (0 : Nat)), (@PySem.Value.ref (698 : Nat)), PySem.Value.none, (@PySem.Value.ref (699 : Nat)), (@PySem.Value.ref (700 : Nat)), (@PySem.Value.ref (701 : Nat)), (@PySem.Value.int (1240 : Int) (0 : Nat)), (@PySem.Value.int (413 : Int) (0 : Nat)), (@PySem.Value.str (@PySem.Str.ofString "/claim/cut.py") (1241 : Nat))])) (List.toArray []))) ::
(nat_lit 703, (@PySem.Obj.mk (@PySem.Value.type "function") Option.none (@PySem.Data.func (PySem.FuncData.mk (@PySem.Str.ofString "row_of") (@PySem.Str.ofString "Program.row_of") (defArgs s_Program_row_of) (PySem.FuncBody.stmts (defBody s_Program_row_of)) (defScope s_Program_row_of) (3 : Nat) [] PySem.Value.none PySem.Value.none PySem.Value.none (@PySem.Value.str (@PySem.Str.ofString "quietprobes.programs") (1133 : Nat)) Option.none (@PySem.Value.ref (702 : Nat)) PySem.Value.none (0 : Nat))) (List.toArray []))) ::
(nat_lit 704, (@PySem.Obj.mk (@PySem.Value.type "tuple") Option.none (@PySem.Data.seq (List.toArray []) (0 : Nat)) (List.toArray []))) ::
(nat_lit 706, (@PySem.Obj.mk (@PySem.Value.type "tuple") Option.none (@PySem.Data.seq (List.toArray [(@PySem.Value.str (@PySem.Str.ofString "self") (1246 : Nat)), (@PySem.Value.str (@PySem.Str.ofString "number") (1247 : Nat))]) (0 : Nat)) (List.toArray []))) ::
(nat_lit 707, (@PySem.Obj.mk (@PySem.Value.type "tuple") Option.none (@PySem.Data.seq (List.toArray []) (0 : Nat)) (List.toArray []))) ::
(nat_lit 709, (@PySem.Obj.mk (@PySem.Value.type "code") Option.none (@PySem.Data.fields (List.toArray [(@PySem.Value.str (@PySem.Str.ofString "part_of") (1243 : Nat)), (@PySem.Value.str (@PySem.Str.ofString "Program.part_of") (1244 : Nat)), (@PySem.Value.str (@PySem.Str.ofString "/claim/cut.py") (1245 : Nat)), (@PySem.Value.int (421 : Int) (0 : Nat)), (@PySem.Value.int (2 : Int) (0 : Nat)), (@PySem.Value.int (0 : Int) (0 : Nat)), (@PySem.Value.int (0 : Int) (0 : Nat)), (@PySem.Value.int (3 : Int) (0 : Nat)), (@PySem.Value.ref (704 : Nat)), (@PySem.Value.bool Bool.true), (@PySem.Value.int (181 : Int) (0 : Nat)), (@PySem.Value.ref (705 : Nat)), PySem.Value.none, (@PySem.Value.ref (706 : Nat)), (@PySem.Value.ref (707 : Nat)), (@PySem.Value.ref (708 : Nat)), (@PySem.Value.int (1248 : Int) (0 : Nat)), (@PySem.Value.int (421 : Int) (0 : Nat)), (@PySem.Value.str (@PySem.Str.ofString "/claim/cut.py") (1249 : Nat))])) (List.toArray []))) ::
(nat_lit 710, (@PySem.Obj.mk (@PySem.Value.type "function") Option.none (@PySem.Data.func (PySem.FuncData.mk (@PySem.Str.ofString "part_of") (@PySem.Str.ofString "Program.part_of") (defArgs s_Program_part_of) (PySem.FuncBody.stmts (defBody s_Program_part_of)) (defScope s_Program_part_of) (3 : Nat) [] PySem.Value.none PySem.Value.none PySem.Value.none (@PySem.Value.str (@PySem.Str.ofString "quietprobes.programs") (1133 : Nat)) Option.none (@PySem.Value.ref (709 : Nat)) PySem.Value.none (0 : Nat))) (List.toArray []))) ::
(nat_lit 711, (@PySem.Obj.mk (@PySem.Value.type "tuple") Option.none (@PySem.Data.seq (List.toArray []) (0 : Nat)) (List.toArray []))) ::
(nat_lit 713, (@PySem.Obj.mk (@PySem.Value.type "tuple") Option.none (@PySem.Data.seq (List.toArray [(@PySem.Value.str (@PySem.Str.ofString "self") (1254 : Nat)), (@PySem.Value.str (@PySem.Str.ofString "names") (1255 : Nat))]) (0 : Nat)) (List.toArray []))) ::
(nat_lit 714, (@PySem.Obj.mk (@PySem.Value.type "tuple") Option.none (@PySem.Data.seq (List.toArray []) (0 : Nat)) (List.toArray []))) ::
(nat_lit 716, (@PySem.Obj.mk (@PySem.Value.type "code") Option.none (@PySem.Data.fields (List.toArray [(@PySem.Value.str (@PySem.Str.ofString "focused") (1251 : Nat)), (@PySem.Value.str (@PySem.Str.ofString "Program.focused") (1252 : Nat)), (@PySem.Value.str (@PySem.Str.ofString "/claim/cut.py") (1253 : Nat)), (@PySem.Value.int (424 : Int) (0 : Nat)), (@PySem.Value.int (1 : Int) (0 : Nat)), (@PySem.Value.int (0 : Int) (0 : Nat)), (@PySem.Value.int (0 : Int) (0 : Nat)), (@PySem.Value.int (7 : Int) (0 : Nat)), (@PySem.Value.ref (711 : Nat)), (@PySem.Value.bool Bool.true), (@PySem.Value.int (181 : Int) (0 : Nat)), (@PySem.Value.ref (712 : Nat)), PySem.Value.none, (@PySem.Value.ref (713 : Nat)), (@PySem.Value.ref (714 : Nat)), (@PySem.Value.ref (715 : Nat)), (@PySem.Value.int (1256 : Int) (0 : Nat)), (@PySem.Value.int (424 : Int) (0 : Nat)), (@PySem.Value.str (@PySem.Str.ofString "/claim/cut.py") (1257 : Nat))])) (List.toArray []))) ::
(nat_lit 717, (@PySem.Obj.mk (@PySem.Value.type "function") Option.none (@PySem.Data.func (PySem.FuncData.mk (@PySem.Str.ofString "focused") (@PySem.Str.ofString "Program.focused") (defArgs s_Program_focused) (PySem.FuncBody.stmts (defBody s_Program_focused)) (defScope s_Program_focused) (3 : Nat) [] PySem.Value.none PySem.Value.none PySem.Value.none (@PySem.Value.str (@PySem.Str.ofString "quietprobes.programs") (1133 : Nat)) Option.none (@PySem.Value.ref (716 : Nat)) PySem.Value.none (0 : Nat))) (List.toArray []))) ::
(nat_lit 718, (@PySem.Obj.mk (@PySem.Value.type "tuple") Option.none (@PySem.Data.seq (List.toArray []) (0 : Nat)) (List.toArray []))) ::
(nat_lit 720, (@PySem.Obj.mk (@PySem.Value.type "tuple") Option.none (@PySem.Data.seq (List.toArray [(@PySem.Value.str (@PySem.Str.ofString "self") (1262 : Nat)), (@PySem.Value.str (@PySem.Str.ofString "name") (1263 : Nat)), (@PySem.Value.str (@PySem.Str.ofString "number") (1264 : Nat))]) (0 : Nat)) (List.toArray []))) ::
(nat_lit 721, (@PySem.Obj.mk (@PySem.Value.type "tuple") Option.none (@PySem.Data.seq (List.toArray []) (0 : Nat)) (List.toArray []))) ::
(nat_lit 723, (@PySem.Obj.mk (@PySem.Value.type "code") Option.none (@PySem.Data.fields (List.toArray [(@PySem.Value.str (@PySem.Str.ofString "moved") (1259 : Nat)), (@PySem.Value.str (@PySem.Str.ofString "Program.moved") (1260 : Nat)), (@PySem.Value.str (@PySem.Str.ofString "/claim/cut.py") (1261 : Nat)), (@PySem.Value.int (427 : Int) (0 : Nat)), (@PySem.Value.int (3 : Int) (0 : Nat)), (@PySem.Value.int (0 : Int) (0 : Nat)), (@PySem.Value.int (0 : Int) (0 : Nat)), (@PySem.Value.int (3 : Int) (0 : Nat)), (@PySem.Value.ref (718 : Nat)), (@PySem.Value.bool Bool.true), (@PySem.Value.int (181 : Int) (0 : Nat)), (@PySem.Value.ref (719 : Nat)), PySem.Value.none, (@PySem.Value.ref (720 : Nat)), (@PySem.Value.ref (721 : Nat)), (@PySem.Value.ref (722 : Nat)), (@PySem.Value.int (1265 : Int) (0 : Nat)), (@PySem.Value.int (427 : Int) (0 : Nat)), (@PySem.Value.str (@PySem.Str.ofString "/claim/cut.py") (1266 : Nat))])) (List.toArray []))) ::
(nat_lit 724, (@PySem.Obj.mk (@PySem.Value.type "function") Option.none (@PySem.Data.func (PySem.FuncData.mk (@PySem.Str.ofString "moved") (@PySem.Str.ofString "Program.moved") (defArgs s_Program_moved) (PySem.FuncBody.stmts (defBody s_Program_moved)) (defScope s_Program_moved) (3 : Nat) [] PySem.Value.none PySem.Value.none PySem.Value.none (@PySem.Value.str (@PySem.Str.ofString "quietprobes.programs") (1133 : Nat)) Option.none (@PySem.Value.ref (723 : Nat)) PySem.Value.none (0 : Nat))) (List.toArray []))) ::
(nat_lit 725, (@PySem.Obj.mk (@PySem.Value.type "tuple") Option.none (@PySem.Data.seq (List.toArray []) (0 : Nat)) (List.toArray []))) ::
(nat_lit 727, (@PySem.Obj.mk (@PySem.Value.type "tuple") Option.none (@PySem.Data.seq (List.toArray [(@PySem.Value.str (@PySem.Str.ofString "self") (1271 : Nat))]) (0 : Nat)) (List.toArray []))) ::
(nat_lit 728, (@PySem.Obj.mk (@PySem.Value.type "tuple") Option.none (@PySem.Data.seq (List.toArray []) (0 : Nat)) (List.toArray []))) ::
(nat_lit 730, (@PySem.Obj.mk (@PySem.Value.type "code") Option.none (@PySem.Data.fields (List.toArray [(@PySem.Value.str (@PySem.Str.ofString "first_place") (1268 : Nat)), (@PySem.Value.str (@PySem.Str.ofString "Program.first_place") (1269 : Nat)), (@PySem.Value.str (@PySem.Str.ofString "/claim/cut.py") (1270 : Nat)), (@PySem.Value.int (430 : Int) (0 : Nat)), (@PySem.Value.int (1 : Int) (0 : Nat)), (@PySem.Value.int (0 : Int) (0 : Nat)), (@PySem.Value.int (0 : Int) (0 : Nat)), (@PySem.Value.int (3 : Int) (0 : Nat)), (@PySem.Value.ref (725 : Nat)), (@PySem.Value.bool Bool.true), (@PySem.Value.int (181 : Int) (0 : Nat)), (@PySem.Value.ref (726 : Nat)), PySem.Value.none, (@PySem.Value.ref (727 : Nat)), (@PySem.Value.ref (728 : Nat)), (@PySem.Value.ref (729 : Nat)), (@PySem.Value.int (1272 : Int) (0 : Nat)), (@PySem.Value.int (430 : Int) (0 : Nat)), (@PySem.Value.str (@PySem.Str.ofString "/claim/cut.py") (1273 : Nat))])) (List.toArray []))) ::
(nat_lit 731, (@PySem.Obj.mk (@PySem.Value.type "function") Option.none (@PySem.Data.func (PySem.FuncData.mk (@PySem.Str.ofString "first_place") (@PySem.Str.ofString "Program.first_place") (defArgs s_Program_first_place) (PySem.FuncBody.stmts (defBody s_Program_first_place)) (defScope s_Program_first_place) (3 : Nat) [] PySem.Value.none PySem.Value.none PySem.Value.none (@PySem.Value.str (@PySem.Str.ofString "quietprobes.programs") (1133 : Nat)) Option.none (@PySem.Value.ref (730 : Nat)) PySem.Value.none (0 : Nat))) (List.toArray []))) ::
(nat_lit 732, (@PySem.Obj.mk (@PySem.Value.type "tuple") Option.none (@PySem.Data.seq (List.toArray []) (0 : Nat)) (List.toArray []))) ::
(nat_lit 734, (@PySem.Obj.mk (@PySem.Value.type "tuple") Option.none (@PySem.Data.seq (List.toArray [(@PySem.Value.str (@PySem.Str.ofString "self") (1278 : Nat)), (@PySem.Value.str (@PySem.Str.ofString "place") (1279 : Nat)), (@PySem.Value.str (@PySem.Str.ofString "at") (1280 : Nat)), (@PySem.Value.str (@PySem.Str.ofString "depth") (1281 : Nat)), (@PySem.Value.str (@PySem.Str.ofString "number") (1282 : Nat))]) (0 : Nat)) (List.toArray []))) ::
(nat_lit 735, (@PySem.Obj.mk (@PySem.Value.type "tuple") Option.none (@PySem.Data.seq (List.toArray []) (0 : Nat)) (List.toArray []))) ::
(nat_lit 737, (@PySem.Obj.mk (@PySem.Value.type "code") Option.none (@PySem.Data.fields (List.toArray [(@PySem.Value.str (@PySem.Str.ofString "is_place") (1275 : Nat)), (@PySem.Value.str (@PySem.Str.ofString "Program.is_place") (1276 : Nat)), (@PySem.Value.str (@PySem.Str.ofString "/claim/cut.py") (1277 : Nat)), (@PySem.Value.int (433 : Int) (0 : Nat)), (@PySem.Value.int (2 : Int) (0 : Nat)), (@PySem.Value.int (0 : Int) (0 : Nat)), (@PySem.Value.int (0 : Int) (0 : Nat)), (@PySem.Value.int (3 : Int) (0 : Nat)), (@PySem.Value.ref (732 : Nat)), (@PySem.Value.bool Bool.true), (@PySem.Value.int (181 : Int) (0 : Nat)), (@PySem.Value.ref (733 : Nat)), PySem.Value.none, (@PySem.Value.ref (734 : Nat)), (@PySem.Value.ref (735 : Nat)), (@PySem.Value.ref (736 : Nat)), (@PySem.Value.int (1283 : Int) (0 : Nat)), (@PySem.Value.int (433 : Int) (0 : Nat)), (@PySem.Value.str (@PySem.Str.ofString "/claim/cut.py") (1284 : Nat))])) (List.toArray []))) ::
(nat_lit 738, (@PySem.Obj.mk (@PySem.Value.type "function") Option.none (@PySem.Data.func (PySem.FuncData.mk (@PySem.Str.ofString "is_place") (@PySem.Str.ofString "Program.is_place") (defArgs s_Program_is_place) (PySem.FuncBody.stmts (defBody s_Program_is_place)) (defScope s_Program_is_place) (3 : Nat) [] PySem.Value.none PySem.Value.none PySem.Value.none (@PySem.Value.str (@PySem.Str.ofString "quietprobes.programs") (1133 : Nat)) Option.none (@PySem.Value.ref (737 : Nat)) PySem.Value.none (0 : Nat))) (List.toArray []))) ::
(nat_lit 739, (@PySem.Obj.mk (@PySem.Value.type "tuple") Option.none (@PySem.Data.seq (List.toArray [(@PySem.Value.bool Bool.true)]) (0 : Nat)) (List.toArray []))) ::
(nat_lit 740, (@PySem.Obj.mk (@PySem.Value.type "tuple") Option.none (@PySem.Data.seq (List.toArray []) (0 : Nat)) (List.toArray []))) ::
(nat_lit 742, (@PySem.Obj.mk (@PySem.Value.type "tuple") Option.none (@PySem.Data.seq (List.toArray [(@PySem.Value.str (@PySem.Str.ofString "self") (1289 : Nat)), (@PySem.Value.str (@PySem.Str.ofString "place") (1290 : Nat)), (@PySem.Value.str (@PySem.Str.ofString "answer") (1291 : Nat)), (@PySem.Value.str (@PySem.Str.ofString "number") (1292 : Nat)), (@PySem.Value.str (@PySem.Str.ofString "row") (1293 : Nat)), (@PySem.Value.str (@PySem.Str.ofString "called") (1294 : Nat)), (@PySem.Value.str (@PySem.Str.ofString "coming") (1295 : Nat)), (@PySem.Value.str (@PySem.Str.ofString "calls") (1296 : Nat)), (@PySem.Value.str (@PySem.Str.ofString "at") (1297 : Nat))]) (0 : Nat)) (List.toArray []))) ::
(nat_lit 743, (@PySem.Obj.mk (@PySem.Value.type "tuple") Option.none (@PySem.Data.seq (List.toArray []) (0 : Nat)) (List.toArray []))) ::
(nat_lit 745, (@PySem.Obj.mk (@PySem.Value.type "code") Option.none (@PySem.Data.fields (List.toArray [(@PySem.Value.str (@PySem.Str.ofString "behind") (1286 : Nat)), (@PySem.Value.str (@PySem.Str.ofString "Program.behind") (1287 : Nat)), (@PySem.Value.str (@PySem.Str.ofString "/claim/cut.py") (1288 : Nat)), (@PySem.Value.int (446 : Int) (0 : Nat)), (@PySem.Value.int (3 : Int) (0 : Nat)), (@PySem.Value.int (0 : Int) (0 : Nat)), (@PySem.Value.int (0 : Int) (0 : Nat)), (@PySem.Value.int (3 : Int) (0 : Nat)), (@PySem.Value.ref (740 : Nat)), (@PySem.Value.bool Bool.true), (@PySem.Value.int (181 : Int) (0 : Nat)), (@PySem.Value.ref (741 : Nat)), PySem.Value.none, (@PySem.Value.ref (742 : Nat)), (@PySem.Value.ref (743 : Nat)), (@PySem.Value.ref (744 : Nat)), (@PySem.Value.int (1298 : Int) (0 : Nat)), (@PySem.Value.int (446 : Int) (0 : Nat)), (@PySem.Value.str (@PySem.Str.ofString "/claim/cut.py") (1299 : Nat))])) (List.toArray []))) ::
(nat_lit 746, (@PySem.Obj.mk (@PySem.Value.type "function") Option.none (@PySem.Data.func (PySem.FuncData.mk (@PySem.Str.ofString "behind") (@PySem.Str.ofString "Program.behind") (defArgs s_Program_behind) (PySem.FuncBody.stmts (defBody s_Program_behind)) (defScope s_Program_behind) (3 : Nat) [] (@PySem.Value.ref (739 : Nat)) PySem.Value.none PySem.Value.none (@PySem.Value.str (@PySem.Str.ofString "quietprobes.programs") (1133 : Nat)) Option.none (@PySem.Value.ref (745 : Nat)) PySem.Value.none (0 : Nat))) (List.toArray []))) ::
(nat_lit 747, (@PySem.Obj.mk (@PySem.Value.type "tuple") Option.none (@PySem.Data.seq (List.toArray []) (0 : Nat)) (List.toArray []))) ::
(nat_lit 749, (@PySem.Obj.mk (@PySem.Value.type "tuple") Option.none (@PySem.Data.seq (List.toArray [(@PySem.Value.str (@PySem.Str.ofString "text") (1304 : Nat)), (@PySem.Value.str (@PySem.Str.ofString "things") (1305 : Nat)), (@PySem.Value.str (@PySem.Str.ofString "parts") (1306 : Nat)), (@PySem.Value.str (@PySem.Str.ofString "number") (1307 : Nat)), (@PySem.Value.str (@PySem.Str.ofString "line") (1308 : Nat)), (@PySem.Value.str (@PySem.Str.ofString "name") (1309 : Nat)), (@PySem.Value.str (@PySem.Str.ofString "row") (1310 : Nat)), (@PySem.Value.str (@PySem.Str.ofString "thing") (1311 : Nat))]) (0 : Nat)) (List.toArray []))) ::
(nat_lit 750, (@PySem.Obj.mk (@PySem.Value.type "tuple") Option.none (@PySem.Data.seq (List.toArray []) (0 : Nat)) (List.toArray []))) ::
(nat_lit 752, (@PySem.Obj.mk (@PySem.Value.type "code") Option.none (@PySem.Data.fields (List.toArray [(@PySem.Value.str (@PySem.Str.ofString "read") (1301 : Nat)), (@PySem.Value.str (@PySem.Str.ofString "Program.read") (1302 : Nat)), (@PySem.Value.str (@PySem.Str.ofString "/claim/cut.py") (1303 : Nat)), (@PySem.Value.int (467 : Int) (0 : Nat)), (@PySem.Value.int (1 : Int) (0 : Nat)), (@PySem.Value.int (0 : Int) (0 : Nat)), (@PySem.Value.int (0 : Int) (0 : Nat)), (@PySem.Value.int (3 : Int) (0 : Nat)), (@PySem.Value.ref (747 : Nat)), (@PySem.Value.bool Bool.true), (@PySem.Value.int (181 : Int) (0 : Nat)), (@PySem.Value.ref (748 : Nat)), PySem.Value.none, (@PySem.Value.ref (749 : Nat)), (@PySem.Value.ref (750 : Nat)), (@PySem.Value.ref (751 : Nat)), (@PySem.Value.int (1312 : Int) (0 : Nat)), (@PySem.Value.int (467 : Int) (0 : Nat)), (@PySem.Value.str (@PySem.Str.ofString "/claim/cut.py") (1313 : Nat))])) (List.toArray []))) ::
(nat_lit 753, (@PySem.Obj.mk (@PySem.Value.type "function") Option.none (@PySem.Data.func (PySem.FuncData.mk (@PySem.Str.ofString "read") (@PySem.Str.ofString "Program.read") (defArgs s_Program_read) (PySem.FuncBody.stmts (defBody s_Program_read)) (defScope s_Program_read) (3 : Nat) [] PySem.Value.none PySem.Value.none PySem.Value.none (@PySem.Value.str (@PySem.Str.ofString "quietprobes.programs") (1133 : Nat)) (Option.some (756 : Nat)) (@PySem.Value.ref (752 : Nat)) PySem.Value.none (0 : Nat))) (List.toArray []))) ::
(nat_lit 754, (@PySem.Obj.mk (@PySem.Value.type "dict") Option.none (@PySem.Data.dict (List.toArray [(@PySem.DictEntry.mk (@PySem.PyData.keyHash P (@PySem.Str.ofString "__module__")) (@PySem.Value.str (@PySem.Str.ofString "__module__") (1315 : Nat)) (@PySem.Value.str (@PySem.Str.ofString "quietprobes.programs") (1133 : Nat))), (@PySem.DictEntry.mk (@PySem.PyData.keyHash P (@PySem.Str.ofString "__name__")) (@PySem.Value.str (@PySem.Str.ofString "__name__") (1318 : Nat)) (@PySem.Value.str (@PySem.Str.ofString "read") (1317 : Nat))), (@PySem.DictEntry.mk (@PySem.PyData.keyHash P (@PySem.Str.ofString "__qualname__")) (@PySem.Value.str (@PySem.Str.ofString "__qualname__") (1321 : Nat)) (@PySem.Value.str (@PySem.Str.ofString "Program.read") (1320 : Nat))), (@PySem.DictEntry.mk (@PySem.PyData.keyHash P (@PySem.Str.ofString "__doc__")) (@PySem.Value.str (@PySem.Str.ofString "__doc__") (1323 : Nat)) PySem.Value.none), (@PySem.DictEntry.mk (@PySem.PyData.keyHash P (@PySem.Str.ofString "__annotations__")) (@PySem.Value.str (@PySem.Str.ofString "__annotations__") (1325 : Nat)) (@PySem.Value.ref (756 : Nat)))]) (5 : Nat)) (List.toArray []))) ::
(nat_lit 755, (@PySem.Obj.mk (@PySem.Value.type "staticmethod") (Option.some (754 : Nat)) (@PySem.Data.fields (List.toArray [(@PySem.Value.ref (753 : Nat)), (@PySem.Value.bool Bool.false)])) (List.toArray []))) ::
(nat_lit 756, (@PySem.Obj.mk (@PySem.Value.type "dict") Option.none (@PySem.Data.dict (List.toArray []) (0 : Nat)) (List.toArray []))) ::
(nat_lit 757, (@PySem.Obj.mk (@PySem.Value.type "tuple") Option.none (@PySem.Data.seq (List.toArray [(@PySem.Value.str (@PySem.Str.ofString "asserts") (1327 : Nat)), (@PySem.Value.str (@PySem.Str.ofString "begins") (1328 : Nat)), (@PySem.Value.str (@PySem.Str.ofString "onward") (1329 : Nat)), (@PySem.Value.str (@PySem.Str.ofString "otherwise") (1330 : Nat)), (@PySem.Value.str (@PySem.Str.ofString "parts") (1331 : Nat)), (@PySem.Value.str (@PySem.Str.ofString "probes") (1332 : Nat)), (@PySem.Value.str (@PySem.Str.ofString "rows") (1333 : Nat)), (@PySem.Value.str (@PySem.Str.ofString "things") (1334 : Nat))]) (0 : Nat)) (List.toArray []))) ::
(nat_lit 758, (@PySem.Obj.mk (@PySem.Value.type "dict") Option.none (@PySem.Data.dict (List.toArray [(@PySem.DictEntry.mk (@PySem.PyData.keyHash P (@PySem.Str.ofString "__module__")) (@PySem.Value.str (@PySem.Str.ofString "__module__") (1150 : Nat)) (@PySem.Value.str (@PySem.Str.ofString "quietprobes.programs") (1133 : Nat))), (@PySem.DictEntry.mk (@PySem.PyData.keyHash P (@PySem.Str.ofString "__firstlineno__")) (@PySem.Value.str (@PySem.Str.ofString "__firstlineno__") (1154 : Nat)) (@PySem.Value.int (357 : Int) (1153 : Nat))), (@PySem.DictEntry.mk (@PySem.PyData.keyHash P (@PySem.Str.ofString "__init__")) (@PySem.Value.str (@PySem.Str.ofString "__init__") (1160 : Nat)) (@PySem.Value.ref (632 : Nat))), (@PySem.DictEntry.mk (@PySem.PyData.keyHash P (@PySem.Str.ofString "__len__")) (@PySem.Value.str (@PySem.Str.ofString "__len__") (1167 : Nat)) (@PySem.Value.ref (639 : Nat))), (@PySem.DictEntry.mk (@PySem.PyData.keyHash P (@PySem.Str.ofString "__iter__")) (@PySem.Value.str (@PySem.Str.ofString "__iter__") (1174 : Nat)) (@PySem.Value.ref (646 : Nat))), (@PySem.DictEntry.mk (@PySem.PyData.keyHash P (@PySem.Str.ofString "__getitem__")) (@PySem.Value.str (@PySem.Str.ofString "__getitem__") (1182 : Nat)) (@PySem.Value.ref (653 : Nat))), (@PySem.DictEntry.mk (@PySem.PyData.keyHash P (@PySem.Str.ofString "__contains__")) (@PySem.Value.str (@PySem.Str.ofString "__contains__") (1190 : Nat)) (@PySem.Value.ref (660 : Nat))), (@PySem.DictEntry.mk (@PySem.PyData.keyHash P (@PySem.Str.ofString "__eq__")) (@PySem.Value.str (@PySem.Str.ofString "__eq__") (1198 : Nat)) (@PySem.Value.ref (667 : Nat))), (@PySem.DictEntry.mk (@PySem.PyData.keyHash P (@PySem.Str.ofString "__sub__")) (@PySem.Value.str (@PySem.Str.ofString "__sub__") (1204 : Nat)) (@PySem.Value.ref (672 : Nat))), (@PySem.DictEntry.mk (@PySem.PyData.keyHash P (@PySem.Str.ofString "__str__")) (@PySem.Value.str (@PySem.Str.ofString "__str__") (1210 : Nat)) (@PySem.Value.ref (677 : Nat))), (@PySem.DictEntry.mk (@PySem.PyData.keyHash P (@PySem.Str.ofString "is_number")) (@PySem.Value.str (@PySem.Str.ofString "is_number") (1218 : Nat)) (@PySem.Value.ref (684 : Nat))), (@PySem.DictEntry.mk (@PySem.PyData.keyHash P (@PySem.Str.ofString "part_at")) (@PySem.Value.str (@PySem.Str.ofString "part_at") (1227 : Nat)) (@PySem.Value.ref (691 : Nat))), (@PySem.DictEntry.mk (@PySem.PyData.keyHash P (@PySem.Str.ofString "part_named")) (@PySem.Value.str (@PySem.Str.ofString "part_named") (1233 : Nat)) (@PySem.Value.ref (696 : Nat))), (@PySem.DictEntry.mk (@PySem.PyData.keyHash P (@PySem.Str.ofString "row_of")) (@PySem.Value.str (@PySem.Str.ofString "row_of") (1242 : Nat)) (@PySem.Value.ref (703 : Nat))), (@PySem.DictEntry.mk (@PySem.PyData.keyHash P (@PySem.Str.ofString "part_of")) (@PySem.Value.str (@PySem.Str.ofString "part_of") (1250 : Nat)) (@PySem.Value.ref (710 : Nat))), (@PySem.DictEntry.mk (@PySem.PyData.keyHash P (@PySem.Str.ofString "focused")) (@PySem.Value.str (@PySem.Str.ofString "focused") (1258 : Nat)) (@PySem.Value.ref (717 : Nat))), (@PySem.DictEntry.mk (@PySem.PyData.keyHash P (@PySem.Str.ofString "moved")) (@PySem.Value.str (@PySem.Str.ofString "moved") (1267 : Nat)) (@PySem.Value.ref (724 : Nat))), (@PySem.DictEntry.mk (@PySem.PyData.keyHash P (@PySem.Str.ofString "first_place")) (@PySem.Value.str (@PySem.Str.ofString "first_place") (1274 : Nat)) (@PySem.Value.ref (731 : Nat))), (@PySem.DictEntry.mk (@PySem.PyData.keyHash P (@PySem.Str.ofString "is_place")) (@PySem.Value.str (@PySem.Str.ofString "is_place") (1285 : Nat)) (@PySem.Value.ref (738 : Nat))), (@PySem.DictEntry.mk (@PySem.PyData.keyHash P (@PySem.Str.ofString "behind")) (@PySem.Value.str (@PySem.Str.ofString "behind") (1300 : Nat)) (@PySem.Value.ref (746 : Nat))), (@PySem.DictEntry.mk (@PySem.PyData.keyHash P (@PySem.Str.ofString "read")) (@PySem.Value.str (@PySem.Str.ofString "read") (1326 : Nat)) (@PySem.Value.ref (755 : Nat))), (@PySem.DictEntry.mk (@PySem.PyData.keyHash P (@PySem.Str.ofString "__static_attributes__")) (@PySem.Value.str (@PySem.Str.ofString "__static_attributes__") (1335 : Nat)) (@PySem.Value.ref (757 : Nat))), (@PySem.DictEntry.mk (@PySem.PyData.keyHash P (@PySem.Str.ofString "__dict__")) (@PySem.Value.str (@PySem.Str.ofString "__dict__") (1337 : Nat)) (@PySem.Value.ref (760 : Nat))), (@PySem.DictEntry.mk (@PySem.PyData.keyHash P (@PySem.Str.ofString "__weakref__")) (@PySem.Value.str (@PySem.Str.ofString "__weakref__") (1339 : Nat)) (@PySem.Value.ref (761 : Nat))), (@PySem.DictEntry.mk (@PySem.PyData.keyHash P (@PySem.Str.ofString "__doc__")) (@PySem.Value.str (@PySem.Str.ofString "__doc__") (1340 : Nat)) PySem.Value.none), (@PySem.DictEntry.mk (@PySem.PyData.keyHash P (@PySem.Str.ofString "__hash__")) (@PySem.Value.str (@PySem.Str.ofString "__hash__") (1341 : Nat)) PySem.Value.none)]) (5 : Nat)) (List.toArray []))) ::
(nat_lit 759, (@PySem.Obj.mk (@PySem.Value.type "type") Option.none (@PySem.Data.cls (@PySem.ClassData.mk (@PySem.Str.ofString "Program") [(@PySem.Value.type "object")] [(@PySem.Value.ref (759 : Nat)), (@PySem.Value.type "object")] (758 : Nat) (@PySem.Str.ofString "Program") Bool.true [] [] Bool.false Option.none Bool.false)) (List.toArray [Option.none, Option.none, (Option.some (@PySem.Value.str (@PySem.Str.ofString "Program") (1143 : Nat))), (Option.some (@PySem.Value.str (@PySem.Str.ofString "Program") (1151 : Nat))), (Option.some (@PySem.Value.builtin "object.__new__")), (Option.some (@PySem.Value.bool Bool.true))]))) ::
(nat_lit 760, (@PySem.Obj.mk (@PySem.Value.type "getset_descriptor") Option.none (@PySem.Data.fields (List.toArray [(@PySem.Value.str (@PySem.Str.ofString "__dict__") (1336 : Nat)), (@PySem.Value.ref (759 : Nat)), (@PySem.Value.builtin "function.__dict__"), (@PySem.Value.builtin "function.__dict__#set")])) (List.toArray []))) ::
(nat_lit 761, (@PySem.Obj.mk (@PySem.Value.type "getset_descriptor") Option.none (@PySem.Data.fields (List.toArray [(@PySem.Value.str (@PySem.Str.ofString "__weakref__") (1338 : Nat)), (@PySem.Value.ref (759 : Nat)), (@PySem.Value.builtin "ExceptionGroup.__weakref__"), PySem.Value.none])) (List.toArray []))) ::
(nat_lit 764, (@PySem.Obj.mk (@PySem.Value.type "tuple") Option.none (@PySem.Data.seq (List.toArray []) (0 : Nat)) (List.toArray []))) ::
(nat_lit 766, (@PySem.Obj.mk (@PySem.Value.type "tuple") Option.none (@PySem.Data.seq (List.toArray [(@PySem.Value.str (@PySem.Str.ofString "_law_parts") (1349 : Nat)), (@PySem.Value.str (@PySem.Str.ofString "_law_rows") (1350 : Nat)), (@PySem.Value.str (@PySem.Str.ofString "_law_name") (1351 : Nat)), (@PySem.Value.str (@PySem.Str.ofString "_law_part") (1352 : Nat))]) (0 : Nat)) (List.toArray []))) ::
(nat_lit 767, (@PySem.Obj.mk (@PySem.Value.type "tuple") Option.none (@PySem.Data.seq (List.toArray []) (0 : Nat)) (List.toArray []))) ::
(nat_lit 769, (@PySem.Obj.mk (@PySem.Value.type "code") Option.none (@PySem.Data.fields (List.toArray [(@PySem.Value.str (@PySem.Str.ofString "_law_all_rows") (1346 : Nat)), (@PySem.Value.str (@PySem.Str.ofString "_law_all_rows") (1347 : Nat)), (@PySem.Value.str (@PySem.Str.ofString "/claim/cut.py") (1348 : Nat)), (@PySem.Value.int (486 : Int) (0 : Nat)), (@PySem.Value.int (1 : Int) (0 : Nat)), (@PySem.Value.int (0 : Int) (0 : Nat)), (@PySem.Value.int (0 : Int) (0 : Nat)), (@PySem.Value.int (3 : Int) (0 : Nat)), (@PySem.Value.ref (764 : Nat)), (@PySem.Value.bool Bool.true), (@PySem.Value.int (181 : Int) (0 : Nat)), (@PySem.Value.ref (765 : Nat)), PySem.Value.none, (@PySem.Value.ref (766 : Nat)), (@PySem.Value.ref (767 : Nat)), (@PySem.Value.ref (768 : Nat)), (@PySem.Value.int (1353 : Int) (0 : Nat)), (@PySem.Value.int (486 : Int) (0 : Nat)), (@PySem.Value.str (@PySem.Str.ofString "/claim/cut.py") (1354 : Nat))])) (List.toArray []))) ::
(nat_lit 770, (@PySem.Obj.mk (@PySem.Value.type "function") Option.none (@PySem.Data.func (PySem.FuncData.mk (@PySem.Str.ofString "_law_all_rows") (@PySem.Str.ofString "_law_all_rows") (defArgs s__law_all_rows) (PySem.FuncBody.stmts (defBody s__law_all_rows)) (defScope s__law_all_rows) (3 : Nat) [] PySem.Value.none PySem.Value.none PySem.Value.none (@PySem.Value.str (@PySem.Str.ofString "law_quietprobes_k27_blocks_that_do_not_match") (1344 : Nat)) Option.none (@PySem.Value.ref (769 : Nat)) PySem.Value.none (0 : Nat))) (List.toArray []))) ::
(nat_lit 771, (@PySem.Obj.mk (@PySem.Value.type "tuple") Option.none (@PySem.Data.seq (List.toArray []) (0 : Nat)) (List.toArray []))) ::
(nat_lit 773, (@PySem.Obj.mk (@PySem.Value.type "tuple") Option.none (@PySem.Data.seq (List.toArray [(@PySem.Value.str (@PySem.Str.ofString "_law_pool_here") (1359 : Nat)), (@PySem.Value.str (@PySem.Str.ofString "_law_many") (1360 : Nat)), (@PySem.Value.str (@PySem.Str.ofString "_law_cell") (1361 : Nat)), (@PySem.Value.str (@PySem.Str.ofString "_law_code") (1362 : Nat)), (@PySem.Value.str (@PySem.Str.ofString "_law_digit") (1363 : Nat)), (@PySem.Value.str (@PySem.Str.ofString "_law_far") (1364 : Nat)), (@PySem.Value.str (@PySem.Str.ofString "_law_mixed") (1365 : Nat))]) (0 : Nat)) (List.toArray []))) ::
(nat_lit 774, (@PySem.Obj.mk (@PySem.Value.type "tuple") Option.none (@PySem.Data.seq (List.toArray []) (0 : Nat)) (List.toArray []))) ::
(nat_lit 776, (@PySem.Obj.mk (@PySem.Value.type "code") Option.none (@PySem.Data.fields (List.toArray [(@PySem.Value.str (@PySem.Str.ofString "_law_draw") (1356 : Nat)), (@PySem.Value.str (@PySem.Str.ofString "_law_draw") (1357 : Nat)), (@PySem.Value.str (@PySem.Str.ofString "/claim/cut.py") (1358 : Nat)), (@PySem.Value.int (491 : Int) (0 : Nat)), (@PySem.Value.int (2 : Int) (0 : Nat)), (@PySem.Value.int (0 : Int) (0 : Nat)), (@PySem.Value.int (0 : Int) (0 : Nat)), (@PySem.Value.int (3 : Int) (0 : Nat)), (@PySem.Value.ref (771 : Nat)), (@PySem.Value.bool Bool.true), (@PySem.Value.int (181 : Int) (0 : Nat)), (@PySem.Value.ref (772 : Nat)), PySem.Value.none, (@PySem.Value.ref (773 : Nat)), (@PySem.Value.ref (774 : Nat)), (@PySem.Value.ref (775 : Nat)), (@PySem.Value.int (1366 : Int) (0 : Nat)), (@PySem.Value.int (491 : Int) (0 : Nat)), (@PySem.Value.str (@PySem.Str.ofString "/claim/cut.py") (1367 : Nat))])) (List.toArray []))) ::
(nat_lit 777, (@PySem.Obj.mk (@PySem.Value.type "function") Option.none (@PySem.Data.func (PySem.FuncData.mk (@PySem.Str.ofString "_law_draw") (@PySem.Str.ofString "_law_draw") (defArgs s__law_draw) (PySem.FuncBody.stmts (defBody s__law_draw)) (defScope s__law_draw) (3 : Nat) [] PySem.Value.none PySem.Value.none PySem.Value.none (@PySem.Value.str (@PySem.Str.ofString "law_quietprobes_k27_blocks_that_do_not_match") (1344 : Nat)) Option.none (@PySem.Value.ref (776 : Nat)) PySem.Value.none (0 : Nat))) (List.toArray []))) ::
(nat_lit 778, (@PySem.Obj.mk (@PySem.Value.type "tuple") Option.none (@PySem.Data.seq (List.toArray []) (0 : Nat)) (List.toArray []))) ::
(nat_lit 781, (@PySem.Obj.mk (@PySem.Value.type "code") Option.none (@PySem.Data.fields (List.toArray [(@PySem.Value.str (@PySem.Str.ofString "_law_word") (1369 : Nat)), (@PySem.Value.str (@PySem.Str.ofString "_law_word") (1370 : Nat)), (@PySem.Value.str (@PySem.Str.ofString "/claim/cut.py") (1371 : Nat)), (@PySem.Value.int (509 : Int) (0 : Nat)), (@PySem.Value.int (1 : Int) (0 : Nat)), (@PySem.Value.int (0 : Int) (0 : Nat)), (@PySem.Value.int (0 : Int) (0 : Nat)), (@PySem.Value.int (3 : Int) (0 : Nat)), (@PySem.Value.ref (778 : Nat)), (@PySem.Value.bool Bool.true), (@PySem.Value.int (181 : Int) (0 : Nat)), (@PySem.Value.ref (779 : Nat)), PySem.Value.none, PySem.Value.none, PySem.Value.none, (@PySem.Value.ref (780 : Nat)), (@PySem.Value.int (1372 : Int) (0 : Nat)), (@PySem.Value.int (509 : Int) (0 : Nat)), (@PySem.Value.str (@PySem.Str.ofString "/claim/cut.py") (1373 : Nat))])) (List.toArray []))) ::
(nat_lit 782, (@PySem.Obj.mk (@PySem.Value.type "function") Option.none (@PySem.Data.func (PySem.FuncData.mk (@PySem.Str.ofString "_law_word") (@PySem.Str.ofString "_law_word") (defArgs s__law_word) (PySem.FuncBody.stmts (defBody s__law_word)) (defScope s__law_word) (3 : Nat) [] PySem.Value.none PySem.Value.none PySem.Value.none (@PySem.Value.str (@PySem.Str.ofString "law_quietprobes_k27_blocks_that_do_not_match") (1344 : Nat)) Option.none (@PySem.Value.ref (781 : Nat)) PySem.Value.none (0 : Nat))) (List.toArray []))) ::
(nat_lit 783, (@PySem.Obj.mk (@PySem.Value.type "tuple") Option.none (@PySem.Data.seq (List.toArray []) (0 : Nat)) (List.toArray []))) ::
(nat_lit 785, (@PySem.Obj.mk (@PySem.Value.type "tuple") Option.none (@PySem.Data.seq (List.toArray [(@PySem.Value.str (@PySem.Str.ofString "_law_script") (1378 : Nat))]) (0 : Nat)) (List.toArray []))) ::
(nat_lit 786, (@PySem.Obj.mk (@PySem.Value.type "tuple") Option.none (@PySem.Data.seq (List.toArray []) (0 : Nat)) (List.toArray []))) ::
(nat_lit 788, (@PySem.Obj.mk (@PySem.Value.type "code") Option.none (@PySem.Data.fields (List.toArray [(@PySem.Value.str (@PySem.Str.ofString "_law_pool") (1375 : Nat)), (@PySem.Value.str (@PySem.Str.ofString "_law_pool") (1376 : Nat)), (@PySem.Value.str (@PySem.Str.ofString "/claim/cut.py") (1377 : Nat)), (@PySem.Value.int (512 : Int) (0 : Nat)), (@PySem.Value.int (1 : Int) (0 : Nat)), (@PySem.Value.int (0 : Int) (0 : Nat)), (@PySem.Value.int (0 : Int) (0 : Nat)), (@PySem.Value.int (3 : Int) (0 : Nat)), (@PySem.Value.ref (783 : Nat)), (@PySem.Value.bool Bool.true), (@PySem.Value.int (181 : Int) (0 : Nat)), (@PySem.Value.ref (784 : Nat)), PySem.Value.none, (@PySem.Value.ref (785 : Nat)), (@PySem.Value.ref (786 : Nat)), (@PySem.Value.ref (787 : Nat)), (@PySem.Value.int (1379 : Int) (0 : Nat)), (@PySem.Value.int (512 : Int) (0 : Nat)), (@PySem.Value.str (@PySem.Str.ofString "/claim/cut.py") (1380 : Nat))])) (List.toArray []))) ::
(nat_lit 789, (@PySem.Obj.mk (@PySem.Value.type "function") Option.none (@PySem.Data.func (PySem.FuncData.mk (@PySem.Str.ofString "_law_pool") (@PySem.Str.ofString "_law_pool") (defArgs s__law_pool) (PySem.FuncBody.stmts (defBody s__law_pool)) (defScope s__law_pool) (3 : Nat) [] PySem.Value.none PySem.Value.none PySem.Value.none (@PySem.Value.str (@PySem.Str.ofString "law_quietprobes_k27_blocks_that_do_not_match") (1344 : Nat)) Option.none (@PySem.Value.ref (788 : Nat)) PySem.Value.none (0 : Nat))) (List.toArray []))) ::
(nat_lit 790, (@PySem.Obj.mk (@PySem.Value.type "tuple") Option.none (@PySem.Data.seq (List.toArray []) (0 : Nat)) (List.toArray []))) ::
(nat_lit 793, (@PySem.Obj.mk (@PySem.Value.type "code") Option.none (@PySem.Data.fields (List.toArray [(@PySem.Value.str (@PySem.Str.ofString "_law_names") (1382 : Nat)), (@PySem.Value.str (@PySem.Str.ofString "_law_names") (1383 : Nat)), (@PySem.Value.str (@PySem.Str.ofString "/claim/cut.py") (1384 : Nat)), (@PySem.Value.int (514 : Int) (0 : Nat)), (@PySem.Value.int (2 : Int) (0 : Nat)), (@PySem.Value.int (0 : Int) (0 : Nat)), (@PySem.Value.int (0 : Int) (0 : Nat)), (@PySem.Value.int (3 : Int) (0 : Nat)), (@PySem.Value.ref (790 : Nat)), (@PySem.Value.bool Bool.true), (@PySem.Value.int (181 : Int) (0 : Nat)), (@PySem.Value.ref (791 : Nat)), PySem.Value.none, PySem.Value.none, PySem.Value.none, (@PySem.Value.ref (792 : Nat)), (@PySem.Value.int (1385 : Int) (0 : Nat)), (@PySem.Value.int (514 : Int) (0 : Nat)), (@PySem.Value.str (@PySem.Str.ofString "/claim/cut.py") (1386 : Nat))])) (List.toArray []))) ::
(nat_lit 794, (@PySem.Obj.mk (@PySem.Value.type "function") Option.none (@PySem.Data.func (PySem.FuncData.mk (@PySem.Str.ofString "_law_names") (@PySem.Str.ofString "_law_names") (defArgs s__law_names) (PySem.FuncBody.stmts (defBody s__law_names)) (defScope s__law_names) (3 : Nat) [] PySem.Value.none PySem.Value.none PySem.Value.none (@PySem.Value.str (@PySem.Str.ofString "law_quietprobes_k27_blocks_that_do_not_match") (1344 : Nat)) Option.none (@PySem.Value.ref (793 : Nat)) PySem.Value.none (0 : Nat))) (List.toArray []))) ::
(nat_lit 795, (@PySem.Obj.mk (@PySem.Value.type "tuple") Option.none (@PySem.Data.seq (List.toArray []) (0 : Nat)) (List.toArray []))) ::
(nat_lit 797, (@PySem.Obj.mk (@PySem.Value.type "tuple") Option.none (@PySem.Data.seq (List.toArray [(@PySem.Value.str (@PySem.Str.ofString "_law_actual") (1391 : Nat)), (@PySem.Value.str (@PySem.Str.ofString "_law_due_here") (1392 : Nat)), (@PySem.Value.str (@PySem.Str.ofString "_law_k") (1393 : Nat))]) (0 : Nat)) (List.toArray []))) ::
(nat_lit 798, (@PySem.Obj.mk (@PySem.Value.type "tuple") Option.none (@PySem.Data.seq (List.toArray []) (0 : Nat)) (List.toArray []))) ::
(nat_lit 800, (@PySem.Obj.mk (@PySem.Value.type "code") Option.none (@PySem.Data.fields (List.toArray [(@PySem.Value.str (@PySem.Str.ofString "_law_same") (1388 : Nat)), (@PySem.Value.str (@PySem.Str.ofString "_law_same") (1389 : Nat)), (@PySem.Value.str (@PySem.Str.ofString "/claim/cut.py") (1390 : Nat)), (@PySem.Value.int (523 : Int) (0 : Nat)), (@PySem.Value.int (2 : Int) (0 : Nat)), (@PySem.Value.int (0 : Int) (0 : Nat)), (@PySem.Value.int (0 : Int) (0 : Nat)), (@PySem.Value.int (3 : Int) (0 : Nat)), (@PySem.Value.ref (795 : Nat)), (@PySem.Value.bool Bool.true), (@PySem.Value.int (181 : Int) (0 : Nat)), (@PySem.Value.ref (796 : Nat)), PySem.Value.none, (@PySem.Value.ref (797 : Nat)), (@PySem.Value.ref (798 : Nat)), (@PySem.Value.ref (799 : Nat)), (@PySem.Value.int (1394 : Int) (0 : Nat)), (@PySem.Value.int (523 : Int) (0 : Nat)), (@PySem.Value.str (@PySem.Str.ofString "/claim/cut.py") (1395 : Nat))])) (List.toArray []))) ::
(nat_lit 801, (@PySem.Obj.mk (@PySem.Value.type "function") Option.none (@PySem.Data.func (PySem.FuncData.mk (@PySem.Str.ofString "_law_same") (@PySem.Str.ofString "_law_same") (defArgs s__law_same) (PySem.FuncBody.stmts (defBody s__law_same)) (defScope s__law_same) (3 : Nat) [] PySem.Value.none PySem.Value.none PySem.Value.none (@PySem.Value.str (@PySem.Str.ofString "law_quietprobes_k27_blocks_that_do_not_match") (1344 : Nat)) Option.none (@PySem.Value.ref (800 : Nat)) PySem.Value.none (0 : Nat))) (List.toArray []))) ::
(nat_lit 802, (@PySem.Obj.mk (@PySem.Value.type "tuple") Option.none (@PySem.Data.seq (List.toArray []) (0 : Nat)) (List.toArray []))) ::
(nat_lit 804, (@PySem.Obj.mk (@PySem.Value.type "tuple") Option.none (@PySem.Data.seq (List.toArray [(@PySem.Value.str (@PySem.Str.ofString "_law_parts") (1400 : Nat)), (@PySem.Value.str (@PySem.Str.ofString "e") (1401 : Nat))]) (0 : Nat)) (List.toArray []))) ::
(nat_lit 805, (@PySem.Obj.mk (@PySem.Value.type "tuple") Option.none (@PySem.Data.seq (List.toArray []) (0 : Nat)) (List.toArray []))) ::
(nat_lit 807, (@PySem.Obj.mk (@PySem.Value.type "code") Option.none (@PySem.Data.fields (List.toArray [(@PySem.Value.str (@PySem.Str.ofString "_law_try") (1397 : Nat)), (@PySem.Value.str (@PySem.Str.ofString "_law_try") (1398 : Nat)), (@PySem.Value.str (@PySem.Str.ofString "/claim/cut.py") (1399 : Nat)), (@PySem.Value.int (542 : Int) (0 : Nat)), (@PySem.Value.int (1 : Int) (0 : Nat)), (@PySem.Value.int (0 : Int) (0 : Nat)), (@PySem.Value.int (0 : Int) (0 : Nat)), (@PySem.Value.int (3 : Int) (0 : Nat)), (@PySem.Value.ref (802 : Nat)), (@PySem.Value.bool Bool.true), (@PySem.Value.int (181 : Int) (0 : Nat)), (@PySem.Value.ref (803 : Nat)), PySem.Value.none, (@PySem.Value.ref (804 : Nat)), (@PySem.Value.ref (805 : Nat)), (@PySem.Value.ref (806 : Nat)), (@PySem.Value.int (1402 : Int) (0 : Nat)), (@PySem.Value.int (542 : Int) (0 : Nat)), (@PySem.Value.str (@PySem.Str.ofString "/claim/cut.py") (1403 : Nat))])) (List.toArray []))) ::
(nat_lit 808, (@PySem.Obj.mk (@PySem.Value.type "function") Option.none (@PySem.Data.func (PySem.FuncData.mk (@PySem.Str.ofString "_law_try") (@PySem.Str.ofString "_law_try") (defArgs s__law_try) (PySem.FuncBody.stmts (defBody s__law_try)) (defScope s__law_try) (3 : Nat) [] PySem.Value.none PySem.Value.none PySem.Value.none (@PySem.Value.str (@PySem.Str.ofString "law_quietprobes_k27_blocks_that_do_not_match") (1344 : Nat)) Option.none (@PySem.Value.ref (807 : Nat)) PySem.Value.none (0 : Nat))) (List.toArray []))) ::
(nat_lit 809, (@PySem.Obj.mk (@PySem.Value.type "tuple") Option.none (@PySem.Data.seq (List.toArray []) (0 : Nat)) (List.toArray []))) ::
(nat_lit 811, (@PySem.Obj.mk (@PySem.Value.type "tuple") Option.none (@PySem.Data.seq (List.toArray [(@PySem.Value.str (@PySem.Str.ofString "_law_parts") (1408 : Nat)), (@PySem.Value.str (@PySem.Str.ofString "_law_n") (1409 : Nat)), (@PySem.Value.str (@PySem.Str.ofString "_law_name") (1410 : Nat)), (@PySem.Value.str (@PySem.Str.ofString "_law_rows") (1411 : Nat)), (@PySem.Value.str (@PySem.Str.ofString "_law_blocks") (1412 : Nat)), (@PySem.Value.str (@PySem.Str.ofString "_law_row") (1413 : Nat)), (@PySem.Value.str (@PySem.Str.ofString "_law_word_here") (1414 : Nat))]) (0 : Nat)) (List.toArray []))) ::
(nat_lit 812, (@PySem.Obj.mk (@PySem.Value.type "tuple") Option.none (@PySem.Data.seq (List.toArray []) (0 : Nat)) (List.toArray []))) ::
(nat_lit 814, (@PySem.Obj.mk (@PySem.Value.type "code") Option.none (@PySem.Data.fields (List.toArray [(@PySem.Value.str (@PySem.Str.ofString "_law_due") (1405 : Nat)), (@PySem.Value.str (@PySem.Str.ofString "_law_due") (1406 : Nat)), (@PySem.Value.str (@PySem.Str.ofString "/claim/cut.py") (1407 : Nat)), (@PySem.Value.int (555 : Int) (0 : Nat)), (@PySem.Value.int (1 : Int) (0 : Nat)), (@PySem.Value.int (0 : Int) (0 : Nat)), (@PySem.Value.int (0 : Int) (0 : Nat)), (@PySem.Value.int (3 : Int) (0 : Nat)), (@PySem.Value.ref (809 : Nat)), (@PySem.Value.bool Bool.true), (@PySem.Value.int (181 : Int) (0 : Nat)), (@PySem.Value.ref (810 : Nat)), PySem.Value.none, (@PySem.Value.ref (811 : Nat)), (@PySem.Value.ref (812 : Nat)), (@PySem.Value.ref (813 : Nat)), (@PySem.Value.int (1415 : Int) (0 : Nat)), (@PySem.Value.int (555 : Int) (0 : Nat)), (@PySem.Value.str (@PySem.Str.ofString "/claim/cut.py") (1416 : Nat))])) (List.toArray []))) ::
(nat_lit 815, (@PySem.Obj.mk (@PySem.Value.type "function") Option.none (@PySem.Data.func (PySem.FuncData.mk (@PySem.Str.ofString "_law_due") (@PySem.Str.ofString "_law_due") (defArgs s__law_due) (PySem.FuncBody.stmts (defBody s__law_due)) (defScope s__law_due) (3 : Nat) [] PySem.Value.none PySem.Value.none PySem.Value.none (@PySem.Value.str (@PySem.Str.ofString "law_quietprobes_k27_blocks_that_do_not_match") (1344 : Nat)) Option.none (@PySem.Value.ref (814 : Nat)) PySem.Value.none (0 : Nat))) (List.toArray []))) ::
(nat_lit 816, (@PySem.Obj.mk (@PySem.Value.type "tuple") Option.none (@PySem.Data.seq (List.toArray []) (0 : Nat)) (List.toArray []))) ::
(nat_lit 819, (@PySem.Obj.mk (@PySem.Value.type "code") Option.none (@PySem.Data.fields (List.toArray [(@PySem.Value.str (@PySem.Str.ofString "_law_rows_of") (1418 : Nat)), (@PySem.Value.str (@PySem.Str.ofString "_law_rows_of") (1419 : Nat)), (@PySem.Value.str (@PySem.Str.ofString "/claim/cut.py") (1420 : Nat)), (@PySem.Value.int (577 : Int) (0 : Nat)), (@PySem.Value.int (2 : Int) (0 : Nat)), (@PySem.Value.int (0 : Int) (0 : Nat)), (@PySem.Value.int (0 : Int) (0 : Nat)), (@PySem.Value.int (3 : Int) (0 : Nat)), (@PySem.Value.ref (816 : Nat)), (@PySem.Value.bool Bool.true), (@PySem.Value.int (181 : Int) (0 : Nat)), (@PySem.Value.ref (817 : Nat)), PySem.Value.none, PySem.Value.none, PySem.Value.none, (@PySem.Value.ref (818 : Nat)), (@PySem.Value.int (1421 : Int) (0 : Nat)), (@PySem.Value.int (577 : Int) (0 : Nat)), (@PySem.Value.str (@PySem.Str.ofString "/claim/cut.py") (1422 : Nat))])) (List.toArray []))) ::
(nat_lit 820, (@PySem.Obj.mk (@PySem.Value.type "function") Option.none (@PySem.Data.func (PySem.FuncData.mk (@PySem.Str.ofString "_law_rows_of") (@PySem.Str.ofString "_law_rows_of") (defArgs s__law_rows_of) (PySem.FuncBody.stmts (defBody s__law_rows_of)) (defScope s__law_rows_of) (3 : Nat) [] PySem.Value.none PySem.Value.none PySem.Value.none (@PySem.Value.str (@PySem.Str.ofString "law_quietprobes_k27_blocks_that_do_not_match") (1344 : Nat)) Option.none (@PySem.Value.ref (819 : Nat)) PySem.Value.none (0 : Nat))) (List.toArray []))) ::
(nat_lit 821, (@PySem.Obj.mk (@PySem.Value.type "tuple") Option.none (@PySem.Data.seq (List.toArray []) (0 : Nat)) (List.toArray []))) ::
(nat_lit 824, (@PySem.Obj.mk (@PySem.Value.type "code") Option.none (@PySem.Data.fields (List.toArray [(@PySem.Value.str (@PySem.Str.ofString "law") (1424 : Nat)), (@PySem.Value.str (@PySem.Str.ofString "law") (1425 : Nat)), (@PySem.Value.str (@PySem.Str.ofString "/claim/cut.py") (1426 : Nat)), (@PySem.Value.int (593 : Int) (0 : Nat)), (@PySem.Value.int (1 : Int) (0 : Nat)), (@PySem.Value.int (0 : Int) (0 : Nat)), (@PySem.Value.int (0 : Int) (0 : Nat)), (@PySem.Value.int (3 : Int) (0 : Nat)), (@PySem.Value.ref (821 : Nat)), (@PySem.Value.bool Bool.true), (@PySem.Value.int (181 : Int) (0 : Nat)), (@PySem.Value.ref (822 : Nat)), PySem.Value.none, PySem.Value.none, PySem.Value.none, (@PySem.Value.ref (823 : Nat)), (@PySem.Value.int (1427 : Int) (0 : Nat)), (@PySem.Value.int (593 : Int) (0 : Nat)), (@PySem.Value.str (@PySem.Str.ofString "/claim/cut.py") (1428 : Nat))])) (List.toArray []))) ::
(nat_lit 825, (@PySem.Obj.mk (@PySem.Value.type "function") Option.none (@PySem.Data.func (PySem.FuncData.mk (@PySem.Str.ofString "law") (@PySem.Str.ofString "law") (defArgs s_law) (PySem.FuncBody.stmts (defBody s_law)) (defScope s_law) (3 : Nat) [] PySem.Value.none PySem.Value.none PySem.Value.none (@PySem.Value.str (@PySem.Str.ofString "law_quietprobes_k27_blocks_that_do_not_match") (1344 : Nat)) Option.none (@PySem.Value.ref (824 : Nat)) PySem.Value.none (0 : Nat))) (List.toArray []))) :: []
def KA : List Nat := nat_lit 2 :: nat_lit 3 :: nat_lit 15 :: nat_lit 17 :: nat_lit 18 :: nat_lit 20 :: nat_lit 21 :: nat_lit 22 :: nat_lit 29 :: nat_lit 30 :: nat_lit 31 :: nat_lit 32 :: nat_lit 35 :: nat_lit 38 :: nat_lit 43 :: nat_lit 44 :: nat_lit 46 :: nat_lit 47 :: nat_lit 49 :: nat_lit 50 :: nat_lit 51 :: nat_lit 52 :: nat_lit 53 :: nat_lit 56 :: nat_lit 59 :: nat_lit 64 :: nat_lit 65 :: nat_lit 67 :: nat_lit 68 :: nat_lit 70 :: nat_lit 71 :: nat_lit 72 :: nat_lit 73 :: nat_lit 74 :: nat_lit 77 :: nat_lit 80 :: nat_lit 85 :: nat_lit 86 :: nat_lit 88 :: nat_lit 89 :: nat_lit 91 :: nat_lit 92 :: nat_lit 93 :: nat_lit 94 :: nat_lit 95 :: nat_lit 98 :: nat_lit 101 :: nat_lit 106 :: nat_lit 107 :: nat_lit 109 :: nat_lit 110 :: nat_lit 112 :: nat_lit 113 :: nat_lit 114 :: nat_lit 115 :: nat_lit 116 :: nat_lit 119 :: nat_lit 122 :: nat_lit 127 :: nat_lit 128 :: nat_lit 130 :: nat_lit 131 :: nat_lit 133 :: nat_lit 134 :: nat_lit 135 :: nat_lit 136 :: nat_lit 137 :: nat_lit 140 :: nat_lit 143 :: nat_lit 148 :: nat_lit 149 :: nat_lit 151 :: nat_lit 152 :: nat_lit 154 :: nat_lit 155 :: nat_lit 156 :: nat_lit 157 :: nat_lit 158 :: nat_lit 161 :: nat_lit 164 :: nat_lit 169 :: nat_lit 170 :: nat_lit 172 :: nat_lit 173 :: nat_lit 175 :: nat_lit 176 :: nat_lit 177 :: nat_lit 178 :: nat_lit 179 :: nat_lit 182 :: nat_lit 185 :: nat_lit 190 :: nat_lit 191 :: nat_lit 193 :: nat_lit 194 :: nat_lit 196 :: nat_lit 197 :: nat_lit 198 :: nat_lit 199 :: nat_lit 200 :: nat_lit 203 :: nat_lit 206 :: nat_lit 211 :: nat_lit 212 :: nat_lit 214 :: nat_lit 215 :: nat_lit 217 :: nat_lit 218 :: nat_lit 219 :: nat_lit 220 :: nat_lit 221 :: nat_lit 224 :: nat_lit 227 :: nat_lit 232 :: nat_lit 233 :: nat_lit 235 :: nat_lit 236 :: nat_lit 238 :: nat_lit 239 :: nat_lit 240 :: nat_lit 241 :: nat_lit 242 :: nat_lit 245 :: nat_lit 248 :: nat_lit 253 :: nat_lit 254 :: nat_lit 256 :: nat_lit 257 :: nat_lit 259 :: nat_lit 260 :: nat_lit 261 :: nat_lit 262 :: nat_lit 263 :: nat_lit 266 :: nat_lit 269 :: nat_lit 274 :: nat_lit 275 :: nat_lit 277 :: nat_lit 278 :: nat_lit 280 :: nat_lit 281 :: nat_lit 282 :: nat_lit 283 :: nat_lit 284 :: nat_lit 287 :: nat_lit 290 :: nat_lit 291 :: nat_lit 292 :: nat_lit 294 :: nat_lit 295 :: nat_lit 297 :: nat_lit 298 :: nat_lit 299 :: nat_lit 301 :: nat_lit 302 :: nat_lit 304 :: nat_lit 305 :: nat_lit 313 :: nat_lit 314 :: nat_lit 315 :: nat_lit 316 :: nat_lit 318 :: nat_lit 319 :: nat_lit 321 :: nat_lit 322 :: nat_lit 323 :: nat_lit 325 :: nat_lit 326 :: nat_lit 328 :: nat_lit 329 :: nat_lit 330 :: nat_lit 332 :: nat_lit 333 :: nat_lit 335 :: nat_lit 336 :: nat_lit 337 :: nat_lit 339 :: nat_lit 340 :: nat_lit 342 :: nat_lit 343 :: nat_lit 344 :: nat_lit 345 :: nat_lit 346 :: nat_lit 347 :: nat_lit 349 :: nat_lit 350 :: nat_lit 352 :: nat_lit 353 :: nat_lit 354 :: nat_lit 355 :: nat_lit 356 :: nat_lit 357 :: nat_lit 359 :: nat_lit 360 :: nat_lit 362 :: nat_lit 363 :: nat_lit 364 :: nat_lit 365 :: nat_lit 366 :: nat_lit 367 :: nat_lit 369 :: nat_lit 370 :: nat_lit 372 :: nat_lit 373 :: nat_lit 374 :: nat_lit 375 :: nat_lit 376 :: nat_lit 377 :: nat_lit 379 :: nat_lit 380 :: nat_lit 382 :: nat_lit 383 :: nat_lit 384 :: nat_lit 385 :: nat_lit 386 :: nat_lit 387 :: nat_lit 389 :: nat_lit 390 :: nat_lit 392 :: nat_lit 393 :: nat_lit 394 :: nat_lit 395 :: nat_lit 396 :: nat_lit 397 :: nat_lit 399 :: nat_lit 400 :: nat_lit 402 :: nat_lit 403 :: nat_lit 404 :: nat_lit 405 :: nat_lit 406 :: nat_lit 407 :: nat_lit 408 :: nat_lit 409 :: nat_lit 410 :: nat_lit 411 :: nat_lit 414 :: nat_lit 417 :: nat_lit 418 :: nat_lit 419 :: nat_lit 422 :: nat_lit 423 :: nat_lit 424 :: nat_lit 425 :: nat_lit 426 :: nat_lit 427 :: nat_lit 428 :: nat_lit 429 :: nat_lit 430 :: nat_lit 431 :: nat_lit 432 :: nat_lit 433 :: nat_lit 434 :: nat_lit 435 :: nat_lit 436 :: nat_lit 437 :: nat_lit 438 :: nat_lit 439 :: nat_lit 440 :: nat_lit 441 :: nat_lit 442 :: nat_lit 444 :: nat_lit 445 :: nat_lit 446 :: nat_lit 447 :: nat_lit 448 :: nat_lit 449 :: nat_lit 450 :: nat_lit 451 :: nat_lit 452 :: nat_lit 453 :: nat_lit 454 :: nat_lit 455 :: nat_lit 456 :: nat_lit 457 :: nat_lit 458 :: nat_lit 459 :: nat_lit 460 :: nat_lit 461 :: nat_lit 462 :: nat_lit 463 :: nat_lit 464 :: nat_lit 465 :: nat_lit 466 :: nat_lit 467 :: nat_lit 469 :: nat_lit 470 :: nat_lit 472 :: nat_lit 473 :: nat_lit 474 :: nat_lit 476 :: nat_lit 477 :: nat_lit 479 :: nat_lit 480 :: nat_lit 481 :: nat_lit 483 :: nat_lit 484 :: nat_lit 486 :: nat_lit 487 :: nat_lit 488 :: nat_lit 490 :: nat_lit 491 :: nat_lit 493 :: nat_lit 494 :: nat_lit 495 :: nat_lit 497 :: nat_lit 498 :: nat_lit 500 :: nat_lit 501 :: nat_lit 502 :: nat_lit 505 :: nat_lit 506 :: nat_lit 507 :: nat_lit 510 :: nat_lit 511 :: nat_lit 512 :: nat_lit 514 :: nat_lit 515 :: nat_lit 517 :: nat_lit 518 :: nat_lit 519 :: nat_lit 520 :: nat_lit 521 :: nat_lit 523 :: nat_lit 524 :: nat_lit 526 :: nat_lit 527 :: nat_lit 528 :: nat_lit 531 :: nat_lit 532 :: nat_lit 533 :: nat_lit 535 :: nat_lit 536 :: nat_lit 538 :: nat_lit 539 :: nat_lit 540 :: nat_lit 543 :: nat_lit 544 :: nat_lit 545 :: nat_lit 547 :: nat_lit 548 :: nat_lit 550 :: nat_lit 551 :: nat_lit 552 :: nat_lit 555 :: nat_lit 556 :: nat_lit 557 :: nat_lit 559 :: nat_lit 560 :: nat_lit 562 :: nat_lit 563 :: nat_lit 564 :: nat_lit 566 :: nat_lit 567 :: nat_lit 569 :: nat_lit 570 :: nat_lit 571 :: nat_lit 573 :: nat_lit 574 :: nat_lit 576 :: nat_lit 577 :: nat_lit 578 :: nat_lit 580 :: nat_lit 581 :: nat_lit 583 :: nat_lit 584 :: nat_lit 585 :: nat_lit 587 :: nat_lit 588 :: nat_lit 590 :: nat_lit 591 :: nat_lit 592 :: nat_lit 594 :: nat_lit 595 :: nat_lit 597 :: nat_lit 598 :: nat_lit 599 :: nat_lit 602 :: nat_lit 603 :: nat_lit 604 :: nat_lit 607 :: nat_lit 608 :: nat_lit 609 :: nat_lit 612 :: nat_lit 613 :: nat_lit 614 :: nat_lit 616 :: nat_lit 617 :: nat_lit 619 :: nat_lit 620 :: nat_lit 628 :: nat_lit 631 :: nat_lit 632 :: nat_lit 633 :: nat_lit 635 :: nat_lit 636 :: nat_lit 638 :: nat_lit 639 :: nat_lit 640 :: nat_lit 642 :: nat_lit 643 :: nat_lit 645 :: nat_lit 646 :: nat_lit 647 :: nat_lit 649 :: nat_lit 650 :: nat_lit 652 :: nat_lit 653 :: nat_lit 654 :: nat_lit 656 :: nat_lit 657 :: nat_lit 659 :: nat_lit 660 :: nat_lit 661 :: nat_lit 663 :: nat_lit 664 :: nat_lit 666 :: nat_lit 667 :: nat_lit 668 :: nat_lit 671 :: nat_lit 672 :: nat_lit 673 :: nat_lit 676 :: nat_lit 677 :: nat_lit 678 :: nat_lit 680 :: nat_lit 681 :: nat_lit 683 :: nat_lit 684 :: nat_lit 685 :: nat_lit 687 :: nat_lit 688 :: nat_lit 690 :: nat_lit 691 :: nat_lit 692 :: nat_lit 695 :: nat_lit 696 :: nat_lit 697 :: nat_lit 699 :: nat_lit 700 :: nat_lit 702 :: nat_lit 703 :: nat_lit 704 :: nat_lit 706 :: nat_lit 707 :: nat_lit 709 :: nat_lit 710 :: nat_lit 711 :: nat_lit 713 :: nat_lit 714 :: nat_lit 716 :: nat_lit 717 :: nat_lit 718 :: nat_lit 720 :: nat_lit 721 :: nat_lit 723 :: nat_lit 724 :: nat_lit 725 :: nat_lit 727 :: nat_lit 728 :: nat_lit 730 :: nat_lit 731 :: nat_lit 732 :: nat_lit 734 :: nat_lit 735 :: nat_lit 737 :: nat_lit 738 :: nat_lit 739 :: nat_lit 740 :: nat_lit 742 :: nat_lit 743 :: nat_lit 745 :: nat_lit 746 :: nat_lit 747 :: nat_lit 749 :: nat_lit 750 :: nat_lit 752 :: nat_lit 753 :: nat_lit 754 :: nat_lit 755 :: nat_lit 756 :: nat_lit 757 :: nat_lit 758 :: nat_lit 759 :: nat_lit 760 :: nat_lit 761 :: nat_lit 764 :: nat_lit 766 :: nat_lit 767 :: nat_lit 769 :: nat_lit 770 :: nat_lit 771 :: nat_lit 773 :: nat_lit 774 :: nat_lit 776 :: nat_lit 777 :: nat_lit 778 :: nat_lit 781 :: nat_lit 782 :: nat_lit 783 :: nat_lit 785 :: nat_lit 786 :: nat_lit 788 :: nat_lit 789 :: nat_lit 790 :: nat_lit 793 :: nat_lit 794 :: nat_lit 795 :: nat_lit 797 :: nat_lit 798 :: nat_lit 800 :: nat_lit 801 :: nat_lit 802 :: nat_lit 804 :: nat_lit 805 :: nat_lit 807 :: nat_lit 808 :: nat_lit 809 :: nat_lit 811 :: nat_lit 812 :: nat_lit 814 :: nat_lit 815 :: nat_lit 816 :: nat_lit 819 :: nat_lit 820 :: nat_lit 821 :: nat_lit 824 :: nat_lit 825 :: []
abbrev RR : PySem.W.OpenRow := PySem.W.OpenLaw.row PySem.Challenge.rw_quietprobes_k27_blocks_that_do_not_match
abbrev qv : Program := PySem.W.view RR.prog [77]
abbrev loo : List PySem.Str := "_wall" :: "QuietError" :: "BadName" :: "BadRow" :: "BadPlace" :: "BadText" :: "NoThing" :: "NoKey" :: "NoPart" :: "NoRow" :: "NoProbe" :: "Twice" :: "Unmatched" :: "TooMany" :: "LETTERS" :: "MOST_LETTERS" :: "MOST_KEYS" :: "MOST_THINGS" :: "is_name" :: "need_names" :: "need_unlike" :: "Thing" :: "need_things" :: "read_thing" :: "MOST_ITEMS" :: "FREE" :: "DEEDS" :: "LOOKS" :: "UNSAID" :: "PLAIN" :: "look_codes" :: "row_codes" :: "branch_codes" :: "is_integer" :: "head" :: "suits" :: "fits" :: "need_known" :: "GATES" :: "ASSERTED" :: "MOST_LOOKS" :: "is_look" :: "is_looks" :: "is_watcher" :: "is_row" :: "is_probe" :: "named" :: "looks_text" :: "row_text" :: "read_looks" :: "read_watcher" :: "read_row" :: "MOST_PARTS" :: "MOST_ROWS" :: "MOST_BLOCKS" :: "need_row" :: "opened_behind" :: "need_parts" :: "jumps_of" :: "read_part" :: "Program" :: "_law_all_rows" :: "_law_draw" :: "_law_word" :: "_law_pool" :: "_law_names" :: "_law_same" :: "_law_try" :: "_law_due" :: "_law_rows_of" :: []
theorem KA_eq (P : PySem.Params) : KA = (KF P).map (·.1) := by kernel_rfl
abbrev hk : PySem.W.Hook := PySem.W.kHook KF KA KA_eq
def obK (s : PySem.W.SharedT) : hk.α := KA.map (HandSHeadRun.getT s)
theorem obK_eq (s : PySem.W.SharedT) : obK s = hk.obs s.abs := by
  show KA.map (HandSHeadRun.getT s) = KA.map s.abs.heap.get?
  exact congrArg KA.map (funext fun a => HandSHeadRun.getT_eq s a)
set_option maxHeartbeats 0 in
theorem run_false (w : World) : HandSHeadRun.RunEq RR qv hk obK 15850 loo (w.withFollow "special-get-raises" false) := by
  intro os
  kernel_rfl
set_option maxHeartbeats 0 in
theorem run_true (w : World) : HandSHeadRun.RunEq RR qv hk obK 15850 loo (w.withFollow "special-get-raises" true) := by
  intro os
  kernel_rfl
theorem run_all (w : World) : HandSHeadRun.RunEq RR qv hk obK 15850 loo w := PySem.W.byRow2 "special-get-raises" (P := fun w => HandSHeadRun.RunEq RR qv hk obK 15850 loo w) run_false run_true w
set_option maxHeartbeats 0 in
theorem all_mk {l : PySem.W.OpenLaw} {w : World} {K : PySem.W.Frag} {h : Heap} {mg : Str → Option Value} {fa : Addr} (X : K.In h) (G : h.Ns mainGlobals mg) (hfa : mg "law" = some (.ref fa))
    {f0 : Addr} {oc0 kV0 dc0 pm0 cd0 ct0 : Value} {od0 an0 : Option Addr} {sl0 : Array (Option Value)}
    {f1 : Addr} {oc1 kV1 dc1 pm1 cd1 ct1 : Value} {od1 an1 : Option Addr} {sl1 : Array (Option Value)}
    {f2 : Addr} {oc2 kV2 dc2 pm2 cd2 ct2 : Value} {od2 an2 : Option Addr} {sl2 : Array (Option Value)}
    {f3 : Addr} {oc3 kV3 dc3 pm3 cd3 ct3 : Value} {od3 an3 : Option Addr} {sl3 : Array (Option Value)}
    {f4 : Addr} {oc4 kV4 dc4 pm4 cd4 ct4 : Value} {od4 an4 : Option Addr} {sl4 : Array (Option Value)}
    {f5 : Addr} {oc5 kV5 dc5 pm5 cd5 ct5 : Value} {od5 an5 : Option Addr} {sl5 : Array (Option Value)}
    {f6 : Addr} {oc6 kV6 dc6 pm6 cd6 ct6 : Value} {od6 an6 : Option Addr} {sl6 : Array (Option Value)}
    {f7 : Addr} {oc7 kV7 dc7 pm7 cd7 ct7 : Value} {od7 an7 : Option Addr} {sl7 : Array (Option Value)}
    {f8 : Addr} {oc8 kV8 dc8 pm8 cd8 ct8 : Value} {od8 an8 : Option Addr} {sl8 : Array (Option Value)}
    {f9 : Addr} {oc9 kV9 dc9 pm9 cd9 ct9 : Value} {od9 an9 : Option Addr} {sl9 : Array (Option Value)}
    {f10 : Addr} {oc10 kV10 dc10 pm10 cd10 ct10 : Value} {od10 an10 : Option Addr} {sl10 : Array (Option Value)}
    {f11 : Addr} {oc11 kV11 dc11 pm11 cd11 ct11 : Value} {od11 an11 : Option Addr} {sl11 : Array (Option Value)}
    {f12 : Addr} {oc12 kV12 dc12 pm12 cd12 ct12 : Value} {od12 an12 : Option Addr} {sl12 : Array (Option Value)}
    {f13 : Addr} {oc13 kV13 dc13 pm13 cd13 ct13 : Value} {od13 an13 : Option Addr} {sl13 : Array (Option Value)}
    {f14 : Addr} {oc14 kV14 dc14 pm14 cd14 ct14 : Value} {od14 an14 : Option Addr} {sl14 : Array (Option Value)}
    {f15 : Addr} {oc15 kV15 dc15 pm15 cd15 ct15 : Value} {od15 an15 : Option Addr} {sl15 : Array (Option Value)}
    {f16 : Addr} {oc16 kV16 dc16 pm16 cd16 ct16 : Value} {od16 an16 : Option Addr} {sl16 : Array (Option Value)}
    {f17 : Addr} {oc17 kV17 dc17 pm17 cd17 ct17 : Value} {od17 an17 : Option Addr} {sl17 : Array (Option Value)}
    {f18 : Addr} {oc18 kV18 dc18 pm18 cd18 ct18 : Value} {od18 an18 : Option Addr} {sl18 : Array (Option Value)}
    {f19 : Addr} {oc19 kV19 dc19 pm19 cd19 ct19 : Value} {od19 an19 : Option Addr} {sl19 : Array (Option Value)}
    {f20 : Addr} {oc20 kV20 dc20 pm20 cd20 ct20 : Value} {od20 an20 : Option Addr} {sl20 : Array (Option Value)}
    {f21 : Addr} {oc21 kV21 dc21 pm21 cd21 ct21 : Value} {od21 an21 : Option Addr} {sl21 : Array (Option Value)}
    {f22 : Addr} {oc22 kV22 dc22 pm22 cd22 ct22 : Value} {od22 an22 : Option Addr} {sl22 : Array (Option Value)}
    {f23 : Addr} {oc23 kV23 dc23 pm23 cd23 ct23 : Value} {od23 an23 : Option Addr} {sl23 : Array (Option Value)}
    {f24 : Addr} {oc24 kV24 dc24 pm24 cd24 ct24 : Value} {od24 an24 : Option Addr} {sl24 : Array (Option Value)}
    {f25 : Addr} {oc25 kV25 dc25 pm25 cd25 ct25 : Value} {od25 an25 : Option Addr} {sl25 : Array (Option Value)}
    {f26 : Addr} {oc26 kV26 dc26 pm26 cd26 ct26 : Value} {od26 an26 : Option Addr} {sl26 : Array (Option Value)}
    {f27 : Addr} {oc27 kV27 dc27 pm27 cd27 ct27 : Value} {od27 an27 : Option Addr} {sl27 : Array (Option Value)}
    {f28 : Addr} {oc28 kV28 dc28 pm28 cd28 ct28 : Value} {od28 an28 : Option Addr} {sl28 : Array (Option Value)}
    {f29 : Addr} {oc29 kV29 dc29 pm29 cd29 ct29 : Value} {od29 an29 : Option Addr} {sl29 : Array (Option Value)}
    {f30 : Addr} {oc30 kV30 dc30 pm30 cd30 ct30 : Value} {od30 an30 : Option Addr} {sl30 : Array (Option Value)}
    {f31 : Addr} {oc31 kV31 dc31 pm31 cd31 ct31 : Value} {od31 an31 : Option Addr} {sl31 : Array (Option Value)}
    {f32 : Addr} {oc32 kV32 dc32 pm32 cd32 ct32 : Value} {od32 an32 : Option Addr} {sl32 : Array (Option Value)}
    {f33 : Addr} {oc33 kV33 dc33 pm33 cd33 ct33 : Value} {od33 an33 : Option Addr} {sl33 : Array (Option Value)}
    {f34 : Addr} {oc34 kV34 dc34 pm34 cd34 ct34 : Value} {od34 an34 : Option Addr} {sl34 : Array (Option Value)}
    {f35 : Addr} {oc35 kV35 dc35 pm35 cd35 ct35 : Value} {od35 an35 : Option Addr} {sl35 : Array (Option Value)}
    {f36 : Addr} {oc36 kV36 dc36 pm36 cd36 ct36 : Value} {od36 an36 : Option Addr} {sl36 : Array (Option Value)}
    {f37 : Addr} {oc37 kV37 dc37 pm37 cd37 ct37 : Value} {od37 an37 : Option Addr} {sl37 : Array (Option Value)}
    {f38 : Addr} {oc38 kV38 dc38 pm38 cd38 ct38 : Value} {od38 an38 : Option Addr} {sl38 : Array (Option Value)}
    {f39 : Addr} {oc39 kV39 dc39 pm39 cd39 ct39 : Value} {od39 an39 : Option Addr} {sl39 : Array (Option Value)}
    {st_LETTERS : Tok}
    {it_MOST_LETTERS : Tok}
    {it_MOST_ITEMS : Tok}
    {it_MOST_LOOKS : Tok}
    {it_MOST_THINGS : Tok}
    {it_MOST_PARTS : Tok}
    {it_MOST_ROWS : Tok}
    {it_MOST_BLOCKS : Tok}
    {tp_FREE : Addr} {to_FREE : Option Addr} {ti_FREE : Array Value} {tn_FREE : Nat} {tsl_FREE : Array (Option Value)}
    {tp_LOOKS : Addr} {to_LOOKS : Option Addr} {ti_LOOKS : Array Value} {tn_LOOKS : Nat} {tsl_LOOKS : Array (Option Value)}
    {tp_UNSAID : Addr} {to_UNSAID : Option Addr} {ti_UNSAID : Array Value} {tn_UNSAID : Nat} {tsl_UNSAID : Array (Option Value)}
    {tp_GATES : Addr} {to_GATES : Option Addr} {ti_GATES : Array Value} {tn_GATES : Nat} {tsl_GATES : Array (Option Value)}
    {tp_ASSERTED : Addr} {to_ASSERTED : Option Addr} {ti_ASSERTED : Array Value} {tn_ASSERTED : Nat} {tsl_ASSERTED : Array (Option Value)}
    {dk_DEEDS : Addr} {es_DEEDS : Array DictEntry} {en_DEEDS : Nat}
    {dk_PLAIN : Addr} {es_PLAIN : Array DictEntry} {en_PLAIN : Nat}
    {C_BadName fI_BadName cc_BadName cda_BadName N_BadName : Addr} {kV_BadName dc_BadName pm_BadName ct_BadName oc_BadName ccl_BadName cl_BadName : Value} {an_BadName od_BadName cdd_BadName cld_BadName : Option Addr} {osl_BadName ccs_BadName csl_BadName : Array (Option Value)} {vs_BadName : Array Value} {file_BadName : Str} {tf_BadName : Tok} {nm_BadName q_BadName : Str} {bs_BadName bm_BadName : List Value} {sn_BadName : List Str} {sub_BadName : List Value} {ab_BadName : Bool} {col_BadName : Option Bool} {dd_BadName : Option Addr} {k0_BadName k1_BadName k2_BadName k3_BadName k5_BadName : Option Value}
    {C_BadRow fI_BadRow cc_BadRow cda_BadRow N_BadRow : Addr} {kV_BadRow dc_BadRow pm_BadRow ct_BadRow oc_BadRow ccl_BadRow cl_BadRow : Value} {an_BadRow od_BadRow cdd_BadRow cld_BadRow : Option Addr} {osl_BadRow ccs_BadRow csl_BadRow : Array (Option Value)} {vs_BadRow : Array Value} {file_BadRow : Str} {tf_BadRow : Tok} {nm_BadRow q_BadRow : Str} {bs_BadRow bm_BadRow : List Value} {sn_BadRow : List Str} {sub_BadRow : List Value} {ab_BadRow : Bool} {col_BadRow : Option Bool} {dd_BadRow : Option Addr} {k0_BadRow k1_BadRow k2_BadRow k3_BadRow k5_BadRow : Option Value}
    {C_NoThing fI_NoThing cc_NoThing cda_NoThing N_NoThing : Addr} {kV_NoThing dc_NoThing pm_NoThing ct_NoThing oc_NoThing ccl_NoThing cl_NoThing : Value} {an_NoThing od_NoThing cdd_NoThing cld_NoThing : Option Addr} {osl_NoThing ccs_NoThing csl_NoThing : Array (Option Value)} {vs_NoThing : Array Value} {file_NoThing : Str} {tf_NoThing : Tok} {nm_NoThing q_NoThing : Str} {bs_NoThing bm_NoThing : List Value} {sn_NoThing : List Str} {sub_NoThing : List Value} {ab_NoThing : Bool} {col_NoThing : Option Bool} {dd_NoThing : Option Addr} {k0_NoThing k1_NoThing k2_NoThing k3_NoThing k5_NoThing : Option Value}
    {C_NoKey fI_NoKey cc_NoKey cda_NoKey N_NoKey : Addr} {kV_NoKey dc_NoKey pm_NoKey ct_NoKey oc_NoKey ccl_NoKey cl_NoKey : Value} {an_NoKey od_NoKey cdd_NoKey cld_NoKey : Option Addr} {osl_NoKey ccs_NoKey csl_NoKey : Array (Option Value)} {vs_NoKey : Array Value} {file_NoKey : Str} {tf_NoKey : Tok} {nm_NoKey q_NoKey : Str} {bs_NoKey bm_NoKey : List Value} {sn_NoKey : List Str} {sub_NoKey : List Value} {ab_NoKey : Bool} {col_NoKey : Option Bool} {dd_NoKey : Option Addr} {k0_NoKey k1_NoKey k2_NoKey k3_NoKey k5_NoKey : Option Value}
    {C_NoPart fI_NoPart cc_NoPart cda_NoPart N_NoPart : Addr} {kV_NoPart dc_NoPart pm_NoPart ct_NoPart oc_NoPart ccl_NoPart cl_NoPart : Value} {an_NoPart od_NoPart cdd_NoPart cld_NoPart : Option Addr} {osl_NoPart ccs_NoPart csl_NoPart : Array (Option Value)} {vs_NoPart : Array Value} {file_NoPart : Str} {tf_NoPart : Tok} {nm_NoPart q_NoPart : Str} {bs_NoPart bm_NoPart : List Value} {sn_NoPart : List Str} {sub_NoPart : List Value} {ab_NoPart : Bool} {col_NoPart : Option Bool} {dd_NoPart : Option Addr} {k0_NoPart k1_NoPart k2_NoPart k3_NoPart k5_NoPart : Option Value}
    {C_Twice fI_Twice cc_Twice cda_Twice N_Twice : Addr} {kV_Twice dc_Twice pm_Twice ct_Twice oc_Twice ccl_Twice cl_Twice : Value} {an_Twice od_Twice cdd_Twice cld_Twice : Option Addr} {osl_Twice ccs_Twice csl_Twice : Array (Option Value)} {vs_Twice : Array Value} {file_Twice : Str} {tf_Twice : Tok} {nm_Twice q_Twice : Str} {bs_Twice bm_Twice : List Value} {sn_Twice : List Str} {sub_Twice : List Value} {ab_Twice : Bool} {col_Twice : Option Bool} {dd_Twice : Option Addr} {k0_Twice k1_Twice k2_Twice k3_Twice k5_Twice : Option Value}
    {C_Unmatched fI_Unmatched cc_Unmatched cda_Unmatched N_Unmatched : Addr} {kV_Unmatched dc_Unmatched pm_Unmatched ct_Unmatched oc_Unmatched ccl_Unmatched cl_Unmatched : Value} {an_Unmatched od_Unmatched cdd_Unmatched cld_Unmatched : Option Addr} {osl_Unmatched ccs_Unmatched csl_Unmatched : Array (Option Value)} {vs_Unmatched : Array Value} {file_Unmatched : Str} {tf_Unmatched : Tok} {nm_Unmatched q_Unmatched : Str} {bs_Unmatched bm_Unmatched : List Value} {sn_Unmatched : List Str} {sub_Unmatched : List Value} {ab_Unmatched : Bool} {col_Unmatched : Option Bool} {dd_Unmatched : Option Addr} {k0_Unmatched k1_Unmatched k2_Unmatched k3_Unmatched k5_Unmatched : Option Value}
    {C_TooMany fI_TooMany cc_TooMany cda_TooMany N_TooMany : Addr} {kV_TooMany dc_TooMany pm_TooMany ct_TooMany oc_TooMany ccl_TooMany cl_TooMany : Value} {an_TooMany od_TooMany cdd_TooMany cld_TooMany : Option Addr} {osl_TooMany ccs_TooMany csl_TooMany : Array (Option Value)} {vs_TooMany : Array Value} {file_TooMany : Str} {tf_TooMany : Tok} {nm_TooMany q_TooMany : Str} {bs_TooMany bm_TooMany : List Value} {sn_TooMany : List Str} {sub_TooMany : List Value} {ab_TooMany : Bool} {col_TooMany : Option Bool} {dd_TooMany : Option Addr} {k0_TooMany k1_TooMany k2_TooMany k3_TooMany k5_TooMany : Option Value}
    {C_Thing : Addr}
    {C_Program : Addr}
    {if_Program : Addr} {ioc_Program ikV_Program idc_Program ipm_Program icd_Program ict_Program : Value} {iod_Program ian_Program : Option Addr} {isl_Program : Array (Option Value)}
    {C_QuietError : Addr}
    (a0 : PySem.W.nsIn K mainGlobals "_wall" = some (some (.ref f0))) (l0 : K.lookup f0 = some ⟨oc0, od0, .func (PySem.W.fnOf "_wall" "_wall" (defArgs s__wall) (defBody s__wall) (defScope s__wall) .none kV0 dc0 pm0 an0 cd0 ct0), sl0⟩) (c0 : PySem.W.codeIn K cd0 "_wall" = true) (k0 : PySem.W.keepIn K (.ref f0) = true)
    (a1 : PySem.W.nsIn K mainGlobals "is_name" = some (some (.ref f1))) (l1 : K.lookup f1 = some ⟨oc1, od1, .func (PySem.W.fnOf "is_name" "is_name" (defArgs s_is_name) (defBody s_is_name) (defScope s_is_name) .none kV1 dc1 pm1 an1 cd1 ct1), sl1⟩) (c1 : PySem.W.codeIn K cd1 "is_name" = true) (k1 : PySem.W.keepIn K (.ref f1) = true)
    (a2 : PySem.W.nsIn K mainGlobals "need_names" = some (some (.ref f2))) (l2 : K.lookup f2 = some ⟨oc2, od2, .func (PySem.W.fnOf "need_names" "need_names" (defArgs s_need_names) (defBody s_need_names) (defScope s_need_names) .none kV2 dc2 pm2 an2 cd2 ct2), sl2⟩) (c2 : PySem.W.codeIn K cd2 "need_names" = true) (k2 : PySem.W.keepIn K (.ref f2) = true)
    (a3 : PySem.W.nsIn K mainGlobals "need_unlike" = some (some (.ref f3))) (l3 : K.lookup f3 = some ⟨oc3, od3, .func (PySem.W.fnOf "need_unlike" "need_unlike" (defArgs s_need_unlike) (defBody s_need_unlike) (defScope s_need_unlike) .none kV3 dc3 pm3 an3 cd3 ct3), sl3⟩) (c3 : PySem.W.codeIn K cd3 "need_unlike" = true) (k3 : PySem.W.keepIn K (.ref f3) = true)
    (a4 : PySem.W.nsIn K mainGlobals "need_things" = some (some (.ref f4))) (l4 : K.lookup f4 = some ⟨oc4, od4, .func (PySem.W.fnOf "need_things" "need_things" (defArgs s_need_things) (defBody s_need_things) (defScope s_need_things) .none kV4 dc4 pm4 an4 cd4 ct4), sl4⟩) (c4 : PySem.W.codeIn K cd4 "need_things" = true) (k4 : PySem.W.keepIn K (.ref f4) = true)
    (a5 : PySem.W.nsIn K mainGlobals "read_thing" = some (some (.ref f5))) (l5 : K.lookup f5 = some ⟨oc5, od5, .func (PySem.W.fnOf "read_thing" "read_thing" (defArgs s_read_thing) (defBody s_read_thing) (defScope s_read_thing) .none kV5 dc5 pm5 an5 cd5 ct5), sl5⟩) (c5 : PySem.W.codeIn K cd5 "read_thing" = true) (k5 : PySem.W.keepIn K (.ref f5) = true)
    (a6 : PySem.W.nsIn K mainGlobals "look_codes" = some (some (.ref f6))) (l6 : K.lookup f6 = some ⟨oc6, od6, .func (PySem.W.fnOf "look_codes" "look_codes" (defArgs s_look_codes) (defBody s_look_codes) (defScope s_look_codes) .none kV6 dc6 pm6 an6 cd6 ct6), sl6⟩) (c6 : PySem.W.codeIn K cd6 "look_codes" = true) (k6 : PySem.W.keepIn K (.ref f6) = true)
    (a7 : PySem.W.nsIn K mainGlobals "row_codes" = some (some (.ref f7))) (l7 : K.lookup f7 = some ⟨oc7, od7, .func (PySem.W.fnOf "row_codes" "row_codes" (defArgs s_row_codes) (defBody s_row_codes) (defScope s_row_codes) .none kV7 dc7 pm7 an7 cd7 ct7), sl7⟩) (c7 : PySem.W.codeIn K cd7 "row_codes" = true) (k7 : PySem.W.keepIn K (.ref f7) = true)
    (a8 : PySem.W.nsIn K mainGlobals "branch_codes" = some (some (.ref f8))) (l8 : K.lookup f8 = some ⟨oc8, od8, .func (PySem.W.fnOf "branch_codes" "branch_codes" (defArgs s_branch_codes) (defBody s_branch_codes) (defScope s_branch_codes) .none kV8 dc8 pm8 an8 cd8 ct8), sl8⟩) (c8 : PySem.W.codeIn K cd8 "branch_codes" = true) (k8 : PySem.W.keepIn K (.ref f8) = true)
    (a9 : PySem.W.nsIn K mainGlobals "is_integer" = some (some (.ref f9))) (l9 : K.lookup f9 = some ⟨oc9, od9, .func (PySem.W.fnOf "is_integer" "is_integer" (defArgs s_is_integer) (defBody s_is_integer) (defScope s_is_integer) .none kV9 dc9 pm9 an9 cd9 ct9), sl9⟩) (c9 : PySem.W.codeIn K cd9 "is_integer" = true) (k9 : PySem.W.keepIn K (.ref f9) = true)
    (a10 : PySem.W.nsIn K mainGlobals "head" = some (some (.ref f10))) (l10 : K.lookup f10 = some ⟨oc10, od10, .func (PySem.W.fnOf "head" "head" (defArgs s_head) (defBody s_head) (defScope s_head) .none kV10 dc10 pm10 an10 cd10 ct10), sl10⟩) (c10 : PySem.W.codeIn K cd10 "head" = true) (k10 : PySem.W.keepIn K (.ref f10) = true)
    (a11 : PySem.W.nsIn K mainGlobals "suits" = some (some (.ref f11))) (l11 : K.lookup f11 = some ⟨oc11, od11, .func (PySem.W.fnOf "suits" "suits" (defArgs s_suits) (defBody s_suits) (defScope s_suits) .none kV11 dc11 pm11 an11 cd11 ct11), sl11⟩) (c11 : PySem.W.codeIn K cd11 "suits" = true) (k11 : PySem.W.keepIn K (.ref f11) = true)
    (a12 : PySem.W.nsIn K mainGlobals "fits" = some (some (.ref f12))) (l12 : K.lookup f12 = some ⟨oc12, od12, .func (PySem.W.fnOf "fits" "fits" (defArgs s_fits) (defBody s_fits) (defScope s_fits) .none kV12 dc12 pm12 an12 cd12 ct12), sl12⟩) (c12 : PySem.W.codeIn K cd12 "fits" = true) (k12 : PySem.W.keepIn K (.ref f12) = true)
    (a13 : PySem.W.nsIn K mainGlobals "need_known" = some (some (.ref f13))) (l13 : K.lookup f13 = some ⟨oc13, od13, .func (PySem.W.fnOf "need_known" "need_known" (defArgs s_need_known) (defBody s_need_known) (defScope s_need_known) .none kV13 dc13 pm13 an13 cd13 ct13), sl13⟩) (c13 : PySem.W.codeIn K cd13 "need_known" = true) (k13 : PySem.W.keepIn K (.ref f13) = true)
    (a14 : PySem.W.nsIn K mainGlobals "is_look" = some (some (.ref f14))) (l14 : K.lookup f14 = some ⟨oc14, od14, .func (PySem.W.fnOf "is_look" "is_look" (defArgs s_is_look) (defBody s_is_look) (defScope s_is_look) .none kV14 dc14 pm14 an14 cd14 ct14), sl14⟩) (c14 : PySem.W.codeIn K cd14 "is_look" = true) (k14 : PySem.W.keepIn K (.ref f14) = true)
    (a15 : PySem.W.nsIn K mainGlobals "is_looks" = some (some (.ref f15))) (l15 : K.lookup f15 = some ⟨oc15, od15, .func (PySem.W.fnOf "is_looks" "is_looks" (defArgs s_is_looks) (defBody s_is_looks) (defScope s_is_looks) .none kV15 dc15 pm15 an15 cd15 ct15), sl15⟩) (c15 : PySem.W.codeIn K cd15 "is_looks" = true) (k15 : PySem.W.keepIn K (.ref f15) = true)
    (a16 : PySem.W.nsIn K mainGlobals "is_watcher" = some (some (.ref f16))) (l16 : K.lookup f16 = some ⟨oc16, od16, .func (PySem.W.fnOf "is_watcher" "is_watcher" (defArgs s_is_watcher) (defBody s_is_watcher) (defScope s_is_watcher) .none kV16 dc16 pm16 an16 cd16 ct16), sl16⟩) (c16 : PySem.W.codeIn K cd16 "is_watcher" = true) (k16 : PySem.W.keepIn K (.ref f16) = true)
    (a17 : PySem.W.nsIn K mainGlobals "is_row" = some (some (.ref f17))) (l17 : K.lookup f17 = some ⟨oc17, od17, .func (PySem.W.fnOf "is_row" "is_row" (defArgs s_is_row) (defBody s_is_row) (defScope s_is_row) .none kV17 dc17 pm17 an17 cd17 ct17), sl17⟩) (c17 : PySem.W.codeIn K cd17 "is_row" = true) (k17 : PySem.W.keepIn K (.ref f17) = true)
    (a18 : PySem.W.nsIn K mainGlobals "is_probe" = some (some (.ref f18))) (l18 : K.lookup f18 = some ⟨oc18, od18, .func (PySem.W.fnOf "is_probe" "is_probe" (defArgs s_is_probe) (defBody s_is_probe) (defScope s_is_probe) .none kV18 dc18 pm18 an18 cd18 ct18), sl18⟩) (c18 : PySem.W.codeIn K cd18 "is_probe" = true) (k18 : PySem.W.keepIn K (.ref f18) = true)
    (a19 : PySem.W.nsIn K mainGlobals "named" = some (some (.ref f19))) (l19 : K.lookup f19 = some ⟨oc19, od19, .func (PySem.W.fnOf "named" "named" (defArgs s_named) (defBody s_named) (defScope s_named) .none kV19 dc19 pm19 an19 cd19 ct19), sl19⟩) (c19 : PySem.W.codeIn K cd19 "named" = true) (k19 : PySem.W.keepIn K (.ref f19) = true)
    (a20 : PySem.W.nsIn K mainGlobals "looks_text" = some (some (.ref f20))) (l20 : K.lookup f20 = some ⟨oc20, od20, .func (PySem.W.fnOf "looks_text" "looks_text" (defArgs s_looks_text) (defBody s_looks_text) (defScope s_looks_text) .none kV20 dc20 pm20 an20 cd20 ct20), sl20⟩) (c20 : PySem.W.codeIn K cd20 "looks_text" = true) (k20 : PySem.W.keepIn K (.ref f20) = true)
    (a21 : PySem.W.nsIn K mainGlobals "row_text" = some (some (.ref f21))) (l21 : K.lookup f21 = some ⟨oc21, od21, .func (PySem.W.fnOf "row_text" "row_text" (defArgs s_row_text) (defBody s_row_text) (defScope s_row_text) .none kV21 dc21 pm21 an21 cd21 ct21), sl21⟩) (c21 : PySem.W.codeIn K cd21 "row_text" = true) (k21 : PySem.W.keepIn K (.ref f21) = true)
    (a22 : PySem.W.nsIn K mainGlobals "read_looks" = some (some (.ref f22))) (l22 : K.lookup f22 = some ⟨oc22, od22, .func (PySem.W.fnOf "read_looks" "read_looks" (defArgs s_read_looks) (defBody s_read_looks) (defScope s_read_looks) .none kV22 dc22 pm22 an22 cd22 ct22), sl22⟩) (c22 : PySem.W.codeIn K cd22 "read_looks" = true) (k22 : PySem.W.keepIn K (.ref f22) = true)
    (a23 : PySem.W.nsIn K mainGlobals "read_watcher" = some (some (.ref f23))) (l23 : K.lookup f23 = some ⟨oc23, od23, .func (PySem.W.fnOf "read_watcher" "read_watcher" (defArgs s_read_watcher) (defBody s_read_watcher) (defScope s_read_watcher) .none kV23 dc23 pm23 an23 cd23 ct23), sl23⟩) (c23 : PySem.W.codeIn K cd23 "read_watcher" = true) (k23 : PySem.W.keepIn K (.ref f23) = true)
    (a24 : PySem.W.nsIn K mainGlobals "read_row" = some (some (.ref f24))) (l24 : K.lookup f24 = some ⟨oc24, od24, .func (PySem.W.fnOf "read_row" "read_row" (defArgs s_read_row) (defBody s_read_row) (defScope s_read_row) .none kV24 dc24 pm24 an24 cd24 ct24), sl24⟩) (c24 : PySem.W.codeIn K cd24 "read_row" = true) (k24 : PySem.W.keepIn K (.ref f24) = true)
    (a25 : PySem.W.nsIn K mainGlobals "need_row" = some (some (.ref f25))) (l25 : K.lookup f25 = some ⟨oc25, od25, .func (PySem.W.fnOf "need_row" "need_row" (defArgs s_need_row) (defBody s_need_row) (defScope s_need_row) .none kV25 dc25 pm25 an25 cd25 ct25), sl25⟩) (c25 : PySem.W.codeIn K cd25 "need_row" = true) (k25 : PySem.W.keepIn K (.ref f25) = true)
    (a26 : PySem.W.nsIn K mainGlobals "opened_behind" = some (some (.ref f26))) (l26 : K.lookup f26 = some ⟨oc26, od26, .func (PySem.W.fnOf "opened_behind" "opened_behind" (defArgs s_opened_behind) (defBody s_opened_behind) (defScope s_opened_behind) .none kV26 dc26 pm26 an26 cd26 ct26), sl26⟩) (c26 : PySem.W.codeIn K cd26 "opened_behind" = true) (k26 : PySem.W.keepIn K (.ref f26) = true)
    (a27 : PySem.W.nsIn K mainGlobals "need_parts" = some (some (.ref f27))) (l27 : K.lookup f27 = some ⟨oc27, od27, .func (PySem.W.fnOf "need_parts" "need_parts" (defArgs s_need_parts) (defBody s_need_parts) (defScope s_need_parts) .none kV27 dc27 pm27 an27 cd27 ct27), sl27⟩) (c27 : PySem.W.codeIn K cd27 "need_parts" = true) (k27 : PySem.W.keepIn K (.ref f27) = true)
    (a28 : PySem.W.nsIn K mainGlobals "jumps_of" = some (some (.ref f28))) (l28 : K.lookup f28 = some ⟨oc28, od28, .func (PySem.W.fnOf "jumps_of" "jumps_of" (defArgs s_jumps_of) (defBody s_jumps_of) (defScope s_jumps_of) .none kV28 dc28 pm28 an28 cd28 ct28), sl28⟩) (c28 : PySem.W.codeIn K cd28 "jumps_of" = true) (k28 : PySem.W.keepIn K (.ref f28) = true)
    (a29 : PySem.W.nsIn K mainGlobals "read_part" = some (some (.ref f29))) (l29 : K.lookup f29 = some ⟨oc29, od29, .func (PySem.W.fnOf "read_part" "read_part" (defArgs s_read_part) (defBody s_read_part) (defScope s_read_part) .none kV29 dc29 pm29 an29 cd29 ct29), sl29⟩) (c29 : PySem.W.codeIn K cd29 "read_part" = true) (k29 : PySem.W.keepIn K (.ref f29) = true)
    (a30 : PySem.W.nsIn K mainGlobals "_law_all_rows" = some (some (.ref f30))) (l30 : K.lookup f30 = some ⟨oc30, od30, .func (PySem.W.fnOf "_law_all_rows" "_law_all_rows" (defArgs s__law_all_rows) (defBody s__law_all_rows) (defScope s__law_all_rows) .none kV30 dc30 pm30 an30 cd30 ct30), sl30⟩) (c30 : PySem.W.codeIn K cd30 "_law_all_rows" = true) (k30 : PySem.W.keepIn K (.ref f30) = true)
    (a31 : PySem.W.nsIn K mainGlobals "_law_draw" = some (some (.ref f31))) (l31 : K.lookup f31 = some ⟨oc31, od31, .func (PySem.W.fnOf "_law_draw" "_law_draw" (defArgs s__law_draw) (defBody s__law_draw) (defScope s__law_draw) .none kV31 dc31 pm31 an31 cd31 ct31), sl31⟩) (c31 : PySem.W.codeIn K cd31 "_law_draw" = true) (k31 : PySem.W.keepIn K (.ref f31) = true)
    (a32 : PySem.W.nsIn K mainGlobals "_law_word" = some (some (.ref f32))) (l32 : K.lookup f32 = some ⟨oc32, od32, .func (PySem.W.fnOf "_law_word" "_law_word" (defArgs s__law_word) (defBody s__law_word) (defScope s__law_word) .none kV32 dc32 pm32 an32 cd32 ct32), sl32⟩) (c32 : PySem.W.codeIn K cd32 "_law_word" = true) (k32 : PySem.W.keepIn K (.ref f32) = true)
    (a33 : PySem.W.nsIn K mainGlobals "_law_pool" = some (some (.ref f33))) (l33 : K.lookup f33 = some ⟨oc33, od33, .func (PySem.W.fnOf "_law_pool" "_law_pool" (defArgs s__law_pool) (defBody s__law_pool) (defScope s__law_pool) .none kV33 dc33 pm33 an33 cd33 ct33), sl33⟩) (c33 : PySem.W.codeIn K cd33 "_law_pool" = true) (k33 : PySem.W.keepIn K (.ref f33) = true)
    (a34 : PySem.W.nsIn K mainGlobals "_law_names" = some (some (.ref f34))) (l34 : K.lookup f34 = some ⟨oc34, od34, .func (PySem.W.fnOf "_law_names" "_law_names" (defArgs s__law_names) (defBody s__law_names) (defScope s__law_names) .none kV34 dc34 pm34 an34 cd34 ct34), sl34⟩) (c34 : PySem.W.codeIn K cd34 "_law_names" = true) (k34 : PySem.W.keepIn K (.ref f34) = true)
    (a35 : PySem.W.nsIn K mainGlobals "_law_same" = some (some (.ref f35))) (l35 : K.lookup f35 = some ⟨oc35, od35, .func (PySem.W.fnOf "_law_same" "_law_same" (defArgs s__law_same) (defBody s__law_same) (defScope s__law_same) .none kV35 dc35 pm35 an35 cd35 ct35), sl35⟩) (c35 : PySem.W.codeIn K cd35 "_law_same" = true) (k35 : PySem.W.keepIn K (.ref f35) = true)
    (a36 : PySem.W.nsIn K mainGlobals "_law_try" = some (some (.ref f36))) (l36 : K.lookup f36 = some ⟨oc36, od36, .func (PySem.W.fnOf "_law_try" "_law_try" (defArgs s__law_try) (defBody s__law_try) (defScope s__law_try) .none kV36 dc36 pm36 an36 cd36 ct36), sl36⟩) (c36 : PySem.W.codeIn K cd36 "_law_try" = true) (k36 : PySem.W.keepIn K (.ref f36) = true)
    (a37 : PySem.W.nsIn K mainGlobals "_law_due" = some (some (.ref f37))) (l37 : K.lookup f37 = some ⟨oc37, od37, .func (PySem.W.fnOf "_law_due" "_law_due" (defArgs s__law_due) (defBody s__law_due) (defScope s__law_due) .none kV37 dc37 pm37 an37 cd37 ct37), sl37⟩) (c37 : PySem.W.codeIn K cd37 "_law_due" = true) (k37 : PySem.W.keepIn K (.ref f37) = true)
    (a38 : PySem.W.nsIn K mainGlobals "_law_rows_of" = some (some (.ref f38))) (l38 : K.lookup f38 = some ⟨oc38, od38, .func (PySem.W.fnOf "_law_rows_of" "_law_rows_of" (defArgs s__law_rows_of) (defBody s__law_rows_of) (defScope s__law_rows_of) .none kV38 dc38 pm38 an38 cd38 ct38), sl38⟩) (c38 : PySem.W.codeIn K cd38 "_law_rows_of" = true) (k38 : PySem.W.keepIn K (.ref f38) = true)
    (a39 : PySem.W.nsIn K mainGlobals "law" = some (some (.ref f39))) (l39 : K.lookup f39 = some ⟨oc39, od39, .func (PySem.W.fnOf "law" "law" (defArgs s_law) (defBody s_law) (defScope s_law) .none kV39 dc39 pm39 an39 cd39 ct39), sl39⟩) (c39 : PySem.W.codeIn K cd39 "law" = true) (k39 : PySem.W.keepIn K (.ref f39) = true)
    (z_len : PySem.W.nsIn K mainGlobals "len" = some none)
    (z_int : PySem.W.nsIn K mainGlobals "int" = some none)
    (z_list : PySem.W.nsIn K mainGlobals "list" = some none)
    (z_tuple : PySem.W.nsIn K mainGlobals "tuple" = some none)
    (z_isi : PySem.W.nsIn K mainGlobals "isinstance" = some none)
    (z_range : PySem.W.nsIn K mainGlobals "range" = some none)
    (z_all : PySem.W.nsIn K mainGlobals "all" = some none)
    (z_any : PySem.W.nsIn K mainGlobals "any" = some none)
    (z_str : PySem.W.nsIn K mainGlobals "str" = some none)
    (z_bool : PySem.W.nsIn K mainGlobals "bool" = some none)
    (z_enum : PySem.W.nsIn K mainGlobals "enumerate" = some none)
    (z_zip : PySem.W.nsIn K mainGlobals "zip" = some none)
    (z_sum : PySem.W.nsIn K mainGlobals "sum" = some none)
    (z_max : PySem.W.nsIn K mainGlobals "max" = some none)
    (z_min : PySem.W.nsIn K mainGlobals "min" = some none)
    (z_sorted : PySem.W.nsIn K mainGlobals "sorted" = some none)
    (z_set : PySem.W.nsIn K mainGlobals "set" = some none)
    (z_dict : PySem.W.nsIn K mainGlobals "dict" = some none)
    (sa_LETTERS : PySem.W.nsIn K mainGlobals "LETTERS" = some (some (.str abc st_LETTERS)))
    (ia_MOST_LETTERS : PySem.W.nsIn K mainGlobals "MOST_LETTERS" = some (some (.int 8 it_MOST_LETTERS)))
    (ia_MOST_ITEMS : PySem.W.nsIn K mainGlobals "MOST_ITEMS" = some (some (.int 1000000000000000000000000000000 it_MOST_ITEMS)))
    (ia_MOST_LOOKS : PySem.W.nsIn K mainGlobals "MOST_LOOKS" = some (some (.int 6 it_MOST_LOOKS)))
    (ia_MOST_THINGS : PySem.W.nsIn K mainGlobals "MOST_THINGS" = some (some (.int 8 it_MOST_THINGS)))
    (ia_MOST_PARTS : PySem.W.nsIn K mainGlobals "MOST_PARTS" = some (some (.int 5 it_MOST_PARTS)))
    (ia_MOST_ROWS : PySem.W.nsIn K mainGlobals "MOST_ROWS" = some (some (.int 60 it_MOST_ROWS)))
    (ia_MOST_BLOCKS : PySem.W.nsIn K mainGlobals "MOST_BLOCKS" = some (some (.int 8 it_MOST_BLOCKS)))
    (pa_FREE : PySem.W.nsIn K mainGlobals "FREE" = some (some (.ref tp_FREE))) (pl_FREE : K.lookup tp_FREE = some ⟨.type "tuple", to_FREE, .seq ti_FREE tn_FREE, tsl_FREE⟩) (pv_FREE : strVs ti_FREE.toList = some freeT)
    (pa_LOOKS : PySem.W.nsIn K mainGlobals "LOOKS" = some (some (.ref tp_LOOKS))) (pl_LOOKS : K.lookup tp_LOOKS = some ⟨.type "tuple", to_LOOKS, .seq ti_LOOKS tn_LOOKS, tsl_LOOKS⟩) (pv_LOOKS : strVs ti_LOOKS.toList = some looksT)
    (pa_UNSAID : PySem.W.nsIn K mainGlobals "UNSAID" = some (some (.ref tp_UNSAID))) (pl_UNSAID : K.lookup tp_UNSAID = some ⟨.type "tuple", to_UNSAID, .seq ti_UNSAID tn_UNSAID, tsl_UNSAID⟩) (pv_UNSAID : strVs ti_UNSAID.toList = some unsaidT)
    (pa_GATES : PySem.W.nsIn K mainGlobals "GATES" = some (some (.ref tp_GATES))) (pl_GATES : K.lookup tp_GATES = some ⟨.type "tuple", to_GATES, .seq ti_GATES tn_GATES, tsl_GATES⟩) (pv_GATES : strVs ti_GATES.toList = some gatesT)
    (pa_ASSERTED : PySem.W.nsIn K mainGlobals "ASSERTED" = some (some (.ref tp_ASSERTED))) (pl_ASSERTED : K.lookup tp_ASSERTED = some ⟨.type "tuple", to_ASSERTED, .seq ti_ASSERTED tn_ASSERTED, tsl_ASSERTED⟩) (pv_ASSERTED : strVs ti_ASSERTED.toList = some assertedT)
    (ta_DEEDS : PySem.W.nsIn K mainGlobals "DEEDS" = some (some (.ref dk_DEEDS))) (tl_DEEDS : K.lookup dk_DEEDS = some ⟨.type "dict", none, .dict es_DEEDS en_DEEDS, #[]⟩) (tw_DEEDS : (dk_DEEDS == sysModules) = false) (tk_DEEDS : KdL K w.params es_DEEDS.toList (dT deedsT))
    (ta_PLAIN : PySem.W.nsIn K mainGlobals "PLAIN" = some (some (.ref dk_PLAIN))) (tl_PLAIN : K.lookup dk_PLAIN = some ⟨.type "dict", none, .dict es_PLAIN en_PLAIN, #[]⟩) (tw_PLAIN : (dk_PLAIN == sysModules) = false) (tk_PLAIN : KdL K w.params es_PLAIN.toList (dT plainT))
    (oq : PySem.W.nsIn K cStatics "thirdparty.any" = some none) (z_super : PySem.W.nsIn K mainGlobals "super" = some none) (gtc : PySem.W.specialIn K (.builtin "object.__class__") "__get__" = some (some (.builtin "getset_descriptor.__get__"))) (tkc : PySem.W.takesIn K (.builtin "object.__class__") = some true) (tsup : (l.prog.main.scope.names.lookup ("super" : Str)).isSome = false)
    (ecg_BadName : PySem.W.nsIn K mainGlobals "BadName" = some (some (.ref C_BadName)))
    (exL_BadName : K.lookup C_BadName = some (excClassObj nm_BadName q_BadName C_BadName N_BadName bs_BadName bm_BadName true sn_BadName sub_BadName ab_BadName col_BadName dd_BadName k0_BadName k1_BadName k2_BadName k3_BadName k5_BadName "ValueError.__new__"))
    (esa_BadName : PySem.W.findIn K (.ref C_BadName) "__setattr__" = some (some (.builtin "object.__setattr__")))
    (eex_BadName : PySem.W.subIn K (.ref C_BadName) (.type "BaseException") = some true)
    (ety_BadName : PySem.W.typeIn K (.ref C_BadName) = some (.type "type"))
    (ekC_BadName : PySem.W.keepIn K (.ref C_BadName) = true)
    (ei1_BadName : PySem.W.findIn K (.ref C_BadName) "__init__" = some (some (.ref fI_BadName)))
    (ei2_BadName : PySem.W.typeIn K (.ref fI_BadName) = some (.type "function"))
    (emr_BadName : PySem.W.mroIn K C_BadName (.ref C_BadName) = some true)
    (esv_BadName : PySem.W.subIn K (.ref C_BadName) (.type "ValueError") = some true)
    (esu_BadName : PySem.W.ks_superIn K C_BadName C_BadName "__init__" = some (some (.builtin "ValueError.__init__")))
    (elk_BadName : K.lookup fI_BadName = some ⟨oc_BadName, od_BadName, .func (PySem.W.ksFn "__init__" "BadName.__init__" (defArgs s_BadName___init__) (defBody s_BadName___init__) (defScope s_BadName___init__) .none kV_BadName dc_BadName pm_BadName an_BadName (.ref cda_BadName) ct_BadName cc_BadName), osl_BadName⟩)
    (ehc_BadName : PySem.W.codeIn K (.ref cda_BadName) "BadName.__init__" = true)
    (eno_BadName : PySem.W.findIn K (.ref C_BadName) "name" = some none)
    (eco_BadName : K.lookup cda_BadName = some ⟨ccl_BadName, cdd_BadName, .fields vs_BadName, ccs_BadName⟩)
    (ece_BadName : K.lookup cc_BadName = some ⟨cl_BadName, cld_BadName, .cell (some (.ref C_BadName)), csl_BadName⟩)
    (ega_BadName : PySem.W.findIn K (.ref C_BadName) "__getattribute__" = some (some (.builtin "BaseException.__getattribute__")))
    (egg_BadName : PySem.W.findIn K (.ref C_BadName) "__getattr__" = some none)
    (ehd_BadName : PySem.W.hasDictIn K C_BadName = true)
    (ese_BadName : PySem.W.subIn K (.ref C_BadName) (.ref C_BadName) = some true)
    (ebm_BadName : PySem.HandSPX.refsVE bm_BadName = true)
    (evs_BadName : vs_BadName[2]? = some (.str file_BadName tf_BadName))
    (efl_BadName : ((l.prog.main.file : Str) == file_BadName) = true)
    (ecg_BadRow : PySem.W.nsIn K mainGlobals "BadRow" = some (some (.ref C_BadRow)))
    (exL_BadRow : K.lookup C_BadRow = some (excClassObj nm_BadRow q_BadRow C_BadRow N_BadRow bs_BadRow bm_BadRow true sn_BadRow sub_BadRow ab_BadRow col_BadRow dd_BadRow k0_BadRow k1_BadRow k2_BadRow k3_BadRow k5_BadRow "ValueError.__new__"))
    (esa_BadRow : PySem.W.findIn K (.ref C_BadRow) "__setattr__" = some (some (.builtin "object.__setattr__")))
    (eex_BadRow : PySem.W.subIn K (.ref C_BadRow) (.type "BaseException") = some true)
    (ety_BadRow : PySem.W.typeIn K (.ref C_BadRow) = some (.type "type"))
    (ekC_BadRow : PySem.W.keepIn K (.ref C_BadRow) = true)
    (ei1_BadRow : PySem.W.findIn K (.ref C_BadRow) "__init__" = some (some (.ref fI_BadRow)))
    (ei2_BadRow : PySem.W.typeIn K (.ref fI_BadRow) = some (.type "function"))
    (emr_BadRow : PySem.W.mroIn K C_BadRow (.ref C_BadRow) = some true)
    (esv_BadRow : PySem.W.subIn K (.ref C_BadRow) (.type "ValueError") = some true)
    (esu_BadRow : PySem.W.ks_superIn K C_BadRow C_BadRow "__init__" = some (some (.builtin "ValueError.__init__")))
    (elk_BadRow : K.lookup fI_BadRow = some ⟨oc_BadRow, od_BadRow, .func (PySem.W.ksFn "__init__" "BadRow.__init__" (defArgs s_BadRow___init__) (defBody s_BadRow___init__) (defScope s_BadRow___init__) .none kV_BadRow dc_BadRow pm_BadRow an_BadRow (.ref cda_BadRow) ct_BadRow cc_BadRow), osl_BadRow⟩)
    (ehc_BadRow : PySem.W.codeIn K (.ref cda_BadRow) "BadRow.__init__" = true)
    (eno_BadRow : PySem.W.findIn K (.ref C_BadRow) "number" = some none)
    (eco_BadRow : K.lookup cda_BadRow = some ⟨ccl_BadRow, cdd_BadRow, .fields vs_BadRow, ccs_BadRow⟩)
    (ece_BadRow : K.lookup cc_BadRow = some ⟨cl_BadRow, cld_BadRow, .cell (some (.ref C_BadRow)), csl_BadRow⟩)
    (ega_BadRow : PySem.W.findIn K (.ref C_BadRow) "__getattribute__" = some (some (.builtin "BaseException.__getattribute__")))
    (egg_BadRow : PySem.W.findIn K (.ref C_BadRow) "__getattr__" = some none)
    (ehd_BadRow : PySem.W.hasDictIn K C_BadRow = true)
    (ese_BadRow : PySem.W.subIn K (.ref C_BadRow) (.ref C_BadRow) = some true)
    (ebm_BadRow : PySem.HandSPX.refsVE bm_BadRow = true)
    (evs_BadRow : vs_BadRow[2]? = some (.str file_BadRow tf_BadRow))
    (efl_BadRow : ((l.prog.main.file : Str) == file_BadRow) = true)
    (ecg_NoThing : PySem.W.nsIn K mainGlobals "NoThing" = some (some (.ref C_NoThing)))
    (exL_NoThing : K.lookup C_NoThing = some (excClassObj nm_NoThing q_NoThing C_NoThing N_NoThing bs_NoThing bm_NoThing true sn_NoThing sub_NoThing ab_NoThing col_NoThing dd_NoThing k0_NoThing k1_NoThing k2_NoThing k3_NoThing k5_NoThing "ValueError.__new__"))
    (esa_NoThing : PySem.W.findIn K (.ref C_NoThing) "__setattr__" = some (some (.builtin "object.__setattr__")))
    (eex_NoThing : PySem.W.subIn K (.ref C_NoThing) (.type "BaseException") = some true)
    (ety_NoThing : PySem.W.typeIn K (.ref C_NoThing) = some (.type "type"))
    (ekC_NoThing : PySem.W.keepIn K (.ref C_NoThing) = true)
    (ei1_NoThing : PySem.W.findIn K (.ref C_NoThing) "__init__" = some (some (.ref fI_NoThing)))
    (ei2_NoThing : PySem.W.typeIn K (.ref fI_NoThing) = some (.type "function"))
    (emr_NoThing : PySem.W.mroIn K C_NoThing (.ref C_NoThing) = some true)
    (esv_NoThing : PySem.W.subIn K (.ref C_NoThing) (.type "ValueError") = some true)
    (esu_NoThing : PySem.W.ks_superIn K C_NoThing C_NoThing "__init__" = some (some (.builtin "ValueError.__init__")))
    (elk_NoThing : K.lookup fI_NoThing = some ⟨oc_NoThing, od_NoThing, .func (PySem.W.ksFn "__init__" "NoThing.__init__" (defArgs s_NoThing___init__) (defBody s_NoThing___init__) (defScope s_NoThing___init__) .none kV_NoThing dc_NoThing pm_NoThing an_NoThing (.ref cda_NoThing) ct_NoThing cc_NoThing), osl_NoThing⟩)
    (ehc_NoThing : PySem.W.codeIn K (.ref cda_NoThing) "NoThing.__init__" = true)
    (eno_NoThing : PySem.W.findIn K (.ref C_NoThing) "name" = some none)
    (eco_NoThing : K.lookup cda_NoThing = some ⟨ccl_NoThing, cdd_NoThing, .fields vs_NoThing, ccs_NoThing⟩)
    (ece_NoThing : K.lookup cc_NoThing = some ⟨cl_NoThing, cld_NoThing, .cell (some (.ref C_NoThing)), csl_NoThing⟩)
    (ega_NoThing : PySem.W.findIn K (.ref C_NoThing) "__getattribute__" = some (some (.builtin "BaseException.__getattribute__")))
    (egg_NoThing : PySem.W.findIn K (.ref C_NoThing) "__getattr__" = some none)
    (ehd_NoThing : PySem.W.hasDictIn K C_NoThing = true)
    (ese_NoThing : PySem.W.subIn K (.ref C_NoThing) (.ref C_NoThing) = some true)
    (ebm_NoThing : PySem.HandSPX.refsVE bm_NoThing = true)
    (evs_NoThing : vs_NoThing[2]? = some (.str file_NoThing tf_NoThing))
    (efl_NoThing : ((l.prog.main.file : Str) == file_NoThing) = true)
    (ecg_NoKey : PySem.W.nsIn K mainGlobals "NoKey" = some (some (.ref C_NoKey)))
    (exL_NoKey : K.lookup C_NoKey = some (excClassObj nm_NoKey q_NoKey C_NoKey N_NoKey bs_NoKey bm_NoKey true sn_NoKey sub_NoKey ab_NoKey col_NoKey dd_NoKey k0_NoKey k1_NoKey k2_NoKey k3_NoKey k5_NoKey "ValueError.__new__"))
    (esa_NoKey : PySem.W.findIn K (.ref C_NoKey) "__setattr__" = some (some (.builtin "object.__setattr__")))
    (eex_NoKey : PySem.W.subIn K (.ref C_NoKey) (.type "BaseException") = some true)
    (ety_NoKey : PySem.W.typeIn K (.ref C_NoKey) = some (.type "type"))
    (ekC_NoKey : PySem.W.keepIn K (.ref C_NoKey) = true)
    (ei1_NoKey : PySem.W.findIn K (.ref C_NoKey) "__init__" = some (some (.ref fI_NoKey)))
    (ei2_NoKey : PySem.W.typeIn K (.ref fI_NoKey) = some (.type "function"))
    (emr_NoKey : PySem.W.mroIn K C_NoKey (.ref C_NoKey) = some true)
    (esv_NoKey : PySem.W.subIn K (.ref C_NoKey) (.type "ValueError") = some true)
    (esu_NoKey : PySem.W.ks_superIn K C_NoKey C_NoKey "__init__" = some (some (.builtin "ValueError.__init__")))
    (elk_NoKey : K.lookup fI_NoKey = some ⟨oc_NoKey, od_NoKey, .func (PySem.W.ksFn "__init__" "NoKey.__init__" (defArgs s_NoKey___init__) (defBody s_NoKey___init__) (defScope s_NoKey___init__) .none kV_NoKey dc_NoKey pm_NoKey an_NoKey (.ref cda_NoKey) ct_NoKey cc_NoKey), osl_NoKey⟩)
    (ehc_NoKey : PySem.W.codeIn K (.ref cda_NoKey) "NoKey.__init__" = true)
    (eno_NoKey : PySem.W.findIn K (.ref C_NoKey) "key" = some none)
    (eco_NoKey : K.lookup cda_NoKey = some ⟨ccl_NoKey, cdd_NoKey, .fields vs_NoKey, ccs_NoKey⟩)
    (ece_NoKey : K.lookup cc_NoKey = some ⟨cl_NoKey, cld_NoKey, .cell (some (.ref C_NoKey)), csl_NoKey⟩)
    (ega_NoKey : PySem.W.findIn K (.ref C_NoKey) "__getattribute__" = some (some (.builtin "BaseException.__getattribute__")))
    (egg_NoKey : PySem.W.findIn K (.ref C_NoKey) "__getattr__" = some none)
    (ehd_NoKey : PySem.W.hasDictIn K C_NoKey = true)
    (ese_NoKey : PySem.W.subIn K (.ref C_NoKey) (.ref C_NoKey) = some true)
    (ebm_NoKey : PySem.HandSPX.refsVE bm_NoKey = true)
    (evs_NoKey : vs_NoKey[2]? = some (.str file_NoKey tf_NoKey))
    (efl_NoKey : ((l.prog.main.file : Str) == file_NoKey) = true)
    (ecg_NoPart : PySem.W.nsIn K mainGlobals "NoPart" = some (some (.ref C_NoPart)))
    (exL_NoPart : K.lookup C_NoPart = some (excClassObj nm_NoPart q_NoPart C_NoPart N_NoPart bs_NoPart bm_NoPart true sn_NoPart sub_NoPart ab_NoPart col_NoPart dd_NoPart k0_NoPart k1_NoPart k2_NoPart k3_NoPart k5_NoPart "ValueError.__new__"))
    (esa_NoPart : PySem.W.findIn K (.ref C_NoPart) "__setattr__" = some (some (.builtin "object.__setattr__")))
    (eex_NoPart : PySem.W.subIn K (.ref C_NoPart) (.type "BaseException") = some true)
    (ety_NoPart : PySem.W.typeIn K (.ref C_NoPart) = some (.type "type"))
    (ekC_NoPart : PySem.W.keepIn K (.ref C_NoPart) = true)
    (ei1_NoPart : PySem.W.findIn K (.ref C_NoPart) "__init__" = some (some (.ref fI_NoPart)))
    (ei2_NoPart : PySem.W.typeIn K (.ref fI_NoPart) = some (.type "function"))
    (emr_NoPart : PySem.W.mroIn K C_NoPart (.ref C_NoPart) = some true)
    (esv_NoPart : PySem.W.subIn K (.ref C_NoPart) (.type "ValueError") = some true)
    (esu_NoPart : PySem.W.ks_superIn K C_NoPart C_NoPart "__init__" = some (some (.builtin "ValueError.__init__")))
    (elk_NoPart : K.lookup fI_NoPart = some ⟨oc_NoPart, od_NoPart, .func (PySem.W.ksFn "__init__" "NoPart.__init__" (defArgs s_NoPart___init__) (defBody s_NoPart___init__) (defScope s_NoPart___init__) .none kV_NoPart dc_NoPart pm_NoPart an_NoPart (.ref cda_NoPart) ct_NoPart cc_NoPart), osl_NoPart⟩)
    (ehc_NoPart : PySem.W.codeIn K (.ref cda_NoPart) "NoPart.__init__" = true)
    (eno_NoPart : PySem.W.findIn K (.ref C_NoPart) "name" = some none)
    (eco_NoPart : K.lookup cda_NoPart = some ⟨ccl_NoPart, cdd_NoPart, .fields vs_NoPart, ccs_NoPart⟩)
    (ece_NoPart : K.lookup cc_NoPart = some ⟨cl_NoPart, cld_NoPart, .cell (some (.ref C_NoPart)), csl_NoPart⟩)
    (ega_NoPart : PySem.W.findIn K (.ref C_NoPart) "__getattribute__" = some (some (.builtin "BaseException.__getattribute__")))
    (egg_NoPart : PySem.W.findIn K (.ref C_NoPart) "__getattr__" = some none)
    (ehd_NoPart : PySem.W.hasDictIn K C_NoPart = true)
    (ese_NoPart : PySem.W.subIn K (.ref C_NoPart) (.ref C_NoPart) = some true)
    (ebm_NoPart : PySem.HandSPX.refsVE bm_NoPart = true)
    (evs_NoPart : vs_NoPart[2]? = some (.str file_NoPart tf_NoPart))
    (efl_NoPart : ((l.prog.main.file : Str) == file_NoPart) = true)
    (ecg_Twice : PySem.W.nsIn K mainGlobals "Twice" = some (some (.ref C_Twice)))
    (exL_Twice : K.lookup C_Twice = some (excClassObj nm_Twice q_Twice C_Twice N_Twice bs_Twice bm_Twice true sn_Twice sub_Twice ab_Twice col_Twice dd_Twice k0_Twice k1_Twice k2_Twice k3_Twice k5_Twice "ValueError.__new__"))
    (esa_Twice : PySem.W.findIn K (.ref C_Twice) "__setattr__" = some (some (.builtin "object.__setattr__")))
    (eex_Twice : PySem.W.subIn K (.ref C_Twice) (.type "BaseException") = some true)
    (ety_Twice : PySem.W.typeIn K (.ref C_Twice) = some (.type "type"))
    (ekC_Twice : PySem.W.keepIn K (.ref C_Twice) = true)
    (ei1_Twice : PySem.W.findIn K (.ref C_Twice) "__init__" = some (some (.ref fI_Twice)))
    (ei2_Twice : PySem.W.typeIn K (.ref fI_Twice) = some (.type "function"))
    (emr_Twice : PySem.W.mroIn K C_Twice (.ref C_Twice) = some true)
    (esv_Twice : PySem.W.subIn K (.ref C_Twice) (.type "ValueError") = some true)
    (esu_Twice : PySem.W.ks_superIn K C_Twice C_Twice "__init__" = some (some (.builtin "ValueError.__init__")))
    (elk_Twice : K.lookup fI_Twice = some ⟨oc_Twice, od_Twice, .func (PySem.W.ksFn "__init__" "Twice.__init__" (defArgs s_Twice___init__) (defBody s_Twice___init__) (defScope s_Twice___init__) .none kV_Twice dc_Twice pm_Twice an_Twice (.ref cda_Twice) ct_Twice cc_Twice), osl_Twice⟩)
    (ehc_Twice : PySem.W.codeIn K (.ref cda_Twice) "Twice.__init__" = true)
    (eno_Twice : PySem.W.findIn K (.ref C_Twice) "name" = some none)
    (eco_Twice : K.lookup cda_Twice = some ⟨ccl_Twice, cdd_Twice, .fields vs_Twice, ccs_Twice⟩)
    (ece_Twice : K.lookup cc_Twice = some ⟨cl_Twice, cld_Twice, .cell (some (.ref C_Twice)), csl_Twice⟩)
    (ega_Twice : PySem.W.findIn K (.ref C_Twice) "__getattribute__" = some (some (.builtin "BaseException.__getattribute__")))
    (egg_Twice : PySem.W.findIn K (.ref C_Twice) "__getattr__" = some none)
    (ehd_Twice : PySem.W.hasDictIn K C_Twice = true)
    (ese_Twice : PySem.W.subIn K (.ref C_Twice) (.ref C_Twice) = some true)
    (ebm_Twice : PySem.HandSPX.refsVE bm_Twice = true)
    (evs_Twice : vs_Twice[2]? = some (.str file_Twice tf_Twice))
    (efl_Twice : ((l.prog.main.file : Str) == file_Twice) = true)
    (ecg_Unmatched : PySem.W.nsIn K mainGlobals "Unmatched" = some (some (.ref C_Unmatched)))
    (exL_Unmatched : K.lookup C_Unmatched = some (excClassObj nm_Unmatched q_Unmatched C_Unmatched N_Unmatched bs_Unmatched bm_Unmatched true sn_Unmatched sub_Unmatched ab_Unmatched col_Unmatched dd_Unmatched k0_Unmatched k1_Unmatched k2_Unmatched k3_Unmatched k5_Unmatched "ValueError.__new__"))
    (esa_Unmatched : PySem.W.findIn K (.ref C_Unmatched) "__setattr__" = some (some (.builtin "object.__setattr__")))
    (eex_Unmatched : PySem.W.subIn K (.ref C_Unmatched) (.type "BaseException") = some true)
    (ety_Unmatched : PySem.W.typeIn K (.ref C_Unmatched) = some (.type "type"))
    (ekC_Unmatched : PySem.W.keepIn K (.ref C_Unmatched) = true)
    (ei1_Unmatched : PySem.W.findIn K (.ref C_Unmatched) "__init__" = some (some (.ref fI_Unmatched)))
    (ei2_Unmatched : PySem.W.typeIn K (.ref fI_Unmatched) = some (.type "function"))
    (emr_Unmatched : PySem.W.mroIn K C_Unmatched (.ref C_Unmatched) = some true)
    (esv_Unmatched : PySem.W.subIn K (.ref C_Unmatched) (.type "ValueError") = some true)
    (esu_Unmatched : PySem.W.ks_superIn K C_Unmatched C_Unmatched "__init__" = some (some (.builtin "ValueError.__init__")))
    (elk_Unmatched : K.lookup fI_Unmatched = some ⟨oc_Unmatched, od_Unmatched, .func (PySem.W.ksFn "__init__" "Unmatched.__init__" (defArgs s_Unmatched___init__) (defBody s_Unmatched___init__) (defScope s_Unmatched___init__) .none kV_Unmatched dc_Unmatched pm_Unmatched an_Unmatched (.ref cda_Unmatched) ct_Unmatched cc_Unmatched), osl_Unmatched⟩)
    (ehc_Unmatched : PySem.W.codeIn K (.ref cda_Unmatched) "Unmatched.__init__" = true)
    (eno_Unmatched : PySem.W.findIn K (.ref C_Unmatched) "number" = some none)
    (eco_Unmatched : K.lookup cda_Unmatched = some ⟨ccl_Unmatched, cdd_Unmatched, .fields vs_Unmatched, ccs_Unmatched⟩)
    (ece_Unmatched : K.lookup cc_Unmatched = some ⟨cl_Unmatched, cld_Unmatched, .cell (some (.ref C_Unmatched)), csl_Unmatched⟩)
    (ega_Unmatched : PySem.W.findIn K (.ref C_Unmatched) "__getattribute__" = some (some (.builtin "BaseException.__getattribute__")))
    (egg_Unmatched : PySem.W.findIn K (.ref C_Unmatched) "__getattr__" = some none)
    (ehd_Unmatched : PySem.W.hasDictIn K C_Unmatched = true)
    (ese_Unmatched : PySem.W.subIn K (.ref C_Unmatched) (.ref C_Unmatched) = some true)
    (ebm_Unmatched : PySem.HandSPX.refsVE bm_Unmatched = true)
    (evs_Unmatched : vs_Unmatched[2]? = some (.str file_Unmatched tf_Unmatched))
    (efl_Unmatched : ((l.prog.main.file : Str) == file_Unmatched) = true)
    (ecg_TooMany : PySem.W.nsIn K mainGlobals "TooMany" = some (some (.ref C_TooMany)))
    (exL_TooMany : K.lookup C_TooMany = some (excClassObj nm_TooMany q_TooMany C_TooMany N_TooMany bs_TooMany bm_TooMany true sn_TooMany sub_TooMany ab_TooMany col_TooMany dd_TooMany k0_TooMany k1_TooMany k2_TooMany k3_TooMany k5_TooMany "ValueError.__new__"))
    (esa_TooMany : PySem.W.findIn K (.ref C_TooMany) "__setattr__" = some (some (.builtin "object.__setattr__")))
    (eex_TooMany : PySem.W.subIn K (.ref C_TooMany) (.type "BaseException") = some true)
    (ety_TooMany : PySem.W.typeIn K (.ref C_TooMany) = some (.type "type"))
    (ekC_TooMany : PySem.W.keepIn K (.ref C_TooMany) = true)
    (ei1_TooMany : PySem.W.findIn K (.ref C_TooMany) "__init__" = some (some (.ref fI_TooMany)))
    (ei2_TooMany : PySem.W.typeIn K (.ref fI_TooMany) = some (.type "function"))
    (emr_TooMany : PySem.W.mroIn K C_TooMany (.ref C_TooMany) = some true)
    (esv_TooMany : PySem.W.subIn K (.ref C_TooMany) (.type "ValueError") = some true)
    (esu_TooMany : PySem.W.ks_superIn K C_TooMany C_TooMany "__init__" = some (some (.builtin "ValueError.__init__")))
    (elk_TooMany : K.lookup fI_TooMany = some ⟨oc_TooMany, od_TooMany, .func (PySem.W.ksFn "__init__" "TooMany.__init__" (defArgs s_TooMany___init__) (defBody s_TooMany___init__) (defScope s_TooMany___init__) .none kV_TooMany dc_TooMany pm_TooMany an_TooMany (.ref cda_TooMany) ct_TooMany cc_TooMany), osl_TooMany⟩)
    (ehc_TooMany : PySem.W.codeIn K (.ref cda_TooMany) "TooMany.__init__" = true)
    (eno_TooMany : PySem.W.findIn K (.ref C_TooMany) "limit" = some none)
    (eco_TooMany : K.lookup cda_TooMany = some ⟨ccl_TooMany, cdd_TooMany, .fields vs_TooMany, ccs_TooMany⟩)
    (ece_TooMany : K.lookup cc_TooMany = some ⟨cl_TooMany, cld_TooMany, .cell (some (.ref C_TooMany)), csl_TooMany⟩)
    (ega_TooMany : PySem.W.findIn K (.ref C_TooMany) "__getattribute__" = some (some (.builtin "BaseException.__getattribute__")))
    (egg_TooMany : PySem.W.findIn K (.ref C_TooMany) "__getattr__" = some none)
    (ehd_TooMany : PySem.W.hasDictIn K C_TooMany = true)
    (ese_TooMany : PySem.W.subIn K (.ref C_TooMany) (.ref C_TooMany) = some true)
    (ebm_TooMany : PySem.HandSPX.refsVE bm_TooMany = true)
    (evs_TooMany : vs_TooMany[2]? = some (.str file_TooMany tf_TooMany))
    (efl_TooMany : ((l.prog.main.file : Str) == file_TooMany) = true)
    (ccg_Thing : PySem.W.nsIn K mainGlobals "Thing" = some (some (.ref C_Thing)))
    (cpg_Thing : PySem.W.plainGet K C_Thing Str.empty = true)
    (chd_Thing : PySem.W.hasDictIn K C_Thing = true)
    (cpo_Thing : PySem.W.plainOver K C_Thing = true)
    (csa_Thing : PySem.W.findIn K (.ref C_Thing) "__setattr__" = some (some (.builtin "object.__setattr__")))
    (ckl_Thing : PySem.W.findIn K (.ref C_Thing) "__class__" = some (some (.builtin "object.__class__")))
    (cmr_Thing : PySem.W.mroIn K C_Thing (.type "object") = some true)
    (cic_Thing : PySem.W.isClsIn K C_Thing = true)
    (cty_Thing : PySem.W.typeIn K (.ref C_Thing) = some (.type "type"))
    (csstr_Thing : PySem.W.subIn K (.ref C_Thing) (.type "str") = some false)
    (csint_Thing : PySem.W.subIn K (.ref C_Thing) (.type "int") = some false)
    (csbool_Thing : PySem.W.subIn K (.ref C_Thing) (.type "bool") = some false)
    (cslist_Thing : PySem.W.subIn K (.ref C_Thing) (.type "list") = some false)
    (cstuple_Thing : PySem.W.subIn K (.ref C_Thing) (.type "tuple") = some false)
    (ctNoneType_Thing : PySem.W.subIn K (.type "NoneType") (.ref C_Thing) = some false)
    (ctbool_Thing : PySem.W.subIn K (.type "bool") (.ref C_Thing) = some false)
    (ctint_Thing : PySem.W.subIn K (.type "int") (.ref C_Thing) = some false)
    (ctstr_Thing : PySem.W.subIn K (.type "str") (.ref C_Thing) = some false)
    (ctlist_Thing : PySem.W.subIn K (.type "list") (.ref C_Thing) = some false)
    (cttuple_Thing : PySem.W.subIn K (.type "tuple") (.ref C_Thing) = some false)
    (ctdict_Thing : PySem.W.subIn K (.type "dict") (.ref C_Thing) = some false)
    (cn0_Thing : PySem.W.findIn K (.ref C_Thing) "kind" = some none)
    (cn1_Thing : PySem.W.findIn K (.ref C_Thing) "name" = some none)
    (cn2_Thing : PySem.W.findIn K (.ref C_Thing) "parts" = some none)
    (ccg_Program : PySem.W.nsIn K mainGlobals "Program" = some (some (.ref C_Program)))
    (cpg_Program : PySem.W.plainGet K C_Program Str.empty = true)
    (chd_Program : PySem.W.hasDictIn K C_Program = true)
    (cpo_Program : PySem.W.plainOver K C_Program = true)
    (csa_Program : PySem.W.findIn K (.ref C_Program) "__setattr__" = some (some (.builtin "object.__setattr__")))
    (ckl_Program : PySem.W.findIn K (.ref C_Program) "__class__" = some (some (.builtin "object.__class__")))
    (cmr_Program : PySem.W.mroIn K C_Program (.type "object") = some true)
    (cic_Program : PySem.W.isClsIn K C_Program = true)
    (cty_Program : PySem.W.typeIn K (.ref C_Program) = some (.type "type"))
    (csstr_Program : PySem.W.subIn K (.ref C_Program) (.type "str") = some false)
    (csint_Program : PySem.W.subIn K (.ref C_Program) (.type "int") = some false)
    (csbool_Program : PySem.W.subIn K (.ref C_Program) (.type "bool") = some false)
    (cslist_Program : PySem.W.subIn K (.ref C_Program) (.type "list") = some false)
    (cstuple_Program : PySem.W.subIn K (.ref C_Program) (.type "tuple") = some false)
    (ctNoneType_Program : PySem.W.subIn K (.type "NoneType") (.ref C_Program) = some false)
    (ctbool_Program : PySem.W.subIn K (.type "bool") (.ref C_Program) = some false)
    (ctint_Program : PySem.W.subIn K (.type "int") (.ref C_Program) = some false)
    (ctstr_Program : PySem.W.subIn K (.type "str") (.ref C_Program) = some false)
    (ctlist_Program : PySem.W.subIn K (.type "list") (.ref C_Program) = some false)
    (cttuple_Program : PySem.W.subIn K (.type "tuple") (.ref C_Program) = some false)
    (ctdict_Program : PySem.W.subIn K (.type "dict") (.ref C_Program) = some false)
    (cn0_Program : PySem.W.findIn K (.ref C_Program) "things" = some none)
    (cn1_Program : PySem.W.findIn K (.ref C_Program) "parts" = some none)
    (cn2_Program : PySem.W.findIn K (.ref C_Program) "rows" = some none)
    (cn3_Program : PySem.W.findIn K (.ref C_Program) "probes" = some none)
    (cn4_Program : PySem.W.findIn K (.ref C_Program) "asserts" = some none)
    (cn5_Program : PySem.W.findIn K (.ref C_Program) "begins" = some none)
    (cn6_Program : PySem.W.findIn K (.ref C_Program) "onward" = some none)
    (cn7_Program : PySem.W.findIn K (.ref C_Program) "otherwise" = some none)
    (cmk_Program : PySem.W.makesIn K C_Program = true)
    (cii_Program : PySem.W.findIn K (.ref C_Program) "__init__" = some (some (.ref if_Program)))
    (cifn_Program : PySem.W.isFn K (.ref if_Program) = true)
    (cikc_Program : PySem.W.keepIn K (.ref C_Program) = true)
    (cilk_Program : K.lookup if_Program = some ⟨ioc_Program, iod_Program, .func (PySem.W.fnOf "__init__" "Program.__init__" (defArgs s_Program___init__) (defBody s_Program___init__) (defScope s_Program___init__) .none ikV_Program idc_Program ipm_Program ian_Program icd_Program ict_Program), isl_Program⟩)
    (cici_Program : PySem.W.codeIn K icd_Program "Program.__init__" = true)
    (cikp_Program : PySem.W.keepIn K (.ref if_Program) = true)
    (ra_QuietError : PySem.W.nsIn K mainGlobals "QuietError" = some (some (.ref C_QuietError)))
    (smu : PySem.W.subIn K (.ref C_TooMany) (.ref C_Unmatched) = some false) :
    ∃ fd : FuncData, (∀ (s : Shared) (v : Value), BindsTo s fd ⟨[v], []⟩ [("_law_script", v)]) ∧ ∀ base : Heap, K.In base → base.Ns mainGlobals mg → FnOk l.prog w K mg base CX0 14 fa fd ["_law_script"] (spLaw K) := by
  have D__wall : Dfn K mg "_wall" s__wall ["k"] := dfn_mk X G a0 l0 c0 k0 fun _ _ _ _ _ _ us hl => match us, hl with | [_], _ => rfl
  have D_is_name : Dfn K mg "is_name" s_is_name ["value"] := dfn_mk X G a1 l1 c1 k1 fun _ _ _ _ _ _ us hl => match us, hl with | [_], _ => rfl
  have D_need_names : Dfn K mg "need_names" s_need_names ["values"] := dfn_mk X G a2 l2 c2 k2 fun _ _ _ _ _ _ us hl => match us, hl with | [_], _ => rfl
  have D_need_unlike : Dfn K mg "need_unlike" s_need_unlike ["names"] := dfn_mk X G a3 l3 c3 k3 fun _ _ _ _ _ _ us hl => match us, hl with | [_], _ => rfl
  have D_need_things : Dfn K mg "need_things" s_need_things ["things"] := dfn_mk X G a4 l4 c4 k4 fun _ _ _ _ _ _ us hl => match us, hl with | [_], _ => rfl
  have D_read_thing : Dfn K mg "read_thing" s_read_thing ["line"] := dfn_mk X G a5 l5 c5 k5 fun _ _ _ _ _ _ us hl => match us, hl with | [_], _ => rfl
  have D_look_codes : Dfn K mg "look_codes" s_look_codes ["word"] := dfn_mk X G a6 l6 c6 k6 fun _ _ _ _ _ _ us hl => match us, hl with | [_], _ => rfl
  have D_row_codes : Dfn K mg "row_codes" s_row_codes ["word"] := dfn_mk X G a7 l7 c7 k7 fun _ _ _ _ _ _ us hl => match us, hl with | [_], _ => rfl
  have D_branch_codes : Dfn K mg "branch_codes" s_branch_codes ["opener", "word"] := dfn_mk X G a8 l8 c8 k8 fun _ _ _ _ _ _ us hl => match us, hl with | [_, _], _ => rfl
  have D_is_integer : Dfn K mg "is_integer" s_is_integer ["value"] := dfn_mk X G a9 l9 c9 k9 fun _ _ _ _ _ _ us hl => match us, hl with | [_], _ => rfl
  have D_head : Dfn K mg "head" s_head ["value"] := dfn_mk X G a10 l10 c10 k10 fun _ _ _ _ _ _ us hl => match us, hl with | [_], _ => rfl
  have D_suits : Dfn K mg "suits" s_suits ["value", "code"] := dfn_mk X G a11 l11 c11 k11 fun _ _ _ _ _ _ us hl => match us, hl with | [_, _], _ => rfl
  have D_fits : Dfn K mg "fits" s_fits ["value", "codes"] := dfn_mk X G a12 l12 c12 k12 fun _ _ _ _ _ _ us hl => match us, hl with | [_, _], _ => rfl
  have D_need_known : Dfn K mg "need_known" s_need_known ["known", "words", "codes"] := dfn_mk X G a13 l13 c13 k13 fun _ _ _ _ _ _ us hl => match us, hl with | [_, _, _], _ => rfl
  have D_is_look : Dfn K mg "is_look" s_is_look ["row"] := dfn_mk X G a14 l14 c14 k14 fun _ _ _ _ _ _ us hl => match us, hl with | [_], _ => rfl
  have D_is_looks : Dfn K mg "is_looks" s_is_looks ["rows"] := dfn_mk X G a15 l15 c15 k15 fun _ _ _ _ _ _ us hl => match us, hl with | [_], _ => rfl
  have D_is_watcher : Dfn K mg "is_watcher" s_is_watcher ["row"] := dfn_mk X G a16 l16 c16 k16 fun _ _ _ _ _ _ us hl => match us, hl with | [_], _ => rfl
  have D_is_row : Dfn K mg "is_row" s_is_row ["row"] := dfn_mk X G a17 l17 c17 k17 fun _ _ _ _ _ _ us hl => match us, hl with | [_], _ => rfl
  have D_is_probe : Dfn K mg "is_probe" s_is_probe ["row"] := dfn_mk X G a18 l18 c18 k18 fun _ _ _ _ _ _ us hl => match us, hl with | [_], _ => rfl
  have D_named : Dfn K mg "named" s_named ["row"] := dfn_mk X G a19 l19 c19 k19 fun _ _ _ _ _ _ us hl => match us, hl with | [_], _ => rfl
  have D_looks_text : Dfn K mg "looks_text" s_looks_text ["looks"] := dfn_mk X G a20 l20 c20 k20 fun _ _ _ _ _ _ us hl => match us, hl with | [_], _ => rfl
  have D_row_text : Dfn K mg "row_text" s_row_text ["row"] := dfn_mk X G a21 l21 c21 k21 fun _ _ _ _ _ _ us hl => match us, hl with | [_], _ => rfl
  have D_read_looks : Dfn K mg "read_looks" s_read_looks ["words"] := dfn_mk X G a22 l22 c22 k22 fun _ _ _ _ _ _ us hl => match us, hl with | [_], _ => rfl
  have D_read_watcher : Dfn K mg "read_watcher" s_read_watcher ["words"] := dfn_mk X G a23 l23 c23 k23 fun _ _ _ _ _ _ us hl => match us, hl with | [_], _ => rfl
  have D_read_row : Dfn K mg "read_row" s_read_row ["line"] := dfn_mk X G a24 l24 c24 k24 fun _ _ _ _ _ _ us hl => match us, hl with | [_], _ => rfl
  have D_need_row : Dfn K mg "need_row" s_need_row ["known", "number", "row", "later", "met"] := dfn_mk X G a25 l25 c25 k25 fun _ _ _ _ _ _ us hl => match us, hl with | [_, _, _, _, _], _ => rfl
  have D_opened_behind : Dfn K mg "opened_behind" s_opened_behind ["opened", "number", "word"] := dfn_mk X G a26 l26 c26 k26 fun _ _ _ _ _ _ us hl => match us, hl with | [_, _, _], _ => rfl
  have D_need_parts : Dfn K mg "need_parts" s_need_parts ["things", "parts"] := dfn_mk X G a27 l27 c27 k27 fun _ _ _ _ _ _ us hl => match us, hl with | [_, _], _ => rfl
  have D_jumps_of : Dfn K mg "jumps_of" s_jumps_of ["rows", "begin"] := dfn_mk X G a28 l28 c28 k28 fun _ _ _ _ _ _ us hl => match us, hl with | [_, _], _ => rfl
  have D_read_part : Dfn K mg "read_part" s_read_part ["line"] := dfn_mk X G a29 l29 c29 k29 fun _ _ _ _ _ _ us hl => match us, hl with | [_], _ => rfl
  have D__law_all_rows : Dfn K mg "_law_all_rows" s__law_all_rows ["_law_parts"] := dfn_mk X G a30 l30 c30 k30 fun _ _ _ _ _ _ us hl => match us, hl with | [_], _ => rfl
  have D__law_draw : Dfn K mg "_law_draw" s__law_draw ["_law_pool_here", "_law_many"] := dfn_mk X G a31 l31 c31 k31 fun _ _ _ _ _ _ us hl => match us, hl with | [_, _], _ => rfl
  have D__law_word : Dfn K mg "_law_word" s__law_word ["_law_pool_here"] := dfn_mk X G a32 l32 c32 k32 fun _ _ _ _ _ _ us hl => match us, hl with | [_], _ => rfl
  have D__law_pool : Dfn K mg "_law_pool" s__law_pool ["_law_script"] := dfn_mk X G a33 l33 c33 k33 fun _ _ _ _ _ _ us hl => match us, hl with | [_], _ => rfl
  have D__law_names : Dfn K mg "_law_names" s__law_names ["_law_pool_here", "_law_many"] := dfn_mk X G a34 l34 c34 k34 fun _ _ _ _ _ _ us hl => match us, hl with | [_, _], _ => rfl
  have D__law_same : Dfn K mg "_law_same" s__law_same ["_law_actual", "_law_due_here"] := dfn_mk X G a35 l35 c35 k35 fun _ _ _ _ _ _ us hl => match us, hl with | [_, _], _ => rfl
  have D__law_try : Dfn K mg "_law_try" s__law_try ["_law_parts"] := dfn_mk X G a36 l36 c36 k36 fun _ _ _ _ _ _ us hl => match us, hl with | [_], _ => rfl
  have D__law_due : Dfn K mg "_law_due" s__law_due ["_law_parts"] := dfn_mk X G a37 l37 c37 k37 fun _ _ _ _ _ _ us hl => match us, hl with | [_], _ => rfl
  have D__law_rows_of : Dfn K mg "_law_rows_of" s__law_rows_of ["_law_pool_here", "_law_deep"] := dfn_mk X G a38 l38 c38 k38 fun _ _ _ _ _ _ us hl => match us, hl with | [_, _], _ => rfl
  have B : Bl mg := ⟨PySem.W.mg_none_of X G z_len, PySem.W.mg_none_of X G z_int, PySem.W.mg_none_of X G z_list, PySem.W.mg_none_of X G z_tuple, PySem.W.mg_none_of X G z_isi, PySem.W.mg_none_of X G z_range, PySem.W.mg_none_of X G z_all, PySem.W.mg_none_of X G z_any, PySem.W.mg_none_of X G z_str, PySem.W.mg_none_of X G z_bool, PySem.W.mg_none_of X G z_enum, PySem.W.mg_none_of X G z_zip, PySem.W.mg_none_of X G z_sum, PySem.W.mg_none_of X G z_max, PySem.W.mg_none_of X G z_min, PySem.W.mg_none_of X G z_sorted, PySem.W.mg_none_of X G z_set, PySem.W.mg_none_of X G z_dict⟩
  have G_LETTERS : GS mg "LETTERS" abc := ⟨_, PySem.W.mg_of X G sa_LETTERS⟩
  have G_MOST_LETTERS : GI mg "MOST_LETTERS" 8 := ⟨_, PySem.W.mg_of X G ia_MOST_LETTERS⟩
  have G_MOST_ITEMS : GI mg "MOST_ITEMS" 1000000000000000000000000000000 := ⟨_, PySem.W.mg_of X G ia_MOST_ITEMS⟩
  have G_MOST_LOOKS : GI mg "MOST_LOOKS" 6 := ⟨_, PySem.W.mg_of X G ia_MOST_LOOKS⟩
  have G_MOST_THINGS : GI mg "MOST_THINGS" 8 := ⟨_, PySem.W.mg_of X G ia_MOST_THINGS⟩
  have G_MOST_PARTS : GI mg "MOST_PARTS" 5 := ⟨_, PySem.W.mg_of X G ia_MOST_PARTS⟩
  have G_MOST_ROWS : GI mg "MOST_ROWS" 60 := ⟨_, PySem.W.mg_of X G ia_MOST_ROWS⟩
  have G_MOST_BLOCKS : GI mg "MOST_BLOCKS" 8 := ⟨_, PySem.W.mg_of X G ia_MOST_BLOCKS⟩
  have G_FREE : GT K mg "FREE" freeT := ⟨_, PySem.W.mg_of X G pa_FREE, isK_tup pl_FREE pv_FREE (by decide +kernel) (by decide)⟩
  have G_LOOKS : GT K mg "LOOKS" looksT := ⟨_, PySem.W.mg_of X G pa_LOOKS, isK_tup pl_LOOKS pv_LOOKS (by decide +kernel) (by decide)⟩
  have G_UNSAID : GT K mg "UNSAID" unsaidT := ⟨_, PySem.W.mg_of X G pa_UNSAID, isK_tup pl_UNSAID pv_UNSAID (by decide +kernel) (by decide)⟩
  have G_GATES : GT K mg "GATES" gatesT := ⟨_, PySem.W.mg_of X G pa_GATES, isK_tup pl_GATES pv_GATES (by decide +kernel) (by decide)⟩
  have G_ASSERTED : GT K mg "ASSERTED" assertedT := ⟨_, PySem.W.mg_of X G pa_ASSERTED, isK_tup pl_ASSERTED pv_ASSERTED (by decide +kernel) (by decide)⟩
  have G_DEEDS := PySem.W.mg_of X G ta_DEEDS
  have T_DEEDS := kd_of tl_DEEDS tw_DEEDS tk_DEEDS
  have GD_DEEDS : GD K w mg "DEEDS" (dT deedsT) := ⟨_, G_DEEDS, T_DEEDS⟩
  have G_PLAIN := PySem.W.mg_of X G ta_PLAIN
  have T_PLAIN := kd_of tl_PLAIN tw_PLAIN tk_PLAIN
  have GD_PLAIN : GD K w mg "PLAIN" (dT plainT) := ⟨_, G_PLAIN, T_PLAIN⟩
  have X_BadName : ∀ base, ErrX l.prog w K mg base "BadName" C_BadName "name" := fun base => errX_mk (st := s_BadName___init__) X G ecg_BadName exL_BadName esa_BadName eex_BadName ety_BadName ekC_BadName ei1_BadName ei2_BadName emr_BadName esv_BadName esu_BadName oq z_super elk_BadName ehc_BadName eno_BadName eco_BadName ece_BadName ega_BadName egg_BadName ehd_BadName ese_BadName ebm_BadName evs_BadName efl_BadName tsup rfl ⟨_, rfl, rfl⟩ ⟨rfl, rfl, rfl, rfl⟩ (by decide +kernel) ⟨rfl, rfl, rfl⟩ (by decide) ⟨by decide, by decide⟩ (fun L => rfl) (fun L => rfl) (fun L => ⟨_, rfl⟩) (fun L => rfl) (fun us hl => match us, hl with | [_, _], _ => rfl)
  have X_BadRow : ∀ base, ErrX l.prog w K mg base "BadRow" C_BadRow "number" := fun base => errX_mk (st := s_BadRow___init__) X G ecg_BadRow exL_BadRow esa_BadRow eex_BadRow ety_BadRow ekC_BadRow ei1_BadRow ei2_BadRow emr_BadRow esv_BadRow esu_BadRow oq z_super elk_BadRow ehc_BadRow eno_BadRow eco_BadRow ece_BadRow ega_BadRow egg_BadRow ehd_BadRow ese_BadRow ebm_BadRow evs_BadRow efl_BadRow tsup rfl ⟨_, rfl, rfl⟩ ⟨rfl, rfl, rfl, rfl⟩ (by decide +kernel) ⟨rfl, rfl, rfl⟩ (by decide) ⟨by decide, by decide⟩ (fun L => rfl) (fun L => rfl) (fun L => ⟨_, rfl⟩) (fun L => rfl) (fun us hl => match us, hl with | [_, _], _ => rfl)
  have X_NoThing : ∀ base, ErrX l.prog w K mg base "NoThing" C_NoThing "name" := fun base => errX_mk (st := s_NoThing___init__) X G ecg_NoThing exL_NoThing esa_NoThing eex_NoThing ety_NoThing ekC_NoThing ei1_NoThing ei2_NoThing emr_NoThing esv_NoThing esu_NoThing oq z_super elk_NoThing ehc_NoThing eno_NoThing eco_NoThing ece_NoThing ega_NoThing egg_NoThing ehd_NoThing ese_NoThing ebm_NoThing evs_NoThing efl_NoThing tsup rfl ⟨_, rfl, rfl⟩ ⟨rfl, rfl, rfl, rfl⟩ (by decide +kernel) ⟨rfl, rfl, rfl⟩ (by decide) ⟨by decide, by decide⟩ (fun L => rfl) (fun L => rfl) (fun L => ⟨_, rfl⟩) (fun L => rfl) (fun us hl => match us, hl with | [_, _], _ => rfl)
  have X_NoKey : ∀ base, ErrX l.prog w K mg base "NoKey" C_NoKey "key" := fun base => errX_mk (st := s_NoKey___init__) X G ecg_NoKey exL_NoKey esa_NoKey eex_NoKey ety_NoKey ekC_NoKey ei1_NoKey ei2_NoKey emr_NoKey esv_NoKey esu_NoKey oq z_super elk_NoKey ehc_NoKey eno_NoKey eco_NoKey ece_NoKey ega_NoKey egg_NoKey ehd_NoKey ese_NoKey ebm_NoKey evs_NoKey efl_NoKey tsup rfl ⟨_, rfl, rfl⟩ ⟨rfl, rfl, rfl, rfl⟩ (by decide +kernel) ⟨rfl, rfl, rfl⟩ (by decide) ⟨by decide, by decide⟩ (fun L => rfl) (fun L => rfl) (fun L => ⟨_, rfl⟩) (fun L => rfl) (fun us hl => match us, hl with | [_, _], _ => rfl)
  have X_NoPart : ∀ base, ErrX l.prog w K mg base "NoPart" C_NoPart "name" := fun base => errX_mk (st := s_NoPart___init__) X G ecg_NoPart exL_NoPart esa_NoPart eex_NoPart ety_NoPart ekC_NoPart ei1_NoPart ei2_NoPart emr_NoPart esv_NoPart esu_NoPart oq z_super elk_NoPart ehc_NoPart eno_NoPart eco_NoPart ece_NoPart ega_NoPart egg_NoPart ehd_NoPart ese_NoPart ebm_NoPart evs_NoPart efl_NoPart tsup rfl ⟨_, rfl, rfl⟩ ⟨rfl, rfl, rfl, rfl⟩ (by decide +kernel) ⟨rfl, rfl, rfl⟩ (by decide) ⟨by decide, by decide⟩ (fun L => rfl) (fun L => rfl) (fun L => ⟨_, rfl⟩) (fun L => rfl) (fun us hl => match us, hl with | [_, _], _ => rfl)
  have X_Twice : ∀ base, ErrX l.prog w K mg base "Twice" C_Twice "name" := fun base => errX_mk (st := s_Twice___init__) X G ecg_Twice exL_Twice esa_Twice eex_Twice ety_Twice ekC_Twice ei1_Twice ei2_Twice emr_Twice esv_Twice esu_Twice oq z_super elk_Twice ehc_Twice eno_Twice eco_Twice ece_Twice ega_Twice egg_Twice ehd_Twice ese_Twice ebm_Twice evs_Twice efl_Twice tsup rfl ⟨_, rfl, rfl⟩ ⟨rfl, rfl, rfl, rfl⟩ (by decide +kernel) ⟨rfl, rfl, rfl⟩ (by decide) ⟨by decide, by decide⟩ (fun L => rfl) (fun L => rfl) (fun L => ⟨_, rfl⟩) (fun L => rfl) (fun us hl => match us, hl with | [_, _], _ => rfl)
  have X_Unmatched : ∀ base, ErrX l.prog w K mg base "Unmatched" C_Unmatched "number" := fun base => errX_mk (st := s_Unmatched___init__) X G ecg_Unmatched exL_Unmatched esa_Unmatched eex_Unmatched ety_Unmatched ekC_Unmatched ei1_Unmatched ei2_Unmatched emr_Unmatched esv_Unmatched esu_Unmatched oq z_super elk_Unmatched ehc_Unmatched eno_Unmatched eco_Unmatched ece_Unmatched ega_Unmatched egg_Unmatched ehd_Unmatched ese_Unmatched ebm_Unmatched evs_Unmatched efl_Unmatched tsup rfl ⟨_, rfl, rfl⟩ ⟨rfl, rfl, rfl, rfl⟩ (by decide +kernel) ⟨rfl, rfl, rfl⟩ (by decide) ⟨by decide, by decide⟩ (fun L => rfl) (fun L => rfl) (fun L => ⟨_, rfl⟩) (fun L => rfl) (fun us hl => match us, hl with | [_, _], _ => rfl)
  have X_TooMany : ∀ base, ErrX l.prog w K mg base "TooMany" C_TooMany "limit" := fun base => errX_mk (st := s_TooMany___init__) X G ecg_TooMany exL_TooMany esa_TooMany eex_TooMany ety_TooMany ekC_TooMany ei1_TooMany ei2_TooMany emr_TooMany esv_TooMany esu_TooMany oq z_super elk_TooMany ehc_TooMany eno_TooMany eco_TooMany ece_TooMany ega_TooMany egg_TooMany ehd_TooMany ese_TooMany ebm_TooMany evs_TooMany efl_TooMany tsup rfl ⟨_, rfl, rfl⟩ ⟨rfl, rfl, rfl, rfl⟩ (by decide +kernel) ⟨rfl, rfl, rfl⟩ (by decide) ⟨by decide, by decide⟩ (fun L => rfl) (fun L => rfl) (fun L => ⟨_, rfl⟩) (fun L => rfl) (fun us hl => match us, hl with | [_, _], _ => rfl)
  have K_Thing : KCls K mg "Thing" C_Thing ["kind", "name", "parts"] := ⟨PySem.W.mg_of X G ccg_Thing, ⟨⟨cpg_Thing, chd_Thing, cpo_Thing, csa_Thing⟩, ckl_Thing, gtc, tkc, cmr_Thing, ((fm_cons csstr_Thing (fm_cons csint_Thing (fm_cons csbool_Thing (fm_cons cslist_Thing (fm_cons cstuple_Thing fm_nil))))))⟩, ((fm_cons cn0_Thing (fm_cons cn1_Thing (fm_cons cn2_Thing fm_nil)))), ⟨cic_Thing, cty_Thing, ((fm_cons ctNoneType_Thing (fm_cons ctbool_Thing (fm_cons ctint_Thing (fm_cons ctstr_Thing (fm_cons ctlist_Thing (fm_cons cttuple_Thing (fm_cons ctdict_Thing fm_nil))))))))⟩⟩
  have K_Program : KCls K mg "Program" C_Program ["things", "parts", "rows", "probes", "asserts", "begins", "onward", "otherwise"] := ⟨PySem.W.mg_of X G ccg_Program, ⟨⟨cpg_Program, chd_Program, cpo_Program, csa_Program⟩, ckl_Program, gtc, tkc, cmr_Program, ((fm_cons csstr_Program (fm_cons csint_Program (fm_cons csbool_Program (fm_cons cslist_Program (fm_cons cstuple_Program fm_nil))))))⟩, ((fm_cons cn0_Program (fm_cons cn1_Program (fm_cons cn2_Program (fm_cons cn3_Program (fm_cons cn4_Program (fm_cons cn5_Program (fm_cons cn6_Program (fm_cons cn7_Program fm_nil))))))))), ⟨cic_Program, cty_Program, ((fm_cons ctNoneType_Program (fm_cons ctbool_Program (fm_cons ctint_Program (fm_cons ctstr_Program (fm_cons ctlist_Program (fm_cons cttuple_Program (fm_cons ctdict_Program fm_nil))))))))⟩⟩
  have D_Program___init__ : DfNS K C_Program "Program.__init__" s_Program___init__ ["self", "things"] "parts" := ⟨_, _, ⟨⟨_, _, _, _, _, _, _, _, _, _, rfl, cilk_Program, cici_Program⟩⟩, ⟨cmk_Program, cii_Program, cifn_Program, cikc_Program⟩, fun us rest hl => match us, hl, rest with | [_, _], _, [] => rfl | [_, _], _, _ :: _ => rfl⟩
  have R_QuietError : mg "QuietError" = some (.ref C_QuietError) := PySem.W.mg_of X G ra_QuietError
  refine law_end (st := s_law) X G hfa a39 l39 c39 k39 (fun _ => rfl) (fun base fd F => ?_)
  have c_draw := c__law_draw (P := l.prog) (w := w) (base := base) B D__law_draw
  obtain ⟨fp, fdp, GP, gP, kP, bP⟩ := c__law_pool (P := l.prog) (w := w) (base := base) B D__law_pool
  have c_isname := c_is_name (P := l.prog) (w := w) (base := base) B G_LETTERS G_MOST_LETTERS D_is_name
  have c_fits := c_fits B (c_suits B G_MOST_ITEMS c_isname (c_is_integer B D_is_integer) D_suits) D_fits
  have c_head := c_head (P := l.prog) (w := w) (base := base) B D_head
  have c_lookc := c_look_codes (P := l.prog) (w := w) (base := base) G_LOOKS GD_DEEDS D_look_codes
  have c_islook := c_is_look c_head c_lookc c_fits D_is_look
  have c_watch := c_is_watcher B G_GATES G_ASSERTED G_MOST_LOOKS c_isname c_islook (c_is_looks B c_islook D_is_looks) D_is_watcher
  have c_rowc := c_row_codes (P := l.prog) (w := w) (base := base) G_UNSAID GD_PLAIN GD_DEEDS D_row_codes
  have c_branchc := c_branch_codes (P := l.prog) (w := w) (base := base) GD_DEEDS D_branch_codes
  have c_isrow := c_is_row c_head c_rowc c_branchc c_fits c_watch D_is_row
  have c_ispr := c_is_probe (P := l.prog) (w := w) (base := base) D_is_probe
  have c_named := c_named B c_ispr c_lookc c_branchc c_rowc D_named
  have c_need := c_need_names (X_BadName base) c_isname D_need_names
  have c_unl := c_need_unlike (X_Twice base) D_need_unlike
  have c_nth := c_need_things B G_MOST_THINGS (X_NoThing base) (X_TooMany base) K_Thing c_unl D_need_things
  have c_nk := c_need_known B G_FREE (X_NoThing base) (X_NoKey base) K_Thing D_need_known
  have c_nrow := c_need_row (E0 := ⟨C_BadRow, C_NoThing, C_NoKey, C_Twice, C_NoPart, C_Unmatched, C_TooMany, C_BadName⟩) B (X_BadRow base) (X_Twice base) (X_NoPart base) c_isrow c_named c_ispr c_nk D_need_row
  have c_open := c_opened_behind (E0 := ⟨C_BadRow, C_NoThing, C_NoKey, C_Twice, C_NoPart, C_Unmatched, C_TooMany, C_BadName⟩) B G_MOST_BLOCKS (X_Unmatched base) (X_TooMany base) D_opened_behind
  have c_nparts := c_need_parts B G_MOST_PARTS G_MOST_ROWS (X_NoPart base) (X_TooMany base) (X_Unmatched base) K_Thing c_need c_unl c_ispr c_nrow c_open D_need_parts
  have n_prog := c_Program_init B K_Thing K_Program c_nth c_nparts c_ispr (c_jumps_of (P := l.prog) (w := w) (base := base) B D_jumps_of) D_Program___init__
  
  have c_word := c__law_word B c_draw D__law_word
  exact ok_law F GP gP kP bP c_draw (c__law_names B c_draw D__law_names) (c__law_same B D__law_same 9) (c__law_rows_of B c_draw c_word D__law_rows_of) (c__law_try B K_Thing K_Program (X_Unmatched base) (X_TooMany base) R_QuietError smu n_prog D__law_try) (c__law_due B (c__law_all_rows B D__law_all_rows) D__law_due) B
theorem walk {l : PySem.W.OpenLaw} {q : Program} {loose : List Str} {XP : (Str → Option Value) → Heap → Prop} {YP : World → Heap → Prop} {d : DefRec} {K : Params → PySem.W.Frag} (hn : l.most = some 63) (hdf : d.params.defaults = [])
    (hY : ∀ (w : World) (h : Heap), YP w h → (K w.params).In h)
    (F : ∀ (w : World) (mg : Str → Option Value) (fa : Addr) (h : Heap), (K w.params).In h → h.Ns mainGlobals mg → mg d.name = some (.ref fa) →
      ∃ fd : FuncData, (∀ (s : Shared) (u : Value), BindsTo s fd ⟨[u], []⟩ [("_law_script", u)]) ∧ ∀ base : Heap, (K w.params).In base → base.Ns mainGlobals mg → FnOk l.prog w (K w.params) mg base CX0 14 fa fd ["_law_script"] (spLaw (K w.params))) :
    PySem.W.WalkO q loose XP YP l.row.toRowW d [] (fun f vs => PySem.call f vs) :=
  L2.walk_of (n := 63) (k := 14) (x := "_law_script") (CX := fun _ => CX0) (sp := fun w => spLaw (K w.params)) hn (by decide) hdf ⟨rfl, by decide, by decide⟩ hY F (fun _ _ a ns hl _ hS => ⟨a, ns, rfl, hS, hl, fun _ => rfl⟩) fun _ _ _ _ _ z => z
end Q
open PySem PySem.W PyProof.Rows
set_option maxRecDepth 100000 in
set_option maxHeartbeats 0 in
theorem PySem.Challenge.cw_quietprobes_k27_blocks_that_do_not_match_holds : PySem.Challenge.rw_quietprobes_k27_blocks_that_do_not_match.Holds := by
  w_on; o_law
  refine HandSHeadRun.head_any (r := OpenLaw.row PySem.Challenge.rw_quietprobes_k27_blocks_that_do_not_match) (q := Q.qv) (H := PySem.W.kHook Q.KF Q.KA Q.KA_eq) (ob := Q.obK) (M := 15850) (loose := Q.loo) (d := HandSHeadRun.topDef (OpenLaw.row PySem.Challenge.rw_quietprobes_k27_blocks_that_do_not_match).prog 77) (kwd := []) Q.obK_eq (by kernel_rfl) (fun s => by kernel_rfl) Q.run_all (by kernel_rfl) (by kernel_rfl) (by kernel_rfl) (by rfl) (by first | assumption | decide +kernel) (by decide +kernel) ⟨rfl, rfl, rfl, rfl, rfl, by decide +kernel⟩ ?hw ?hc
  case hw => w_witness2
  k_fill
  refine Q.walk (l := PySem.Challenge.rw_quietprobes_k27_blocks_that_do_not_match) rfl (by kernel_rfl) (fun w h Y => PySem.W.kIn_of Y) ?F
  case F =>
    intro w mg fa h KX G hmg0
    have hmg : mg ("law" : PySem.Str) = some (.ref fa) := by
      have e : (HandSHeadRun.topDef (OpenLaw.row PySem.Challenge.rw_quietprobes_k27_blocks_that_do_not_match).prog 77).name = ("law" : PySem.Str) := by kernel_rfl
      rw [← e]
      exact hmg0
    refine' Q.all_mk KX G hmg ?a0 ?l0 ?c0 ?k0 ?a1 ?l1 ?c1 ?k1 ?a2 ?l2 ?c2 ?k2 ?a3 ?l3 ?c3 ?k3 ?a4 ?l4 ?c4 ?k4 ?a5 ?l5 ?c5 ?k5 ?a6 ?l6 ?c6 ?k6 ?a7 ?l7 ?c7 ?k7 ?a8 ?l8 ?c8 ?k8 ?a9 ?l9 ?c9 ?k9 ?a10 ?l10 ?c10 ?k10 ?a11 ?l11 ?c11 ?k11 ?a12 ?l12 ?c12 ?k12 ?a13 ?l13 ?c13 ?k13 ?a14 ?l14 ?c14 ?k14 ?a15 ?l15 ?c15 ?k15 ?a16 ?l16 ?c16 ?k16 ?a17 ?l17 ?c17 ?k17 ?a18 ?l18 ?c18 ?k18 ?a19 ?l19 ?c19 ?k19 ?a20 ?l20 ?c20 ?k20 ?a21 ?l21 ?c21 ?k21 ?a22 ?l22 ?c22 ?k22 ?a23 ?l23 ?c23 ?k23 ?a24 ?l24 ?c24 ?k24 ?a25 ?l25 ?c25 ?k25 ?a26 ?l26 ?c26 ?k26 ?a27 ?l27 ?c27 ?k27 ?a28 ?l28 ?c28 ?k28 ?a29 ?l29 ?c29 ?k29 ?a30 ?l30 ?c30 ?k30 ?a31 ?l31 ?c31 ?k31 ?a32 ?l32 ?c32 ?k32 ?a33 ?l33 ?c33 ?k33 ?a34 ?l34 ?c34 ?k34 ?a35 ?l35 ?c35 ?k35 ?a36 ?l36 ?c36 ?k36 ?a37 ?l37 ?c37 ?k37 ?a38 ?l38 ?c38 ?k38 ?a39 ?l39 ?c39 ?k39 ?z_len ?z_int ?z_list ?z_tuple ?z_isi ?z_range ?z_all ?z_any ?z_str ?z_bool ?z_enum ?z_zip ?z_sum ?z_max ?z_min ?z_sorted ?z_set ?z_dict ?sa_LETTERS ?ia_MOST_LETTERS ?ia_MOST_ITEMS ?ia_MOST_LOOKS ?ia_MOST_THINGS ?ia_MOST_PARTS ?ia_MOST_ROWS ?ia_MOST_BLOCKS ?pa_FREE ?pl_FREE ?pv_FREE ?pa_LOOKS ?pl_LOOKS ?pv_LOOKS ?pa_UNSAID ?pl_UNSAID ?pv_UNSAID ?pa_GATES ?pl_GATES ?pv_GATES ?pa_ASSERTED ?pl_ASSERTED ?pv_ASSERTED ?ta_DEEDS ?tl_DEEDS ?tw_DEEDS ?tk_DEEDS ?ta_PLAIN ?tl_PLAIN ?tw_PLAIN ?tk_PLAIN ?oq ?z_super ?gtc ?tkc ?tsup ?ecg_BadName ?exL_BadName ?esa_BadName ?eex_BadName ?ety_BadName ?ekC_BadName ?ei1_BadName ?ei2_BadName ?emr_BadName ?esv_BadName ?esu_BadName ?elk_BadName ?ehc_BadName ?eno_BadName ?eco_BadName ?ece_BadName ?ega_BadName ?egg_BadName ?ehd_BadName ?ese_BadName ?ebm_BadName ?evs_BadName ?efl_BadName ?ecg_BadRow ?exL_BadRow ?esa_BadRow ?eex_BadRow ?ety_BadRow ?ekC_BadRow ?ei1_BadRow ?ei2_BadRow ?emr_BadRow ?esv_BadRow ?esu_BadRow ?elk_BadRow ?ehc_BadRow ?eno_BadRow ?eco_BadRow ?ece_BadRow ?ega_BadRow ?egg_BadRow ?ehd_BadRow ?ese_BadRow ?ebm_BadRow ?evs_BadRow ?efl_BadRow ?ecg_NoThing ?exL_NoThing ?esa_NoThing ?eex_NoThing ?ety_NoThing ?ekC_NoThing ?ei1_NoThing ?ei2_NoThing ?emr_NoThing ?esv_NoThing ?esu_NoThing ?elk_NoThing ?ehc_NoThing ?eno_NoThing ?eco_NoThing ?ece_NoThing ?ega_NoThing ?egg_NoThing ?ehd_NoThing ?ese_NoThing ?ebm_NoThing ?evs_NoThing ?efl_NoThing ?ecg_NoKey ?exL_NoKey ?esa_NoKey ?eex_NoKey ?ety_NoKey ?ekC_NoKey ?ei1_NoKey ?ei2_NoKey ?emr_NoKey ?esv_NoKey ?esu_NoKey ?elk_NoKey ?ehc_NoKey ?eno_NoKey ?eco_NoKey ?ece_NoKey ?ega_NoKey ?egg_NoKey ?ehd_NoKey ?ese_NoKey ?ebm_NoKey ?evs_NoKey ?efl_NoKey ?ecg_NoPart ?exL_NoPart ?esa_NoPart ?eex_NoPart ?ety_NoPart ?ekC_NoPart ?ei1_NoPart ?ei2_NoPart ?emr_NoPart ?esv_NoPart ?esu_NoPart ?elk_NoPart ?ehc_NoPart ?eno_NoPart ?eco_NoPart ?ece_NoPart ?ega_NoPart ?egg_NoPart ?ehd_NoPart ?ese_NoPart ?ebm_NoPart ?evs_NoPart ?efl_NoPart ?ecg_Twice ?exL_Twice ?esa_Twice ?eex_Twice ?ety_Twice ?ekC_Twice ?ei1_Twice ?ei2_Twice ?emr_Twice ?esv_Twice ?esu_Twice ?elk_Twice ?ehc_Twice ?eno_Twice ?eco_Twice ?ece_Twice ?ega_Twice ?egg_Twice ?ehd_Twice ?ese_Twice ?ebm_Twice ?evs_Twice ?efl_Twice ?ecg_Unmatched ?exL_Unmatched ?esa_Unmatched ?eex_Unmatched ?ety_Unmatched ?ekC_Unmatched ?ei1_Unmatched ?ei2_Unmatched ?emr_Unmatched ?esv_Unmatched ?esu_Unmatched ?elk_Unmatched ?ehc_Unmatched ?eno_Unmatched ?eco_Unmatched ?ece_Unmatched ?ega_Unmatched ?egg_Unmatched ?ehd_Unmatched ?ese_Unmatched ?ebm_Unmatched ?evs_Unmatched ?efl_Unmatched ?ecg_TooMany ?exL_TooMany ?esa_TooMany ?eex_TooMany ?ety_TooMany ?ekC_TooMany ?ei1_TooMany ?ei2_TooMany ?emr_TooMany ?esv_TooMany ?esu_TooMany ?elk_TooMany ?ehc_TooMany ?eno_TooMany ?eco_TooMany ?ece_TooMany ?ega_TooMany ?egg_TooMany ?ehd_TooMany ?ese_TooMany ?ebm_TooMany ?evs_TooMany ?efl_TooMany ?ccg_Thing ?cpg_Thing ?chd_Thing ?cpo_Thing ?csa_Thing ?ckl_Thing ?cmr_Thing ?cic_Thing ?cty_Thing ?csstr_Thing ?csint_Thing ?csbool_Thing ?cslist_Thing ?cstuple_Thing ?ctNoneType_Thing ?ctbool_Thing ?ctint_Thing ?ctstr_Thing ?ctlist_Thing ?cttuple_Thing ?ctdict_Thing ?cn0_Thing ?cn1_Thing ?cn2_Thing ?ccg_Program ?cpg_Program ?chd_Program ?cpo_Program ?csa_Program ?ckl_Program ?cmr_Program ?cic_Program ?cty_Program ?csstr_Program ?csint_Program ?csbool_Program ?cslist_Program ?cstuple_Program ?ctNoneType_Program ?ctbool_Program ?ctint_Program ?ctstr_Program ?ctlist_Program ?cttuple_Program ?ctdict_Program ?cn0_Program ?cn1_Program ?cn2_Program ?cn3_Program ?cn4_Program ?cn5_Program ?cn6_Program ?cn7_Program ?cmk_Program ?cii_Program ?cifn_Program ?cikc_Program ?cilk_Program ?cici_Program ?cikp_Program ?ra_QuietError ?smu
    case a0 => k_is
    case l0 => k_is
    case c0 => k_is
    case k0 => k_is
    case a1 => k_is
    case l1 => k_is
    case c1 => k_is
    case k1 => k_is
    case a2 => k_is
    case l2 => k_is
    case c2 => k_is
    case k2 => k_is
    case a3 => k_is
    case l3 => k_is
    case c3 => k_is
    case k3 => k_is
    case a4 => k_is
    case l4 => k_is
    case c4 => k_is
    case k4 => k_is
    case a5 => k_is
    case l5 => k_is
    case c5 => k_is
    case k5 => k_is
    case a6 => k_is
    case l6 => k_is
    case c6 => k_is
    case k6 => k_is
    case a7 => k_is
    case l7 => k_is
    case c7 => k_is
    case k7 => k_is
    case a8 => k_is
    case l8 => k_is
    case c8 => k_is
    case k8 => k_is
    case a9 => k_is
    case l9 => k_is
    case c9 => k_is
    case k9 => k_is
    case a10 => k_is
    case l10 => k_is
    case c10 => k_is
    case k10 => k_is
    case a11 => k_is
    case l11 => k_is
    case c11 => k_is
    case k11 => k_is
    case a12 => k_is
    case l12 => k_is
    case c12 => k_is
    case k12 => k_is
    case a13 => k_is
    case l13 => k_is
    case c13 => k_is
    case k13 => k_is
    case a14 => k_is
    case l14 => k_is
    case c14 => k_is
    case k14 => k_is
    case a15 => k_is
    case l15 => k_is
    case c15 => k_is
    case k15 => k_is
    case a16 => k_is
    case l16 => k_is
    case c16 => k_is
    case k16 => k_is
    case a17 => k_is
    case l17 => k_is
    case c17 => k_is
    case k17 => k_is
    case a18 => k_is
    case l18 => k_is
    case c18 => k_is
    case k18 => k_is
    case a19 => k_is
    case l19 => k_is
    case c19 => k_is
    case k19 => k_is
    case a20 => k_is
    case l20 => k_is
    case c20 => k_is
    case k20 => k_is
    case a21 => k_is
    case l21 => k_is
    case c21 => k_is
    case k21 => k_is
    case a22 => k_is
    case l22 => k_is
    case c22 => k_is
    case k22 => k_is
    case a23 => k_is
    case l23 => k_is
    case c23 => k_is
    case k23 => k_is
    case a24 => k_is
    case l24 => k_is
    case c24 => k_is
    case k24 => k_is
    case a25 => k_is
    case l25 => k_is
    case c25 => k_is
    case k25 => k_is
    case a26 => k_is
    case l26 => k_is
    case c26 => k_is
    case k26 => k_is
    case a27 => k_is
    case l27 => k_is
    case c27 => k_is
    case k27 => k_is
    case a28 => k_is
    case l28 => k_is
    case c28 => k_is
    case k28 => k_is
    case a29 => k_is
    case l29 => k_is
    case c29 => k_is
    case k29 => k_is
    case a30 => k_is
    case l30 => k_is
    case c30 => k_is
    case k30 => k_is
    case a31 => k_is
    case l31 => k_is
    case c31 => k_is
    case k31 => k_is
    case a32 => k_is
    case l32 => k_is
    case c32 => k_is
    case k32 => k_is
    case a33 => k_is
    case l33 => k_is
    case c33 => k_is
    case k33 => k_is
    case a34 => k_is
    case l34 => k_is
    case c34 => k_is
    case k34 => k_is
    case a35 => k_is
    case l35 => k_is
    case c35 => k_is
    case k35 => k_is
    case a36 => k_is
    case l36 => k_is
    case c36 => k_is
    case k36 => k_is
    case a37 => k_is
    case l37 => k_is
    case c37 => k_is
    case k37 => k_is
    case a38 => k_is
    case l38 => k_is
    case c38 => k_is
    case k38 => k_is
    case a39 => k_is
    case l39 => k_is
    case c39 => k_is
    case k39 => k_is
    case z_len => k_is
    case z_int => k_is
    case z_list => k_is
    case z_tuple => k_is
    case z_isi => k_is
    case z_range => k_is
    case z_all => k_is
    case z_any => k_is
    case z_str => k_is
    case z_bool => k_is
    case z_enum => k_is
    case z_zip => k_is
    case z_sum => k_is
    case z_max => k_is
    case z_min => k_is
    case z_sorted => k_is
    case z_set => k_is
    case z_dict => k_is
    case sa_LETTERS => k_is
    case ia_MOST_LETTERS => k_is
    case ia_MOST_ITEMS => k_is
    case ia_MOST_LOOKS => k_is
    case ia_MOST_THINGS => k_is
    case ia_MOST_PARTS => k_is
    case ia_MOST_ROWS => k_is
    case ia_MOST_BLOCKS => k_is
    case pa_FREE => k_is
    case pl_FREE => k_is
    case pv_FREE => rfl
    case pa_LOOKS => k_is
    case pl_LOOKS => k_is
    case pv_LOOKS => rfl
    case pa_UNSAID => k_is
    case pl_UNSAID => k_is
    case pv_UNSAID => rfl
    case pa_GATES => k_is
    case pl_GATES => k_is
    case pv_GATES => rfl
    case pa_ASSERTED => k_is
    case pl_ASSERTED => k_is
    case pv_ASSERTED => rfl
    case ta_DEEDS => k_is
    case tl_DEEDS => k_is
    case tw_DEEDS => first | rfl | k_is | decide +kernel
    case tk_DEEDS => repeat (first | exact True.intro | refine ⟨⟨_, rfl, rfl, L2.V.ref _, rfl, _root_.G.isK_tup (by k_is) rfl (by decide +kernel) (by decide)⟩, ?_⟩)
    case ta_PLAIN => k_is
    case tl_PLAIN => k_is
    case tw_PLAIN => first | rfl | k_is | decide +kernel
    case tk_PLAIN => repeat (first | exact True.intro | refine ⟨⟨_, rfl, rfl, L2.V.ref _, rfl, _root_.G.isK_tup (by k_is) rfl (by decide +kernel) (by decide)⟩, ?_⟩)
    case oq => k_is
    case z_super => k_is
    case gtc => k_is
    case tkc => k_is
    case tsup => first | rfl | decide +kernel
    case ecg_BadName => k_is
    case exL_BadName => k_is
    case esa_BadName => k_is
    case eex_BadName => k_is
    case ety_BadName => k_is
    case ekC_BadName => k_is
    case ei1_BadName => k_is
    case ei2_BadName => k_is
    case emr_BadName => k_is
    case esv_BadName => k_is
    case esu_BadName => ks_is
    case elk_BadName => k_is
    case ehc_BadName => k_is
    case eno_BadName => k_is
    case eco_BadName => k_is
    case ece_BadName => k_is
    case ega_BadName => k_is
    case egg_BadName => k_is
    case ehd_BadName => k_is
    case ese_BadName => k_is
    case ebm_BadName => first | rfl | decide +kernel
    case evs_BadName => rfl
    case efl_BadName => first | rfl | decide +kernel
    case ecg_BadRow => k_is
    case exL_BadRow => k_is
    case esa_BadRow => k_is
    case eex_BadRow => k_is
    case ety_BadRow => k_is
    case ekC_BadRow => k_is
    case ei1_BadRow => k_is
    case ei2_BadRow => k_is
    case emr_BadRow => k_is
    case esv_BadRow => k_is
    case esu_BadRow => ks_is
    case elk_BadRow => k_is
    case ehc_BadRow => k_is
    case eno_BadRow => k_is
    case eco_BadRow => k_is
    case ece_BadRow => k_is
    case ega_BadRow => k_is
    case egg_BadRow => k_is
    case ehd_BadRow => k_is
    case ese_BadRow => k_is
    case ebm_BadRow => first | rfl | decide +kernel
    case evs_BadRow => rfl
    case efl_BadRow => first | rfl | decide +kernel
    case ecg_NoThing => k_is
    case exL_NoThing => k_is
    case esa_NoThing => k_is
    case eex_NoThing => k_is
    case ety_NoThing => k_is
    case ekC_NoThing => k_is
    case ei1_NoThing => k_is
    case ei2_NoThing => k_is
    case emr_NoThing => k_is
    case esv_NoThing => k_is
    case esu_NoThing => ks_is
    case elk_NoThing => k_is
    case ehc_NoThing => k_is
    case eno_NoThing => k_is
    case eco_NoThing => k_is
    case ece_NoThing => k_is
    case ega_NoThing => k_is
    case egg_NoThing => k_is
    case ehd_NoThing => k_is
    case ese_NoThing => k_is
    case ebm_NoThing => first | rfl | decide +kernel
    case evs_NoThing => rfl
    case efl_NoThing => first | rfl | decide +kernel
    case ecg_NoKey => k_is
    case exL_NoKey => k_is
    case esa_NoKey => k_is
    case eex_NoKey => k_is
    case ety_NoKey => k_is
    case ekC_NoKey => k_is
    case ei1_NoKey => k_is
    case ei2_NoKey => k_is
    case emr_NoKey => k_is
    case esv_NoKey => k_is
    case esu_NoKey => ks_is
    case elk_NoKey => k_is
    case ehc_NoKey => k_is
    case eno_NoKey => k_is
    case eco_NoKey => k_is
    case ece_NoKey => k_is
    case ega_NoKey => k_is
    case egg_NoKey => k_is
    case ehd_NoKey => k_is
    case ese_NoKey => k_is
    case ebm_NoKey => first | rfl | decide +kernel
    case evs_NoKey => rfl
    case efl_NoKey => first | rfl | decide +kernel
    case ecg_NoPart => k_is
    case exL_NoPart => k_is
    case esa_NoPart => k_is
    case eex_NoPart => k_is
    case ety_NoPart => k_is
    case ekC_NoPart => k_is
    case ei1_NoPart => k_is
    case ei2_NoPart => k_is
    case emr_NoPart => k_is
    case esv_NoPart => k_is
    case esu_NoPart => ks_is
    case elk_NoPart => k_is
    case ehc_NoPart => k_is
    case eno_NoPart => k_is
    case eco_NoPart => k_is
    case ece_NoPart => k_is
    case ega_NoPart => k_is
    case egg_NoPart => k_is
    case ehd_NoPart => k_is
    case ese_NoPart => k_is
    case ebm_NoPart => first | rfl | decide +kernel
    case evs_NoPart => rfl
    case efl_NoPart => first | rfl | decide +kernel
    case ecg_Twice => k_is
    case exL_Twice => k_is
    case esa_Twice => k_is
    case eex_Twice => k_is
    case ety_Twice => k_is
    case ekC_Twice => k_is
    case ei1_Twice => k_is
    case ei2_Twice => k_is
    case emr_Twice => k_is
    case esv_Twice => k_is
    case esu_Twice => ks_is
    case elk_Twice => k_is
    case ehc_Twice => k_is
    case eno_Twice => k_is
    case eco_Twice => k_is
    case ece_Twice => k_is
    case ega_Twice => k_is
    case egg_Twice => k_is
    case ehd_Twice => k_is
    case ese_Twice => k_is
    case ebm_Twice => first | rfl | decide +kernel
    case evs_Twice => rfl
    case efl_Twice => first | rfl | decide +kernel
    case ecg_Unmatched => k_is
    case exL_Unmatched => k_is
    case esa_Unmatched => k_is
    case eex_Unmatched => k_is
    case ety_Unmatched => k_is
    case ekC_Unmatched => k_is
    case ei1_Unmatched => k_is
    case ei2_Unmatched => k_is
    case emr_Unmatched => k_is
    case esv_Unmatched => k_is
    case esu_Unmatched => ks_is
    case elk_Unmatched => k_is
    case ehc_Unmatched => k_is
    case eno_Unmatched => k_is
    case eco_Unmatched => k_is
    case ece_Unmatched => k_is
    case ega_Unmatched => k_is
    case egg_Unmatched => k_is
    case ehd_Unmatched => k_is
    case ese_Unmatched => k_is
    case ebm_Unmatched => first | rfl | decide +kernel
    case evs_Unmatched => rfl
    case efl_Unmatched => first | rfl | decide +kernel
    case ecg_TooMany => k_is
    case exL_TooMany => k_is
    case esa_TooMany => k_is
    case eex_TooMany => k_is
    case ety_TooMany => k_is
    case ekC_TooMany => k_is
    case ei1_TooMany => k_is
    case ei2_TooMany => k_is
    case emr_TooMany => k_is
    case esv_TooMany => k_is
    case esu_TooMany => ks_is
    case elk_TooMany => k_is
    case ehc_TooMany => k_is
    case eno_TooMany => k_is
    case eco_TooMany => k_is
    case ece_TooMany => k_is
    case ega_TooMany => k_is
    case egg_TooMany => k_is
    case ehd_TooMany => k_is
    case ese_TooMany => k_is
    case ebm_TooMany => first | rfl | decide +kernel
    case evs_TooMany => rfl
    case efl_TooMany => first | rfl | decide +kernel
    case ccg_Thing => k_is
    case cpg_Thing => k_is
    case chd_Thing => k_is
    case cpo_Thing => k_is
    case csa_Thing => k_is
    case ckl_Thing => k_is
    case cmr_Thing => k_is
    case cic_Thing => k_is
    case cty_Thing => k_is
    case csstr_Thing => k_is
    case csint_Thing => k_is
    case csbool_Thing => k_is
    case cslist_Thing => k_is
    case cstuple_Thing => k_is
    case ctNoneType_Thing => k_is
    case ctbool_Thing => k_is
    case ctint_Thing => k_is
    case ctstr_Thing => k_is
    case ctlist_Thing => k_is
    case cttuple_Thing => k_is
    case ctdict_Thing => k_is
    case cn0_Thing => k_is
    case cn1_Thing => k_is
    case cn2_Thing => k_is
    case ccg_Program => k_is
    case cpg_Program => k_is
    case chd_Program => k_is
    case cpo_Program => k_is
    case csa_Program => k_is
    case ckl_Program => k_is
    case cmr_Program => k_is
    case cic_Program => k_is
    case cty_Program => k_is
    case csstr_Program => k_is
    case csint_Program => k_is
    case csbool_Program => k_is
    case cslist_Program => k_is
    case cstuple_Program => k_is
    case ctNoneType_Program => k_is
    case ctbool_Program => k_is
    case ctint_Program => k_is
    case ctstr_Program => k_is
    case ctlist_Program => k_is
    case cttuple_Program => k_is
    case ctdict_Program => k_is
    case cn0_Program => k_is
    case cn1_Program => k_is
    case cn2_Program => k_is
    case cn3_Program => k_is
    case cn4_Program => k_is
    case cn5_Program => k_is
    case cn6_Program => k_is
    case cn7_Program => k_is
    case cmk_Program => k_is
    case cii_Program => k_is
    case cifn_Program => k_is
    case cikc_Program => k_is
    case cilk_Program => k_is
    case cici_Program => k_is
    case cikp_Program => k_is
    case ra_QuietError => k_is
    case smu => k_is
