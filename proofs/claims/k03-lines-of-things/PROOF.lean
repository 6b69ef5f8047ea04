import PyProof.Rows.All
import Wide.All
import OpenK.AllK
import Wide.FinOn
import HandS.Base
import HandS.Call
import HandS.List
import HandS.Comp
import HandS.Ends
import HandS.Dict
import HandS.Iter
import HandS.Text
import HandS.Deep
import HandS.IsInst
import HandS.Star
import HandS.Words
import HandS.Wide
import HandS.Exc
import HandS.More
import HandS.TupAny
import KE.KUnpackStar
import HandS.ForMost
import HandS.ForExc
import HandS.Zip
import PyProof.RulesMatch
import KE.KExcSuper
import HandS.ExcInit
import HandS.ClsMeth
import HandS.SlotsOwn
import HandS.TryMany
import HandS.WordsExc
import HandS.ExcField
import PyProof.InstNe
import HandS.Defaults
import HandS.ExcIs
import KE.RegKSuper
import KE.KCallOwn
import HandS.Evl
import PySem.Challenge.RW_quietprobes_k03_lines_of_things
set_option Elab.async false
set_option linter.all false
set_option maxRecDepth 100000
set_option autoImplicit false
/-! A layer of our own over the hand layer: readings over data (D), slots of data, and one assertion of the heap (Rs). -/
namespace G
open PySem PySem.Spec L2

/-- a value told as data; adr: an address of which the assertion speaks -/
inductive D where
  | non | bl (b : Bool) | int (i : Int) | str (x : Str) | adr (a : Addr) | lst (ds : List D) | tup (ds : List D)
  /-- an instance that stays as it is: its class, its fields' names, what they hold -/
  | ins (C : Addr) (fs : List Str) (ds : List D)
  /-- a dict that stays as it is -/
  | dct (ks : List Key) (ds : List D)

/-- a text whose signs are signs, and that isn't long -/
def sok (x : Str) : Prop := PyData.strOk x = true ∧ x.length ≤ 1000000
def ks6 : List String := ["NoneType", "bool", "int", "str", "list", "tuple", "dict"]
def ks5 : List String := ["str", "int", "bool", "list", "tuple"]
/-- a class whose fields are plainly read and stored, none of these names being the class's own -/
structure Plain (K : PySem.W.Frag) (C : Addr) : Prop where
  cls : Cls K C
  kls : PySem.W.findIn K (.ref C) "__class__" = some (some (.builtin "object.__class__"))
  get : PySem.W.specialIn K (.builtin "object.__class__") "__get__" = some (some (.builtin "getset_descriptor.__get__"))
  tak : PySem.W.takesIn K (.builtin "object.__class__") = some true
  mro : PySem.W.mroIn K C (.type "object") = some true
  sub : ∀ T ∈ ks5, PySem.W.subIn K (.ref C) (.type T) = some false
structure Good (K : PySem.W.Frag) (C : Addr) (fs : List Str) : Prop where
  p : Plain K C
  no : ∀ f ∈ fs, NoAttr K C f
theorem Good.cls {K : PySem.W.Frag} {C : Addr} {fs : List Str} (g : Good K C fs) : Cls K C := g.p.cls
/-- what may be changed, and is data while nobody owns it -/
def Dat : HO → Prop
  | .lst _ => True
  | .ins _ _ _ => True
  | .dK _ => True
  | _ => False
mutual
/-- v is d in the heap H; no list, dict, instance of it is among M -/
inductive Is (K : PySem.W.Frag) (M : Addr → Prop) (H : Hp) : V → D → Prop
  | non : Is K M H .non .non
  | bl (b : Bool) : Is K M H (.bl b) (.bl b)
  | int (i : Int) : Is K M H (.int i) (.int i)
  | str {x : Str} : sok x → Is K M H (.str x) (.str x)
  | adr (a : Addr) : Is K M H (.ref a) (.adr a)
  | lst {a : Addr} {xs : List V} {ds : List D} : ¬ M a → H a = some (.lst xs) → IsAll K M H xs ds → Is K M H (.ref a) (.lst ds)
  | tup {a : Addr} {xs : List V} {ds : List D} : SqT K H a xs → IsAll K M H xs ds → Is K M H (.ref a) (.tup ds)
  | ins {a C dx : Addr} {kvs : List (Str × V)} {fs : List Str} {ds : List D} : ¬ M a → H a = some (.ins C dx kvs) → kvs.map (·.1) = fs → Good K C fs → IsAll K M H (kvs.map (·.2)) ds → Is K M H (.ref a) (.ins C fs ds)
  | dct {a : Addr} {kvs : List (Key × V)} {ks : List Key} {ds : List D} : ¬ M a → H a = some (.dK kvs) → kvs.map (·.1) = ks → IsAll K M H (kvs.map (·.2)) ds → Is K M H (.ref a) (.dct ks ds)
inductive IsAll (K : PySem.W.Frag) (M : Addr → Prop) (H : Hp) : List V → List D → Prop
  | nil : IsAll K M H [] []
  | cons {v : V} {vs : List V} {d : D} {ds : List D} : Is K M H v d → IsAll K M H vs ds → IsAll K M H (v :: vs) (d :: ds)
end
section
variable {K : PySem.W.Frag} {M M' : Addr → Prop} {H H' : Hp}
mutual
theorem Is.go (hl : ∀ a o, Dat o → ¬ M a → H a = some o → ¬ M' a ∧ H' a = some o) (ht : ∀ a xs, SqT K H a xs → SqT K H' a xs) : ∀ (d : D) (v : V), Is K M H v d → Is K M' H' v d
  | .non, _, h => by cases h; exact .non
  | .bl b, _, h => by cases h; exact .bl b
  | .int i, _, h => by cases h; exact .int i
  | .str x, _, h => by cases h with | str o => exact .str o
  | .adr a, _, h => by cases h; exact .adr a
  | .lst ds, _, h => by
    cases h with
    | lst n s h => exact .lst (hl _ (.lst _) True.intro n s).1 (hl _ (.lst _) True.intro n s).2 (IsAll.go hl ht ds _ h)
  | .tup ds, _, h => by
    cases h with
    | tup s h => exact .tup (ht _ _ s) (IsAll.go hl ht ds _ h)
  | .ins C fs ds, _, h => by
    cases h with
    | ins n s e g h => exact .ins (hl _ (.ins _ _ _) True.intro n s).1 (hl _ (.ins _ _ _) True.intro n s).2 e g (IsAll.go hl ht ds _ h)
  | .dct ks ds, _, h => by
    cases h with
    | dct n s e h => exact .dct (hl _ (.dK _) True.intro n s).1 (hl _ (.dK _) True.intro n s).2 e (IsAll.go hl ht ds _ h)
theorem IsAll.go (hl : ∀ a o, Dat o → ¬ M a → H a = some o → ¬ M' a ∧ H' a = some o) (ht : ∀ a xs, SqT K H a xs → SqT K H' a xs) : ∀ (ds : List D) (vs : List V), IsAll K M H vs ds → IsAll K M' H' vs ds
  | [], _, h => by cases h; exact .nil
  | d :: ds, _, h => by
    cases h with
    | cons h1 h2 => exact .cons (Is.go hl ht d _ h1) (IsAll.go hl ht ds _ h2)
end
theorem IsAll.length : ∀ {vs : List V} {ds : List D}, IsAll K M H vs ds → vs.length = ds.length
  | _, _, .nil => rfl
  | _, _, .cons _ h => by rw [List.length_cons, List.length_cons, IsAll.length h]
theorem IsAll.get : ∀ {vs : List V} {ds : List D} {i : Nat} {v : V}, IsAll K M H vs ds → vs[i]? = some v → ∃ d, ds[i]? = some d ∧ Is K M H v d
  | _, _, i, v, .nil, e => by simp at e
  | _, _, 0, v, .cons h _, e => by simp at e; subst e; exact ⟨_, rfl, h⟩
  | _, _, i + 1, v, .cons _ t, e => by
    obtain ⟨d, h1, h2⟩ := IsAll.get (i := i) (v := v) t (by simpa using e)
    exact ⟨d, by simpa using h1, h2⟩
theorem IsAll.getD : ∀ {vs : List V} {ds : List D} {i : Nat} {d : D}, IsAll K M H vs ds → ds[i]? = some d → ∃ v, vs[i]? = some v ∧ Is K M H v d
  | _, _, i, v, .nil, e => by simp at e
  | _, _, 0, v, .cons h _, e => by simp at e; subst e; exact ⟨_, rfl, h⟩
  | _, _, i + 1, d, .cons _ t, e => by
    obtain ⟨v, h1, h2⟩ := IsAll.getD (i := i) (d := d) t (by simpa using e)
    exact ⟨v, by simpa using h1, h2⟩
theorem IsAll.append : ∀ {vs ws : List V} {ds es : List D}, IsAll K M H vs ds → IsAll K M H ws es → IsAll K M H (vs ++ ws) (ds ++ es)
  | _, _, _, _, .nil, s => s
  | _, _, _, _, .cons r t, s => .cons r (IsAll.append t s)
theorem IsAll.take : ∀ {vs : List V} {ds : List D} (n : Nat), IsAll K M H vs ds → IsAll K M H (vs.take n) (ds.take n)
  | _, _, 0, _ => .nil
  | _, _, _ + 1, .nil => .nil
  | _, _, n + 1, .cons r t => .cons r (IsAll.take n t)
theorem IsAll.drop : ∀ {vs : List V} {ds : List D} (n : Nat), IsAll K M H vs ds → IsAll K M H (vs.drop n) (ds.drop n)
  | _, _, 0, r => r
  | _, _, _ + 1, .nil => .nil
  | _, _, n + 1, .cons r t => IsAll.drop n t
theorem IsAll.rev : ∀ {vs : List V} {ds : List D}, IsAll K M H vs ds → IsAll K M H vs.reverse ds.reverse
  | _, _, .nil => .nil
  | _, _, .cons r t => by rw [List.reverse_cons, List.reverse_cons]; exact (IsAll.rev t).append (.cons r .nil)
theorem IsAll.of_map {α : Type} {f : α → V} {g : α → D} : ∀ {l : List α}, (∀ x ∈ l, Is K M H (f x) (g x)) → IsAll K M H (l.map f) (l.map g)
  | [], _ => .nil
  | x :: l, h => .cons (h x List.mem_cons_self) (IsAll.of_map fun y hy => h y (List.mem_cons_of_mem _ hy))
end

def Ext (H H' : Hp) : Prop := ∀ b o, H b = some o → H' b = some o
theorem Ext.refl (H : Hp) : Ext H H := fun _ _ h => h
theorem Ext.new {H : Hp} {p : Addr} {o : HO} (h : H p = none) : Ext H (upd H p o) := fun a u e => by
  rw [upd_ne (ne_of_none e h)]
  exact e
theorem Ext.sql {K : PySem.W.Frag} {H H' : Hp} (e : Ext H H') {a : Addr} {xs : List V} (h : SqL K H a xs) : SqL K H' a xs := by
  rcases h with (h | ⟨o, h⟩) | h
  · exact .inl (.inl (e _ _ h))
  · exact .inl (.inr ⟨o, e _ _ h⟩)
  · exact .inr h
theorem Ext.sqt {K : PySem.W.Frag} {H H' : Hp} (e : Ext H H') {a : Addr} {xs : List V} (h : SqT K H a xs) : SqT K H' a xs := by
  rcases h with (h | ⟨o, h⟩) | h
  · exact .inl (.inl (e _ _ h))
  · exact .inl (.inr ⟨o, e _ _ h⟩)
  · exact .inr h


theorem is_ext {K : PySem.W.Frag} {N : Addr → Prop} {H H' : Hp} (e : Ext H H') (v : V) (d : D) (h : Is K N H v d) : Is K N H' v d := Is.go (fun a o _ n s => ⟨n, e _ _ s⟩) (fun a xs s => e.sqt s) d v h
theorem is_anti {K : PySem.W.Frag} {N N' : Addr → Prop} {H : Hp} (e : ∀ a, N' a → N a) {v : V} {d : D} (h : Is K N H v d) : Is K N' H v d := Is.go (fun a o _ n s => ⟨fun z => n (e a z), s⟩) (fun a xs s => s) d v h
/-- nothing that may be changed stands there -/
def NoDat (H : Hp) (p : Addr) : Prop := ∀ o, H p = some o → ¬ Dat o
theorem nodat {H : Hp} {p : Addr} (hp : H p = none) : NoDat H p := fun o e => by rw [hp] at e; cases e
theorem is_growD {K : PySem.W.Frag} {N : Addr → Prop} {H : Hp} {p : Addr} (hp : NoDat H p) {v : V} {d : D} (h : Is K N H v d) : Is K (fun a => N a ∨ a = p) H v d :=
  Is.go (fun a o dt n s => ⟨fun z => z.elim n fun e => (by rw [e] at s; exact hp o s dt), s⟩) (fun a xs s => s) d v h
theorem is_grow {K : PySem.W.Frag} {N : Addr → Prop} {H : Hp} {p : Addr} (hp : H p = none) {v : V} {d : D} (h : Is K N H v d) : Is K (fun a => N a ∨ a = p) H v d := is_growD (nodat hp) h
theorem all_of {K : PySem.W.Frag} {N N' : Addr → Prop} {H H' : Hp} (f : ∀ v d, Is K N H v d → Is K N' H' v d) : ∀ {vs : List V} {ds : List D}, IsAll K N H vs ds → IsAll K N' H' vs ds
  | _, _, .nil => .nil
  | _, _, .cons h t => .cons (f _ _ h) (all_of f t)
/-- a piece of what the heap is known to hold: it owns the objects at M, and speaks besides of data alone -/
structure At where
  M : Addr → Prop
  R : PySem.W.Frag → (Addr → Prop) → Hp → Prop
  loc : ∀ {K : PySem.W.Frag} {N : Addr → Prop} {H H' : Hp}, (∀ b o, M b → H b = some o → H' b = some o) → (∀ v d, Is K N H v d → Is K N H' v d) → R K N H → R K N H'
  anti : ∀ {K : PySem.W.Frag} {N N' : Addr → Prop} {H : Hp}, (∀ a, N' a → N a) → R K N H → R K N' H
  grow : ∀ {K : PySem.W.Frag} {N : Addr → Prop} {H : Hp} {p : Addr}, NoDat H p → R K N H → R K (fun a => N a ∨ a = p) H
  al : ∀ {K : PySem.W.Frag} {N : Addr → Prop} {H : Hp}, R K N H → ∀ a, M a → ∃ o, H a = some o
abbrev Rs := List (At)
section
variable {K : PySem.W.Frag}
def mem : Rs → Addr → Prop
  | [], _ => False
  | t :: r, a => t.M a ∨ mem r a
def hold (K : PySem.W.Frag) (N : Addr → Prop) : Rs → Hp → Prop
  | [], _ => True
  | t :: r, H => t.R K N H ∧ (∀ a, t.M a → ¬ mem r a) ∧ hold K N r H
theorem hold_ext {N : Addr → Prop} {H H' : Hp} (e : Ext H H') : ∀ {r : Rs}, hold K N r H → hold K N r H'
  | [], _ => True.intro
  | t :: r, h => ⟨t.loc (fun b o _ q => e b o q) (is_ext e) h.1, h.2.1, hold_ext e h.2.2⟩
theorem hold_loc {N : Addr → Prop} {H H' : Hp} : ∀ {r : Rs}, (∀ b o, mem r b → H b = some o → H' b = some o) → (∀ v d, Is K N H v d → Is K N H' v d) → hold K N r H → hold K N r H'
  | [], _, _, _ => True.intro
  | t :: r, f, g, h => ⟨t.loc (fun b o z q => f b o (.inl z) q) g h.1, h.2.1, hold_loc (fun b o z q => f b o (.inr z) q) g h.2.2⟩
theorem hold_anti {N N' : Addr → Prop} {H : Hp} (e : ∀ a, N' a → N a) : ∀ {r : Rs}, hold K N r H → hold K N' r H
  | [], _ => True.intro
  | t :: r, h => ⟨t.anti e h.1, h.2.1, hold_anti e h.2.2⟩
theorem hold_growD {N : Addr → Prop} {H : Hp} {p : Addr} (hp : NoDat H p) : ∀ {r : Rs}, hold K N r H → hold K (fun a => N a ∨ a = p) r H
  | [], _ => True.intro
  | t :: r, h => ⟨t.grow hp h.1, h.2.1, hold_growD hp h.2.2⟩
theorem hold_grow {N : Addr → Prop} {H : Hp} {p : Addr} (hp : H p = none) {r : Rs} (h : hold K N r H) : hold K (fun a => N a ∨ a = p) r H := hold_growD (nodat hp) h
theorem hold_al {N : Addr → Prop} {H : Hp} : ∀ {r : Rs}, hold K N r H → ∀ a, mem r a → ∃ o, H a = some o
  | [], _, _, z => z.elim
  | t :: r, h, a, .inl z => t.al h.1 a z
  | t :: r, h, a, .inr z => hold_al h.2.2 a z
theorem mem_append {r r' : Rs} {a : Addr} : mem (r ++ r') a ↔ mem r a ∨ mem r' a := by
  induction r with
  | nil => exact ⟨.inr, fun z => z.elim False.elim id⟩
  | cons t r ih =>
    show (t.M a ∨ mem (r ++ r') a) ↔ ((t.M a ∨ mem r a) ∨ mem r' a)
    rw [ih, or_assoc]
theorem hold_append {N : Addr → Prop} {r r' : Rs} {H : Hp} : hold K N (r ++ r') H ↔ hold K N r H ∧ hold K N r' H ∧ ∀ a, mem r a → ¬ mem r' a := by
  induction r with
  | nil => exact ⟨fun h => ⟨True.intro, h, fun _ z => z.elim⟩, fun h => h.2.1⟩
  | cons t r ih =>
    constructor
    · rintro ⟨h1, h2, h3⟩
      obtain ⟨i1, i2, i3⟩ := ih.mp h3
      exact ⟨⟨h1, fun a z y => h2 a z (mem_append.mpr (.inl y)), i1⟩, i2, fun a z => z.elim (fun z y => h2 a z (mem_append.mpr (.inr y))) (i3 a)⟩
    · rintro ⟨⟨h1, h2, h3⟩, h4, h5⟩
      exact ⟨h1, fun a z y => (mem_append.mp y).elim (h2 a z) (h5 a (.inl z)), ih.mpr ⟨h3, h4, fun a z => h5 a (.inr z)⟩⟩
def At.id : At := ⟨fun _ => False, fun _ _ _ => True, fun _ _ _ => True.intro, fun _ _ => True.intro, fun _ _ => True.intro, fun _ _ z => z.elim⟩
/-- a list of our own at l that is being filled -/
def lstA (l : Addr) (ds : List D) : At where
  M := fun a => a = l
  R := fun K N H => ∃ vs, H l = some (.lst vs) ∧ IsAll K N H vs ds
  loc := fun f g ⟨vs, h, i⟩ => ⟨vs, f _ _ rfl h, all_of g i⟩
  anti := fun e ⟨vs, h, i⟩ => ⟨vs, h, all_of (fun _ _ => is_anti e) i⟩
  grow := fun hp ⟨vs, h, i⟩ => ⟨vs, h, all_of (fun _ _ => is_growD hp) i⟩
  al := fun ⟨vs, h, _⟩ a z => ⟨.lst vs, by rw [show a = l from z]; exact h⟩
end
/-- what r tells is so -/
def Rok (K : PySem.W.Frag) (r : Rs) (H : Hp) : Prop := hold K (mem r) r H
theorem Rok.ext {K : PySem.W.Frag} {r : Rs} {H H' : Hp} (h : Rok K r H) (e : Ext H H') : Rok K r H' := hold_ext e h
/-- all data stand as they stood -/
def Kp (K : PySem.W.Frag) (r : Rs) (H : Hp) (r' : Rs) (H' : Hp) : Prop := ∀ v d, Is K (mem r) H v d → Is K (mem r') H' v d
section
variable {K : PySem.W.Frag} {r r' r1 r2 : Rs} {H H' H1 H2 : Hp}
theorem Kp.refl : Kp K r H r H := fun _ _ h => h
theorem Kp.trans (a : Kp K r H r1 H1) (b : Kp K r1 H1 r2 H2) : Kp K r H r2 H2 := fun v d h => b v d (a v d h)
theorem Kp.ext (e : Ext H H') : Kp K r H r H' := is_ext e
theorem Kp.all (k : Kp K r H r' H') {vs : List V} {ds : List D} (h : IsAll K (mem r) H vs ds) : IsAll K (mem r') H' vs ds := all_of k h
/-- r knows more than r' -/
structure le (r r' : Rs) : Prop where
  m : ∀ a, mem r' a → mem r a
  r : ∀ K H, Rok K r H → Rok K r' H
theorem le.refl : le r r := ⟨fun _ h => h, fun _ _ h => h⟩
theorem le.trans (a : le r r1) (b : le r1 r2) : le r r2 := ⟨fun x h => a.m x (b.m x h), fun K H h => b.r K H (a.r K H h)⟩
theorem le.kp (l : le r r') : Kp K r H r' H := fun _ _ h => is_anti l.m h
theorem le.drop {t : Rs} : le (r ++ t) r := ⟨fun a h => mem_append.mpr (.inl h), fun K H h => hold_anti (fun a z => mem_append.mpr (.inl z)) (hold_append.mp h).1⟩
end

abbrev Dl := List (Option D)
def lk : Dl → Nat → Option D
  | [], _ => none
  | x :: _, 0 => x
  | _ :: l, n + 1 => lk l n
theorem lk_get : ∀ {δ : Dl} {i : Nat} {d : D}, lk δ i = some d → δ[i]? = some (some d)
  | [], i, d, h => by simp [lk] at h
  | x :: l, 0, d, h => by simp only [lk] at h; simp [h]
  | x :: l, n + 1, d, h => by
    simp only [lk] at h
    have := lk_get h
    simpa using this
/-- the names' slots hold the data -/
structure Okb (K : PySem.W.Frag) (r : Rs) (δ : Dl) (σ : St) (H : Hp) : Prop where
  env : ∀ (i : Nat) (d : D), δ[i]? = some (some d) → ∃ v, σ[i]? = some (some v) ∧ Is K (mem r) H v d
  r : Rok K r H
  len : δ.length = σ.length
theorem Okb.step {K : PySem.W.Frag} {r r' : Rs} {δ : Dl} {σ : St} {H H' : Hp} (o : Okb K r δ σ H) (k : Kp K r H r' H') (hr : Rok K r' H') : Okb K r' δ σ H' :=
  ⟨fun i d e => let ⟨v, h1, h2⟩ := o.env i d e; ⟨v, h1, k v d h2⟩, hr, o.len⟩
theorem Okb.set {K : PySem.W.Frag} {r : Rs} {δ : Dl} {σ : St} {H : Hp} (o : Okb K r δ σ H) {i : Nat} {v : V} {d : D} (h : Is K (mem r) H v d) : Okb K r (δ.set i (some d)) (σ.set i (some v)) H := by
  refine ⟨fun j e he => ?_, o.r, by rw [List.length_set, List.length_set]; exact o.len⟩
  by_cases hj : j = i
  · subst hj
    have hl : j < δ.length := by
      have := (List.getElem?_eq_some_iff.mp he).1
      rwa [List.length_set] at this
    rw [List.getElem?_set_self hl] at he
    cases he
    exact ⟨v, List.getElem?_set_self (o.len ▸ hl), h⟩
  · rw [List.getElem?_set_ne (Ne.symm hj)] at he ⊢
    exact o.env j e he
theorem Okb.drop {K : PySem.W.Frag} {r : Rs} {δ : Dl} {σ : St} {H : Hp} (o : Okb K r δ σ H) {i : Nat} : Okb K r (δ.set i none) (σ.set i none) H := by
  refine ⟨fun j e he => ?_, o.r, by rw [List.length_set, List.length_set]; exact o.len⟩
  by_cases hj : j = i
  · subst hj
    have hl : j < δ.length := by
      have := (List.getElem?_eq_some_iff.mp he).1
      rwa [List.length_set] at this
    rw [List.getElem?_set_self hl] at he
    cases he
  · rw [List.getElem?_set_ne (Ne.symm hj)] at he ⊢
    exact o.env j e he

/-- what is told of an exception: its class, its fields' names, what they hold; the slots, the pieces -/
abbrev XT := Addr → List Str → List D → Dl → Rs → Prop
/-- an exception's own dict -/
def ExAt (K : PySem.W.Frag) (r : Rs) (H : Hp) (a : Option Addr) (fs : List Str) (ds : List D) : Prop := match a with
  | some a => ¬ mem r a ∧ ∃ kvs : List (Str × V), H a = some (.xd kvs) ∧ kvs.map Prod.fst = fs ∧ IsAll K (mem r) H (kvs.map Prod.snd) ds
  | none => fs = [] ∧ ds = []
/-- what is wanted where an exception leaves -/
def Xc (K : PySem.W.Frag) (W : WX) (XR : XT) (r : Rs) (H : Hp) : Prop := ∀ C fs ds δ' r' σ' a H', XR C fs ds δ' r' → Okb K r' δ' σ' H' → Kp K r H r' H' → ExAt K r' H' a fs ds → W (.ref C) a σ' H'
theorem Xc.step {K : PySem.W.Frag} {W : WX} {XR : XT} {r r' : Rs} {H H' : Hp} (x : Xc K W XR r H) (k : Kp K r H r' H') : Xc K W XR r' H' := fun C fs ds δ' r2 σ' a H2 q o k2 e => x C fs ds δ' r2 σ' a H2 q o (k.trans k2) e
structure Ok (K : PySem.W.Frag) (W : WX) (XR : XT) (r : Rs) (δ : Dl) (σ : St) (H : Hp) : Prop where
  b : Okb K r δ σ H
  x : Xc K W XR r H
theorem Ok.r {K : PySem.W.Frag} {W : WX} {XR : XT} {p : Rs} {δ : Dl} {σ : St} {H : Hp} (o : Ok K W XR p δ σ H) : Rok K p H := o.b.r
section
variable {K : PySem.W.Frag} {W : WX} {XR : XT} {r r' : Rs} {δ : Dl} {σ : St} {H H' : Hp}
theorem Ok.env (o : Ok K W XR r δ σ H) : ∀ (i : Nat) (d : D), δ[i]? = some (some d) → ∃ v, σ[i]? = some (some v) ∧ Is K (mem r) H v d := o.b.env
theorem Ok.len (o : Ok K W XR r δ σ H) : δ.length = σ.length := o.b.len
theorem Ok.step (o : Ok K W XR r δ σ H) (k : Kp K r H r' H') (hr : Rok K r' H') : Ok K W XR r' δ σ H' := ⟨o.b.step k hr, o.x.step k⟩
theorem Ok.set (o : Ok K W XR r δ σ H) {i : Nat} {v : V} {d : D} (h : Is K (mem r) H v d) : Ok K W XR r (δ.set i (some d)) (σ.set i (some v)) H := ⟨o.b.set h, o.x⟩
theorem Ok.drop (o : Ok K W XR r δ σ H) {i : Nat} : Ok K W XR r (δ.set i none) (σ.set i none) H := ⟨o.b.drop, o.x⟩
end

abbrev PK1 := D → Rs → Prop
/-- readings over data: of an expression, of arguments, of a test -/
abbrev AT := XT → Dl → Rs → PK1 → Prop
abbrev AL := XT → Dl → Rs → (List D → Rs → Prop) → Prop
abbrev AB := XT → Dl → Rs → (Bool → Rs → Prop) → Prop
def TD (K : PySem.W.Frag) (W : WX) (t : AT) : TE := fun σ H Q => ∃ XR δ r P, Ok K W XR r δ σ H ∧ t XR δ r P ∧ ∀ d r' v H', P d r' → Ok K W XR r' δ σ H' → Kp K r H r' H' → Is K (mem r') H' v d → Q v H'
def TDL (K : PySem.W.Frag) (W : WX) (t : AL) : TA := fun σ H Q => ∃ XR δ r P, Ok K W XR r δ σ H ∧ t XR δ r P ∧ ∀ ds r' vs H', P ds r' → Ok K W XR r' δ σ H' → Kp K r H r' H' → IsAll K (mem r') H' vs ds → Q vs H'
def TDB (K : PySem.W.Frag) (W : WX) (t : AB) : TT := fun σ H Q => ∃ XR δ r P, Ok K W XR r δ σ H ∧ t XR δ r P ∧ ∀ b r' H', P b r' → Ok K W XR r' δ σ H' → Kp K r H r' H' → Q b H'
def PD (X : Cx) (W : WX) (e : Expr) (t : AT) : Prop := PE X e (TD X.K W t)
def PDL (X : Cx) (W : WX) (es : List Expr) (t : AL) : Prop := PA X es (TDL X.K W t)
def PDB (X : Cx) (W : WX) (e : Expr) (t : AB) : Prop := PT X e (TDB X.K W t)
def PDW (X : Cx) (W : WX) (e : Expr) (t : AB) : Prop := PW X e (TDB X.K W t)
theorem imE {X : Cx} {e : Expr} {t t' : TE} (h : PE X e t) (i : ∀ σ H Q, t' σ H Q → t σ H Q) : PE X e t' := ⟨fun pins s σ H Q I q => h.run pins s σ H Q I (i σ H Q q)⟩
theorem imA {X : Cx} {e : List Expr} {t t' : TA} (h : PA X e t) (i : ∀ σ H Q, t' σ H Q → t σ H Q) : PA X e t' := ⟨fun pos pins s σ H Q I q => h.run pos pins s σ H Q I (i σ H Q q)⟩
theorem imT {X : Cx} {e : Expr} {t t' : TT} (h : PT X e t) (i : ∀ σ H Q, t' σ H Q → t σ H Q) : PT X e t' := ⟨fun pins s σ H Q I q => h.run pins s σ H Q I (i σ H Q q)⟩
theorem imW {X : Cx} {e : Expr} {t t' : TT} (h : PW X e t) (i : ∀ σ H Q, t' σ H Q → t σ H Q) : PW X e t' := ⟨fun wh pins s σ H Q I q => h.run wh pins s σ H Q I (i σ H Q q)⟩
theorem imS {X : Cx} {e : Stmt} {t t' : TS} (h : PS X e t) (i : ∀ D σ H, t' D σ H → t D σ H) : PS X e t' := ⟨fun pins s σ H D I q => h.run pins s σ H D I (i D σ H q)⟩
theorem imSs {X : Cx} {e : List Stmt} {t t' : TS} (h : PSs X e t) (i : ∀ D σ H, t' D σ H → t D σ H) : PSs X e t' := ⟨fun pins s σ H D I q => h.run pins s σ H D I (i D σ H q)⟩

/-! ### expressions -/
def aVar (i : Nat) : AT := fun x δ r P => match lk δ i with | some d => P d r | none => False
def aC (d : D) : AT := fun x _ r P => P d r
section
variable {X : Cx} {W : WX}
theorem td_var {K : PySem.W.Frag} {W : WX} {i : Nat} {σ : St} {H : Hp} {Q : VK} (q : TD K W (aVar i) σ H Q) : tVar i σ H Q := by
  obtain ⟨XR, δ, r, P, o, h, k⟩ := q
  unfold aVar at h
  split at h
  · rename_i d hd
    obtain ⟨v, h1, h2⟩ := o.env i d (lk_get hd)
    exact ⟨v, h1, k d r v H h o Kp.refl h2⟩
  · exact h.elim
theorem dv (i : Nat) {x : Str} {pos : Pos} (hN : X.N[i]? = some x := by rfl) (hv : Vis X.env.scope x := by first | exact Or.inl rfl | exact Or.inr (Or.inl rfl) | exact Or.inr (Or.inr rfl)) (hd : (x == ("__debug__" : Str)) = false := by decide)
    (hcd : (x == ("__classdict__" : Str)) = false := by decide) : PD X W (.Name x pos) (aVar i) := imE (pe_var hN hv hd hcd) fun _ _ _ q => td_var q
theorem td_c {K : PySem.W.Frag} {W : WX} {d : D} {v : V} {σ : St} {H : Hp} {Q : VK} (hv : ∀ M H, Is K M H v d) (q : TD K W (aC d) σ H Q) : tC v σ H Q := by
  obtain ⟨XR, δ, r, P, o, h, k⟩ := q
  exact k d r v H h o Kp.refl (hv _ _)
theorem d_int {i j pos} : PD X W (.Constant (.int i) j pos) (aC (.int i)) := imE pe_int fun _ _ _ q => td_c (fun _ _ => .int i) q
theorem d_bl {i j pos} : PD X W (.Constant (.bool i) j pos) (aC (.bl i)) := imE pe_bl fun _ _ _ q => td_c (fun _ _ => .bl i) q
theorem d_non {j pos} : PD X W (.Constant .none j pos) (aC .non) := imE pe_non fun _ _ _ q => td_c (fun _ _ => .non) q
def sokB (x : Str) : Bool := PyData.strOk x && decide (x.length ≤ 1000000)
theorem sok_of {x : Str} (h : sokB x = true) : sok x := by
  unfold sokB at h
  rw [Bool.and_eq_true, decide_eq_true_eq] at h
  exact h
theorem d_str {x j pos} (h : sokB x = true := by decide +kernel) : PD X W (.Constant (.str x) j pos) (aC (.str x)) := imE pe_str fun _ _ _ q => td_c (fun _ _ => .str (sok_of h)) q
/-- a constant of the module: a text, a number -/
theorem d_glob {x : Str} {v : V} {d : D} {u : Value} {pos : Pos} (hg : Gl X x) (hm : X.mg x = some u) (r : RelV v u) (hd : ∀ M H, Is X.K M H v d) (hdb : (x == ("__debug__" : Str)) = false := by decide) : PD X W (.Name x pos) (aC d) :=
  imE (pe_glob hg hm r hdb) fun _ _ _ q => td_c hd q

/-! ### argument lists, displays -/
def aNil : AL := fun x _ r P => P [] r
def aCons (t : AT) (l : AL) : AL := fun x δ r P => t x δ r fun d r1 => l x δ r1 fun ds r2 => P (d :: ds) r2
theorem dl_nil : PDL X W [] aNil := imA pa_nil fun σ H Q q => by
  obtain ⟨XR, δ, r, P, o, h, k⟩ := q
  exact k [] r [] H h o Kp.refl .nil
theorem td_bind {K : PySem.W.Frag} {W : WX} {XR : XT} {σ : St} {H : Hp} {δ : Dl} {r : Rs} {t : AT} {P : PK1} {Q : VK} (o : Ok K W XR r δ σ H) (h : t XR δ r P) (k : ∀ d r' v H', P d r' → Ok K W XR r' δ σ H' → Kp K r H r' H' → Is K (mem r') H' v d → Q v H') : TD K W t σ H Q := ⟨XR, δ, r, P, o, h, k⟩
theorem tdl_bind {K : PySem.W.Frag} {W : WX} {XR : XT} {σ : St} {H : Hp} {δ : Dl} {r : Rs} {t : AL} {P : List D → Rs → Prop} {Q : List V → Hp → Prop} (o : Ok K W XR r δ σ H) (h : t XR δ r P) (k : ∀ d r' v H', P d r' → Ok K W XR r' δ σ H' → Kp K r H r' H' → IsAll K (mem r') H' v d → Q v H') : TDL K W t σ H Q := ⟨XR, δ, r, P, o, h, k⟩
theorem dl_cons {e : Expr} {es : List Expr} {t : AT} {l : AL} (ha : PD X W e t) (hr : PDL X W es l) (hs : starEach (e :: es) X.env = (false, eval e X.env) :: starEach es X.env := by rfl) : PDL X W (e :: es) (aCons t l) := imA (pa_cons ha hr hs) fun σ H Q q => by
  obtain ⟨XR, δ, r, P, o, h, k⟩ := q
  refine td_bind o h fun d r1 v H1 h1 o1 k1 i1 => tdl_bind o1 h1 fun ds r2 vs H2 h2 o2 k2 i2 => ?_
  exact k (d :: ds) r2 _ H2 h2 o2 (k1.trans k2) (.cons (k2 _ _ i1) i2)
/-- *e in an argument list -/
def aStar (t : AT) (l : AL) : AL := fun x δ r P => t x δ r fun d r1 => match d with
  | .lst xs => l x δ r1 fun ds r2 => P (xs ++ ds) r2
  | .tup xs => l x δ r1 fun ds r2 => P (xs ++ ds) r2
  | _ => False
theorem dl_star {e : Expr} {es : List Expr} {p : Pos} {t : AT} {l : AL} (ha : PD X W e t) (hr : PDL X W es l) (hs : starEach (.Starred e p :: es) X.env = (true, eval e X.env) :: starEach es X.env := by rfl) : PDL X W (.Starred e p :: es) (aStar t l) := imA (StX.pa_star ha hr hs) fun σ H Q q => by
  obtain ⟨XR, δ, r, P, o, h, k⟩ := q
  refine td_bind o h fun d r1 v H1 h1 o1 k1 i1 => ?_
  cases i1 with
  | lst n s a => exact ⟨_, _, rfl, .inr (SqL.of s), tdl_bind o1 h1 fun ds r2 vs H2 h2 o2 k2 i2 => k _ r2 _ H2 h2 o2 (k1.trans k2) ((k2.all a).append i2)⟩
  | tup s a => exact ⟨_, _, rfl, .inl s, tdl_bind o1 h1 fun ds r2 vs H2 h2 o2 k2 i2 => k _ r2 _ H2 h2 o2 (k1.trans k2) ((k2.all a).append i2)⟩
  | _ => exact h1.elim
def small (n : Nat) : Prop := n ≤ 1000000
theorem small.sz {n : Nat} (h : small n) : n ≤ sizeLine := Nat.le_trans h (by decide)
theorem not_al {K : PySem.W.Frag} {r : Rs} {H : Hp} {p : Addr} (h : Rok K r H) (hp : H p = none) : ¬ mem r p := fun z => by
  obtain ⟨o, e⟩ := hold_al h p z
  rw [hp] at e
  cases e
def aTup (l : AL) : AT := fun x δ r P => l x δ r fun ds r1 => small ds.length ∧ P (.tup ds) r1
def aLst (l : AL) : AT := fun x δ r P => l x δ r fun ds r1 => small ds.length ∧ P (.lst ds) r1
theorem new_tup {K : PySem.W.Frag} {r : Rs} {H : Hp} {p : Addr} {vs : List V} {ds : List D} (hp : H p = none) (i : IsAll K (mem r) H vs ds) : Is K (mem r) (upd H p (.tup vs)) (.ref p) (.tup ds) :=
  .tup (SqT.of upd_same) (Kp.all (r := r) (r' := r) (Kp.ext (Ext.new hp)) i)
theorem new_lst {K : PySem.W.Frag} {r : Rs} {H : Hp} {p : Addr} {vs : List V} {ds : List D} (hr : Rok K r H) (hp : H p = none) (i : IsAll K (mem r) H vs ds) : Is K (mem r) (upd H p (.lst vs)) (.ref p) (.lst ds) :=
  .lst (not_al hr hp) upd_same (Kp.all (r := r) (r' := r) (Kp.ext (Ext.new hp)) i)
theorem Ok.new {K : PySem.W.Frag} {W : WX} {XR : XT} {r : Rs} {δ : Dl} {σ : St} {H : Hp} {p : Addr} {u : HO} (o : Ok K W XR r δ σ H) (hp : H p = none) : Ok K W XR r δ σ (upd H p u) := o.step (Kp.ext (Ext.new hp)) (o.r.ext (Ext.new hp))
theorem d_tup {es : List Expr} {x1} {pos : Pos} {l : AL} (ha : PDL X W es l) : PD X W (.Tuple es x1 pos) (aTup l) := imE (pe_tup ha) fun σ H Q q => by
  obtain ⟨XR, δ, r, P, o, h, k⟩ := q
  refine tdl_bind o h fun ds r1 vs H1 h1 o1 k1 i1 => ⟨by rw [i1.length]; exact h1.1.sz, fun p hp => ?_⟩
  exact k _ r1 _ _ h1.2 (o1.new hp) (k1.trans (Kp.ext (Ext.new hp))) (new_tup hp i1)
theorem d_lst {es : List Expr} {pos : Pos} {l : AL} (ha : PDL X W es l) : PD X W (.List es pos) (aLst l) := imE (pe_lst ha) fun σ H Q q => by
  obtain ⟨XR, δ, r, P, o, h, k⟩ := q
  refine tdl_bind o h fun ds r1 vs H1 h1 o1 k1 i1 => ⟨by rw [i1.length]; exact h1.1.sz, fun p hp => ?_⟩
  exact k _ r1 _ _ h1.2 (o1.new hp) (k1.trans (Kp.ext (Ext.new hp))) (new_lst o1.r hp i1)
end
end G

namespace G
open PySem PySem.Spec L2

/-! ### operations on two data -/
abbrev O2 := D → D → (D → Prop) → Prop
def rD (K : PySem.W.Frag) (o : O2) : R2 := fun x y H Q => ∃ (r : Rs) (d1 d2 : D) (P : D → Prop), Rok K r H ∧ Is K (mem r) H x d1 ∧ Is K (mem r) H y d2 ∧ o d1 d2 P ∧ ∀ d v H', P d → Ext H H' → Is K (mem r) H' v d → Q v H'
def aOp (o : O2) (ta tb : AT) : AT := fun x δ r P => ta x δ r fun d1 r1 => tb x δ r1 fun d2 r2 => o d1 d2 fun d => P d r2
section
variable {X : Cx} {W : WX} {a b c : Expr} {ta tb tc : AT} {pos : Pos}
theorem Ok.ext {K : PySem.W.Frag} {W : WX} {XR : XT} {r : Rs} {δ : Dl} {σ : L2.St} {H H' : Hp} (o : Ok K W XR r δ σ H) (e : Ext H H') : Ok K W XR r δ σ H' := o.step (Kp.ext e) (o.r.ext e)
theorem td_op {K : PySem.W.Frag} {W : WX} {o : O2} {ta tb : AT} {σ : L2.St} {H : Hp} {Q : VK} (q : TD K W (aOp o ta tb) σ H Q) : tOp (rD K o) (TD K W ta) (TD K W tb) σ H Q := by
  obtain ⟨XR, δ, r, P, ok, h, k⟩ := q
  refine td_bind ok h fun d1 r1 v1 H1 h1 o1 k1 i1 => td_bind o1 h1 fun d2 r2 v2 H2 h2 o2 k2 i2 => ?_
  exact ⟨r2, d1, d2, fun d => P d r2, o2.r, k2 _ _ i1, i2, h2, fun d v H' p e i => k d r2 v H' p (o2.ext e) ((k1.trans k2).trans (Kp.ext e)) i⟩
theorem d_bin {op : Operator} {o : O2} (ho : OpR X (binaryOp op) (rD X.K o)) (ha : PD X W a ta) (hb : PD X W b tb) : PD X W (.BinOp a op b pos) (aOp o ta tb) := imE (pe_op ho ha hb) fun _ _ _ q => td_op q
theorem d_cmp {op : CmpOp} {o : O2} (ho : OpR X (compareOp op) (rD X.K o)) (ha : PD X W a ta) (hb : PD X W b tb) (hm : behindInMarks op b = false := by first | exact nomark _ | with_unfolding_all rfl) : PD X W (.Compare a [op] [b] pos) (aOp o ta tb) :=
  imE (pe_cmpR ho ha hb hm) fun _ _ _ q => td_op q
/-- a value as a test: True or False -/
def aTest (t : AT) : AB := fun x δ r P => t x δ r fun d r1 => match d with | .bl b => P b r1 | _ => False
theorem tdb_test {K : PySem.W.Frag} {W : WX} {t : AT} {t0 : TE} {σ : L2.St} {H : Hp} {Q : Bool → Hp → Prop} (im : ∀ Q, TD K W t σ H Q → t0 σ H Q) (q : TDB K W (aTest t) σ H Q) : t0 σ H fun x H' => ∃ k, x = .bl k ∧ Q k H' := by
  obtain ⟨XR, δ, r, P, ok, h, k⟩ := q
  refine im _ (td_bind ok h fun d r1 v H1 h1 o1 k1 i1 => ?_)
  cases i1 with
  | bl b => exact ⟨b, rfl, k b r1 H1 h1 o1 k1⟩
  | _ => exact h1.elim
theorem b_cmp {op : CmpOp} {o : O2} (ho : OpR X (compareOp op) (rD X.K o)) (ha : PD X W a ta) (hb : PD X W b tb) (hm : behindInMarks op b = false := by first | exact nomark _ | with_unfolding_all rfl) : PDB X W (.Compare a [op] [b] pos) (aTest (aOp o ta tb)) :=
  imT (pt_cmpR ho ha hb hm) fun _ _ _ q => tdb_test (fun _ q => td_op q) q
theorem b_val (ha : PD X W a ta) (he : ∀ whole, isTrue a X.env whole = (do let v ← whole; standAt a.pos; holding [v] (truthy v)) := by intro _; rfl) : PDB X W a (aTest ta) :=
  imT (pt_val ha he) fun _ _ _ q => tdb_test (fun _ q => q) q
/-- a value as a test: its truth -/
def truD : D → Option Bool
  | .non => some false | .bl b => some b | .int i => some (i != 0) | .str x => some ((x.length : Int) != 0) | .lst xs => some (!xs.isEmpty) | .tup xs => some (!xs.isEmpty) | _ => none
def aTru (t : AT) : AB := fun x δ r P => t x δ r fun d r1 => match truD d with | some b => P b r1 | none => False
theorem isEmpty_all {K : PySem.W.Frag} {N : Addr → Prop} {H : Hp} {xs : List V} {ds : List D} (h : IsAll K N H xs ds) : xs.isEmpty = ds.isEmpty := by cases h <;> rfl
theorem b_tru (ha : PD X W a ta) (he : ∀ whole, isTrue a X.env whole = (do let v ← whole; standAt a.pos; holding [v] (truthy v)) := by intro _; rfl) : PDB X W a (aTru ta) :=
  imT (pt_truth ha he) fun σ H Q q => by
    obtain ⟨XR, δ, r, P, ok, h, k⟩ := q
    refine td_bind ok h fun d r1 v H1 h1 o1 k1 i1 => ?_
    cases i1 with
    | non => exact ⟨false, rfl, k _ r1 H1 h1 o1 k1⟩
    | bl b => exact ⟨b, rfl, k _ r1 H1 h1 o1 k1⟩
    | int i => exact ⟨i != 0, rfl, k _ r1 H1 h1 o1 k1⟩
    | str s => exact ⟨_, ⟨Nat.le_trans s.2 (by decide), rfl⟩, k _ r1 H1 h1 o1 k1⟩
    | adr a => exact h1.elim
    | ins _ _ _ _ _ => exact h1.elim
    | dct _ _ _ _ => exact h1.elim
    | lst n s i => exact ⟨_, Or.inl ⟨_, SqL.of s, rfl⟩, k _ r1 H1 (by rw [isEmpty_all i]; exact h1) o1 k1⟩
    | tup s i => exact ⟨_, Or.inr (Or.inl ⟨_, s, rfl⟩), k _ r1 H1 (by rw [isEmpty_all i]; exact h1) o1 k1⟩

/-! ### the operations -/
def oAdd : O2 := fun x y k => match x, y with
  | .int i, .int j => k (.int (i + j))
  | .str i, .str j => small (i.length + j.length) ∧ k (.str (i ++ j))
  | .lst i, .lst j => small (i.length + j.length) ∧ k (.lst (i ++ j))
  | .tup i, .tup j => small (i.length + j.length) ∧ k (.tup (i ++ j))
  | _, _ => False
theorem sok_append {i j : Str} (hi : sok i) (hj : sok j) (h : small (i.length + j.length)) : sok (i ++ j) := by
  obtain ⟨a, b⟩ := hi
  obtain ⟨c, d⟩ := hj
  refine ⟨?_, ?_⟩
  · show (i.cps ++ j.cps).all _ = true
    rw [Array.all_append]
    exact Bool.and_eq_true_iff.mpr ⟨a, c⟩
  · show (i.cps ++ j.cps).size ≤ _
    rw [Array.size_append]
    exact h
theorem all_nil {K : PySem.W.Frag} {N : Addr → Prop} {H : Hp} {xs : List V} {ds : List D} (h : IsAll K N H xs ds) : xs = [] ↔ ds = [] := by cases h <;> simp
theorem p_add : OpR X (binaryOp .Add) (rD X.K oAdd) := by
  rintro pins s σ H x y v u Q I rx ry ⟨r, d1, d2, P, hr, i1, i2, ho, k⟩
  cases i1 <;> cases i2 <;> try exact ho.elim
  · exact op_add pins s σ H _ _ v u Q I rx ry ⟨_, _, rfl, rfl, k _ _ H ho (Ext.refl H) (.int _)⟩
  · rename_i s1 _ s2
    exact op_add_str pins s σ H _ _ v u Q I rx ry ⟨_, _, rfl, rfl, ho.1.sz, k _ _ H ho.2 (Ext.refl H) (.str (sok_append s1 s2 ho.1))⟩
  · rename_i n1 h1 a1 _ _ _ n2 h2 a2
    exact op_cat pins s σ H _ _ v u Q I rx ry ⟨_, _, _, _, rfl, rfl, h1, h2, by rw [a1.length, a2.length]; exact ho.1.sz, fun p hp => k _ _ _ ho.2 (Ext.new hp) (new_lst hr hp (a1.append a2))⟩
  · rename_i h1 a1 _ _ _ h2 a2
    refine op_catA pins s σ H _ _ v u Q I rx ry ⟨_, _, _, _, rfl, rfl, h1, h2, by rw [a1.length, a2.length]; exact ho.1.sz, fun z => ?_, fun _ z => ?_, fun _ z p hp => k _ _ _ ho.2 (Ext.new hp) (new_tup hp (a1.append a2))⟩
    · have e := (all_nil a1).mp z
      subst e
      exact k _ _ H ho.2 (Ext.refl H) (.tup h2 a2)
    · have e := (all_nil a2).mp z
      subst e
      have q := ho.2
      rw [List.append_nil] at q
      exact k _ _ H q (Ext.refl H) (.tup h1 a1)
def oSub : O2 := fun x y k => match x, y with | .int i, .int j => k (.int (i - j)) | _, _ => False
theorem p_sub : OpR X (binaryOp .Sub) (rD X.K oSub) := by
  rintro pins s σ H x y v u Q I rx ry ⟨r, d1, d2, P, hr, i1, i2, ho, k⟩
  cases i1 <;> cases i2 <;> try exact ho.elim
  exact op_sub pins s σ H _ _ v u Q I rx ry ⟨_, _, rfl, rfl, k _ _ H ho (Ext.refl H) (.int _)⟩
def oMul : O2 := fun x y k => match x, y with | .int i, .int j => CMul i j ∧ k (.int (i * j)) | _, _ => False
theorem p_mul : OpR X (binaryOp .Mult) (rD X.K oMul) := by
  rintro pins s σ H x y v u Q I rx ry ⟨r, d1, d2, P, hr, i1, i2, ho, k⟩
  cases i1 <;> cases i2 <;> try exact ho.elim
  exact op_mul pins s σ H _ _ v u Q I rx ry ⟨_, _, rfl, rfl, ho.1, k _ _ H ho.2 (Ext.refl H) (.int _)⟩
def oMod : O2 := fun x y k => match x, y with | .int i, .int j => 0 < j ∧ k (.int (i % j)) | _, _ => False
theorem p_mod : OpR X (binaryOp .Mod) (rD X.K oMod) := by
  rintro pins s σ H x y v u Q I rx ry ⟨r, d1, d2, P, hr, i1, i2, ho, k⟩
  cases i1 <;> cases i2 <;> try exact ho.elim
  exact op_mod pins s σ H _ _ v u Q I rx ry ⟨_, _, rfl, rfl, ho.1, k _ _ H ho.2 (Ext.refl H) (.int _)⟩
def oDiv : O2 := fun x y k => match x, y with | .int i, .int j => CDivW i j ∧ k (.int (i / j)) | _, _ => False
theorem p_div : OpR X (binaryOp .FloorDiv) (rD X.K oDiv) := by
  rintro pins s σ H x y v u Q I rx ry ⟨r, d1, d2, P, hr, i1, i2, ho, k⟩
  cases i1 <;> cases i2 <;> try exact ho.elim
  exact op_fdivW pins s σ H _ _ v u Q I rx ry ⟨_, _, rfl, rfl, ho.1, k _ _ H ho.2 (Ext.refl H) (.int _)⟩
def oPow : O2 := fun x y k => match x, y with | .int i, .int j => CPow i j ∧ k (.int (i ^ j.toNat)) | _, _ => False
theorem p_pow : OpR X (binaryOp .Pow) (rD X.K oPow) := by
  rintro pins s σ H x y v u Q I rx ry ⟨r, d1, d2, P, hr, i1, i2, ho, k⟩
  cases i1 <;> cases i2 <;> try exact ho.elim
  exact op_pow pins s σ H _ _ v u Q I rx ry ⟨_, _, rfl, rfl, ho.1, k _ _ H ho.2 (Ext.refl H) (.int _)⟩
def oCmp (f : Int → Int → Bool) (g : Str → Str → Bool) : O2 := fun x y k => match x, y with | .int i, .int j => k (.bl (f i j)) | .str i, .str j => k (.bl (g i j)) | _, _ => False
abbrev oLt : O2 := oCmp (fun i j => decide (i < j)) (fun i j => decide (i.cps.toList < j.cps.toList))
abbrev oLe : O2 := oCmp (fun i j => decide (i ≤ j)) (fun i j => !decide (j.cps.toList < i.cps.toList))
abbrev oGt : O2 := oCmp (fun i j => decide (j < i)) (fun i j => decide (j.cps.toList < i.cps.toList))
abbrev oGe : O2 := oCmp (fun i j => decide (j ≤ i)) (fun i j => !decide (i.cps.toList < j.cps.toList))
theorem p_lt : OpR X (compareOp .Lt) (rD X.K oLt) := by
  rintro pins s σ H x y v u Q I rx ry ⟨r, d1, d2, P, hr, i1, i2, ho, k⟩
  cases i1 <;> cases i2 <;> try exact ho.elim
  · exact op_lt pins s σ H _ _ v u Q I rx ry ⟨_, _, rfl, rfl, k _ _ H ho (Ext.refl H) (.bl _)⟩
  · exact op_lt_str pins s σ H _ _ v u Q I rx ry ⟨_, _, rfl, rfl, k _ _ H ho (Ext.refl H) (.bl _)⟩
theorem p_le : OpR X (compareOp .LtE) (rD X.K oLe) := by
  rintro pins s σ H x y v u Q I rx ry ⟨r, d1, d2, P, hr, i1, i2, ho, k⟩
  cases i1 <;> cases i2 <;> try exact ho.elim
  · exact op_le pins s σ H _ _ v u Q I rx ry ⟨_, _, rfl, rfl, k _ _ H ho (Ext.refl H) (.bl _)⟩
  · exact op_le_str pins s σ H _ _ v u Q I rx ry ⟨_, _, rfl, rfl, k _ _ H ho (Ext.refl H) (.bl _)⟩
theorem p_gt : OpR X (compareOp .Gt) (rD X.K oGt) := by
  rintro pins s σ H x y v u Q I rx ry ⟨r, d1, d2, P, hr, i1, i2, ho, k⟩
  cases i1 <;> cases i2 <;> try exact ho.elim
  · exact op_gt pins s σ H _ _ v u Q I rx ry ⟨_, _, rfl, rfl, k _ _ H ho (Ext.refl H) (.bl _)⟩
  · exact op_gt_str pins s σ H _ _ v u Q I rx ry ⟨_, _, rfl, rfl, k _ _ H ho (Ext.refl H) (.bl _)⟩
theorem p_ge : OpR X (compareOp .GtE) (rD X.K oGe) := by
  rintro pins s σ H x y v u Q I rx ry ⟨r, d1, d2, P, hr, i1, i2, ho, k⟩
  cases i1 <;> cases i2 <;> try exact ho.elim
  · exact op_ge pins s σ H _ _ v u Q I rx ry ⟨_, _, rfl, rfl, k _ _ H ho (Ext.refl H) (.bl _)⟩
  · exact op_ge_str pins s σ H _ _ v u Q I rx ry ⟨_, _, rfl, rfl, k _ _ H ho (Ext.refl H) (.bl _)⟩
def isNonD : D → Bool | .non => true | _ => false
def oIs : O2 := fun x y k => match y with | .non => k (.bl (isNonD x)) | _ => False
def oNs : O2 := fun x y k => match y with | .non => k (.bl (!isNonD x)) | _ => False
theorem dec_non {K : PySem.W.Frag} {N : Addr → Prop} {H : Hp} {v : V} {d : D} (h : Is K N H v d) : decide (v = V.non) = isNonD d := by cases h <;> rfl
theorem p_is : OpR X (compareOp .Is) (rD X.K oIs) := by
  rintro pins s σ H x y v u Q I rx ry ⟨r, d1, d2, P, hr, i1, i2, ho, k⟩
  cases i2 <;> try exact ho.elim
  exact op_isN pins s σ H _ _ v u Q I rx ry ⟨rfl, by rw [dec_non i1]; exact k _ _ H ho (Ext.refl H) (.bl _)⟩
theorem p_ns : OpR X (compareOp .IsNot) (rD X.K oNs) := by
  rintro pins s σ H x y v u Q I rx ry ⟨r, d1, d2, P, hr, i1, i2, ho, k⟩
  cases i2 <;> try exact ho.elim
  exact op_notN pins s σ H _ _ v u Q I rx ry ⟨rfl, by rw [dec_non i1]; exact k _ _ H ho (Ext.refl H) (.bl _)⟩

/-! ### == of data -/
mutual
def py : D → PyData
  | .non => .none | .bl b => .bool b | .int i => .int i | .str x => .str x | .adr _ => .dict [] | .ins _ _ _ => .dict [] | .dct _ _ => .dict [] | .lst ds => .list (pys ds) | .tup ds => .tuple (pys ds)
def pys : List D → List PyData
  | [] => []
  | d :: ds => py d :: pys ds
end
mutual
def dep : D → Nat
  | .adr _ => 1000 | .ins _ _ _ => 1000 | .dct _ _ => 1000 | .lst ds => deps ds + 1 | .tup ds => deps ds + 1 | _ => 0
def deps : List D → Nat
  | [] => 0
  | d :: ds => max (dep d) (deps ds)
end
mutual
theorem dep_py {K : PySem.W.Frag} {N : Addr → Prop} {H : Hp} : ∀ (d : D) (v : V), Is K N H v d → dep d ≤ 64 → Dp K H v (py d) ∧ (py d).canLay0 = true ∧ (py d).depth ≤ dep d
  | .non, _, h, _ => by cases h; exact ⟨.non, rfl, by simp [py, PyData.depth]⟩
  | .bl b, _, h, _ => by cases h; exact ⟨.bl b, rfl, by simp [py, PyData.depth]⟩
  | .int i, _, h, _ => by cases h; exact ⟨.int i, rfl, by simp [py, PyData.depth]⟩
  | .str x, _, h, _ => by cases h with | str o => exact ⟨.str x, by simp only [py, PyData.canLay0]; exact o.1, by simp [py, PyData.depth]⟩
  | .adr a, _, h, l => by simp [dep] at l
  | .ins _ _ _, _, h, l => by simp [dep] at l
  | .dct _ _, _, h, l => by simp [dep] at l
  | .lst ds, _, h, l => by
    cases h with
    | lst n s i =>
      have l' : deps ds ≤ 64 := by simp only [dep] at l; omega
      obtain ⟨a, b, c⟩ := deps_py ds _ i l'
      exact ⟨by simp only [py]; exact .lst (SqL.of s) a, by simp only [py, PyData.canLay0]; exact b, by simp only [py, PyData.depth, dep]; omega⟩
  | .tup ds, _, h, l => by
    cases h with
    | tup s i =>
      have l' : deps ds ≤ 64 := by simp only [dep] at l; omega
      obtain ⟨a, b, c⟩ := deps_py ds _ i l'
      exact ⟨by simp only [py]; exact .tup s a, by simp only [py, PyData.canLay0]; exact b, by simp only [py, PyData.depth, dep]; omega⟩
theorem deps_py {K : PySem.W.Frag} {N : Addr → Prop} {H : Hp} : ∀ (ds : List D) (vs : List V), IsAll K N H vs ds → deps ds ≤ 64 → DpAll K H vs (pys ds) ∧ PyData.canLayAll0 (pys ds) = true ∧ PyData.depthAll (pys ds) ≤ deps ds
  | [], _, h, _ => by cases h; exact ⟨by simp only [pys]; exact .nil, rfl, by simp [pys, PyData.depthAll]⟩
  | d :: ds, _, h, l => by
    cases h with
    | cons h1 h2 =>
      have l1 : dep d ≤ 64 := by simp only [deps] at l; omega
      have l2 : deps ds ≤ 64 := by simp only [deps] at l; omega
      obtain ⟨a, b, c⟩ := dep_py d _ h1 l1
      obtain ⟨a', b', c'⟩ := deps_py ds _ h2 l2
      exact ⟨by simp only [pys]; exact .cons a a', by simp only [pys, PyData.canLayAll0]; rw [b, b']; rfl, by simp only [pys, PyData.depthAll, deps]; omega⟩
end
theorem shaped_py {K : PySem.W.Frag} {N : Addr → Prop} {H : Hp} {d : D} {v : V} (h : Is K N H v d) (l : dep d ≤ 64) : Dp K H v (py d) ∧ SeqAt.shaped (py d) = true := by
  obtain ⟨a, b, c⟩ := dep_py d v h l
  exact ⟨a, by unfold SeqAt.shaped; rw [b]; exact decide_eq_true (by omega)⟩
def eqD (a b : D) : Bool := PyData.eqv (py a) (py b)
def oEq : O2 := fun x y k => dep x ≤ 64 ∧ dep y ≤ 64 ∧ k (.bl (eqD x y))
def oNe : O2 := fun x y k => dep x ≤ 64 ∧ dep y ≤ 64 ∧ k (.bl (!eqD x y))
theorem p_eq (hu : X.A.units + 64 < cLine) : OpR X (compareOp .Eq) (rD X.K oEq) := by
  rintro pins s σ H x y v u Q I rx ry ⟨r, d1, d2, P, hr, i1, i2, ho, k⟩
  obtain ⟨a1, b1⟩ := shaped_py i1 ho.1
  obtain ⟨a2, b2⟩ := shaped_py i2 ho.2.1
  exact op_eqD hu pins s σ H _ _ v u Q I rx ry ⟨_, _, a1, a2, b1, b2, k _ _ H ho.2.2 (Ext.refl H) (.bl _)⟩
theorem p_ne (hu : X.A.units + 64 < cLine) : OpR X (compareOp .NotEq) (rD X.K oNe) := by
  rintro pins s σ H x y v u Q I rx ry ⟨r, d1, d2, P, hr, i1, i2, ho, k⟩
  obtain ⟨a1, b1⟩ := shaped_py i1 ho.1
  obtain ⟨a2, b2⟩ := shaped_py i2 ho.2.1
  exact op_neD hu pins s σ H _ _ v u Q I rx ry ⟨_, _, a1, a2, b1, b2, k _ _ H ho.2.2 (Ext.refl H) (.bl _)⟩
/-! ### in -/
def flat : D → Bool | .non => true | .bl _ => true | .int _ => true | .str _ => true | _ => false
theorem flat_V {K : PySem.W.Frag} {N : Addr → Prop} {H : Hp} {v : V} {d : D} (h : Is K N H v d) (f : flat d = true) : flatV v = true := by cases h <;> first | rfl | cases f
theorem flat_all {K : PySem.W.Frag} {N : Addr → Prop} {H : Hp} : ∀ {vs : List V} {ds : List D}, IsAll K N H vs ds → ds.all flat = true → vs.all flatV = true
  | _, _, .nil, _ => rfl
  | _, _, .cons h t, f => by
    rw [List.all_cons, Bool.and_eq_true] at f ⊢
    exact ⟨flat_V h f.1, flat_all t f.2⟩
theorem eqV_D {K : PySem.W.Frag} {N : Addr → Prop} {H : Hp} {v w : V} {d e : D} (h : Is K N H v d) (g : Is K N H w e) (f : flat d = true) (f' : flat e = true) : eqV v w = eqD d e := by
  cases h <;> cases g <;> first | rfl | cases f | cases f' | (simp [eqV, eqD, py, PyData.eqv])
theorem any_D {K : PySem.W.Frag} {N : Addr → Prop} {H : Hp} {v : V} {d : D} (h : Is K N H v d) (f : flat d = true) : ∀ {vs : List V} {ds : List D}, IsAll K N H vs ds → ds.all flat = true → inV v vs = ds.any fun z => eqD z d
  | _, _, .nil, _ => rfl
  | _, _, .cons g t, q => by
    rw [List.all_cons, Bool.and_eq_true] at q
    have ih := any_D h f t q.2
    unfold inV at ih ⊢
    rw [List.any_cons, List.any_cons, ih, eqV_D g h q.1 f]
theorem any_pys (d : D) : ∀ ds : List D, ((pys ds).any fun z => PyData.eqv z (py d)) = ds.any fun z => eqD z d
  | [] => rfl
  | e :: ds => by simp only [pys, List.any_cons]; rw [any_pys d ds]; rfl
def memD (d : D) (ds : List D) : Bool := ds.any fun z => eqD z d
def sub1 : Str → Option Nat | ⟨⟨[c]⟩⟩ => some c | _ => none
/-- in: flat things in a tuple or list; anything in a list; one sign in a text -/
def oInP (neg : Bool) : O2 := fun x y k => match y with
  | .lst ds => dep x ≤ 64 ∧ deps ds ≤ 63 ∧ k (.bl (cond neg (!memD x ds) (memD x ds)))
  | .tup ds => flat x = true ∧ ds.all flat = true ∧ k (.bl (cond neg (!memD x ds) (memD x ds)))
  | .str z => match x with
    | .str w => match sub1 w with
      | some c => k (.bl (cond neg (!decide (c ∈ z.cps.toList)) (decide (c ∈ z.cps.toList))))
      | none => k (.bl (cond neg (!(!(Builtin.Str.occurrences z w 0 z.length 1).isEmpty)) (!(Builtin.Str.occurrences z w 0 z.length 1).isEmpty)))
    | _ => False
  | _ => False
structure oIn (neg : Bool) (x y : D) (k : D → Prop) : Prop where
  ex : oInP neg x y k
theorem sub1_some {w : Str} {c : Nat} (h : sub1 w = some c) : w = ⟨#[c]⟩ := by
  obtain ⟨⟨l⟩⟩ := w
  match l, h with
  | [x], h => simp only [sub1] at h; cases h; rfl
theorem p_in (hu : X.A.units + 65 < cLine) : OpR X (compareOp .In) (rD X.K (oIn false)) := by
  rintro pins s σ H x y v u Q I rx ry ⟨r, d1, d2, P, hr, i1, i2, ho, k⟩
  obtain ⟨ho⟩ := ho
  cases i2 <;> try exact ho.elim
  · rename_i z hz
    cases i1 <;> try exact ho.elim
    rename_i w hw
    simp only [oInP] at ho
    split at ho
    · rename_i c hc
      have e := sub1_some hc
      subst e
      exact op_in_sign pins s σ H _ _ v u Q I rx ry ⟨_, _, rfl, rfl, k _ _ H ho (Ext.refl H) (.bl _)⟩
    · exact op_in_str pins s σ H _ _ v u Q I rx ry ⟨_, _, rfl, rfl, k _ _ H ho (Ext.refl H) (.bl _)⟩
  · rename_i n h a
    obtain ⟨a1, b1⟩ := shaped_py i1 ho.1
    obtain ⟨a2, b2⟩ := shaped_py (N := mem r) (.lst n h a) (by simp only [dep]; have := ho.2.1; omega)
    simp only [py] at a2 b2
    refine op_inD hu pins s σ H _ _ v u Q I rx ry ⟨_, _, a1, a2, b1, b2, ?_⟩
    rw [any_pys]
    exact k _ _ H ho.2.2 (Ext.refl H) (.bl _)
  · rename_i h a
    refine op_in_seq pins s σ H _ _ v u Q I rx ry ⟨_, _, rfl, .inr h, flat_V i1 ho.1, flat_all a ho.2.1, ?_⟩
    rw [if_neg Bool.false_ne_true, any_D i1 ho.1 a ho.2.1]
    exact k _ _ H ho.2.2 (Ext.refl H) (.bl _)
theorem p_notIn (hu : X.A.units + 65 < cLine) : OpR X (compareOp .NotIn) (rD X.K (oIn true)) := by
  rintro pins s σ H x y v u Q I rx ry ⟨r, d1, d2, P, hr, i1, i2, ho, k⟩
  obtain ⟨ho⟩ := ho
  cases i2 <;> try exact ho.elim
  · rename_i z hz
    cases i1 <;> try exact ho.elim
    rename_i w hw
    simp only [oInP] at ho
    split at ho
    · rename_i c hc
      have e := sub1_some hc
      subst e
      exact op_notIn_sign pins s σ H _ _ v u Q I rx ry ⟨_, _, rfl, rfl, k _ _ H ho (Ext.refl H) (.bl _)⟩
    · exact op_notin_str pins s σ H _ _ v u Q I rx ry ⟨_, _, rfl, rfl, k _ _ H ho (Ext.refl H) (.bl _)⟩
  · rename_i n h a
    obtain ⟨a1, b1⟩ := shaped_py i1 ho.1
    obtain ⟨a2, b2⟩ := shaped_py (N := mem r) (.lst n h a) (by simp only [dep]; have := ho.2.1; omega)
    simp only [py] at a2 b2
    refine op_notInD hu pins s σ H _ _ v u Q I rx ry ⟨_, _, a1, a2, b1, b2, ?_⟩
    rw [any_pys]
    exact k _ _ H ho.2.2 (Ext.refl H) (.bl _)
  · rename_i h a
    refine op_notIn_seq pins s σ H _ _ v u Q I rx ry ⟨_, _, rfl, .inr h, flat_V i1 ho.1, flat_all a ho.2.1, ?_⟩
    rw [if_pos rfl, any_D i1 ho.1 a ho.2.1]
    exact k _ _ H ho.2.2 (Ext.refl H) (.bl _)
end
end G

namespace G
open PySem PySem.Spec L2
section
variable {X : Cx} {W : WX} {a b c : Expr} {ta tb tc : AT} {pos : Pos}
theorem tdb_bind {K : PySem.W.Frag} {W : WX} {XR : XT} {σ : L2.St} {H : Hp} {δ : Dl} {r : Rs} {t : AB} {P : Bool → Rs → Prop} {Q : Bool → Hp → Prop} (o : Ok K W XR r δ σ H) (h : t XR δ r P) (k : ∀ d r' H', P d r' → Ok K W XR r' δ σ H' → Kp K r H r' H' → Q d H') : TDB K W t σ H Q := ⟨XR, δ, r, P, o, h, k⟩

/-! ### and, or, not, if -/
section
variable {K : PySem.W.Frag}
def bAnd (t u : AB) : AB := fun x δ r P => t x δ r fun b r1 => (b = true → u x δ r1 P) ∧ (b = false → P false r1)
def bOr (t u : AB) : AB := fun x δ r P => t x δ r fun b r1 => (b = true → P true r1) ∧ (b = false → u x δ r1 P)
def bNot (t : AB) : AB := fun x δ r P => t x δ r fun b r1 => P (!b) r1
def aAnd (t u : AT) : AT := fun x δ r P => t x δ r fun d r1 => match d with | .bl b => (b = true → u x δ r1 P) ∧ (b = false → P (.bl false) r1) | _ => False
def aOr (t u : AT) : AT := fun x δ r P => t x δ r fun d r1 => match d with | .bl b => (b = true → P (.bl true) r1) ∧ (b = false → u x δ r1 P) | _ => False
def aNot (t : AT) : AT := fun x δ r P => t x δ r fun d r1 => match d with | .bl b => P (.bl (!b)) r1 | _ => False
def aIf (t : AB) (u w : AT) : AT := fun x δ r P => t x δ r fun b r1 => (b = true → u x δ r1 P) ∧ (b = false → w x δ r1 P)
end
variable {bA bB : AB} {rest : List Expr}
theorem w_and1 (ha : PDB X W a bA) : PDW X W (.BoolOp .And [a] pos) bA := pw_and1 ha
theorem w_or1 (ha : PDB X W a bA) : PDW X W (.BoolOp .Or [a] pos) bA := pw_or1 ha
theorem w_and (ha : PDB X W a bA) (hb : PDW X W (.BoolOp .And (b :: rest) pos) bB) : PDW X W (.BoolOp .And (a :: b :: rest) pos) (bAnd bA bB) := imW (pw_and ha hb) fun σ H Q q => by
  obtain ⟨XR, δ, r, P, ok, h, k⟩ := q
  refine tdb_bind ok h fun d r1 H1 h1 o1 k1 => ?_
  cases d with
  | true => exact tdb_bind o1 (h1.1 rfl) fun d r2 H2 h2 o2 k2 => k d r2 H2 h2 o2 (k1.trans k2)
  | false => exact k _ r1 H1 (h1.2 rfl) o1 k1
theorem w_or (ha : PDB X W a bA) (hb : PDW X W (.BoolOp .Or (b :: rest) pos) bB) : PDW X W (.BoolOp .Or (a :: b :: rest) pos) (bOr bA bB) := imW (pw_or ha hb) fun σ H Q q => by
  obtain ⟨XR, δ, r, P, ok, h, k⟩ := q
  refine tdb_bind ok h fun d r1 H1 h1 o1 k1 => ?_
  cases d with
  | false => exact tdb_bind o1 (h1.2 rfl) fun d r2 H2 h2 o2 k2 => k d r2 H2 h2 o2 (k1.trans k2)
  | true => exact k _ r1 H1 (h1.1 rfl) o1 k1
theorem b_w (h : PDW X W a bA) : PDB X W a bA := PW.pt h
theorem b_not (ha : PDB X W a bA) : PDB X W (.UnaryOp .Not a pos) (bNot bA) := imT (pt_not ha) fun σ H Q q => by
  obtain ⟨XR, δ, r, P, ok, h, k⟩ := q
  exact tdb_bind ok h fun d r1 H1 h1 o1 k1 => k _ r1 H1 h1 o1 k1
theorem d_one {op} (h : PD X W a ta) : PD X W (.BoolOp op [a] pos) ta := pe_one h
theorem d_and (ha : PD X W a ta) (hb : PD X W (.BoolOp .And (b :: rest) pos) tb) : PD X W (.BoolOp .And (a :: b :: rest) pos) (aAnd ta tb) := imE (pe_and ha hb) fun σ H Q q => by
  obtain ⟨XR, δ, r, P, ok, h, k⟩ := q
  refine td_bind ok h fun d r1 v H1 h1 o1 k1 i1 => ?_
  cases i1 <;> try exact h1.elim
  rename_i d
  refine ⟨d, rfl, ?_⟩
  cases d with
  | true => exact td_bind o1 (h1.1 rfl) fun d r2 v H2 h2 o2 k2 i2 => k d r2 v H2 h2 o2 (k1.trans k2) i2
  | false => exact k _ r1 _ H1 (h1.2 rfl) o1 k1 (.bl _)
theorem d_or (ha : PD X W a ta) (hb : PD X W (.BoolOp .Or (b :: rest) pos) tb) : PD X W (.BoolOp .Or (a :: b :: rest) pos) (aOr ta tb) := imE (pe_or ha hb) fun σ H Q q => by
  obtain ⟨XR, δ, r, P, ok, h, k⟩ := q
  refine td_bind ok h fun d r1 v H1 h1 o1 k1 i1 => ?_
  cases i1 <;> try exact h1.elim
  rename_i d
  refine ⟨d, rfl, ?_⟩
  cases d with
  | false => exact td_bind o1 (h1.2 rfl) fun d r2 v H2 h2 o2 k2 i2 => k d r2 v H2 h2 o2 (k1.trans k2) i2
  | true => exact k _ r1 _ H1 (h1.1 rfl) o1 k1 (.bl _)
theorem d_not (ha : PD X W a ta) : PD X W (.UnaryOp .Not a pos) (aNot ta) := imE (pe_not ha) fun σ H Q q => by
  obtain ⟨XR, δ, r, P, ok, h, k⟩ := q
  refine td_bind ok h fun d r1 v H1 h1 o1 k1 i1 => ?_
  cases i1 <;> try exact h1.elim
  exact ⟨_, rfl, k _ r1 _ H1 h1 o1 k1 (.bl _)⟩
theorem d_if (hc : PDB X W c bA) (ha : PD X W a ta) (hb : PD X W b tb) : PD X W (.IfExp c a b pos) (aIf bA ta tb) := imE (pe_ifExp hc ha hb) fun σ H Q q => by
  obtain ⟨XR, δ, r, P, ok, h, k⟩ := q
  refine tdb_bind ok h fun d r1 H1 h1 o1 k1 => ?_
  cases d with
  | true => exact td_bind o1 (h1.1 rfl) fun d r2 v H2 h2 o2 k2 i2 => k d r2 v H2 h2 o2 (k1.trans k2) i2
  | false => exact td_bind o1 (h1.2 rfl) fun d r2 v H2 h2 o2 k2 i2 => k d r2 v H2 h2 o2 (k1.trans k2) i2
def oNeg (x : D) (k : D → Prop) : Prop := match x with | .int i => k (.int (-i)) | _ => False
def aNeg (t : AT) : AT := fun x δ r P => t x δ r fun d r1 => oNeg d fun d => P d r1
theorem d_neg (ha : PD X W a ta) : PD X W (.UnaryOp .USub a pos) (aNeg ta) := imE (pe_un un_neg ha) fun σ H Q q => by
  obtain ⟨XR, δ, r, P, ok, h, k⟩ := q
  refine td_bind ok h fun d r1 v H1 h1 o1 k1 i1 => ?_
  cases i1 <;> try exact h1.elim
  exact ⟨_, rfl, k _ r1 _ H1 h1 o1 k1 (.int _)⟩
/-- a < b <= c -/
def aChain (o o' : O2) (ta tb tc : AT) : AT := fun x δ r P => ta x δ r fun d1 r1 => tb x δ r1 fun d2 r2 => o d1 d2 fun d => match d with
  | .bl b => (b = true → tc x δ r2 fun d3 r3 => o' d2 d3 fun d => P d r3) ∧ (b = false → P (.bl false) r2)
  | _ => False
theorem td_chain {K : PySem.W.Frag} {W : WX} {o o' : O2} {ta tb tc : AT} {σ : L2.St} {H : Hp} {Q : VK} (q : TD K W (aChain o o' ta tb tc) σ H Q) : tChain (rD K o) (rD K o') (TD K W ta) (TD K W tb) (TD K W tc) σ H Q := by
  obtain ⟨XR, δ, r, P, ok, h, k⟩ := q
  refine td_bind ok h fun d1 r1 v1 H1 h1 o1 k1 i1 => td_bind o1 h1 fun d2 r2 v2 H2 h2 o2 k2 i2 => ?_
  refine ⟨r2, d1, d2, _, o2.r, k2 _ _ i1, i2, h2, fun d v H' p e i => ?_⟩
  cases i <;> try exact p.elim
  rename_i d
  refine ⟨d, rfl, ?_⟩
  cases d with
  | true =>
    show TD K W tc σ H' _
    refine td_bind (o2.ext e) (p.1 rfl) fun d3 r3 v3 H3 h3 o3 k3 i3 => ?_
    exact ⟨r3, d2, d3, fun d => P d r3, o3.r, k3 _ _ (is_ext e _ _ i2), i3, h3, fun d v H' p e' i => k d r3 v H' p (o3.ext e') ((((k1.trans k2).trans (Kp.ext e)).trans k3).trans (Kp.ext e')) i⟩
  | false => exact k _ r2 _ H' (p.2 rfl) (o2.ext e) ((k1.trans k2).trans (Kp.ext e)) (.bl _)
theorem d_chain {op op' : CmpOp} {o o' : O2} (ho : OpR X (compareOp op) (rD X.K o)) (ho' : OpR X (compareOp op') (rD X.K o')) (ha : PD X W a ta) (hb : PD X W b tb) (hc : PD X W c tc)
    (hm : lastMarks [op, op'] [b, c] = false := by with_unfolding_all rfl) : PD X W (.Compare a [op, op'] [b, c] pos) (aChain o o' ta tb tc) := imE (pe_chain ho ho' ha hb hc hm) fun _ _ _ q => td_chain q
theorem b_chain {op op' : CmpOp} {o o' : O2} (ho : OpR X (compareOp op) (rD X.K o)) (ho' : OpR X (compareOp op') (rD X.K o')) (ha : PD X W a ta) (hb : PD X W b tb) (hc : PD X W c tc)
    (hm : lastMarks [op, op'] [b, c] = false := by with_unfolding_all rfl) : PDB X W (.Compare a [op, op'] [b, c] pos) (aTest (aChain o o' ta tb tc)) := imT (pt_chain ho ho' ha hb hc hm) fun _ _ _ q => tdb_test (fun _ q => td_chain q) q

/-! ### items, slices -/
def oIxP : O2 := fun x y k => match x, y with
  | .lst ds, .int i => match atI ds i with | some d => k d | none => False
  | .tup ds, .int i => match atI ds i with | some d => k d | none => False
  | .str z, .int i => match atI z.cps.toList i with | some c => k (.str ⟨#[c]⟩) | none => False
  | _, _ => False
structure oIx (x y : D) (k : D → Prop) : Prop where
  ex : oIxP x y k
theorem at_all {K : PySem.W.Frag} {N : Addr → Prop} {H : Hp} {vs : List V} {ds : List D} {i : Int} {d : D} (h : IsAll K N H vs ds) (e : atI ds i = some d) : ∃ v, atI vs i = some v ∧ Is K N H v d := by
  unfold atI at e ⊢
  rw [h.length]
  cases q : ixN ds.length i with
  | none => rw [q] at e; cases e
  | some j =>
    rw [q] at e
    exact h.getD e
theorem sok_sign {z : Str} {i : Int} {c : Nat} (h : sok z) (e : atI z.cps.toList i = some c) : sok ⟨#[c]⟩ := by
  refine ⟨?_, by show 1 ≤ 1000000; decide⟩
  unfold atI at e
  cases q : ixN z.cps.toList.length i with
  | none => rw [q] at e; cases e
  | some j =>
    rw [q] at e
    have hm := List.mem_of_getElem? e
    have h1 : z.cps.all (fun c => decide (c < 0x110000)) = true := h.1
    rw [← Array.all_toList, List.all_eq_true] at h1
    show (#[c] : Array Nat).all _ = true
    simpa using h1 c hm
theorem p_ix : IxR X (rD X.K oIx) := by
  rintro value slice pins s σ H x y v u Q I rx ry ⟨r, d1, d2, P, hr, i1, i2, ho, k⟩ hs
  obtain ⟨ho⟩ := ho
  cases i1 <;> cases i2 <;> try exact ho.elim
  · rename_i z hz i
    simp only [oIxP] at ho
    split at ho
    · rename_i c hc
      exact ix_str value slice pins s σ H _ _ v u Q I rx ry ⟨_, _, _, rfl, rfl, Nat.le_trans hz.2 (by decide), hc, k _ _ H ho (Ext.refl H) (.str (sok_sign hz hc))⟩ hs
    · exact ho.elim
  · rename_i n h a i
    simp only [oIxP] at ho
    split at ho
    · rename_i d hd
      obtain ⟨w, hw, iw⟩ := at_all a hd
      exact ix_list value slice pins s σ H _ _ v u Q I rx ry ⟨_, _, _, _, rfl, rfl, SqL.of h, hw, k _ _ H ho (Ext.refl H) iw⟩ hs
    · exact ho.elim
  · rename_i h a i
    simp only [oIxP] at ho
    split at ho
    · rename_i d hd
      obtain ⟨w, hw, iw⟩ := at_all a hd
      exact ix_tup value slice pins s σ H _ _ v u Q I rx ry ⟨_, _, _, _, rfl, rfl, h, hw, k _ _ H ho (Ext.refl H) iw⟩ hs
    · exact ho.elim
theorem d_ix (ha : PD X W a ta) (hb : PD X W b tb) (hs : PlainIx b := by exact fun _ _ => rfl) : PD X W (.Subscript a b pos) (aOp oIx ta tb) := imE (pe_ix p_ix ha hb hs) fun _ _ _ q => td_op q
abbrev AO := XT → Dl → Rs → (Option Int → Rs → Prop) → Prop
section
variable {K : PySem.W.Frag}
def aNo : AO := fun x _ r P => P none r
def aPart (t : AT) : AO := fun x δ r P => t x δ r fun d r1 => match d with | .int i => P (some i) r1 | _ => False
def TDO (K : PySem.W.Frag) (W : WX) (t : AO) : TO := fun σ H Q => ∃ XR δ r P, Ok K W XR r δ σ H ∧ t XR δ r P ∧ ∀ o r' H', P o r' → Ok K W XR r' δ σ H' → Kp K r H r' H' → Q o H'
end
def PDO (X : Cx) (W : WX) (e : Option Expr) (t : AO) : Prop := PO X e (TDO X.K W t)
theorem imO {X : Cx} {e : Option Expr} {t t' : TO} (h : PO X e t) (i : ∀ σ H Q, t' σ H Q → t σ H Q) : PO X e t' := ⟨fun pins s σ H Q I q => h.run pins s σ H Q I (i σ H Q q)⟩
theorem o_no : PDO X W none aNo := imO po_none fun σ H Q q => by
  obtain ⟨XR, δ, r, P, ok, h, k⟩ := q
  exact k _ r H h ok Kp.refl
theorem o_some (h : PD X W a ta) : PDO X W (some a) (aPart ta) := imO (po_some h) fun σ H Q q => by
  obtain ⟨XR, δ, r, P, ok, h, k⟩ := q
  refine td_bind ok h fun d r1 v H1 h1 o1 k1 i1 => ?_
  cases i1 <;> try exact h1.elim
  exact ⟨_, rfl, k _ r1 H1 h1 o1 k1⟩
def cutD (xs : List D) (lo hi : Option Int) : List D := (xs.drop (HT.sIx xs.length 0 lo)).take (HT.sIx xs.length xs.length hi - HT.sIx xs.length 0 lo)
/-- x[lo:hi] -/
def oSlP (x : D) (lo hi : Option Int) (k : D → Prop) : Prop := match x with
  | .lst ds => k (.lst (cutD ds lo hi))
  | .tup ds => k (.tup (cutD ds lo hi))
  | .str z => k (.str (cutS z lo hi))
  | _ => False
structure oSl (x : D) (lo hi : Option Int) (k : D → Prop) : Prop where
  ex : oSlP x lo hi k
def aSl (t : AT) (lo hi : AO) : AT := fun x δ r P => t x δ r fun d r1 => lo x δ r1 fun l r2 => hi x δ r2 fun u r3 => oSl d l u fun d => P d r3
def rSlD (K : PySem.W.Frag) : V → Option Int → Option Int → Hp → VK → Prop := fun x lo hi H Q => ∃ (r : Rs) (d : D) (P : D → Prop), Rok K r H ∧ Is K (mem r) H x d ∧ oSl d lo hi P ∧ ∀ d v H', P d → Ext H H' → Is K (mem r) H' v d → Q v H'
theorem cut_all {K : PySem.W.Frag} {N : Addr → Prop} {H : Hp} {vs : List V} {ds : List D} (lo hi : Option Int) (h : IsAll K N H vs ds) : IsAll K N H (cutV vs lo hi) (cutD ds lo hi) := by
  unfold cutV cutD
  rw [h.length]
  exact (h.drop _).take _
theorem sok_cut {z : Str} (h : sok z) (lo hi : Option Int) : sok (cutS z lo hi) := by
  refine ⟨?_, ?_⟩
  · have h1 : z.cps.all (fun c => decide (c < 0x110000)) = true := h.1
    rw [← Array.all_toList, List.all_eq_true] at h1
    show (cutS z lo hi).cps.all (fun c => decide (c < 0x110000)) = true
    rw [← Array.all_toList, List.all_eq_true]
    intro c hc
    unfold cutS at hc
    exact h1 c (List.mem_of_mem_drop (List.mem_of_mem_take (by simpa using hc)))
  · have := h.2
    unfold cutS Str.length at *
    simp only [List.size_toArray, List.length_take, List.length_drop, Array.length_toList]
    omega
theorem p_sl : SlR X (rSlD X.K) := by
  rintro pins s σ H x v vl vu lo hi sl Q I rx hs pl pu ⟨r, d, P, hr, i, ho, k⟩
  obtain ⟨ho⟩ := ho
  cases i <;> try exact ho.elim
  · rename_i hz
    exact sl_str pins s σ H _ v vl vu lo hi sl Q I rx hs pl pu ⟨_, rfl, Nat.le_trans hz.2 (by decide), k _ _ H ho (Ext.refl H) (.str (sok_cut hz lo hi))⟩
  · rename_i n h a
    exact sl_list pins s σ H _ v vl vu lo hi sl Q I rx hs pl pu ⟨_, _, rfl, SqL.of h, fun p hp => k _ _ _ ho (Ext.new hp) (new_lst hr hp (cut_all lo hi a))⟩
  · rename_i h a
    refine sl_tupA pins s σ H _ v vl vu lo hi sl Q I rx hs pl pu ⟨_, _, rfl, h, fun z => ?_, fun _ p hp => k _ _ _ ho (Ext.new hp) (new_tup hp (cut_all lo hi a))⟩
    have e : ∀ ds : List D, HT.sIx ds.length 0 lo = 0 ∧ HT.sIx ds.length ds.length hi = ds.length → cutD ds lo hi = ds := fun ds ⟨z1, z2⟩ => by
      unfold cutD
      rw [z1, z2]
      simp
    rw [a.length] at z
    have ho : P (.tup (cutD _ lo hi)) := ho
    rw [e _ z] at ho
    exact k _ _ H ho (Ext.refl H) (.tup h a)
theorem d_sl {lo hi : Option Expr} {tl th : AO} {p2 : Pos} (ha : PD X W a ta) (hl : PDO X W lo tl) (hh : PDO X W hi th) : PD X W (.Subscript a (.Slice lo hi none p2) pos) (aSl ta tl th) := imE (pe_slice p_sl ha hl hh) fun σ H Q q => by
  obtain ⟨XR, δ, r, P, ok, h, k⟩ := q
  refine td_bind ok h fun d r1 v H1 h1 o1 k1 i1 => ⟨_, δ, r1, _, o1, h1, fun l r2 H2 h2 o2 k2 => ⟨_, δ, r2, _, o2, h2, fun u r3 H3 h3 o3 k3 => ?_⟩⟩
  exact ⟨r3, d, fun d => P d r3, o3.r, k3 _ _ (k2 _ _ i1), h3, fun d v H' p e i => k d r3 v H' p (o3.ext e) (((k1.trans k2).trans k3).trans (Kp.ext e)) i⟩

/-! ### calls of builtins by values -/
abbrev OC := List D → (D → Prop) → Prop
def rC (K : PySem.W.Frag) (o : OC) : List V → Hp → VK → Prop := fun vs H Q => ∃ (r : Rs) (ds : List D) (P : D → Prop), Rok K r H ∧ IsAll K (mem r) H vs ds ∧ o ds P ∧ ∀ d v H', P d → Ext H H' → Is K (mem r) H' v d → Q v H'
def aBlt (o : OC) (l : AL) : AT := fun x δ r P => l x δ r fun ds r1 => o ds fun d => P d r1
variable {e : Expr} {es : List Expr} {x : Str} {p : Pos} {l : AL} {o : OC} {bid T : String}
theorem tcb {K : PySem.W.Frag} {W : WX} {o : OC} {l : AL} {σ : L2.St} {H : Hp} {Q : VK} (q : TD K W (aBlt o l) σ H Q) : tCB (rC K o) (TDL K W l) σ H Q := by
  obtain ⟨XR, δ, r, P, ok, h, k⟩ := q
  refine tdl_bind ok h fun ds r1 vs H1 h1 o1 k1 i1 => ⟨r1, ds, fun d => P d r1, o1.r, i1, h1, fun d v H' p e i => k d r1 v H' p (o1.ext e) (k1.trans (Kp.ext e)) i⟩
theorem d_blt (hc : CallR X (.builtin bid) (rC X.K o)) (hg : Gl X x) (hm : X.mg x = none) (ha : PDL X W (e :: es) l) (hv : bootBuiltins x = some (.builtin bid) := by decide +kernel) (hn : x ≠ "__name__" := by decide) (hdb : (x == ("__debug__" : Str)) = false := by decide)
    (he : starEach (e :: es) X.env = (false, eval e X.env) :: starEach es X.env := by rfl) (hpl : (backTo pos (starEach es X.env)).any (·.1) = false := by rfl) : PD X W (.Call (.Name x p) (e :: es) [] pos) (aBlt o l) :=
  imE (pe_callB hc hg hm hv ha hn hdb he hpl) fun _ _ _ q => tcb q
theorem d_ty (hc : CallR X (.type T) (rC X.K o)) (hg : Gl X x) (hm : X.mg x = none) (ha : PDL X W (e :: es) l) (hv : bootBuiltins x = some (.type T) := by decide +kernel) (hn : x ≠ "__name__" := by decide) (hdb : (x == ("__debug__" : Str)) = false := by decide)
    (he : starEach (e :: es) X.env = (false, eval e X.env) :: starEach es X.env := by rfl) (hpl : (backTo pos (starEach es X.env)).any (·.1) = false := by rfl) : PD X W (.Call (.Name x p) (e :: es) [] pos) (aBlt o l) :=
  imE (pe_callTy hc hg hm hv ha hn hdb he hpl) fun _ _ _ q => tcb q
def oLen : OC := fun ds k => match ds with
  | [.lst xs] => xs.length ≤ sizeLine → k (.int xs.length) | [.tup xs] => xs.length ≤ sizeLine → k (.int xs.length) | [.str z] => k (.int z.length) | _ => False
theorem c_len : CallR X (.builtin "len") (rC X.K oLen) := by
  rintro pins s σ H vs us Q I rv ⟨r, ds, P, hr, i, ho, k⟩
  cases i with
  | nil => exact ho.elim
  | cons i t =>
    cases t with
    | cons _ _ => cases i <;> exact ho.elim
    | nil =>
      cases i <;> try exact ho.elim
      · rename_i hz
        exact call_len pins s σ H _ us Q I rv ⟨_, _, rfl, ⟨Nat.le_trans hz.2 (by decide), rfl⟩, k _ _ H ho (Ext.refl H) (.int _)⟩
      · rename_i n h a
        obtain ⟨_, _, _, hz⟩ := I.list (SqL.of h)
        exact call_len pins s σ H _ us Q I rv ⟨_, _, rfl, .inl ⟨_, SqL.of h, rfl⟩, by rw [a.length] at hz ⊢; exact k _ _ H (ho hz) (Ext.refl H) (.int _)⟩
      · rename_i h a
        obtain ⟨_, _, _, hz⟩ := I.tuple h
        exact call_len pins s σ H _ us Q I rv ⟨_, _, rfl, .inr ⟨_, h, rfl⟩, by rw [a.length] at hz ⊢; exact k _ _ H (ho hz) (Ext.refl H) (.int _)⟩
def oInt : OC := fun ds k => match ds with | [.int i] => k (.int i) | [.bl b] => k (.int (if b then 1 else 0)) | _ => False
theorem c_int : CallR X (.type "int") (rC X.K oInt) := by
  rintro pins s σ H vs us Q I rv ⟨r, ds, P, hr, i, ho, k⟩
  cases i with
  | nil => exact ho.elim
  | cons i t =>
    cases t with
    | cons _ _ => cases i <;> exact ho.elim
    | nil =>
      cases i <;> try exact ho.elim
      · exact call_int1 pins s σ H _ us Q I rv (.inr ⟨_, rfl, k _ _ H ho (Ext.refl H) (.int _)⟩)
      · exact call_int1 pins s σ H _ us Q I rv (.inl ⟨_, rfl, k _ _ H ho (Ext.refl H) (.int _)⟩)
def oList : OC := fun ds k => match ds with | [.lst xs] => k (.lst xs) | [.tup xs] => k (.lst xs) | _ => False
theorem c_list : CallR X (.type "list") (rC X.K oList) := by
  rintro pins s σ H vs us Q I rv ⟨r, ds, P, hr, i, ho, k⟩
  cases i with
  | nil => exact ho.elim
  | cons i t =>
    cases t with
    | cons _ _ => cases i <;> exact ho.elim
    | nil =>
      cases i <;> try exact ho.elim
      · rename_i n h a
        exact call_list_of pins s σ H _ us Q I rv ⟨_, _, rfl, .inl (SqL.of h), fun p hp => k _ _ _ ho (Ext.new hp) (new_lst hr hp a)⟩
      · rename_i h a
        exact call_list_of pins s σ H _ us Q I rv ⟨_, _, rfl, .inr h, fun p hp => k _ _ _ ho (Ext.new hp) (new_lst hr hp a)⟩
def oTuple : OC := fun ds k => match ds with | [.lst xs] => k (.tup xs) | [.tup xs] => k (.tup xs) | _ => False
theorem c_tuple : CallR X (.type "tuple") (rC X.K oTuple) := by
  rintro pins s σ H vs us Q I rv ⟨r, ds, P, hr, i, ho, k⟩
  cases i with
  | nil => exact ho.elim
  | cons i t =>
    cases t with
    | cons _ _ => cases i <;> exact ho.elim
    | nil =>
      cases i <;> try exact ho.elim
      · rename_i n h a
        exact call_tuple_of pins s σ H _ us Q I rv ⟨_, _, rfl, .inl ⟨SqL.of h, fun p hp => k _ _ _ ho (Ext.new hp) (new_tup hp a)⟩⟩
      · rename_i h a
        exact call_tuple_of pins s σ H _ us Q I rv ⟨_, _, rfl, .inr ⟨h, k _ _ H ho (Ext.refl H) (.tup h a)⟩⟩
def bls : List D → Option (List Bool)
  | [] => some []
  | .bl b :: r => (bls r).map (b :: ·)
  | _ :: _ => none
theorem bls_map : ∀ (bs : List Bool), bls (bs.map .bl) = some bs
  | [] => rfl
  | b :: bs => by simp [bls, bls_map bs]
theorem bls_all {K : PySem.W.Frag} {N : Addr → Prop} {H : Hp} : ∀ {vs : List V} {ds : List D} {bs : List Bool}, IsAll K N H vs ds → bls ds = some bs → vs = bs.map V.bl
  | _, _, _, .nil, e => by cases e; rfl
  | _, d :: ds, bs, .cons i t, e => by
    cases i <;> try (simp [bls] at e; done)
    simp only [bls] at e
    cases q : bls ds with
    | none => rw [q] at e; cases e
    | some cs =>
      rw [q] at e
      cases e
      rw [bls_all t q]
      rfl
def oAllP (f : List Bool → Bool) : OC := fun ds k => match ds with | [.lst xs] => (match bls xs with | some bs => k (.bl (f bs)) | none => False) | _ => False
structure oAll (f : List Bool → Bool) (ds : List D) (k : D → Prop) : Prop where
  ex : oAllP f ds k
theorem c_all (hc : X.calm = true := by rfl) : CallR X (.builtin "all") (rC X.K (oAll fun bs => bs.all id)) := by
  rintro pins s σ H vs us Q I rv ⟨r, ds, P, hr, i, ho, k⟩
  obtain ⟨ho⟩ := ho
  cases i with
  | nil => exact ho.elim
  | cons i t =>
    cases t with
    | cons _ _ => cases i <;> exact ho.elim
    | nil =>
      cases i <;> try exact ho.elim
      rename_i n h a
      simp only [oAllP] at ho
      split at ho
      · rename_i bs hb
        have e := bls_all a hb
        subst e
        exact cr_all hc pins s σ H _ us Q I rv ⟨_, _, rfl, SqL.of h, k _ _ H ho (Ext.refl H) (.bl _)⟩
      · exact ho.elim
theorem c_any (hc : X.calm = true := by rfl) : CallR X (.builtin "any") (rC X.K (oAll fun bs => bs.any id)) := by
  rintro pins s σ H vs us Q I rv ⟨r, ds, P, hr, i, ho, k⟩
  obtain ⟨ho⟩ := ho
  cases i with
  | nil => exact ho.elim
  | cons i t =>
    cases t with
    | cons _ _ => cases i <;> exact ho.elim
    | nil =>
      cases i <;> try exact ho.elim
      rename_i n h a
      simp only [oAllP] at ho
      split at ho
      · rename_i bs hb
        have e := bls_all a hb
        subst e
        exact cr_any hc pins s σ H _ us Q I rv ⟨_, _, rfl, SqL.of h, k _ _ H ho (Ext.refl H) (.bl _)⟩
      · exact ho.elim
/-! ### isinstance -/
def tyD : D → String
  | .non => "NoneType" | .bl _ => "bool" | .int _ => "int" | .str _ => "str" | .lst _ => "list" | .tup _ => "tuple" | .dct _ _ => "dict" | _ => ""
def nad : D → Bool | .adr _ => false | .ins _ _ _ => false | _ => true
theorem tyX {K : PySem.W.Frag} {N : Addr → Prop} {H : Hp} {v : V} {d : D} (h : Is K N H v d) (n : nad d = true) : TyX K H v (.type (tyD d)) := by
  cases h with
  | non => exact .base .non
  | bl b => exact .base (.bl b)
  | int i => exact .base (.int i)
  | str _ => exact .base (.str _)
  | adr a => cases n
  | ins _ _ _ _ _ => cases n
  | dct n0 s e a => exact .base (.dK s)
  | lst _ h _ => exact .base (.lst h)
  | tup h _ =>
    rcases h with (h | ⟨o, h⟩) | ⟨o, its, k, h1, h2, _⟩
    · exact .base (.tup h)
    · exact .fTuple h
    · exact .kTuple h1 h2
inductive Ty5 : String → Prop | str : Ty5 "str" | int : Ty5 "int" | bool : Ty5 "bool" | list : Ty5 "list" | tuple : Ty5 "tuple"
def tyB (T n : String) : Bool := T == n || (T == "int" && n == "bool")
def isTy (T : String) (d : D) : Bool := tyB T (tyD d)
theorem kk6 : (ks6.all fun n => ks5.all fun T => decide (kitB n T = some (tyB T n))) = true := by decide +kernel
theorem kk {n T : String} (h : n ∈ ks6) (g : T ∈ ks5) : kitB n T = some (tyB T n) := by
  have q := List.all_eq_true.mp (List.all_eq_true.mp kk6 n h) T g
  exact of_decide_eq_true q
theorem kit5 {K : PySem.W.Frag} {T : String} (t : Ty5 T) (d : D) (n : nad d = true) : PySem.W.kitOne K (.type (tyD d)) (.type T) = some (isTy T d) := by
  refine kit_ty (kk ?_ ?_)
  · cases d <;> first | (cases n; done) | simp [tyD, ks6]
  · cases t <;> simp [ks5]
def noAdr : D → Bool | .adr _ => false | _ => true
theorem kit_own {K : PySem.W.Frag} {C : Addr} {T : String} (t : Ty5 T) (h : ∀ T ∈ ks5, PySem.W.subIn K (.ref C) (.type T) = some false) : PySem.W.kitOne K (.ref C) (.type T) = some false := by
  have hm : T ∈ ks5 := by cases t <;> simp [ks5]
  have km : PySem.W.kitMeta T = true := by cases t <;> decide +kernel
  unfold PySem.W.kitOne
  rw [if_neg (show ¬ ((Value.ref C == Value.type T) = true) by intro e; cases (beq_iff_eq.mp e))]
  show (if PySem.W.kitMeta T = true then PySem.W.subIn K (.ref C) (.type T) else none) = some false
  rw [if_pos km]
  exact h T hm
theorem tyX2 {K : PySem.W.Frag} {N : Addr → Prop} {H : Hp} {v : V} {d : D} (h : Is K N H v d) (n : noAdr d = true) : ∃ t, TyX K H v t ∧ ∀ T, Ty5 T → PySem.W.kitOne K t (.type T) = some (isTy T d) := by
  cases d with
  | adr a => cases n
  | ins C fs ds =>
    cases h with
    | ins n s e g a =>
      refine ⟨_, .base (.ins s g.cls g.p.kls g.p.get g.p.tak g.p.mro), fun T t => ?_⟩
      rw [kit_own t g.p.sub]
      cases t <;> rfl
  | non => exact ⟨_, tyX h rfl, fun T t => kit5 t _ rfl⟩
  | bl b => exact ⟨_, tyX h rfl, fun T t => kit5 t _ rfl⟩
  | int i => exact ⟨_, tyX h rfl, fun T t => kit5 t _ rfl⟩
  | str x => exact ⟨_, tyX h rfl, fun T t => kit5 t _ rfl⟩
  | lst ds => exact ⟨_, tyX h rfl, fun T t => kit5 t _ rfl⟩
  | tup ds => exact ⟨_, tyX h rfl, fun T t => kit5 t _ rfl⟩
  | dct ks ds => exact ⟨_, tyX h rfl, fun T t => kit5 t _ rfl⟩
/-- isinstance(x, T) -/
def aIsi (T : String) (t : AT) : AT := fun x δ r P => t x δ r fun d r1 => match d with | .adr _ => False | d => P (.bl (isTy T d)) r1
theorem d_isi {q : Pos} {y : Str} (ht : Ty5 T) (hg : Gl X "isinstance") (hm : X.mg "isinstance" = none) (ha : PD X W a ta) (gy : Gl X y) (my : X.mg y = none) (by_ : bootBuiltins y = some (.type T) := by decide +kernel) (hny : y ≠ "__name__" := by decide) (hdy : (y == ("__debug__" : Str)) = false := by decide)
    (he : starEach [a, .Name y q] X.env = (false, eval a X.env) :: starEach [.Name y q] X.env := by rfl) (hpl : (backTo pos (starEach [.Name y q] X.env)).any (·.1) = false := by rfl) (he2 : starEach [.Name y q] X.env = (false, eval (.Name y q) X.env) :: starEach [] X.env := by rfl) :
    PD X W (.Call (.Name "isinstance" p) [a, .Name y q] [] pos) (aIsi T ta) := imE (pe_callB call_isi hg hm (by decide +kernel) (pa_cons ha (pa_cons (pe_bltn (v := .ty T) gy my by_ rfl hny hdy) pa_nil he2) he) (by decide) (by decide) he hpl) fun σ H Q q => by
  obtain ⟨XR, δ, r, P, ok, h, k⟩ := q
  refine td_bind ok h fun d r1 v H1 h1 o1 k1 i1 => ?_
  have n : noAdr d = true := by cases d <;> first | exact h1.elim | rfl
  obtain ⟨t0, ty0, kt0⟩ := tyX2 i1 n
  have h2 : P (.bl (isTy T d)) r1 := by cases d <;> first | exact h1.elim | exact h1
  exact ⟨v, .ty T, _, _, _, rfl, .ty T, ty0, kt0 T ht, k _ r1 _ H1 h2 o1 k1 (.bl _)⟩
/-- isinstance(x, (T, U)) -/
def aIsi2 (T U : String) (t : AT) : AT := fun x δ r P => t x δ r fun d r1 => match d with | .adr _ => False | d => P (.bl (isTy T d || isTy U d)) r1
theorem d_isi2 {U : String} {q q2 q3 : Pos} {kk} {y z : Str} (ht : Ty5 T) (hu : Ty5 U) (hg : Gl X "isinstance") (hm : X.mg "isinstance" = none) (ha : PD X W a ta) (gy : Gl X y) (my : X.mg y = none) (gz : Gl X z) (mz : X.mg z = none) (by_ : bootBuiltins y = some (.type T) := by decide +kernel) (bz : bootBuiltins z = some (.type U) := by decide +kernel)
    (hny : y ≠ "__name__" := by decide) (hdy : (y == ("__debug__" : Str)) = false := by decide) (hnz : z ≠ "__name__" := by decide) (hdz : (z == ("__debug__" : Str)) = false := by decide)
    (he : starEach [a, .Tuple [.Name y q, .Name z q2] kk q3] X.env = (false, eval a X.env) :: starEach [.Tuple [.Name y q, .Name z q2] kk q3] X.env := by rfl) (hpl : (backTo pos (starEach [.Tuple [.Name y q, .Name z q2] kk q3] X.env)).any (·.1) = false := by rfl)
    (he2 : starEach [.Tuple [.Name y q, .Name z q2] kk q3] X.env = (false, eval (.Tuple [.Name y q, .Name z q2] kk q3) X.env) :: starEach [] X.env := by rfl)
    (he3 : starEach [.Name y q, .Name z q2] X.env = (false, eval (.Name y q) X.env) :: starEach [.Name z q2] X.env := by rfl) (he4 : starEach [.Name z q2] X.env = (false, eval (.Name z q2) X.env) :: starEach [] X.env := by rfl) :
    PD X W (.Call (.Name "isinstance" p) [a, .Tuple [.Name y q, .Name z q2] kk q3] [] pos) (aIsi2 T U ta) :=
  imE (pe_callB call_isiT hg hm (by decide +kernel) (pa_cons ha (pa_cons (pe_tup (pa_cons (pe_bltn (v := .ty T) gy my by_ rfl hny hdy) (pa_cons (pe_bltn (v := .ty U) gz mz bz rfl hnz hdz) pa_nil he4) he3)) pa_nil he2) he) (by decide) (by decide) he hpl) fun σ H Q q => by
  obtain ⟨XR, δ, r, P, ok, h, k⟩ := q
  refine td_bind ok h fun d r1 v H1 h1 o1 k1 i1 => ⟨(by decide : 2 ≤ sizeLine), fun tp htp => ?_⟩
  have n : noAdr d = true := by cases d <;> first | exact h1.elim | rfl
  obtain ⟨t0, ty0, kt0⟩ := tyX2 (is_ext (Ext.new htp (o := .tup [.ty T, .ty U])) _ _ i1) n
  have h2 : P (.bl (isTy T d || isTy U d)) r1 := by cases d <;> first | exact h1.elim | exact h1
  refine ⟨v, tp, _, _, [.type T, .type U], isTy T d || isTy U d, rfl, upd_same, .cons (.ty T) (.cons (.ty U) .nil), ty0, ?_, k _ r1 _ _ h2 (o1.new htp) (k1.trans (Kp.ext (Ext.new htp))) (.bl _)⟩
  exact kitAny_cons (kt0 T ht) (fun e => by rw [e, Bool.false_or]; exact kitAny_cons (kt0 U hu) (fun e => by rw [e]; exact kitAny_nil) (fun e => e)) (fun e => by rw [e]; rfl)
end
end G

namespace G
open PySem PySem.Spec L2

/-- what follows a statement -/
structure An where
  nx : Dl → Rs → Prop
  rt : D → Rs → Prop := fun _ _ => False
  bk : Dl → Rs → Prop := fun _ _ => False
  ct : Dl → Rs → Prop := fun _ _ => False
  xr : XT := fun _ _ _ _ _ => False
abbrev AS := An → Dl → Rs → Prop
structure Fin (K : PySem.W.Frag) (W : WX) (A : An) (r : Rs) (H : Hp) (D : Ends) : Prop where
  nx : ∀ δ' r' σ' H', A.nx δ' r' → Ok K W A.xr r' δ' σ' H' → Kp K r H r' H' → D.nx σ' H'
  rt : ∀ d r' v H', A.rt d r' → Rok K r' H' → Kp K r H r' H' → Is K (mem r') H' v d → D.rt v H'
  bk : ∀ δ' r' σ' H', A.bk δ' r' → Ok K W A.xr r' δ' σ' H' → Kp K r H r' H' → D.bk σ' H'
  ct : ∀ δ' r' σ' H', A.ct δ' r' → Ok K W A.xr r' δ' σ' H' → Kp K r H r' H' → D.ct σ' H'
theorem Fin.step {K : PySem.W.Frag} {W : WX} {A : An} {r r1 : Rs} {H H1 : Hp} {D : Ends} (f : Fin K W A r H D) (k : Kp K r H r1 H1) : Fin K W A r1 H1 D :=
  ⟨fun δ r' σ H' a o q => f.nx δ r' σ H' a o (k.trans q), fun d r' v H' a o q i => f.rt d r' v H' a o (k.trans q) i, fun δ r' σ H' a o q => f.bk δ r' σ H' a o (k.trans q), fun δ r' σ H' a o q => f.ct δ r' σ H' a o (k.trans q)⟩
def TSD (K : PySem.W.Frag) (W : WX) (t : AS) : TS := fun D σ H => ∃ δ r A, Ok K W A.xr r δ σ H ∧ t A δ r ∧ Fin K W A r H D
def PSD (X : Cx) (W : WX) (st : Stmt) (t : AS) : Prop := PS X st (TSD X.K W t)
def PBD (X : Cx) (W : WX) (st : List Stmt) (t : AS) : Prop := PSs X st (TSD X.K W t)
section
variable {K : PySem.W.Frag}
def sNext : AS := fun A δ r => A.nx δ r
def sSeq (t u : AS) : AS := fun A δ r => t { A with nx := fun δ' r' => u A δ' r' } δ r
def sExpr (t : AT) : AS := fun A δ r => t A.xr δ r fun _ r1 => A.nx δ r1
def sRet (t : AT) : AS := fun A δ r => t A.xr δ r A.rt
def sRetN : AS := fun A _ r => A.rt .non r
def sBreak : AS := fun A δ r => A.bk δ r
def sCont : AS := fun A δ r => A.ct δ r
def sIf (c : AB) (t u : AS) : AS := fun A δ r => c A.xr δ r fun b r1 => (b = true → t A δ r1) ∧ (b = false → u A δ r1)
def sAsg (i : Nat) (t : AT) : AS := fun A δ r => t A.xr δ r fun d r1 => A.nx (δ.set i (some d)) r1
def setAll : Dl → List Nat → List D → Dl
  | δ, i :: is, d :: ds => setAll (δ.set i (some d)) is ds
  | δ, _, _ => δ
def sTup (is : List Nat) (t : AT) : AS := fun A δ r => t A.xr δ r fun d r1 => match d with | .tup ds => ds.length = is.length ∧ A.nx (setAll δ is ds) r1 | _ => False
def sAug (i : Nat) (o : O2) (t : AT) : AS := fun A δ r => match lk δ i with | some d0 => t A.xr δ r fun d r1 => o d0 d fun d2 => A.nx (δ.set i (some d2)) r1 | none => False
end
section
variable {X : Cx} {W : WX} {st : Stmt} {rest : List Stmt} {t u : AS} {e c : Expr} {te : AT} {tc : AB} {pos : Pos}
theorem ss_nil : PBD X W [] sNext := imSs pss_nil fun D σ H ⟨δ, r, A, o, h, f⟩ => f.nx _ _ _ _ h o Kp.refl
theorem ss_one (h : PSD X W st t) : PBD X W [st] t := pss_one h
theorem ss_cons (h1 : PSD X W st t) (h2 : PBD X W rest u) : PBD X W (st :: rest) (sSeq t u) := imSs (pss_cons h1 h2) fun D σ H ⟨δ, r, A, o, h, f⟩ =>
  ⟨δ, r, { A with nx := fun δ' r' => u A δ' r' }, o, h, ⟨fun δ' r' σ' H' a o' k => ⟨δ', r', A, o', a, f.step k⟩, f.rt, f.bk, f.ct⟩⟩
theorem s_pass : PSD X W (.Pass pos) sNext := imS ps_pass fun D σ H ⟨δ, r, A, o, h, f⟩ => f.nx _ _ _ _ h o Kp.refl
theorem s_break : PSD X W (.Break pos) sBreak := imS ps_break fun D σ H ⟨δ, r, A, o, h, f⟩ => f.bk _ _ _ _ h o Kp.refl
theorem s_cont : PSD X W (.Continue pos) sCont := imS ps_continue fun D σ H ⟨δ, r, A, o, h, f⟩ => f.ct _ _ _ _ h o Kp.refl
theorem s_doc {x j pos'} : PSD X W (.Expr (.Constant (.str x) j pos) pos') sNext := imS ps_doc fun D σ H ⟨δ, r, A, o, h, f⟩ => f.nx _ _ _ _ h o Kp.refl
theorem s_expr (he : PD X W e te) (hs : swapsWith e none pos.line X.env = pure false := by rfl) : PSD X W (.Expr e pos) (sExpr te) := imS (ps_expr he hs) fun D σ H ⟨δ, r, A, o, h, f⟩ =>
  td_bind o h fun d r1 v H1 h1 o1 k1 i1 => f.nx _ _ _ _ h1 o1 k1
theorem s_ret (he : PD X W e te) : PSD X W (.Return (some e) pos) (sRet te) := imS (ps_ret he) fun D σ H ⟨δ, r, A, o, h, f⟩ =>
  td_bind o h fun d r1 v H1 h1 o1 k1 i1 => f.rt _ _ _ _ h1 o1.r k1 i1
theorem s_retN : PSD X W (.Return none pos) sRetN := imS ps_retN fun D σ H ⟨δ, r, A, o, h, f⟩ => f.rt _ _ _ _ h o.r Kp.refl .non
theorem s_if {a b : List Stmt} (hc : PDB X W c tc) (ha : PBD X W a t) (hb : PBD X W b u) : PSD X W (.If c a b pos) (sIf tc t u) := imS (ps_if hc ha hb) fun D σ H ⟨δ, r, A, o, h, f⟩ =>
  tdb_bind o h fun d r1 H1 h1 o1 k1 => by
    cases d with
    | true => exact ⟨δ, r1, A, o1, h1.1 rfl, f.step k1⟩
    | false => exact ⟨δ, r1, A, o1, h1.2 rfl, f.step k1⟩
theorem s_set {i : Nat} {x : Str} {pos' : Pos} (hN : X.N.Nodup) (he : PD X W e te) (hi : X.N[i]? = some x := by rfl) (hx : Loc X.env.scope x := by first | exact Or.inl rfl | exact Or.inr rfl) (hs : swapsWith e (some (.Name x pos')) pos.line X.env = pure false := by rfl)
    (hf : X.fn x = true ∨ X.env.scope.names.lookup x = some .local := by first | exact .inl rfl | exact .inr rfl | assumption) : PSD X W (.Assign [.Name x pos'] e pos) (sAsg i te) := imS (ps_set hN hi hx he hs hf) fun D σ H ⟨δ, r, A, o, h, f⟩ =>
  td_bind o h fun d r1 v H1 h1 o1 k1 i1 => f.nx _ _ _ _ h1 (o1.set i1) k1
def gNames : List Nat → TGs
  | [] => gNil
  | i :: is => gCons (gName i) (gNames is)
theorem names_all {K : PySem.W.Frag} {W : WX} {XR : XT} {r : Rs} {H : Hp} {Q : L2.St → Hp → Prop} : ∀ {is : List Nat} {vs : List V} {ds : List D} {δ : Dl} {σ : L2.St}, Ok K W XR r δ σ H → IsAll K (mem r) H vs ds → ds.length = is.length → (∀ σ', Ok K W XR r (setAll δ is ds) σ' H → Q σ' H) → gNames is vs σ H Q
  | [], _, _, δ, σ, o, .nil, _, k => ⟨rfl, k σ o⟩
  | [], _, _, δ, σ, o, .cons _ _, l, k => by cases l
  | i :: is, _, _, δ, σ, o, .nil, l, k => by cases l
  | i :: is, _, _, δ, σ, o, .cons h t, l, k => ⟨_, _, rfl, names_all (is := is) (o.set h) t (by simpa using l) k⟩
theorem s_tup {is : List Nat} {ts : List Expr} {kk : Nat} {p2 : Pos} (he : PD X W e te) (hg : PGs X ts (gNames is)) (hc : X.calm = true := by rfl) (hn : (assignEach ts X.env).length = is.length := by rfl) (hst : (assignEach ts X.env).findIdx? (·.1) = none := by rfl)
    (hs : swapsWithSole [.Tuple ts kk p2] e pos.line X.env = pure false := by rfl) (hw : swappedStores [.Tuple ts kk p2] e X.env = pure none := by rfl)
    (h1 : (assignEach [.Tuple ts kk p2] X.env).map (·.2) = [assign (.Tuple ts kk p2) X.env] := by rfl) : PSD X W (.Assign [.Tuple ts kk p2] e pos) (sTup is te) :=
  imS (ps_asg he (pg_tup hc hg hn hst) hs hw h1) fun D σ H ⟨δ, r, A, o, h, f⟩ => td_bind o h fun d r1 v H1 h1 o1 k1 i1 => by
    cases i1 with
    | tup s a => exact ⟨_, _, rfl, s, by rw [a.length]; exact h1.1, names_all o1 a h1.1 fun σ' o' => f.nx _ _ _ _ h1.2 o' k1⟩
    | _ => exact h1.elim
theorem pip_of {op : Operator} {o : O2} (h : OpR X (inplaceOp op) (rD X.K o)) : PIp X op (rD X.K o) := fun pins s σ H x y v u Q I rx ry q => h pins s σ H x y v u Q I rx ry q
theorem s_aug {i : Nat} {x : Str} {op : Operator} {o : O2} {pos' : Pos} (hN : X.N.Nodup) (ho : OpR X (inplaceOp op) (rD X.K o)) (he : PD X W e te) (hi : X.N[i]? = some x := by rfl) (hx : Loc X.env.scope x := by first | exact Or.inl rfl | exact Or.inr rfl)
    (hf : X.fn x = true ∨ X.env.scope.names.lookup x = some .local := by first | exact .inl rfl | exact .inr rfl | assumption) : PSD X W (.AugAssign (.Name x pos') op e pos) (sAug i o te) := imS (ps_aug hN hi hx he (pip_of ho) hf) fun D σ H ⟨δ, r, A, ok, h, f⟩ => by
  unfold sAug at h
  split at h
  · rename_i d0 hd
    obtain ⟨v, h1, h2⟩ := ok.env i d0 (lk_get hd)
    refine ⟨v, h1, td_bind ok h fun d r1 w H1 h1 o1 k1 i1 => ?_⟩
    exact ⟨r1, d0, d, _, o1.r, k1 _ _ h2, i1, h1, fun d2 v2 H' p e i => f.nx _ _ _ _ p ((o1.ext e).set i) (k1.trans (Kp.ext e))⟩
  · exact h.elim
def oIAdd : O2 := fun x y k => match x, y with | .int i, .int j => k (.int (i + j)) | _, _ => False
theorem p_iadd : OpR X (inplaceOp .Add) (rD X.K oIAdd) := by
  rintro pins s σ H x y v u Q I rx ry ⟨r, d1, d2, P, hr, i1, i2, ho, k⟩
  cases i1 <;> cases i2 <;> try exact ho.elim
  exact iop_add pins s σ H _ _ v u Q I rx ry ⟨_, _, rfl, rfl, k _ _ H ho (Ext.refl H) (.int _)⟩
def oISub : O2 := fun x y k => match x, y with | .int i, .int j => k (.int (i - j)) | _, _ => False
theorem p_isub : OpR X (inplaceOp .Sub) (rD X.K oISub) := by
  rintro pins s σ H x y v u Q I rx ry ⟨r, d1, d2, P, hr, i1, i2, ho, k⟩
  cases i1 <;> cases i2 <;> try exact ho.elim
  exact iop_sub pins s σ H _ _ v u Q I rx ry ⟨_, _, rfl, rfl, k _ _ H ho (Ext.refl H) (.int _)⟩
end

/-! ### what is walked -/
/-- the turns of J yield the data ds, whatever else happens -/
def Walks (K : PySem.W.Frag) (J : It) (ds : List D) (r : Rs) (H : Hp) : Prop := ∀ i r1 H1, Kp K r H r1 H1 → Rok K r1 H1 →
  (i < ds.length → J.go i H1 ∧ ∀ x H2, J.yld i H1 x H2 → Ext H1 H2 ∧ ∃ d, ds[i]? = some d ∧ Is K (mem r1) H2 x d) ∧ (i = ds.length → J.stop i H1)
abbrev AI := XT → Dl → Rs → (List D → Rs → Prop) → Prop
def TDI (K : PySem.W.Frag) (W : WX) (t : AI) : TI := fun σ H R => ∃ XR δ r P, Ok K W XR r δ σ H ∧ t XR δ r P ∧ ∀ ds r' J H', P ds r' → Ok K W XR r' δ σ H' → Kp K r H r' H' → Walks K J ds r' H' → R J H'
def PDI (X : Cx) (W : WX) (tg iter : Expr) (t : AI) : Prop := PI X tg iter (TDI X.K W t)
theorem imI {X : Cx} {tg e : Expr} {t t' : TI} (h : PI X tg e t) (i : ∀ σ H Q, t' σ H Q → t σ H Q) : PI X tg e t' := ⟨fun pins s σ H Q I q => h.run pins s σ H Q I (i σ H Q q)⟩
section
variable {X : Cx} {W : WX} {tg e : Expr} {te : AT} {pos : Pos}
def iSeqL (t : AT) : AI := fun x δ r P => t x δ r fun d r1 => match d with | .lst ds => P ds r1 | _ => False
def iSeqT (t : AT) : AI := fun x δ r P => t x δ r fun d r1 => match d with | .tup ds => P ds r1 | _ => False
theorem walks_l {K : PySem.W.Frag} {r : Rs} {H : Hp} {a : Addr} {ds : List D} (h : Is K (mem r) H (.ref a) (.lst ds)) : Walks K (Itl K a) ds r H := by
  intro i r1 H1 k _
  cases k _ _ h with
  | lst n s al =>
    rename_i xs
    refine ⟨fun hi => ⟨⟨xs, xs[i]'(by rw [al.length]; exact hi), SqL.of s, by simp⟩, ?_⟩, fun hi => ⟨xs, SqL.of s, by rw [al.length, hi] <;> exact Nat.le_refl _⟩⟩
    rintro x H2 ⟨rfl, hx⟩
    obtain ⟨d, h1, h2⟩ := al.get (hx xs (SqL.of s))
    exact ⟨Ext.refl _, d, h1, h2⟩
theorem walks_t {K : PySem.W.Frag} {r : Rs} {H : Hp} {a : Addr} {ds : List D} (h : Is K (mem r) H (.ref a) (.tup ds)) : Walks K (Itt K a) ds r H := by
  intro i r1 H1 k _
  cases k _ _ h with
  | tup s al =>
    rename_i xs
    refine ⟨fun hi => ⟨⟨xs, xs[i]'(by rw [al.length]; exact hi), s, by simp⟩, ?_⟩, fun hi => ⟨xs, s, by rw [al.length, hi] <;> exact Nat.le_refl _⟩⟩
    rintro x H2 ⟨rfl, hx⟩
    obtain ⟨d, h1, h2⟩ := al.get (hx xs s)
    exact ⟨Ext.refl _, d, h1, h2⟩
theorem i_list (h : PD X W e te) : PDI X W tg e (iSeqL te) := imI (pi_list h) fun σ H Q ⟨XR, δ, r, P, o, q, k⟩ => td_bind o q fun d r1 v H1 h1 o1 k1 i1 => by
  cases i1 with
  | lst n s al => exact ⟨_, rfl, ⟨_, SqL.of s⟩, k _ _ _ _ h1 o1 k1 (walks_l (.lst n s al))⟩
  | _ => exact h1.elim
theorem i_tup (h : PD X W e te) : PDI X W tg e (iSeqT te) := imI (pi_tup h) fun σ H Q ⟨XR, δ, r, P, o, q, k⟩ => td_bind o q fun d r1 v H1 h1 o1 k1 i1 => by
  cases i1 with
  | tup s al => exact ⟨_, rfl, ⟨_, s⟩, k _ _ _ _ h1 o1 k1 (walks_t (.tup s al))⟩
  | _ => exact h1.elim
def iStrD (t : AT) : AI := fun x δ r P => t x δ r fun d r1 => match d with | .str z => P (z.cps.toList.map fun c => .str ⟨#[c]⟩) r1 | _ => False
theorem sok_mem {z : Str} {c : Nat} (h : sok z) (e : c ∈ z.cps.toList) : sok ⟨#[c]⟩ := by
  refine ⟨?_, by show 1 ≤ 1000000; decide⟩
  have h1 : z.cps.all (fun c => decide (c < 0x110000)) = true := h.1
  rw [← Array.all_toList, List.all_eq_true] at h1
  show (#[c] : Array Nat).all _ = true
  simpa using h1 c e
theorem i_str (h : PD X W e te) : PDI X W tg e (iStrD te) := imI (pi_str h) fun σ H Q ⟨XR, δ, r, P, o, q, k⟩ => td_bind o q fun d r1 v H1 h1 o1 k1 i1 => by
  cases i1 with
  | str s =>
    rename_i z
    refine ⟨_, rfl, k _ _ _ _ h1 o1 k1 ?_⟩
    intro i r2 H2 _ _
    refine ⟨fun hi => ⟨(show i < z.cps.size by simpa using hi), ?_⟩, fun hi => ?_⟩
    · rintro x H3 ⟨rfl, c, hc, rfl⟩
      have hm : c ∈ z.cps.toList := by
        have := Array.mem_of_getElem? hc
        simpa using this
      refine ⟨Ext.refl _, .str ⟨#[c]⟩, ?_, .str (sok_mem s hm)⟩
      rw [List.getElem?_map, Array.getElem?_toList, hc]
      rfl
    · show z.cps.size ≤ i
      rw [hi]
      simp
  | _ => exact h1.elim
def iR1 (l : AL) : AI := fun x δ r P => l x δ r fun ds r1 => match ds with | [.int n] => (-(2 ^ 62) ≤ n ∧ n < 2 ^ 62) ∧ P ((List.range n.toNat).map fun i => .int (i : Nat)) r1 | _ => False
def iR2 (l : AL) : AI := fun x δ r P => l x δ r fun ds r1 => match ds with | [.int m, .int n] => (-(2 ^ 62) ≤ m ∧ m < 2 ^ 62 ∧ -(2 ^ 62) ≤ n ∧ n < 2 ^ 62) ∧ P ((List.range (n - m).toNat).map fun i => .int (m + (i : Nat))) r1 | _ => False
theorem walks_r {K : PySem.W.Frag} {r : Rs} {H : Hp} {lo : Int} {n : Nat} : Walks K (Itr lo n) ((List.range n).map fun i => .int (lo + (i : Nat))) r H := by
  intro i r1 H1 _ _
  refine ⟨fun hi => ⟨(show i < n by simpa using hi), ?_⟩, fun hi => ?_⟩
  · rintro x H2 ⟨rfl, rfl⟩
    have hi' : i < n := by simpa using hi
    refine ⟨Ext.refl _, .int (lo + i), ?_, .int _⟩
    rw [List.getElem?_map, List.getElem?_range hi']
    rfl
  · show n ≤ i
    rw [hi]
    simp
theorem i_r1 {p : Pos} {l : AL} (hg : Gl X "range") (hm : X.mg "range" = none) (ha : PDL X W [e] l) (hs : starEach [e] X.env = [(false, eval e X.env)] := by rfl) : PDI X W tg (.Call (.Name "range" p) [e] [] pos) (iR1 l) :=
  imI (pi_range1 hg hm ha hs) fun σ H Q ⟨XR, δ, r, P, o, q, k⟩ => tdl_bind o q fun ds r1 vs H1 h1 o1 k1 i1 => by
    match ds, h1, i1 with
    | [.int n], h1, .cons (.int _) .nil =>
      refine ⟨_, rfl, h1.1.1, h1.1.2, k _ _ _ _ h1.2 o1 k1 ?_⟩
      have w := walks_r (K := X.K) (r := r1) (H := H1) (lo := 0) (n := n.toNat)
      simp only [Int.zero_add] at w
      exact w
theorem i_r2 {e2 : Expr} {p : Pos} {l : AL} (hg : Gl X "range") (hm : X.mg "range" = none) (ha : PDL X W [e, e2] l) (hs : starEach [e, e2] X.env = [(false, eval e X.env), (false, eval e2 X.env)] := by rfl) (hs2 : starEach [e2] X.env = [(false, eval e2 X.env)] := by rfl) :
    PDI X W tg (.Call (.Name "range" p) [e, e2] [] pos) (iR2 l) :=
  imI (pi_range2 hg hm ha hs hs2) fun σ H Q ⟨XR, δ, r, P, o, q, k⟩ => tdl_bind o q fun ds r1 vs H1 h1 o1 k1 i1 => by
    match ds, h1, i1 with
    | [.int m, .int n], h1, .cons (.int _) (.cons (.int _) .nil) => exact ⟨_, _, rfl, h1.1, k _ _ _ _ h1.2 o1 k1 walks_r⟩
/-! enumerate, zip: of lists -/
def iEn (l : AL) : AI := fun x δ r P => l x δ r fun ds r1 => match ds with | [.lst xs] => P ((List.range xs.length).map fun i => .tup [.int (i : Nat), xs.getD i .non]) r1 | _ => False
theorem walks_e {K : PySem.W.Frag} {r : Rs} {H : Hp} {a : Addr} {ds : List D} (h : Is K (mem r) H (.ref a) (.lst ds)) : Walks K (Ite K a) ((List.range ds.length).map fun i => .tup [.int (i : Nat), ds.getD i .non]) r H := by
  intro i r1 H1 k _
  cases k _ _ h with
  | lst n s al =>
    rename_i xs
    refine ⟨fun hi => ?_, fun hi => ⟨xs, SqL.of s, by rw [al.length, hi]; simp⟩⟩
    have hi' : i < ds.length := by simpa using hi
    refine ⟨⟨xs, xs[i]'(by rw [al.length]; exact hi'), SqL.of s, by simp⟩, ?_⟩
    rintro x H2 ⟨T, y, rfl, hT, rfl, hy⟩
    obtain ⟨d, h1, h2⟩ := al.get (hy xs (SqL.of s))
    refine ⟨Ext.new hT, .tup [.int (i : Nat), ds.getD i .non], ?_, new_tup hT (.cons (.int _) (.cons ?_ .nil))⟩
    · rw [List.getElem?_map, List.getElem?_range hi']
      rfl
    · rw [List.getD_eq_getElem?_getD, h1]
      exact h2
theorem i_enum {elts : List Expr} {kk : Nat} {p tpos : Pos} {l : AL} (hg : Gl X "enumerate") (hm : X.mg "enumerate" = none) (ha : PDL X W [e] l) (hs : starEach [e] X.env = [(false, eval e X.env)] := by rfl) : PDI X W (.Tuple elts kk tpos) (.Call (.Name "enumerate" p) [e] [] pos) (iEn l) :=
  imI (pi_enum hg hm ha hs) fun σ H Q ⟨XR, δ, r, P, o, q, k⟩ => tdl_bind o q fun ds r1 vs H1 h1 o1 k1 i1 => by
    match ds, h1, i1 with
    | [.lst xs], h1, .cons (.lst n s al) .nil => exact ⟨_, _, rfl, SqL.of s, k _ _ _ _ h1 o1 k1 (walks_e (.lst n s al))⟩

/-! ### for -/
abbrev AG := D → Dl → (Dl → Prop) → Prop
def gN (i : Nat) : AG := fun d δ Q => Q (δ.set i (some d))
def gT (is : List Nat) : AG := fun d δ Q => match d with | .tup ds => ds.length = is.length ∧ Q (setAll δ is ds) | _ => False
def Agree (js : List Nat) (σ σ' : L2.St) : Prop := σ'.length = σ.length ∧ ∀ k : Nat, k ∉ js → σ'[k]? = σ[k]?
theorem Agree.refl {js : List Nat} {σ : L2.St} : Agree js σ σ := ⟨rfl, fun _ _ => rfl⟩
theorem Agree.trans {js : List Nat} {σ σ1 σ2 : L2.St} (a : Agree js σ σ1) (b : Agree js σ1 σ2) : Agree js σ σ2 := ⟨b.1.trans a.1, fun k h => (b.2 k h).trans (a.2 k h)⟩
theorem Agree.set {js : List Nat} {σ : L2.St} {i : Nat} {x : Option V} (h : i ∈ js) : Agree js σ (σ.set i x) := ⟨List.length_set, fun k hk => List.getElem?_set_ne (fun (e : i = k) => hk (e ▸ h))⟩
theorem names_agree {K : PySem.W.Frag} {W : WX} {XR : XT} {r : Rs} {H : Hp} {Q : L2.St → Hp → Prop} {js : List Nat} : ∀ {is : List Nat} {vs : List V} {ds : List D} {δ : Dl} {σ : L2.St}, (∀ i ∈ is, i ∈ js) → Ok K W XR r δ σ H → IsAll K (mem r) H vs ds → ds.length = is.length → (∀ σ', Ok K W XR r (setAll δ is ds) σ' H → Agree js σ σ' → Q σ' H) → gNames is vs σ H Q
  | [], _, _, δ, σ, _, o, .nil, _, k => ⟨rfl, k σ o Agree.refl⟩
  | [], _, _, δ, σ, _, o, .cons _ _, l, k => by cases l
  | i :: is, _, _, δ, σ, _, o, .nil, l, k => by cases l
  | i :: is, _, _, δ, σ, hj, o, .cons h t, l, k => ⟨_, _, rfl, names_agree (is := is) (fun i h => hj i (List.mem_cons_of_mem _ h)) (o.set h) t (by simpa using l) fun σ' o' a => k σ' o' ((Agree.set (hj i List.mem_cons_self)).trans a)⟩
def TDG (K : PySem.W.Frag) (js : List Nat) (g : AG) : TG := fun v σ H Q => ∃ (W : WX) (XR : XT) (δ : Dl) (r : Rs) (d : D) (P : Dl → Prop), Ok K W XR r δ σ H ∧ Is K (mem r) H v d ∧ g d δ P ∧ ∀ δ' σ', P δ' → Ok K W XR r δ' σ' H → Agree js σ σ' → Q σ' H
def PDG (X : Cx) (target : Expr) (js : List Nat) (g : AG) : Prop := PG X target (TDG X.K js g)
theorem imG {X : Cx} {e : Expr} {t t' : TG} (h : PG X e t) (i : ∀ v σ H Q, t' v σ H Q → t v σ H Q) : PG X e t' := ⟨fun pins s σ H v u Q I rv q => h.run pins s σ H v u Q I rv (i v σ H Q q)⟩
theorem g_name {i : Nat} {x : Str} (hN : X.N.Nodup) (hi : X.N[i]? = some x := by rfl) (hx : Loc X.env.scope x := by first | exact Or.inl rfl | exact Or.inr rfl) (hf : X.fn x = true ∨ X.env.scope.names.lookup x = some .local := by first | exact .inl rfl | exact .inr rfl | assumption) : PDG X (.Name x pos) [i] (gN i) :=
  imG (pg_name hN hi hx hf) fun v σ H Q ⟨_, _, δ, r, d, P, o, i, g, k⟩ => k _ _ g (o.set i) (Agree.set List.mem_cons_self)
theorem g_tup {is : List Nat} {ts : List Expr} {kk : Nat} (hg : PGs X ts (gNames is)) (hc : X.calm = true := by rfl) (hn : (assignEach ts X.env).length = is.length := by rfl) (hst : (assignEach ts X.env).findIdx? (·.1) = none := by rfl) : PDG X (.Tuple ts kk pos) is (gT is) :=
  imG (pg_tup hc hg hn hst) fun v σ H Q ⟨_, _, δ, r, d, P, o, i, g, k⟩ => by
    cases i with
    | tup s al => exact ⟨_, _, rfl, s, by rw [al.length]; exact g.1, names_agree (fun _ h => h) o al g.1 fun σ' o' a => k _ _ g.2 o' a⟩
    | _ => exact g.elim
theorem pgs_n {i : Nat} {is : List Nat} {x : Str} {ts : List Expr} (hN : X.N.Nodup) (hr : PGs X ts (gNames is)) (hi : X.N[i]? = some x := by rfl) (hx : Loc X.env.scope x := by first | exact Or.inl rfl | exact Or.inr rfl) (hf : X.fn x = true ∨ X.env.scope.names.lookup x = some .local := by first | exact .inl rfl | exact .inr rfl | assumption)
    (hs : (assignEach (.Name x pos :: ts) X.env).map (·.2) = assign (.Name x pos) X.env :: (assignEach ts X.env).map (·.2) := by rfl) : PGs X (.Name x pos :: ts) (gNames (i :: is)) := pgs_cons (pg_name hN hi hx hf) hr hs
def sForK (g : AG) (tb : AS) (A : An) (ds : List D) (δ : Dl) (r1 : Rs) : Prop := ∃ I : Nat → Dl → Rs → Prop, I 0 δ r1 ∧
  (∀ i d δ' r', ds[i]? = some d → I i δ' r' → g d δ' fun δ2 => tb { A with nx := I (i + 1), ct := I (i + 1), bk := A.nx } δ2 r') ∧ ∀ δ' r', I ds.length δ' r' → A.nx δ' r'
def sFor (ti : AI) (g : AG) (tb : AS) : AS := fun A δ r => ti A.xr δ r fun ds r1 => sForK g tb A ds δ r1
theorem s_for {body : List Stmt} {js : List Nat} {wi : AI} {g : AG} {tb : AS} (hi : PDI X W tg e wi) (hg : PDG X tg js g) (hb : PBD X W body tb) (hp : PassesOwn (model X.prog X.w) X.A X.env X.xe) (hc : X.calm = true := by rfl)
    (hs : ∀ x, foldedSetIterable e X.env x = pure x := by intro _; rfl) : PSD X W (.For tg e body [] pos) (sFor wi g tb) := imS (ps_for hp hc hi hg hb hs) fun D σ H ⟨δ, r, A, o, h, f⟩ =>
  ⟨A.xr, δ, r, _, o, h, fun ds r1 J H1 ⟨I, h0, hst, hd⟩ o1 k1 w => by
    refine ⟨fun i m σ' H' => m = ds.length - i ∧ i ≤ ds.length ∧ ∃ δ' r', I i δ' r' ∧ Ok X.K W A.xr r' δ' σ' H' ∧ Kp X.K r1 H1 r' H', ⟨ds.length, by simp, Nat.zero_le _, δ, r1, h0, o1, Kp.refl⟩, ?_⟩
    rintro i m σ' H' ⟨rfl, hi, δ', r', hI, o', k'⟩
    by_cases hlt : i < ds.length
    · obtain ⟨hgo, hy⟩ := (w i r' H' k' o'.r).1 hlt
      refine .inr ⟨hgo, fun σ2 H2 => ∃ δ2 r2, I (i + 1) δ2 r2 ∧ Ok X.K W A.xr r2 δ2 σ2 H2 ∧ Kp X.K r1 H1 r2 H2, fun σ2 H2 ⟨δ2, r2, q1, q2, q3⟩ => ⟨ds.length - (i + 1), by omega, rfl, hlt, δ2, r2, q1, q2, q3⟩, fun x H2 y => ?_⟩
      obtain ⟨ex, d, hd', ix⟩ := hy x H2 y
      refine ⟨W, A.xr, δ', r', d, _, o'.ext ex, ix, hst i d δ' r' hd' hI, fun δ2 σ2 q o2 _ => ⟨δ2, r', { A with nx := I (i + 1), ct := I (i + 1), bk := A.nx }, o2, q, ?_⟩⟩
      have kk := k'.trans (Kp.ext ex)
      have fk := f.step (k1.trans kk)
      exact ⟨fun δ3 r3 σ3 H3 a o3 k3 => ⟨δ3, r3, a, o3, kk.trans k3⟩, fk.rt, fun δ3 r3 σ3 H3 a o3 k3 => fk.nx δ3 r3 σ3 H3 a o3 k3, fun δ3 r3 σ3 H3 a o3 k3 => ⟨δ3, r3, a, o3, kk.trans k3⟩⟩
    · have e : i = ds.length := by omega
      exact .inl ⟨(w i r' H' k' o'.r).2 e, f.nx _ _ _ _ (hd δ' r' (e ▸ hI)) o' (k1.trans k')⟩⟩
/-! ### while -/
def sWhile (tc : AB) (tb : AS) : AS := fun A δ r => ∃ I : Nat → Dl → Rs → Prop, (∃ m, I m δ r) ∧ ∀ m δ' r', I m δ' r' → tc A.xr δ' r' fun c r1 =>
  (c = true → tb { A with nx := fun δ2 r2 => ∃ m', m' < m ∧ I m' δ2 r2, ct := fun δ2 r2 => ∃ m', m' < m ∧ I m' δ2 r2, bk := A.nx } δ' r1) ∧ (c = false → A.nx δ' r1)
theorem s_while {c : Expr} {body : List Stmt} {tc : AB} {tb : AS} (hc : PDB X W c tc) (hb : PBD X W body tb) (hp : PassesOwn (model X.prog X.w) X.A X.env X.xe) : PSD X W (.While c body [] pos) (sWhile tc tb) := imS (ps_while hp hc hb) fun D σ H ⟨δ, r, A, o, h, f⟩ => by
  obtain ⟨I, ⟨m0, h0⟩, hst⟩ := h
  refine ⟨fun m σ' H' => ∃ δ' r', I m δ' r' ∧ Ok X.K W A.xr r' δ' σ' H' ∧ Kp X.K r H r' H', ⟨m0, δ, r, h0, o, Kp.refl⟩, ?_⟩
  rintro m σ' H' ⟨δ', r', hI, o', k'⟩
  refine tdb_bind o' (hst m δ' r' hI) fun c r1 H1 h1 o1 k1 => ?_
  have fk := f.step (k'.trans k1)
  cases c with
  | true =>
    refine ⟨fun σ2 H2 => ∃ m', m' < m ∧ ∃ δ2 r2, I m' δ2 r2 ∧ Ok X.K W A.xr r2 δ2 σ2 H2 ∧ Kp X.K r H r2 H2, fun σ2 H2 ⟨m', l, q⟩ => ⟨m', l, q⟩, δ', r1, { A with nx := fun δ2 r2 => ∃ m', m' < m ∧ I m' δ2 r2, ct := fun δ2 r2 => ∃ m', m' < m ∧ I m' δ2 r2, bk := A.nx }, o1, h1.1 rfl, ?_⟩
    exact ⟨fun δ3 r3 σ3 H3 ⟨m', l, a⟩ o3 k3 => ⟨m', l, δ3, r3, a, o3, (k'.trans k1).trans k3⟩, fk.rt, fun δ3 r3 σ3 H3 a o3 k3 => fk.nx δ3 r3 σ3 H3 a o3 k3, fun δ3 r3 σ3 H3 ⟨m', l, a⟩ o3 k3 => ⟨m', l, δ3, r3, a, o3, (k'.trans k1).trans k3⟩⟩
  | false => exact fk.nx _ _ _ _ (h1.2 rfl) o1 Kp.refl
end
end G

namespace G
open PySem PySem.Spec L2

/-! ### list comprehensions -/
def wipeD (δ : Dl) : List Nat → Dl
  | [] => δ
  | v :: vs => (wipeD δ vs).set v none
theorem Ok.wipe {K : PySem.W.Frag} {W : WX} {XR : XT} {r : Rs} {δ : Dl} {σ : L2.St} {H : Hp} (o : Ok K W XR r δ σ H) : ∀ vs : List Nat, Ok K W XR r (wipeD δ vs) (wipe σ vs) H
  | [] => o
  | v :: vs => (Ok.wipe o vs).drop
theorem wipe_get (σ : L2.St) : ∀ (vs : List Nat) (k : Nat), (wipe σ vs)[k]? = if k ∈ vs ∧ k < σ.length then some none else σ[k]?
  | [], k => by simp [wipe]
  | v :: vs, k => by
    unfold wipe
    rw [List.getElem?_set]
    by_cases e : v = k
    · subst e
      rw [if_pos rfl, wipe_length]
      by_cases h : v < σ.length
      · rw [if_pos h, if_pos ⟨List.mem_cons_self, h⟩]
      · rw [if_neg h, if_neg (fun z => h z.2), List.getElem?_eq_none (by omega)]
    · rw [if_neg e, wipe_get σ vs k]
      have : (k ∈ v :: vs) ↔ k ∈ vs := ⟨fun z => (List.mem_cons.mp z).elim (fun q => absurd q.symm e) id, List.mem_cons_of_mem _⟩
      simp only [this]
theorem wipe_agree {σ σ' : L2.St} {js vs : List Nat} (a : Agree js (wipe σ vs) σ') (h : ∀ j ∈ js, j ∈ vs) : wipe σ' vs = wipe σ vs := by
  apply List.ext_getElem?
  intro k
  rw [wipe_get, wipe_get]
  have hl : σ'.length = σ.length := by rw [a.1, wipe_length]
  rw [hl]
  by_cases c : k ∈ vs ∧ k < σ.length
  · rw [if_pos c, if_pos c]
  · rw [if_neg c, if_neg c]
    by_cases hk : k ∈ vs
    · have h1 : σ.length ≤ k := Nat.le_of_not_lt fun z => c ⟨hk, z⟩
      rw [List.getElem?_eq_none (by omega), List.getElem?_eq_none h1]
    · rw [a.2 k (fun z => hk (h k z)), wipe_get, if_neg c]
section
variable {K : PySem.W.Frag}
theorem rok_plus {r : Rs} {H : Hp} {p : Addr} (h : Rok K r H) (hp : H p = none) : Rok K (r ++ [lstA p []]) (upd H p (.lst [])) ∧ Kp K r H (r ++ [lstA p []]) (upd H p (.lst [])) := by
  have e : ∀ a, mem (r ++ [lstA p []]) a → mem r a ∨ a = p := fun a z => (mem_append.mp z).elim .inl fun z => z.elim .inr False.elim
  refine ⟨hold_append.mpr ⟨hold_anti e (hold_ext (Ext.new hp) (hold_grow hp h)), ⟨⟨[], upd_same, .nil⟩, fun _ _ z => z, True.intro⟩, fun a m z => ?_⟩, fun v d i => is_anti e (is_ext (Ext.new hp) _ _ (is_grow hp i))⟩
  have : a = p := z.elim (fun z => z) False.elim
  subst this
  exact not_al h hp m
theorem is_otherO {N : Addr → Prop} {H : Hp} {q : Addr} {u u' : HO} (hN : N q) (hD : H q = some u) (nt : ∀ xs, u ≠ .tup xs ∧ ∀ o : Obj, u ≠ .frz o (.tup xs)) {v : V} {d : D} (h : Is K N H v d) : Is K N (upd H q u') v d := by
  refine Is.go (fun a o _ n s => ⟨n, by rw [upd_ne (fun (e : a = q) => n (e ▸ hN))]; exact s⟩) (fun a xs s => ?_) d v h
  rcases s with (s | ⟨o, s⟩) | s
  · exact .inl (.inl (by rw [upd_ne (fun e => by subst e; rw [hD] at s; exact (nt xs).1 (Option.some.inj s))]; exact s))
  · exact .inl (.inr ⟨o, by rw [upd_ne (fun e => by subst e; rw [hD] at s; exact (nt xs).2 o (Option.some.inj s))]; exact s⟩)
  · exact .inr s
theorem is_other {N : Addr → Prop} {H : Hp} {q : Addr} {ys : List V} (hN : N q) {xs : List V} (hD : H q = some (.lst xs)) {v : V} {d : D} (h : Is K N H v d) : Is K N (upd H q (.lst ys)) v d := is_otherO hN hD (fun _ => ⟨(fun e => by cases e), (fun _ e => by cases e)⟩) h
theorem rok_more {r : Rs} {H : Hp} {p : Addr} {acc : List D} {v : V} {d : D} (h : Rok K (r ++ [lstA p acc]) H) (i : Is K (mem (r ++ [lstA p acc])) H v d) : ∃ vs, H p = some (.lst vs) ∧ vs.length = acc.length ∧
    Rok K (r ++ [lstA p (acc ++ [d])]) (upd H p (.lst (vs ++ [v]))) ∧ ∀ w e, Is K (mem (r ++ [lstA p acc])) H w e → Is K (mem (r ++ [lstA p (acc ++ [d])])) (upd H p (.lst (vs ++ [v]))) w e := by
  obtain ⟨h1, ⟨⟨vs, h2, h3⟩, _, _⟩, h5⟩ := hold_append.mp h
  have me : mem (r ++ [lstA p acc]) = mem (r ++ [lstA p (acc ++ [d])]) := by
    funext a
    exact propext ((mem_append).trans (mem_append (r := r) (r' := [lstA p (acc ++ [d])])).symm)
  have hN : mem (r ++ [lstA p acc]) p := mem_append.mpr (.inr (.inl rfl))
  have go : ∀ w e, Is K (mem (r ++ [lstA p acc])) H w e → Is K (mem (r ++ [lstA p acc])) (upd H p (.lst (vs ++ [v]))) w e := fun w e q => is_other hN h2 q
  refine ⟨vs, h2, h3.length, ?_, fun w e q => me ▸ go w e q⟩
  refine hold_append.mpr ⟨?_, ⟨⟨vs ++ [v], upd_same, ?_⟩, fun _ _ z => z, True.intro⟩, h5⟩
  · rw [← me]
    refine hold_loc (fun b o m q => ?_) go h1
    rw [upd_ne (fun e => h5 b m (.inl e))]
    exact q
  · rw [← me]
    exact (all_of go h3).append (.cons (go _ _ i) .nil)
theorem le_rok {r r' : Rs} (l : le r r') {H : Hp} (h : Rok K r H) : Rok K r' H := l.r _ H h
/-- our own list is a list like others -/
theorem rok_done {r : Rs} {H : Hp} {p : Addr} {acc : List D} (h : Rok K (r ++ [lstA p acc]) H) : Rok K r H ∧ Is K (mem r) H (.ref p) (.lst acc) ∧ Kp K (r ++ [lstA p acc]) H r H := by
  obtain ⟨h1, ⟨⟨vs, h2, h3⟩, _, _⟩, h5⟩ := hold_append.mp h
  have an : ∀ a, mem r a → mem (r ++ [lstA p acc]) a := fun a z => mem_append.mpr (.inl z)
  exact ⟨hold_anti an h1, .lst (fun z => h5 p z (.inl rfl)) h2 (all_of (fun _ _ => is_anti an) h3), fun _ _ => is_anti an⟩
def bYes : AB := fun x _ r P => P true r
structure aLcK (x : XT) (g : AG) (tt : AB) (te : AT) (δw : Dl) (ds : List D) (r1 : Rs) (P : PK1) : Prop where
  ex : ∃ I : Nat → List D → Rs → Prop, I 0 [] r1 ∧
  (∀ (p : Addr) i d acc r', ds[i]? = some d → I i acc r' → g d δw fun δ2 => tt x δ2 (r' ++ [lstA p acc]) fun b r2 =>
    (b = true → te x δ2 r2 fun y r3 => small (acc.length + 1) ∧ ∃ r4, le r3 (r4 ++ [lstA p acc]) ∧ I (i + 1) (acc ++ [y]) r4) ∧ (b = false → ∃ r4, le r2 (r4 ++ [lstA p acc]) ∧ I (i + 1) acc r4)) ∧
  ∀ acc r', I ds.length acc r' → P (.lst acc) r'
def aLc (ti : AI) (g : AG) (tt : AB) (te : AT) (vs : List Nat) : AT := fun x δ r P => ti x δ r fun ds r1 => aLcK x g tt te (wipeD δ vs) ds r1 P
theorem td_lc {W : WX} {ti : AI} {g : AG} {tt : AB} {te : AT} {vs js : List Nat} (hj : ∀ j ∈ js, j ∈ vs) {σ : L2.St} {H : Hp} {Q : VK} (q : TD K W (aLc ti g tt te vs) σ H Q) : tLc (TDI K W ti) (TDG K js g) (TDB K W tt) (TD K W te) vs σ H Q := by
  obtain ⟨XR, δ, r, P, o, h, k⟩ := q
  refine ⟨XR, δ, r, _, o, h, fun ds r1 J H1 ⟨⟨I, h0, hst, hd⟩⟩ o1 k1 w p hp => ?_⟩
  obtain ⟨s1, s2⟩ := rok_plus o1.r hp
  refine ⟨fun i m H' => m = ds.length - i ∧ i ≤ ds.length ∧ ∃ acc r', I i acc r' ∧ Rok K (r' ++ [lstA p acc]) H' ∧ Kp K r1 H1 (r' ++ [lstA p acc]) H', ⟨ds.length, by simp, Nat.zero_le _, [], r1, h0, s1, s2⟩, ?_⟩
  rintro i m H' ⟨rfl, hi, acc, r', hI, ro, kp⟩
  by_cases hlt : i < ds.length
  · obtain ⟨hgo, hy⟩ := (w i _ H' kp ro).1 hlt
    refine .inr ⟨hgo, fun H2 => ∃ acc r2, I (i + 1) acc r2 ∧ Rok K (r2 ++ [lstA p acc]) H2 ∧ Kp K r1 H1 (r2 ++ [lstA p acc]) H2, fun H2 ⟨acc, r2, q1, q2, q3⟩ => ⟨ds.length - (i + 1), by omega, rfl, hlt, acc, r2, q1, q2, q3⟩, fun x H2 y => ?_⟩
    obtain ⟨ex, d, hd', ix⟩ := hy x H2 y
    have k2 := kp.trans (Kp.ext ex)
    have o2 : Ok K W XR (r' ++ [lstA p acc]) (wipeD δ vs) (wipe σ vs) H2 := (o1.step k2 (ro.ext ex)).wipe vs
    refine ⟨W, XR, wipeD δ vs, _, d, _, o2, ix, hst p i d acc r' hd' hI, fun δ2 σ2 q o3 ag => ⟨wipe_agree ag hj, XR, δ2, _, _, o3, q, fun b r3 H3 q3 o4 k4 => ?_⟩⟩
    cases b with
    | true =>
      show TD K W te σ2 H3 _
      refine td_bind o4 (q3.1 rfl) fun y r5 v H5 ⟨sz, r6, l6, h5⟩ o5 k5 i5 => ?_
      obtain ⟨ws, e1, e2, e3, e4⟩ := rok_more (le_rok l6 o5.r) (is_anti l6.m i5)
      refine ⟨ws, e1, by rw [e2]; exact Nat.lt_of_lt_of_le (Nat.lt_succ_self _) sz.sz, acc ++ [y], r6, h5, e3, fun v' d' z => e4 _ _ (is_anti l6.m (k5 _ _ (k4 _ _ (k2 _ _ z))))⟩
    | false =>
      show ∃ acc r2, _
      obtain ⟨r6, l6, h5⟩ := q3.2 rfl
      exact ⟨acc, r6, h5, le_rok l6 o4.r, fun v' d' z => is_anti l6.m (k4 _ _ (k2 _ _ z))⟩
  · have e : i = ds.length := by omega
    obtain ⟨d1, d2, d3⟩ := rok_done ro
    exact .inl ⟨(w i _ H' kp ro).2 e, k _ r' _ H' (hd acc r' (e ▸ hI)) (o1.step (kp.trans d3) d1) ((k1.trans kp).trans d3) d2⟩
end
section
variable {X : Cx} {W : WX}
theorem pts_no : PTs X [] (TDB X.K W bYes) := ⟨fun pins s σ H Q I ⟨XR, δ, r, P, o, h, k⟩ => pts_nil.run pins s σ H Q I (k true r H h o Kp.refl)⟩
theorem pts_1 {c : Expr} {t : AB} (h : PDB X W c t) : PTs X [c] (TDB X.K W t) := pts_one h
theorem d_lc {elt tg iter : Expr} {ifs : List Expr} {scope : Scope} {own : List (Str × Nat)} {pos : Pos} {js : List Nat} {wi : AI} {g : AG} {tt : AB} {te : AT} (hN : X.N.Nodup) (hi : PDI X W tg iter wi) (ok : BlkOk X.N X.env.scope scope own)
    (hg : ∀ (s : Shared) (H : Hp) (C : Addr) (cl : List (Str × Addr)) (fp : List Addr), PDG (X.blk s H scope (compEnvC scope cl C X.env) fp) tg js g) (ht : ∀ (s : Shared) (H : Hp) (C : Addr) (cl : List (Str × Addr)) (fp : List Addr), PTs (X.blk s H scope (compEnvC scope cl C X.env) fp) ifs (TDB X.K W tt))
    (he : ∀ (s : Shared) (H : Hp) (C : Addr) (cl : List (Str × Addr)) (fp : List Addr), PD (X.blk s H scope (compEnvC scope cl C X.env) fp) W elt te) (hj : ∀ j ∈ js, j ∈ own.map (·.2) := by decide) (hc : X.calm = true := by rfl) (hs : ∀ x, foldedSetIterable iter X.env x = pure x := by intro _; rfl) :
    PD X W (.ListComp elt [⟨tg, iter, ifs, 0⟩] scope pos) (aLc wi g tt te (own.map (·.2))) :=
  imE (pe_lc (g := TDG X.K js g) (tt := TDB X.K W tt) (te := TD X.K W te) hc hN hi ok hg ht he hs) fun _ _ _ q => td_lc hj q
theorem s_setLc {i : Nat} {y : Str} {py : Pos} {elt tg iter : Expr} {ifs : List Expr} {scope : Scope} {own : List (Str × Nat)} {pos spos : Pos} {js : List Nat} {wi : AI} {g : AG} {tt : AB} {te : AT} (hN : X.N.Nodup) (hi : PDI X W tg iter wi) (ok : BlkOk X.N X.env.scope scope own)
    (hg : ∀ (s : Shared) (H : Hp) (C : Addr) (cl : List (Str × Addr)) (fp : List Addr), PDG (X.blk s H scope (compEnvC scope cl C X.env) fp) tg js g) (ht : ∀ (s : Shared) (H : Hp) (C : Addr) (cl : List (Str × Addr)) (fp : List Addr), PTs (X.blk s H scope (compEnvC scope cl C X.env) fp) ifs (TDB X.K W tt))
    (he : ∀ (s : Shared) (H : Hp) (C : Addr) (cl : List (Str × Addr)) (fp : List Addr), PD (X.blk s H scope (compEnvC scope cl C X.env) fp) W elt te) (hsw : swapsWith (.ListComp elt [⟨tg, iter, ifs, 0⟩] scope pos) (some (.Name y py)) spos.line X.env = pure true) (hj : ∀ j ∈ js, j ∈ own.map (·.2) := by decide)
    (hc : X.calm = true := by rfl) (hy : X.N[i]? = some y := by rfl) (hyl : X.env.scope.names.lookup y = some .local := by rfl) (hs : ∀ x, foldedSetIterable iter X.env x = pure x := by intro _; rfl) :
    PSD X W (.Assign [.Name y py] (.ListComp elt [⟨tg, iter, ifs, 0⟩] scope pos) spos) (sAsg i (aLc wi g tt te (own.map (·.2)))) :=
  imS (ps_setLc (g := TDG X.K js g) (tt := TDB X.K W tt) (te := TD X.K W te) hc hN hy hyl hsw hi ok hg ht he hs) fun D σ H ⟨δ, r, A, o, h, f⟩ => td_lc hj (td_bind o h fun d r1 v H1 h1 o1 k1 i1 => f.nx _ _ _ _ h1 (o1.set i1) k1)
end
/-! the plain comprehensions -/
section
variable {K : PySem.W.Frag} {x : XT} {g : AG} {te : AT} {tt : AB} {δw : Dl} {ds : List D} {r1 : Rs} {P : PK1}
theorem lc_map (f : D → D) (hz : small ds.length) (he : ∀ d ∈ ds, ∀ (r' : Rs) (P' : PK1), P' (f d) r' → g d δw fun δ2 => te x δ2 r' P') (hP : P (.lst (ds.map f)) r1) : aLcK x g bYes te δw ds r1 P := by
  refine ⟨fun i acc r' => acc = (ds.take i).map f ∧ r' = r1, ⟨rfl, rfl⟩, ?_, ?_⟩
  · rintro p i d acc r' hd ⟨rfl, rfl⟩
    have hi := (List.getElem?_eq_some_iff.mp hd).1
    refine Eq.mp ?_ (he d (List.mem_of_getElem? hd) (r' ++ [lstA p ((ds.take i).map f)]) (fun y r3 => small (((ds.take i).map f).length + 1) ∧ ∃ r4, le r3 (r4 ++ [lstA p ((ds.take i).map f)]) ∧ ((ds.take i).map f ++ [y] = (ds.take (i + 1)).map f ∧ r4 = r')) ?_)
    · congr 1
      funext δ2
      unfold bYes
      simp
    · refine ⟨?_, r', le.refl, ?_, rfl⟩
      · rw [List.length_map, List.length_take]
        have : small ds.length := hz
        unfold small at *
        omega
      · rw [List.take_add_one, hd, List.map_append]
        rfl
  · rintro acc r' ⟨rfl, rfl⟩
    rw [List.take_length]
    exact hP
end
end G

namespace G
open PySem PySem.Spec L2
open PyProof.Rows (envOfC)

/-! ### calls of defs of the text -/
abbrev XD := Addr → List Str → List D → Rs → Prop
abbrev SpX := List D → Rs → PK1 → XD → Prop
/-- a promise over data as a promise of the hand layer -/
def lift (K : PySem.W.Frag) (sd : SpX) : Sp := fun vs H Q E => ∃ (r : Rs) (ds : List D) (P : PK1) (XR : XD), Rok K r H ∧ IsAll K (mem r) H vs ds ∧ sd ds r P XR ∧
  (∀ d r' v H', P d r' → Rok K r' H' → Kp K r H r' H' → Is K (mem r') H' v d → Q v H') ∧
  (∀ C fs es r' a H', XR C fs es r' → Rok K r' H' → Kp K r H r' H' → ExAt K r' H' a fs es → E (.ref C) a H')
def noX : XD := fun _ _ _ _ => False
/-- the def at f keeps the promise sd -/
abbrev FO (P : Program) (w : World) (K : PySem.W.Frag) (mg : Str → Option Value) (base : Heap) (k : Nat) (f : Addr) (fd : FuncData) (ps : List Str) (sd : SpX) : Prop := FnOk P w K mg base (L2.CX P w) k f fd ps (lift K sd)
abbrev FR (P : Program) (w : World) (K : PySem.W.Frag) (mg : Str → Option Value) (base : Heap) (k : Nat) (f : Addr) (sd : SpX) : Prop := FnR P w K mg base (L2.CX P w) k f (lift K sd)
theorem lift_imp {K : PySem.W.Frag} {sd sd' : SpX} (h : ∀ ds r P XR, sd' ds r P XR → sd ds r P XR) : ∀ vs H Q E, lift K sd' vs H Q E → lift K sd vs H Q E := fun vs H Q E ⟨r, ds, P, XR, h1, h2, h3, h4⟩ => ⟨r, ds, P, XR, h1, h2, h _ _ _ _ h3, h4⟩
theorem fr_of {P : Program} {w : World} {K : PySem.W.Frag} {mg : Str → Option Value} {base : Heap} {k : Nat} {f : Addr} {fd : FuncData} {ps : List Str} {sd : SpX} (F : FO P w K mg base k f fd ps sd) (hb : Binds K fd ps []) : FR P w K mg base k f sd := by
  have q := F.raw hb .nil
  exact q.imp fun vs H Q E h => by rw [List.append_nil]; exact h
/-- the last arguments by their defaults -/
theorem fr_dfl {P : Program} {w : World} {K : PySem.W.Frag} {mg : Str → Option Value} {base : Heap} {k : Nat} {f : Addr} {fd : FuncData} {ps : List Str} {sd : SpX} {dus : List Value} {dvs : List V} {dd : List D} (F : FO P w K mg base k f fd ps sd) (hb : Binds K fd ps dus) (hd : Vals dvs dus) (hdd : ∀ M H, IsAll K M H dvs dd) :
    FR P w K mg base k f (fun ds r P XR => sd (ds ++ dd) r P XR) :=
  (F.raw hb hd).imp fun vs H Q E ⟨r, ds, P', XR, h1, h2, h3, h4⟩ => ⟨r, ds ++ dd, P', XR, h1, h2.append (hdd _ _), h3, h4⟩
section
variable {X : Cx} {W : WX} {k : Nat} {f : Addr} {sd : SpX} {pins : List (Addr × Obj)} {σ : L2.St} {H : Hp} {s : Shared} {us : List Value} {vs : List V}
theorem run_at {sp : Sp} {E : XK} {Q : VK} (F : FnR X.prog X.w X.K X.mg X.base (L2.CX X.prog X.w) k f sp) (hr : Room k X.A) (hx : PassesAt (L2.CX X.prog X.w) X σ E) (I : L2.Inv X pins σ H s) (r : Vals vs us) (h : sp vs H Q E) :
    codeAny (model X.prog X.w) X.A (.call (.ref f) ⟨us, []⟩) (fun r s' => match r with | .ok (.ret v) => EP X pins σ Q v s' | .ok _ => False | .error e => X.xe e s') s := by
  refine codeAny_mono (F X.A X.stack s H us vs Q E hr I.env0 r h) fun r s' hq => ?_
  cases r with
  | error e => exact hx pins H s e s' I hq
  | ok fl =>
    cases fl with
    | ret u => exact I.after hq
    | next => exact False.elim hq
    | brk => exact False.elim hq
    | cont => exact False.elim hq
/-- nothing is let out -/
theorem passN {E : XK} (h : ∀ c d H, ¬ E c d H) : PassesAt (L2.CX X.prog X.w) X σ E := fun _ _ _ _ _ _ hh => by
  obtain ⟨_, _, _, _, _, _, _, _, _, _, _, _, z⟩ := hh
  exact (h _ _ _ z).elim
theorem lift_at {XR : XT} {r : Rs} {δ : Dl} {P : PK1} {ds : List D} {Q : VK} (o : Ok X.K W XR r δ σ H) (i : IsAll X.K (mem r) H vs ds) (h : sd ds r P fun C fs es r' => XR C fs es δ r')
    (k : ∀ d r' v H', P d r' → Ok X.K W XR r' δ σ H' → Kp X.K r H r' H' → Is X.K (mem r') H' v d → Q v H') : lift X.K sd vs H Q (WE W σ) :=
  ⟨r, ds, P, _, o.r, i, h, fun d r' v H' a b c i => k d r' v H' a (o.step c b) c i, fun C fs es r' a H' x ro kk e => o.x C fs es δ r' σ a H' x (o.b.step kk ro) kk e⟩
theorem lift_n {XR : XT} {r : Rs} {δ : Dl} {P : PK1} {ds : List D} {Q : VK} (o : Ok X.K W XR r δ σ H) (i : IsAll X.K (mem r) H vs ds) (h : sd ds r P noX)
    (k : ∀ d r' v H', P d r' → Ok X.K W XR r' δ σ H' → Kp X.K r H r' H' → Is X.K (mem r') H' v d → Q v H') : lift X.K sd vs H Q E0 :=
  ⟨r, ds, P, _, o.r, i, h, fun d r' v H' a b c i => k d r' v H' a (o.step c b) c i, fun _ _ _ _ _ _ x => x.elim⟩
theorem passE : PassesAt (L2.CX X.prog X.w) X σ E0 := passN fun _ _ _ z => z
end
/-- a call's reading: what is raised goes on; nothing is raised -/
def aCall (sd : SpX) (l : AL) : AT := fun x δ r P => l x δ r fun ds r1 => sd ds r1 P fun C fs es r' => x C fs es δ r'
def aCallN (sd : SpX) (l : AL) : AT := fun x δ r P => l x δ r fun ds r1 => sd ds r1 P noX
section
variable {X : Cx} {W : WX} {k : Nat} {f : Addr} {sd : SpX} {x : Str} {p pos : Pos} {e : Expr} {es : List Expr} {l : AL}
theorem call_P {sp : Sp} {E : XK} {Q : VK} {pins : List (Addr × Obj)} {σ : L2.St} {H : Hp} {s : Shared} {us : List Value} {vs : List V} (F : FnR X.prog X.w X.K X.mg X.base (L2.CX X.prog X.w) k f sp) (hr : Room k X.A) (hx : PassesAt (L2.CX X.prog X.w) X σ E) (I : L2.Inv X pins σ H s) (r : Vals vs us) (h : sp vs H Q E) :
    wpAny (model X.prog X.w) X.A (call (.ref f) us) (EP X pins σ Q) X.xe s := wpAny_call (run_at F hr hx I r h)
/-- x(e, ..) -/
theorem call_any (F : FR X.prog X.w X.K X.mg X.base k f sd) (hr : Room k X.A) (hk : PySem.W.keepIn X.K (.ref f) = true) (hm : X.mg x = some (.ref f)) (tr : AT) (ha : PDL X W (e :: es) l)
    (im : ∀ {pins : List (Addr × Obj)} {σ : L2.St} {H : Hp} {s : Shared} {Q : VK}, TD X.K W tr σ H Q → L2.Inv X pins σ H s → TDL X.K W l σ H fun vs H1 => ∃ E : XK, PassesAt (L2.CX X.prog X.w) X σ E ∧ lift X.K sd vs H1 Q E)
    (hg : Gl X x) (hdb : (x == ("__debug__" : Str)) = false) (he : starEach (e :: es) X.env = (false, eval e X.env) :: starEach es X.env) (hpl : (backTo pos (starEach es X.env)).any (·.1) = false) : PD X W (.Call (.Name x p) (e :: es) [] pos) tr := by
  refine ⟨fun pins s σ H Q I h => ?_⟩
  refine wpAny_Call_Name_kw (ld_glob I hg hm ?_ hdb)
  refine PySem.W.callWith_K (h₀ := X.base) I.ok.mod.kin hk (thn (ha.run pos pins s σ H _ I (im h I)) fun us s1 ⟨vs, H1, I1, r, E, hx, q⟩ => ⟨I1.kIn, ?_⟩) he hpl
  exact call_P F hr hx I1 r q
theorem d_call (F : FR X.prog X.w X.K X.mg X.base k f sd) (tk : Takes X W) (hr : Room k X.A) (hm : X.mg x = some (.ref f)) (hk : PySem.W.keepIn X.K (.ref f) = true)
    (ha : PDL X W (e :: es) l) (hg : Gl X x := by rfl) (hdb : (x == ("__debug__" : Str)) = false := by decide) (he : starEach (e :: es) X.env = (false, eval e X.env) :: starEach es X.env := by rfl) (hpl : (backTo pos (starEach es X.env)).any (·.1) = false := by rfl) :
    PD X W (.Call (.Name x p) (e :: es) [] pos) (aCall sd l) := call_any F hr hk hm _ ha (fun q I => by
  obtain ⟨XR, δ, r, P, ok, h, kk⟩ := q
  exact tdl_bind ok h fun ds r1 vs H1 h1 o1 k1 i1 => ⟨_, passAt tk _, lift_at o1 i1 h1 fun d r' v H' a b c i => kk d r' v H' a b (k1.trans c) i⟩) hg hdb he hpl
theorem d_callN (F : FR X.prog X.w X.K X.mg X.base k f sd) (hr : Room k X.A) (hm : X.mg x = some (.ref f)) (hk : PySem.W.keepIn X.K (.ref f) = true)
    (ha : PDL X W (e :: es) l) (hg : Gl X x := by rfl) (hdb : (x == ("__debug__" : Str)) = false := by decide) (he : starEach (e :: es) X.env = (false, eval e X.env) :: starEach es X.env := by rfl) (hpl : (backTo pos (starEach es X.env)).any (·.1) = false := by rfl) :
    PD X W (.Call (.Name x p) (e :: es) [] pos) (aCallN sd l) := call_any F hr hk hm _ ha (fun q I => by
  obtain ⟨XR, δ, r, P, ok, h, kk⟩ := q
  exact tdl_bind ok h fun ds r1 vs H1 h1 o1 k1 i1 => ⟨_, passE, lift_n o1 i1 h1 fun d r' v H' a b c i => kk d r' v H' a b (k1.trans c) i⟩) hg hdb he hpl
theorem call0_any (F : FR X.prog X.w X.K X.mg X.base k f sd) (hr : Room k X.A) (hk : PySem.W.keepIn X.K (.ref f) = true) (hm : X.mg x = some (.ref f)) (tr : AT)
    (im : ∀ {pins : List (Addr × Obj)} {σ : L2.St} {H : Hp} {s : Shared} {Q : VK}, TD X.K W tr σ H Q → L2.Inv X pins σ H s → ∃ E : XK, PassesAt (L2.CX X.prog X.w) X σ E ∧ lift X.K sd [] H Q E)
    (hg : Gl X x) (hdb : (x == ("__debug__" : Str)) = false) : PD X W (.Call (.Name x p) [] [] pos) tr := by
  refine ⟨fun pins s σ H Q I h => ?_⟩
  refine wpAny_Call_Name_kw (ld_glob I hg hm ?_ hdb)
  obtain ⟨E, hx, q⟩ := im h I
  exact PySem.W.callWith_K0 I.kIn hk (call_P (us := []) F hr hx I .nil q)
theorem d_call0 (F : FR X.prog X.w X.K X.mg X.base k f sd) (tk : Takes X W) (hr : Room k X.A) (hm : X.mg x = some (.ref f)) (hk : PySem.W.keepIn X.K (.ref f) = true) (hg : Gl X x := by rfl) (hdb : (x == ("__debug__" : Str)) = false := by decide) :
    PD X W (.Call (.Name x p) [] [] pos) (aCall sd aNil) := call0_any F hr hk hm _ (fun q I => by
  obtain ⟨XR, δ, r, P, o1, h1, kk⟩ := q
  exact ⟨_, passAt tk _, lift_at o1 .nil h1 kk⟩) hg hdb
theorem d_call0N (F : FR X.prog X.w X.K X.mg X.base k f sd) (hr : Room k X.A) (hm : X.mg x = some (.ref f)) (hk : PySem.W.keepIn X.K (.ref f) = true) (hg : Gl X x := by rfl) (hdb : (x == ("__debug__" : Str)) = false := by decide) :
    PD X W (.Call (.Name x p) [] [] pos) (aCallN sd aNil) := call0_any F hr hk hm _ (fun q I => by
  obtain ⟨XR, δ, r, P, o1, h1, kk⟩ := q
  exact ⟨_, passE, lift_n o1 .nil h1 kk⟩) hg hdb
end
def startD (N : List Str) (ds : List D) : Dl := ds.map some ++ List.replicate (N.length - ds.length) none
/-- a promise that any heap is told by, kept -/
def fit (P : PK1) : PK1 := fun d r' => ∃ r0, le r' r0 ∧ P d r0
theorem fit.of {P : PK1} {d : D} {r : Rs} (h : P d r) : fit P d r := ⟨r, le.refl, h⟩
def fitX (XR : XD) : XT := fun C fs es _ r' => ∃ r0, le r' r0 ∧ XR C fs es r0
theorem fitX.of {XR : XD} {C : Addr} {fs : List Str} {es : List D} {δ : Dl} {r : Rs} (h : XR C fs es r) : fitX XR C fs es δ r := ⟨r, le.refl, h⟩
theorem ExAt.anti {K : PySem.W.Frag} {r r' : Rs} {H : Hp} {a : Option Addr} {fs : List Str} {ds : List D} (h : ∀ a, mem r' a → mem r a) (e : ExAt K r H a fs ds) : ExAt K r' H a fs ds := by
  cases a with
  | none => exact e
  | some a =>
    obtain ⟨h0, kvs, h1, h2, h3⟩ := e
    exact ⟨fun z => h0 (h _ z), kvs, h1, h2, all_of (fun _ _ => is_anti h) h3⟩
abbrev WK (E : XK) : WX := fun cls d _ H => E cls d H
abbrev W0 : WX := fun _ _ _ _ => False
section
variable {P : Program} {w : World} {K : PySem.W.Frag} {mg : Str → Option Value} {base : Heap}
theorem start_ok {W : WX} {XR : XT} {N : List Str} {vs : List V} {ds : List D} {r : Rs} {H : Hp} (ro : Rok K r H) (hi : IsAll K (mem r) H vs ds) (x : Xc K W XR r H) : Ok K W XR r (startD N ds) (L2.start N vs) H := by
  refine ⟨⟨fun i d e => ?_, ro, ?_⟩, x⟩
  · unfold startD at e
    unfold L2.start
    rcases Nat.lt_or_ge i ds.length with hlt | hge
    · rw [List.getElem?_append_left (by simpa using hlt), List.getElem?_map] at e
      cases q : ds[i]? with
      | none => rw [q] at e; cases e
      | some d0 =>
        rw [q] at e
        cases e
        obtain ⟨v, h1, h2⟩ := hi.getD q
        exact ⟨v, by rw [List.getElem?_append_left (by rw [List.length_map, hi.length]; exact hlt), List.getElem?_map, h1] <;> rfl, h2⟩
    · rw [List.getElem?_append_right (by simpa using hge), List.getElem?_replicate] at e
      split at e <;> cases e
  · unfold startD L2.start
    rw [List.length_append, List.length_append, List.length_map, List.length_map, List.length_replicate, List.length_replicate, hi.length]
/-- THE RULE for a def -/
theorem fn_d {x qual : Str} {st : Stmt} {f : Addr} {fd : FuncData} {N ps : List Str} {k : Nat} {sd : SpX} (F : Fun K x qual st f fd) (S : FnScope N ps (defScope st)) (len : ∀ ds r P' XR, sd ds r P' XR → ds.length = ps.length)
    (hbody : ∀ (cdv : Value) (A : Around) (outer : List Env) (s : Shared) (H : Hp) (E : XK), Room k (A.deeper (envOfC qual (defScope st) s.heap.objs.size f cdv)) → Takes (cxOf (L2.CX P w) P w K mg base N qual (defScope st) f cdv A outer s H E) (WK E) →
      PassesOwn (model P w) (cxOf (L2.CX P w) P w K mg base N qual (defScope st) f cdv A outer s H E).A (cxOf (L2.CX P w) P w K mg base N qual (defScope st) f cdv A outer s H E).env (cxOf (L2.CX P w) P w K mg base N qual (defScope st) f cdv A outer s H E).xe →
      ∃ t : AS, PBD (cxOf (L2.CX P w) P w K mg base N qual (defScope st) f cdv A outer s H E) (WK E) (defBody st) t ∧
      ∀ ds r P' XR, sd ds r P' XR → t { nx := fun _ r' => fit P' .non r', rt := fit P', xr := fitX XR } (startD N ds) r) : FO P w K mg base (k + 1) f fd ps sd := by
  refine F.okX S (fun vs H Q E h => ?_) (fun cdv A outer s H vs Q E hr h => ?_)
  · obtain ⟨r, ds, P', XR, hr, hi, hs, _, _⟩ := h
    rw [hi.length]
    exact len _ _ _ _ hs
  · obtain ⟨r, ds, P', XR, ro, hi, hs, hq, hx⟩ := h
    obtain ⟨t, ht, hread⟩ := hbody cdv A outer s H E hr (takes_of rfl rfl rfl rfl) (passes_of rfl)
    refine ⟨_, ht, startD N ds, r, { nx := fun _ r' => fit P' .non r', rt := fit P', xr := fitX XR }, start_ok ro hi ?_, hread ds r P' XR hs, ⟨fun δ' r' σ' H' a o k => ?_, fun d r' v H' a o k i => ?_, fun _ _ _ _ z => z.elim, fun _ _ _ _ z => z.elim⟩⟩
    · rintro C fs es δ' r' σ' a H' ⟨r0, l, q⟩ o k e
      exact hx C fs es r0 a H' q (l.r _ _ o.r) (k.trans l.kp) (e.anti l.m)
    · obtain ⟨r0, l, a⟩ := a
      exact hq _ r0 _ H' a (l.r _ _ o.r) (k.trans l.kp) .non
    · obtain ⟨r0, l, a⟩ := a
      exact hq _ r0 _ H' a (l.r _ _ o) (k.trans l.kp) (is_anti l.m i)
end
/-- a pure promise -/
def pure1 (pre : List D → Prop) (fn : List D → D) : SpX := fun ds r P _ => pre ds ∧ P (fn ds) r

/-! ### a, *b = e -/
section
variable {prog : Program} {w : World} {A : Around} {E : Value → Shared → Prop} {s : Shared}
theorem unstar_T {l : Addr} {items : Array Value} {n i : Nat} {Q : List Value → Shared → Prop} (hl : PyProof.Rows.IsTup s.heap l items) (hh : A.handled = none) (hi : i < n) (hn : n ≤ items.size + 1) (hz : items.size ≤ 1000000)
    (h : ∀ (h2 : Heap) (tk : Nat), (∀ b o, s.heap.get? b = some o → h2.get? b = some o) → Q (items.toList.take i ++ [.ref h2.objs.size] ++ (items.toList.drop i).drop (items.size + 1 - n)) { s with heap := h2.push { cls := .type "list", data := .seq ((items.toList.drop i).take (items.size + 1 - n)).toArray }, toks := tk }) :
    wpAny (model prog w) A (unpackItems (.ref l) n (some i)) Q E s := by
  have hlt : l ≠ s.heap.objs.size := by obtain ⟨o, ho, _⟩ := hl; exact Nat.ne_of_lt (Heap.lt_size ho)
  unfold unpackItems
  refine wpAny_bind ?_
  unfold notIterableAtAll
  refine wpAny_bind (wpAny_specialOf hl.typeIs PyProof.Rows.slot_tuple_iter.lookup ?_)
  refine wpAny_pure ?_
  simp only [Bool.false_eq_true, if_false]
  refine wpAny_bind (wpAny_holding (PyProof.Rows.iter_tuple hl ?_))
  refine wpAny_bind (wpAny_holding (PyProof.Rows.draw_tuple hlt i 0 _ _ ⟨_, Heap.get?_push_size _ rfl, rfl, rfl⟩ (hl.push _) (by omega) fun h₁ hit₁ hs₁ => ?_))
  have hl₁ : PyProof.Rows.IsTup h₁ l items := (hl.push _).extBut hs₁.extBut hlt
  rw [Nat.zero_add] at hit₁
  have hit₁' := hit₁
  obtain ⟨oi, hoi, _⟩ := hit₁'
  have hl₁' := hl₁
  obtain ⟨ol, hol, _⟩ := hl₁'
  rw [List.drop_zero]
  have hfl : (items.toList.take i).length = i := by rw [List.length_take, Array.length_toList]; omega
  rw [if_neg (show ¬ ((items.toList.take i).length < i) by rw [hfl]; omega)]
  refine wpAny_bind (wpAny_holding (PySem.W.kun_collect (s := { s with heap := h₁ }) (T := "tuple_iterator") (.inr (.inr (.inr rfl))) (Walks.tuple (A := A.in1) hh s.heap.objs.size l hlt items) (fun j u st => st.1.typeIs) (k := i) (by omega) ⟨hit₁, hl₁⟩ (Heap.lt_size hoi) (Heap.lt_size hol) (fun h₂ tk hk => ?_) (by rw [sizeLine_eq]; omega)))
  have hrl : (items.toList.drop i).length = items.size - i := by rw [List.length_drop, Array.length_toList]
  have hmid : (items.toList.drop i).length - (n - 1 - i) = items.size + 1 - n := by rw [hrl]; omega
  show wpAny _ _ (if (items.toList.drop i).length < n - 1 - i then _ else _) _ _ _
  rw [if_neg (by rw [hrl]; omega)]
  show wpAny _ _ (newList ((items.toList.drop i).take ((items.toList.drop i).length - (n - 1 - i))) >>= fun d => pure (items.toList.take i ++ [d] ++ (items.toList.drop i).drop ((items.toList.drop i).length - (n - 1 - i)))) _ _ _
  rw [hmid]
  refine wpAny_bind (wpAny_newList (s := { s with heap := h₂, toks := tk }) (wpAny_pure (h h₂ tk fun b o e => ?_)) (by rw [List.length_take, hrl, sizeLine_eq]; omega))
  have hb : b ≠ s.heap.objs.size := Nat.ne_of_lt (Heap.lt_size e)
  exact hk b o hb (hs₁.extBut b o hb (Heap.get?_push_of_some _ e))
theorem unstar_L {l : Addr} {items : Array Value} {n i : Nat} {Q : List Value → Shared → Prop} (hl : s.heap.IsList l items) (hh : A.handled = none) (hi : i < n) (hn : n ≤ items.size + 1) (hz : items.size ≤ 1000000)
    (h : ∀ (h2 : Heap) (tk : Nat), (∀ b o, s.heap.get? b = some o → h2.get? b = some o) → Q (items.toList.take i ++ [.ref h2.objs.size] ++ (items.toList.drop i).drop (items.size + 1 - n)) { s with heap := h2.push { cls := .type "list", data := .seq ((items.toList.drop i).take (items.size + 1 - n)).toArray }, toks := tk }) :
    wpAny (model prog w) A (unpackItems (.ref l) n (some i)) Q E s := by
  have hlt : l ≠ s.heap.objs.size := by obtain ⟨o, ho, _⟩ := hl; exact Nat.ne_of_lt (Heap.lt_size ho)
  unfold unpackItems
  refine wpAny_bind ?_
  unfold notIterableAtAll
  refine wpAny_bind (wpAny_specialOf hl.typeIs PySem.F.slot_list_iter.lookup ?_)
  refine wpAny_pure ?_
  simp only [Bool.false_eq_true, if_false]
  refine wpAny_bind (wpAny_holding (wpAny_pyIter_list hl ?_))
  refine wpAny_bind (wpAny_holding (PySem.W.kun_draw hlt i 0 _ _ ⟨_, Heap.get?_push_size _ rfl, rfl, rfl⟩ (hl.push _) (by omega) fun h₁ hit₁ hs₁ => ?_))
  have hl₁ : h₁.IsList l items := (hl.push _).extBut hs₁.extBut hlt
  rw [Nat.zero_add] at hit₁
  have hit₁' := hit₁
  obtain ⟨oi, hoi, _⟩ := hit₁'
  have hl₁' := hl₁
  obtain ⟨ol, hol, _⟩ := hl₁'
  rw [List.drop_zero]
  have hfl : (items.toList.take i).length = i := by rw [List.length_take, Array.length_toList]; omega
  rw [if_neg (show ¬ ((items.toList.take i).length < i) by rw [hfl]; omega)]
  refine wpAny_bind (wpAny_holding (PySem.W.kun_collect (s := { s with heap := h₁ }) (T := "list_iterator") (.inr (.inr (.inl rfl))) (Walks.list (A := A.in1) hh s.heap.objs.size l hlt items) (fun j u st => st.1.typeIs) (k := i) (by omega) ⟨hit₁, hl₁⟩ (Heap.lt_size hoi) (Heap.lt_size hol) (fun h₂ tk hk => ?_) (by rw [sizeLine_eq]; omega)))
  have hrl : (items.toList.drop i).length = items.size - i := by rw [List.length_drop, Array.length_toList]
  have hmid : (items.toList.drop i).length - (n - 1 - i) = items.size + 1 - n := by rw [hrl]; omega
  show wpAny _ _ (if (items.toList.drop i).length < n - 1 - i then _ else _) _ _ _
  rw [if_neg (by rw [hrl]; omega)]
  show wpAny _ _ (newList ((items.toList.drop i).take ((items.toList.drop i).length - (n - 1 - i))) >>= fun d => pure (items.toList.take i ++ [d] ++ (items.toList.drop i).drop ((items.toList.drop i).length - (n - 1 - i)))) _ _ _
  rw [hmid]
  refine wpAny_bind (wpAny_newList (s := { s with heap := h₂, toks := tk }) (wpAny_pure (h h₂ tk fun b o e => ?_)) (by rw [List.length_take, hrl, sizeLine_eq]; omega))
  have hb : b ≠ s.heap.objs.size := Nat.ne_of_lt (Heap.lt_size e)
  exact hk b o hb (hs₁.extBut b o hb (Heap.get?_push_of_some _ e))
end
/-- a, .., *b (the star last, at place i) = a tuple, a list -/
def gStar (K : PySem.W.Frag) (i : Nat) (t : TGs) : TG := fun v σ H Q => ∃ a xs, v = .ref a ∧ (SqT K H a xs ∨ SqL K H a xs) ∧ i ≤ xs.length ∧ xs.length ≤ 1000000 ∧ ∀ p, H p = none → t (xs.take i ++ [.ref p]) σ (upd H p (.lst (xs.drop i))) Q
section
variable {X : Cx} {W : WX}
theorem pg_star {es : List Expr} {k i : Nat} {t : TGs} {pos : Pos} (h : PGs X es t) (hc : X.calm = true := by rfl) (hn : (assignEach es X.env).length = i + 1 := by rfl) (hst : (assignEach es X.env).findIdx? (·.1) = some i := by rfl) : PG X (.Tuple es k pos) (gStar X.K i t) := by
  refine ⟨fun pins s σ H v u Q I r hw => ?_⟩
  obtain ⟨a, xs, e1, hq, hl, hz, hw⟩ := hw
  subst e1
  cases r
  rw [PyProof.Rows.assign_Tuple]
  refine wpAny_bind (wpAny_standAt ?_)
  unfold unpack
  rw [hn, hst]
  have go : ∀ (its : List Value), Vals xs its → ∀ (h2 : Heap) (tk : Nat), (∀ b o, s.heap.get? b = some o → h2.get? b = some o) →
      wpAny (model X.prog X.w) X.A (assignInOrder ((assignEach es X.env).map (·.2)) (its.toArray.toList.take i ++ [.ref h2.objs.size] ++ (its.toArray.toList.drop i).drop (its.toArray.size + 1 - (i + 1)))) (fun _ s' => ∃ σ' H', Inv X pins σ' H' s' ∧ Q σ' H') X.xe
        { s with heap := h2.push { cls := .type "list", data := .seq ((its.toArray.toList.drop i).take (its.toArray.size + 1 - (i + 1))).toArray }, toks := tk } := by
    intro its rv h2 tk hk
    have hlen := rv.length
    have I2 : Inv X pins σ H { s with heap := h2, toks := tk } := I.kept (t' := tk) hk
    have hp : H h2.objs.size = none := I2.hok.fresh (Nat.le_refl _)
    have e0 : its.toArray.toList = its := by simp
    have e1 : (its.toArray.toList.drop i).take (its.toArray.size + 1 - (i + 1)) = its.drop i := by
      rw [e0, List.size_toArray]
      exact List.take_of_length_le (by rw [List.length_drop]; omega)
    have e2 : (its.toArray.toList.drop i).drop (its.toArray.size + 1 - (i + 1)) = [] := by
      rw [e0, List.size_toArray]
      exact List.drop_eq_nil_of_le (by rw [List.length_drop]; omega)
    rw [e1, e2, e0, List.append_nil]
    have I3 : Inv X pins σ (upd H h2.objs.size (.lst (xs.drop i))) { s with heap := h2.push { cls := .type "list", data := .seq (its.drop i).toArray }, toks := tk } :=
      I2.laid (t' := tk) (fun _ _ q => Heap.get?_push_of_some _ q) (Nat.le_refl _) ⟨by rw [List.length_drop, sizeLine_eq]; omega, its.drop i, 0, rv.drop i, Heap.get?_push_size _ rfl⟩
    exact h.run pins _ σ _ _ _ Q I3 ((rv.take i).append (.cons (show RelV (.ref h2.objs.size) _ from rfl) .nil)) (hw _ hp)
  rcases hq with hq | hq
  · obtain ⟨its, rv, ht, hz2⟩ := I.tuple hq
    have hlen := rv.length
    exact wpAny_bind (wpAny_holding (unstar_T ht (I.ok.hd hc) (Nat.lt_succ_self i) (by rw [List.size_toArray]; omega) (by rw [List.size_toArray]; omega) (go its rv)))
  · obtain ⟨its, rv, ht, hz2⟩ := I.list hq
    have hlen := rv.length
    exact wpAny_bind (wpAny_holding (unstar_L ht.isList (I.ok.hd hc) (Nat.lt_succ_self i) (by rw [List.size_toArray]; omega) (by rw [List.size_toArray]; omega) (go its rv)))
theorem pgs_star {e : Expr} {es : List Expr} {p : Pos} {t : TG} {u : TGs} (h1 : PG X e t) (h2 : PGs X es u) (hs : (assignEach (.Starred e p :: es) X.env).map (·.2) = assign e X.env :: (assignEach es X.env).map (·.2) := by rfl) : PGs X (.Starred e p :: es) (gCons t u) := by
  refine ⟨fun pins s σ H vs us Q I r h => ?_⟩
  obtain ⟨v, vr, e1, h⟩ := h
  subst e1
  cases r with
  | cons r rr =>
    rw [hs]
    refine PyProof.Rows.assignInOrder_cons (thn (h1.run pins s σ H _ _ _ I r h) fun _ s1 ⟨σ1, H1, I1, q1⟩ => ?_)
    exact h2.run pins s1 σ1 H1 _ _ Q I1 rr q1
/-- the last name of a starred target -/
theorem pgs_sn {i : Nat} {x : Str} {p pos : Pos} (hN : X.N.Nodup) (hi : X.N[i]? = some x := by rfl) (hx : Loc X.env.scope x := by first | exact Or.inl rfl | exact Or.inr rfl) (hf : X.fn x = true ∨ X.env.scope.names.lookup x = some .local := by first | exact .inl rfl | exact .inr rfl | assumption)
    (hs : (assignEach [.Starred (.Name x pos) p] X.env).map (·.2) = assign (.Name x pos) X.env :: (assignEach [] X.env).map (·.2) := by rfl) : PGs X [.Starred (.Name x pos) p] (gNames [i]) := pgs_star (pg_name hN hi hx hf) pgs_nil hs
def sStar (is : List Nat) (t : AT) : AS := fun A δ r => t A.xr δ r fun d r1 => match d with
  | .tup ds => (is.length ≤ ds.length + 1 ∧ small ds.length) ∧ A.nx (setAll δ is (ds.take (is.length - 1) ++ [.lst (ds.drop (is.length - 1))])) r1
  | .lst ds => (is.length ≤ ds.length + 1 ∧ small ds.length) ∧ A.nx (setAll δ is (ds.take (is.length - 1) ++ [.lst (ds.drop (is.length - 1))])) r1
  | _ => False
theorem star_go {K : PySem.W.Frag} {W : WX} {XR : XT} {r : Rs} {δ : Dl} {σ : L2.St} {H : Hp} {is : List Nat} {i : Nat} {xs : List V} {ds : List D} {Q : L2.St → Hp → Prop} (he : is.length = i + 1) (o : Ok K W XR r δ σ H) (a : IsAll K (mem r) H xs ds) (hl : is.length ≤ ds.length + 1) {p : Addr} (hp : H p = none)
    (k : ∀ σ', Ok K W XR r (setAll δ is (ds.take (is.length - 1) ++ [.lst (ds.drop (is.length - 1))])) σ' (upd H p (.lst (xs.drop i))) → Q σ' (upd H p (.lst (xs.drop i)))) : gNames is (xs.take i ++ [.ref p]) σ (upd H p (.lst (xs.drop i))) Q := by
  have e : is.length - 1 = i := by omega
  rw [e] at k
  have kk : Kp K r H r (upd H p (.lst (xs.drop i))) := Kp.ext (Ext.new hp)
  refine names_all (o.new hp) ((kk.all (a.take i)).append (.cons (new_lst o.r hp (a.drop i)) .nil)) ?_ k
  rw [List.length_append, List.length_take]
  simp only [List.length_singleton]
  omega
theorem s_star {is : List Nat} {i : Nat} {ts : List Expr} {kk : Nat} {p2 pos : Pos} {e : Expr} {te : AT} (he : PD X W e te) (hg : PGs X ts (gNames is)) (hi : is.length = i + 1 := by rfl) (hc : X.calm = true := by rfl) (hn : (assignEach ts X.env).length = i + 1 := by rfl) (hst : (assignEach ts X.env).findIdx? (·.1) = some i := by rfl)
    (hs : swapsWithSole [.Tuple ts kk p2] e pos.line X.env = pure false := by rfl) (hw : swappedStores [.Tuple ts kk p2] e X.env = pure none := by rfl)
    (h1 : (assignEach [.Tuple ts kk p2] X.env).map (·.2) = [assign (.Tuple ts kk p2) X.env] := by rfl) : PSD X W (.Assign [.Tuple ts kk p2] e pos) (sStar is te) :=
  imS (ps_asg he (pg_star hg hc hn hst) hs hw h1) fun Dd σ H ⟨δ, r, A, o, h, f⟩ => td_bind o h fun d r1 v H1 h1 o1 k1 i1 => by
    cases i1 with
    | tup s a =>
      obtain ⟨⟨hl, hz⟩, h1⟩ := h1
      have := a.length
      exact ⟨_, _, rfl, .inl s, by omega, by unfold small at hz; omega, fun p hp => star_go hi o1 a hl hp fun σ' o' => f.nx _ _ _ _ h1 o' (k1.trans (Kp.ext (Ext.new hp)))⟩
    | lst n s a =>
      obtain ⟨⟨hl, hz⟩, h1⟩ := h1
      have := a.length
      exact ⟨_, _, rfl, .inr (SqL.of s), by omega, by unfold small at hz; omega, fun p hp => star_go hi o1 a hl hp fun σ' o' => f.nx _ _ _ _ h1 o' (k1.trans (Kp.ext (Ext.new hp)))⟩
    | _ => exact h1.elim

/-! ### a dict of the module with text keys -/
structure KD (K : PySem.W.Frag) (w : World) (d : Addr) (tbl : List (Str × D)) : Prop where
  at_ : ∃ es n, K.lookup d = some ⟨.type "dict", none, .dict es n, #[]⟩ ∧ PySem.W.KeysLit w.params es.toList
  low : (d == sysModules) = false
  get : ∀ z : Str, match tbl.lookup z with
    | some dd => ∃ u v, PySem.W.nsIn K d z = some (some u) ∧ RelV v u ∧ ∀ M H, Is K M H v dd
    | none => PySem.W.nsIn K d z = some none
variable {dk : Addr} {tbl : List (Str × D)}
def oKin (d : Addr) (tbl : List (Str × D)) (neg : Bool) : O2 := fun x y k => match x with | .str z => y = .adr d ∧ k (.bl (cond neg (!(tbl.lookup z).isSome) (tbl.lookup z).isSome)) | _ => False
theorem p_kin (T : KD X.K X.w dk tbl) : OpR X (compareOp .In) (rD X.K (oKin dk tbl false)) := by
  rintro pins s σ H x y v u Q I rx ry ⟨r, d1, d2, P, hr, i1, i2, ho, k⟩
  cases i1 <;> try exact ho.elim
  rename_i z hz
  obtain ⟨rfl, ho⟩ := ho
  cases i2
  obtain ⟨es, n, hl, hk⟩ := T.at_
  have g := T.get z
  split at g
  · rename_i dd e
    obtain ⟨u0, v0, h1, h2, h3⟩ := g
    rw [e] at ho
    exact op_in_kd ⟨hl, hk, T.low⟩ pins s σ H _ _ v u Q I rx ry ⟨z, _, rfl, rfl, h1, k _ _ H ho (Ext.refl H) (.bl _)⟩
  · rename_i e
    rw [e] at ho
    exact op_in_kd ⟨hl, hk, T.low⟩ pins s σ H _ _ v u Q I rx ry ⟨z, _, rfl, rfl, g, k _ _ H ho (Ext.refl H) (.bl _)⟩
theorem p_knotin (T : KD X.K X.w dk tbl) : OpR X (compareOp .NotIn) (rD X.K (oKin dk tbl true)) := by
  rintro pins s σ H x y v u Q I rx ry ⟨r, d1, d2, P, hr, i1, i2, ho, k⟩
  cases i1 <;> try exact ho.elim
  rename_i z hz
  obtain ⟨rfl, ho⟩ := ho
  cases i2
  obtain ⟨es, n, hl, hk⟩ := T.at_
  have g := T.get z
  split at g
  · rename_i dd e
    obtain ⟨u0, v0, h1, h2, h3⟩ := g
    rw [e] at ho
    exact op_notIn_kd ⟨hl, hk, T.low⟩ pins s σ H _ _ v u Q I rx ry ⟨z, _, rfl, rfl, h1, k _ _ H ho (Ext.refl H) (.bl _)⟩
  · rename_i e
    rw [e] at ho
    exact op_notIn_kd ⟨hl, hk, T.low⟩ pins s σ H _ _ v u Q I rx ry ⟨z, _, rfl, rfl, g, k _ _ H ho (Ext.refl H) (.bl _)⟩
theorem d_adr {x : Str} {a : Addr} {pos : Pos} (hm : X.mg x = some (.ref a)) (hg : Gl X x := by rfl) (hdb : (x == ("__debug__" : Str)) = false := by decide) : PD X W (.Name x pos) (aC (.adr a)) := d_glob (v := .ref a) hg hm rfl (fun _ _ => .adr a) hdb
def aKGet2 (tbl : List (Str × D)) (te tf : AT) : AT := fun x δ r P => te x δ r fun k r1 => tf x δ r1 fun x r2 => match k with | .str z => P ((tbl.lookup z).getD x) r2 | _ => False
theorem kd_find {P : Program} {K : PySem.W.Frag} {w : World} {h : Heap} {d : Addr} {tbl : List (Str × D)} (T : KD K w d tbl) (X : K.In h) : ∃ f, h.MapOf (strKind P w) d f ∧ ∀ z, PySem.W.nsIn K d z = some (f z) := by
  obtain ⟨es, n, hl, hk⟩ := T.at_
  refine ⟨_, PySem.W.mapOf_K (prog := P) X hl hk, fun z => ?_⟩
  have g := T.get z
  split at g
  · obtain ⟨u, v, h1, _⟩ := g
    rw [h1, PySem.W.find_K hl h1]
  · rw [g, PySem.W.find_K hl g]
theorem kd_type' {pins : List (Addr × Obj)} {σ : L2.St} {H : Hp} {s : Shared} (T : KD X.K X.w dk tbl) (I : Inv X pins σ H s) : s.TypeIs (.ref dk) "dict" ∧ ∀ a, (Value.ref dk) = .ref a → ∃ ob, s.heap.get? a = some ob ∧ ob.dict = none := by
  obtain ⟨es, n, hl, hk⟩ := T.at_
  refine ⟨(PySem.W.mapOf_K (prog := X.prog) (w := X.w) I.kIn hl hk).typeIs, fun a e => ?_⟩
  cases e
  exact ⟨_, I.kIn _ _ hl, rfl⟩
theorem d_kget2 {x : Str} {p apos cpos : Pos} {e f : Expr} {te tf : AT} (T : KD X.K X.w dk tbl) (hm : X.mg x = some (.ref dk)) (he : PD X W e te) (hf : PD X W f tf) (m : M2 X (.Name x p) "get" apos e f cpos) (hg : Gl X x := by rfl) (hdb : (x == ("__debug__" : Str)) = false := by decide) :
    PD X W (.Call (.Attribute (.Name x p) "get" apos) [e, f] [] cpos) (aKGet2 tbl te tf) := by
  refine ⟨fun pins s σ H Q I h => ?_⟩
  obtain ⟨XR, δ, r, P, o, h, k⟩ := h
  refine wpAny_Call_method m.base m.few m.line PySem.F.plainAttrs_dict PySem.F.slot_dict_get PySem.F.type_dict_get (ld_glob I hg hm ?_ hdb)
  obtain ⟨t1, t2⟩ := kd_type' T I
  refine ⟨t1, t2, ?_⟩
  rw [m.trees]
  refine Calls.callWith_builtin rfl (Calls.evalArgs_plain (Calls.spliced_cons (thn (he.run pins s σ H _ I (td_bind o h fun kd r1 v H1 h1 o1 k1 i1 => td_bind (Q := fun z H3 => ∃ (w0 : V) (zz : Str), v = .str zz ∧ (∀ u, RelV z u → ∃ w1, RelV w0 w1 ∧ w1 = (match PySem.W.nsIn X.K dk zz with | some (some u0) => u0 | _ => u)) ∧ Q w0 H3) o1 h1 fun xd r2 z H3 h2 o2 k2 i2 => ?_)) fun iv s2 ⟨y, H2, I2, ry, q2⟩ =>
    Calls.spliced_cons (thn (hf.run pins s2 σ H2 _ I2 q2) fun fv s3 ⟨z, H3, I3, rz, ⟨w0, zz, ey, hw, q3⟩⟩ => Calls.spliced_nil ?_))))
  · cases i1 <;> try exact h2.elim
    rename_i zz hz
    have h2 : P ((tbl.lookup zz).getD xd) r2 := h2
    have g := T.get zz
    split at g
    · rename_i dd e
      obtain ⟨u0, v0, g1, g2, g3⟩ := g
      rw [e] at h2
      exact ⟨v0, zz, rfl, fun u _ => ⟨u0, g2, by rw [g1]⟩, k dd r2 v0 H3 h2 o2 (k1.trans k2) (g3 _ _)⟩
    · rename_i e
      rw [e] at h2
      exact ⟨z, zz, rfl, fun u hu => ⟨u, hu, by rw [g]⟩, k xd r2 z H3 h2 o2 (k1.trans k2) i2⟩
  · subst ey
    obtain ⟨t, rfl⟩ := ry
    obtain ⟨fm, hmap, hfm⟩ := kd_find (P := X.prog) T I3.kIn
    obtain ⟨w1, hw1, ew⟩ := hw fv rz
    refine call_meetsIn PySem.F.slot_dict_get hmap.typeIs PySem.F.entry_dict_get (PySem.F.args_dict_get_3 _ _ _) (meets_dict_get_default (strKind X.prog X.w) dk (PySem.strKind_is X.prog X.w zz t) T.low fv) ⟨_, hmap, ⟨w0, H3, I3.tok _, ?_, q3⟩⟩
    have : w1 = (fm zz).getD fv := by
      rw [ew, hfm zz]
      cases fm zz <;> rfl
    rw [← this]
    exact hw1
end
end G

namespace G
open PySem PySem.Spec L2
open PyProof.Rows (envOfC)

/-! ### defs by name -/
/-- the def st stands under the module's name x -/
def Dfn (K : PySem.W.Frag) (mg : Str → Option Value) (x : Str) (st : Stmt) (ps : List Str) : Prop := ∃ f fd, Fun K x x st f fd ∧ mg x = some (.ref f) ∧ Binds K fd ps []
/-- the module's name x may be called by the promise sd -/
def Cl (P : Program) (w : World) (K : PySem.W.Frag) (mg : Str → Option Value) (base : Heap) (k : Nat) (x : Str) (ps : List Str) (sd : SpX) : Prop :=
  ∃ f fd, FO P w K mg base k f fd ps sd ∧ mg x = some (.ref f) ∧ PySem.W.keepIn K (.ref f) = true ∧ Binds K fd ps []
theorem cl_of {P : Program} {w : World} {K : PySem.W.Frag} {mg : Str → Option Value} {base : Heap} {x : Str} {st : Stmt} {N ps : List Str} {k : Nat} {sd : SpX} (Dx : Dfn K mg x st ps) (S : FnScope N ps (defScope st)) (len : ∀ ds r P' XR, sd ds r P' XR → ds.length = ps.length)
    (hbody : ∀ (f : Addr) (cdv : Value) (A : Around) (outer : List Env) (s : Shared) (H : Hp) (E : XK), Room k (A.deeper (envOfC x (defScope st) s.heap.objs.size f cdv)) → Takes (cxOf (L2.CX P w) P w K mg base N x (defScope st) f cdv A outer s H E) (WK E) →
      PassesOwn (model P w) (cxOf (L2.CX P w) P w K mg base N x (defScope st) f cdv A outer s H E).A (cxOf (L2.CX P w) P w K mg base N x (defScope st) f cdv A outer s H E).env (cxOf (L2.CX P w) P w K mg base N x (defScope st) f cdv A outer s H E).xe →
      ∃ t : AS, PBD (cxOf (L2.CX P w) P w K mg base N x (defScope st) f cdv A outer s H E) (WK E) (defBody st) t ∧
      ∀ ds r P' XR, sd ds r P' XR → t { nx := fun _ r' => fit P' .non r', rt := fit P', xr := fitX XR } (startD N ds) r) : Cl P w K mg base (k + 1) x ps sd := by
  obtain ⟨f, fd, F, g, b⟩ := Dx
  exact ⟨f, fd, fn_d F S len (hbody f), g, F.kp, b⟩
/-- a promise that is never asked -/
theorem cl_never {P : Program} {w : World} {K : PySem.W.Frag} {mg : Str → Option Value} {base : Heap} {x : Str} {st : Stmt} {ps : List Str} {k : Nat} {sd : SpX} (Dx : Dfn K mg x st ps) (h : ∀ ds r P' XR, ¬ sd ds r P' XR) : Cl P w K mg base k x ps sd := by
  obtain ⟨f, fd, F, g, b⟩ := Dx
  exact ⟨f, fd, ⟨fun vs H Q E ⟨r, ds, P', XR, _, _, z, _⟩ => (h _ _ _ _ z).elim, fun A outer s H args us vs Q E _ _ _ _ ⟨r, ds, P', XR, _, _, z, _⟩ => (h _ _ _ _ z).elim⟩, g, F.kp, b⟩
theorem Cl.imp {P : Program} {w : World} {K : PySem.W.Frag} {mg : Str → Option Value} {base : Heap} {x : Str} {ps : List Str} {k : Nat} {sd sd' : SpX} (c : Cl P w K mg base k x ps sd) (h : ∀ ds r P XR, sd' ds r P XR → sd ds r P XR) : Cl P w K mg base k x ps sd' := by
  obtain ⟨f, fd, F, g, kp, b⟩ := c
  exact ⟨f, fd, FnOk.imp F (lift_imp h), g, kp, b⟩
theorem Cl.mono {P : Program} {w : World} {K : PySem.W.Frag} {mg : Str → Option Value} {base : Heap} {x : Str} {ps : List Str} {j k : Nat} {sd : SpX} (c : Cl P w K mg base j x ps sd) (h : j ≤ k) : Cl P w K mg base k x ps sd := by
  obtain ⟨f, fd, F, g, kp, b⟩ := c
  exact ⟨f, fd, FnOk.mono F h, g, kp, b⟩
/-- a def that was walked as one that lets nothing out -/
theorem cl_cx0 {P : Program} {w : World} {K : PySem.W.Frag} {mg : Str → Option Value} {base : Heap} {x : Str} {ps : List Str} {k : Nat} {sd : SpX} {f : Addr} {fd : FuncData} (F : FnOk P w K mg base CX0 k f fd ps (lift K sd)) (g : mg x = some (.ref f)) (kp : PySem.W.keepIn K (.ref f) = true) (b : Binds K fd ps []) : Cl P w K mg base k x ps sd := by
  refine ⟨f, fd, ⟨F.len, fun A outer s H args us vs Q E hr he hb hv hs => codeAny_mono (F.run A outer s H args us vs Q E hr he hb hv hs) fun r s' h => ?_⟩, g, kp, b⟩
  cases r with
  | ok fl => cases fl <;> exact h
  | error e => exact h.elim
section
variable {X : Cx} {W : WX} {k j : Nat} {ps : List Str} {sd : SpX} {x : Str} {p pos : Pos} {e : Expr} {es : List Expr} {l : AL}
theorem d_fn (C : Cl X.prog X.w X.K X.mg X.base k x ps sd) (tk : Takes X W) (hr : Room j X.A) (ha : PDL X W (e :: es) l) (hj : k ≤ j := by first | decide | exact Nat.le_refl _ | omega) (hg : Gl X x := by rfl) (hdb : (x == ("__debug__" : Str)) = false := by decide)
    (he : starEach (e :: es) X.env = (false, eval e X.env) :: starEach es X.env := by rfl) (hpl : (backTo pos (starEach es X.env)).any (·.1) = false := by rfl) : PD X W (.Call (.Name x p) (e :: es) [] pos) (aCall sd l) := by
  obtain ⟨f, fd, F, g, kp, b⟩ := C
  exact d_call (fr_of F b) tk (hr.mono hj) g kp ha hg hdb he hpl
theorem d_fnN (C : Cl X.prog X.w X.K X.mg X.base k x ps sd) (hr : Room j X.A) (ha : PDL X W (e :: es) l) (hj : k ≤ j := by first | decide | exact Nat.le_refl _ | omega) (hg : Gl X x := by rfl) (hdb : (x == ("__debug__" : Str)) = false := by decide)
    (he : starEach (e :: es) X.env = (false, eval e X.env) :: starEach es X.env := by rfl) (hpl : (backTo pos (starEach es X.env)).any (·.1) = false := by rfl) : PD X W (.Call (.Name x p) (e :: es) [] pos) (aCallN sd l) := by
  obtain ⟨f, fd, F, g, kp, b⟩ := C
  exact d_callN (fr_of F b) (hr.mono hj) g kp ha hg hdb he hpl
theorem d_fn0 (C : Cl X.prog X.w X.K X.mg X.base k x ps sd) (tk : Takes X W) (hr : Room j X.A) (hj : k ≤ j := by first | decide | exact Nat.le_refl _ | omega) (hg : Gl X x := by rfl) (hdb : (x == ("__debug__" : Str)) = false := by decide) : PD X W (.Call (.Name x p) [] [] pos) (aCall sd aNil) := by
  obtain ⟨f, fd, F, g, kp, b⟩ := C
  exact d_call0 (fr_of F b) tk (hr.mono hj) g kp hg hdb
end
/-- names that the module does not bind -/
structure Bl (mg : Str → Option Value) : Prop where
  len : mg "len" = none
  int : mg "int" = none
  list : mg "list" = none
  tuple : mg "tuple" = none
  isi : mg "isinstance" = none
  range : mg "range" = none
  all : mg "all" = none
  any : mg "any" = none
  str : mg "str" = none
  bool : mg "bool" = none
  enum : mg "enumerate" = none
  zip : mg "zip" = none
  sum : mg "sum" = none
  max : mg "max" = none
  min : mg "min" = none
  sorted : mg "sorted" = none
  set : mg "set" = none
  dict : mg "dict" = none

/-! ### what a piece of the heap becomes -/
theorem own_step {K : PySem.W.Frag} {t t' : At} {X : Rs} {H H' : Hp} (h : Rok K (t :: X) H) (hm : t'.M = t.M) (hk : ∀ b o, ¬ t.M b → H b = some o → H' b = some o) (hT : ∀ b, t.M b → ∀ u, Rd H b u → ∀ xs, u ≠ .tup xs) (ht : t'.R K (mem (t' :: X)) H') : Rok K (t' :: X) H' ∧ Kp K (t :: X) H (t' :: X) H' := by
  have me : mem (t' :: X) = mem (t :: X) := by
    show (fun a => t'.M a ∨ mem X a) = (fun a => t.M a ∨ mem X a)
    rw [hm]
  have go : Kp K (t :: X) H (t' :: X) H' := fun v d q => by
    rw [me]
    refine Is.go (fun a o _ n s => ⟨n, hk a _ (fun z => n (.inl z)) s⟩) (fun a xs s => ?_) _ _ q
    rcases s with s | s
    · have na : ¬ t.M a := fun z => hT a z _ s xs rfl
      rcases s with s | ⟨o, s⟩
      · exact .inl (.inl (hk a _ na s))
      · exact .inl (.inr ⟨o, hk a _ na s⟩)
    · exact .inr s
  obtain ⟨h1, h2, h3⟩ := h
  have go' : ∀ v d, Is K (mem (t :: X)) H v d → Is K (mem (t :: X)) H' v d := by
    have g := go
    unfold Kp at g
    rw [me] at g
    exact g
  refine ⟨⟨ht, by rw [hm]; exact h2, ?_⟩, go⟩
  rw [me]
  exact hold_loc (fun b o m q => hk b o (fun z => h2 b z m) q) go' h3
/-- the pool of draws at p, its script's rest at a; fewer than N draws so far -/
def poolA (p a : Addr) (N : Nat) : At where
  M := fun b => b = p ∨ b = a
  R := fun _ _ H => p ≠ a ∧ ∃ (ns : List Int) (c1 c2 c3 : Int), H p = some (.lst [.ref a, .int c1, .int c2, .int c3]) ∧ H a = some (.lst (ns.map V.int)) ∧ 0 ≤ c1 ∧ 0 ≤ c2 ∧ c2 ≤ N ∧ 0 ≤ c3 ∧ c3 < 2147483629 ∧ ns.length ≤ 63
  loc := fun f _ ⟨ne, ns, c1, c2, c3, h1, h2, h⟩ => ⟨ne, ns, c1, c2, c3, f _ _ (.inl rfl) h1, f _ _ (.inr rfl) h2, h⟩
  anti := fun _ h => h
  grow := fun _ h => h
  al := fun ⟨ne, ns, c1, c2, c3, h1, h2, h⟩ b z => z.elim (fun e => ⟨_, e.symm ▸ h1⟩) fun e => ⟨_, e.symm ▸ h2⟩
theorem pool_mono {p a : Addr} {N N' : Nat} (h : N ≤ N') {X : Rs} : le (poolA p a N :: X) (poolA p a N' :: X) :=
  ⟨fun b z => z, fun K H ⟨⟨ne, ns, c1, c2, c3, h1, h2, h3, h4, h5, h6⟩, q, q2⟩ => ⟨⟨ne, ns, c1, c2, c3, h1, h2, h3, h4, by omega, h6⟩, q, q2⟩⟩
/-- a draw below m -/
def spDraw : SpX := fun ds r P _ => ∃ p a m N X, ds = [.adr p, .int m] ∧ r = poolA p a N :: X ∧ (0 < m ∧ m ≤ 10000000000000000000000000000000000000000) ∧ N < 1000000000000 ∧ ∀ k, 0 ≤ k → k < m → P (.int k) (poolA p a (N + 1) :: X)
theorem pool_step {K : PySem.W.Frag} {p a : Addr} {N N' : Nat} {X : Rs} {H H' : Hp} (h : Rok K (poolA p a N :: X) H) (hk : ∀ b o, b ≠ p → b ≠ a → H b = some o → H' b = some o) (ht : (poolA p a N').R K (mem (poolA p a N' :: X)) H') : Rok K (poolA p a N' :: X) H' ∧ Kp K (poolA p a N :: X) H (poolA p a N' :: X) H' := by
  obtain ⟨⟨ne, ns, c1, c2, c3, h1, h2, _⟩, _, _⟩ := id h
  refine own_step h rfl (fun b o n q => hk b o (fun e => n (.inl e)) (fun e => n (.inr e)) q) (fun b z u q xs e => ?_) ht
  subst e
  rcases z with rfl | rfl
  · rcases q with q | ⟨o, q⟩
    · rw [h1] at q; cases q
    · rw [h1] at q; cases q
  · rcases q with q | ⟨o, q⟩
    · rw [h2] at q; cases q
    · rw [h2] at q; cases q
theorem pget_list {X : Cx} : PGet X (fun o i H Q => ∃ (p : Addr) (xs : List V) (j : Nat) (v : V), o = .ref p ∧ i = .int (j : Nat) ∧ j < 1000000 ∧ SqL X.K H p xs ∧ xs[j]? = some v ∧ Q v H) := by
  rintro pins s σ H o i ov iv Q I ro ri ⟨p, xs, j, v, rfl, rfl, hj, hq, hv, q⟩
  cases ro
  obtain ⟨t, rfl⟩ := ri
  obtain ⟨its, r, pl, hz⟩ := I.list hq
  obtain ⟨u, hu, ru⟩ := r.get hv
  exact wpAny_getItem_list pl.isList (by omega) (by omega) (by simpa using hu) ⟨v, H, I, ru, q⟩
theorem brT {A B : Prop} (h : A) : (true = true → A) ∧ (true = false → B) := ⟨fun _ => h, fun e => (by cases e)⟩
theorem brF {A B : Prop} (h : B) : (false = true → A) ∧ (false = false → B) := ⟨fun e => (by cases e), fun _ => h⟩
theorem brt {b : Bool} {A B : Prop} (e : b = true) (h : A) : (b = true → A) ∧ (b = false → B) := ⟨fun _ => h, fun q => by rw [e] at q; cases q⟩
theorem brf {b : Bool} {A B : Prop} (e : b = false) (h : B) : (b = true → A) ∧ (b = false → B) := ⟨fun q => (by rw [e] at q; cases q), fun _ => h⟩
end G

namespace G
open PySem PySem.Spec L2
open PyProof.Rows (envOfC)

/-! ### texts -/
abbrev tl (x : Str) : List Nat := x.cps.toList
def strL : List D → Option (List Str)
  | [] => some []
  | .str z :: r => (strL r).map (z :: ·)
  | _ :: _ => none
theorem strL_map : ∀ (l : List Str), strL (l.map .str) = some l
  | [] => rfl
  | b :: bs => by simp [strL, strL_map bs]
theorem strL_all {K : PySem.W.Frag} {N : Addr → Prop} {H : Hp} : ∀ {vs : List V} {ds : List D} {ys : List Str}, IsAll K N H vs ds → strL ds = some ys → vs = ys.map V.str ∧ ∀ y ∈ ys, sok y
  | _, _, _, .nil, e => by cases e; exact ⟨rfl, fun _ h => by cases h⟩
  | _, d :: ds, bs, .cons i t, e => by
    cases i <;> try (simp [strL] at e; done)
    rename_i z hz
    simp only [strL] at e
    cases q : strL ds with
    | none => rw [q] at e; cases e
    | some cs =>
      rw [q] at e
      cases e
      obtain ⟨h1, h2⟩ := strL_all t q
      rw [h1]
      exact ⟨rfl, fun y hy => (List.mem_cons.mp hy).elim (fun e => e ▸ hz) (h2 y)⟩
theorem sok_iff {z : Str} : sok z ↔ (∀ c ∈ tl z, c < 1114112) ∧ (tl z).length ≤ 1000000 := by
  unfold sok PyData.strOk Str.length
  rw [← Array.all_toList, List.all_eq_true, Array.length_toList]
  simp only [decide_eq_true_eq]
theorem joinL_mem {S : List Nat} {c : Nat} : ∀ {ps : List (List Nat)}, c ∈ TL.joinL S ps → c ∈ S ∨ ∃ p ∈ ps, c ∈ p
  | [], h => by cases h
  | [p], h => .inr ⟨p, List.mem_cons_self, h⟩
  | p :: q :: r, h => by
    rcases List.mem_append.mp h with h | h
    · exact .inr ⟨p, List.mem_cons_self, h⟩
    · rcases List.mem_append.mp h with h | h
      · exact .inl h
      · rcases joinL_mem (ps := q :: r) h with h | ⟨x, h1, h2⟩
        · exact .inl h
        · exact .inr ⟨x, List.mem_cons_of_mem _ h1, h2⟩
theorem joinL_len {S : List Nat} : ∀ {ps : List (List Nat)}, (TL.joinL S ps).length ≤ (ps.map List.length).sum + ps.length * S.length
  | [] => by simp [TL.joinL]
  | [p] => by simp [TL.joinL]
  | p :: q :: r => by
    have ih := joinL_len (S := S) (ps := q :: r)
    simp only [TL.joinL, List.length_append, List.map_cons, List.sum_cons, List.length_cons, Nat.add_mul, Nat.one_mul] at ih ⊢
    omega
def tJoin (a : Str) (ys : List Str) : Str := Txt.join a ys
theorem tl_tJoin (a : Str) (ys : List Str) : tl (tJoin a ys) = TL.joinL (tl a) (ys.map tl) := by
  unfold tJoin
  rw [TL.join_eq]
  exact TL.tl_join a ys
theorem tl_len (ys : List Str) : (ys.map tl).map List.length = ys.map (·.length) := by
  rw [List.map_map]
  rfl
def oJoinP (x y : D) (k : D → Prop) : Prop := match x with
  | .str a => match y with
    | .lst ds => (match strL ds with | some ys => (ys.map (·.length)).sum + ys.length * a.length ≤ 1000000 ∧ k (.str (tJoin a ys)) | none => False)
    | .tup ds => (match strL ds with | some ys => (ys.map (·.length)).sum + ys.length * a.length ≤ 1000000 ∧ k (.str (tJoin a ys)) | none => False)
    | _ => False
  | _ => False
structure oJoin (x y : D) (k : D → Prop) : Prop where
  ex : oJoinP x y k
def aM1 (o : O2) (ta tb : AT) : AT := fun x δ r P => ta x δ r fun d1 r1 => match d1 with | .str z => tb x δ r1 fun d2 r2 => o (.str z) d2 fun d => P d r2 | _ => False
theorem sok_join {a : Str} {ys : List Str} (ha : sok a) (hy : ∀ y ∈ ys, sok y) (hz : (ys.map (·.length)).sum + ys.length * a.length ≤ 1000000) : sok (tJoin a ys) := by
  rw [sok_iff, tl_tJoin]
  refine ⟨fun c hc => ?_, ?_⟩
  · rcases joinL_mem hc with h | ⟨p, hp, h⟩
    · exact (sok_iff.mp ha).1 c h
    · obtain ⟨y, h1, rfl⟩ := List.mem_map.mp hp
      exact (sok_iff.mp (hy y h1)).1 c h
  · have := joinL_len (S := tl a) (ps := ys.map tl)
    rw [tl_len, List.length_map] at this
    exact Nat.le_trans this hz
section
variable {X : Cx} {W : WX} {o e : Expr} {ta tb : AT} {apos pos : Pos}
theorem d_join (ho : PD X W o ta) (he : PD X W e tb) (hs : starEach [e] X.env = [(false, eval e X.env)] := by rfl) (hbase : attributeBase o "join" X.env (eval o X.env) = eval o X.env := by rfl) (hline : (apos.endLine == pos.line) = true := by rfl) :
    PD X W (.Call (.Attribute o "join" apos) [e] [] pos) (aM1 oJoin ta tb) := imE (pe_join ho he hs hbase hline) fun σ H Q q => by
  obtain ⟨XR, δ, r, P, ok, h, k⟩ := q
  refine td_bind ok h fun d1 r1 v1 H1 h1 o1 k1 i1 => ?_
  cases i1 <;> try exact h1.elim
  rename_i z hz
  refine ⟨⟨z, rfl⟩, td_bind o1 h1 fun d2 r2 v2 H2 h2 o2 k2 i2 => ?_⟩
  obtain ⟨h2⟩ := h2
  cases i2 <;> try exact h2.elim
  · rename_i n hl al
    simp only [oJoinP] at h2
    split at h2
    · rename_i ys hys
      obtain ⟨e1, e2⟩ := strL_all al hys
      subst e1
      exact ⟨z, _, ys, rfl, rfl, .inl (SqL.of hl), Nat.le_trans h2.1 (by decide), k _ r2 _ H2 h2.2 o2 (k1.trans k2) (.str (sok_join hz e2 h2.1))⟩
    · exact h2.elim
  · rename_i hl al
    simp only [oJoinP] at h2
    split at h2
    · rename_i ys hys
      obtain ⟨e1, e2⟩ := strL_all al hys
      subst e1
      exact ⟨z, _, ys, rfl, rfl, .inr hl, Nat.le_trans h2.1 (by decide), k _ r2 _ H2 h2.2 o2 (k1.trans k2) (.str (sok_join hz e2 h2.1))⟩
    · exact h2.elim
end
/-! ### names -/
def isLet (c : Nat) : Bool := decide (97 ≤ c) && decide (c ≤ 122)
/-- 1 to 8 letters a to z -/
def isNm (z : Str) : Bool := decide (1 ≤ z.length) && decide (z.length ≤ 8) && (tl z).all isLet
theorem isNm_sok {z : Str} (h : isNm z = true) : sok z := by
  unfold isNm isLet at h
  simp only [Bool.and_eq_true, decide_eq_true_eq, List.all_eq_true] at h
  rw [sok_iff]
  refine ⟨fun c hc => ?_, ?_⟩
  · have := (h.2 c hc).2
    omega
  · have : z.length = (tl z).length := by unfold Str.length tl; simp
    omega
/-- a word is drawn -/
def spWord : SpX := fun ds r P _ => ∃ p a N X, ds = [.adr p] ∧ r = poolA p a N :: X ∧ N < 100000000000 ∧ ∀ z, isNm z = true → P (.str z) (poolA p a (N + 9) :: X)
/-- the pool is made of a script -/
def spPool (K : PySem.W.Frag) : Sp := fun vs H Q _ => ∃ (s : Addr) (ns : List Int), vs = [.ref s] ∧ SqL K H s (ns.map V.int) ∧ ns.length ≤ 63 ∧ ∀ p a H', Rok K [poolA p a 0] H' → Q (.ref p) H'
/-- a law: a list of at most 63 ints is handed in, True comes out -/
def spLaw (K : PySem.W.Frag) : Sp := fun vs H Q _ => ∃ (a : Addr) (ns : List Int), vs = [.ref a] ∧ SqL K H a (ns.map V.int) ∧ ns.length ≤ 63 ∧ ∀ H', Q (.bl true) H'
end G

namespace G
open PySem PySem.Spec L2
/-! ### small readings -/
theorem ix_s {z : Str} {i : Int} {c : Nat} {k : D → Prop} (h : atI (tl z) i = some c) (q : k (.str ⟨#[c]⟩)) : oIx (.str z) (.int i) k := by
  refine ⟨?_⟩
  show (match atI (tl z) i with | some c => k (.str ⟨#[c]⟩) | none => False)
  rw [h]
  exact q
theorem ix_l {z : List D} {i : Int} {c : D} {k : D → Prop} (h : atI z i = some c) (q : k c) : oIx (.lst z) (.int i) k := by
  refine ⟨?_⟩
  show (match atI z i with | some c => k c | none => False)
  rw [h]
  exact q
theorem ix_t {z : List D} {i : Int} {c : D} {k : D → Prop} (h : atI z i = some c) (q : k c) : oIx (.tup z) (.int i) k := by
  refine ⟨?_⟩
  show (match atI z i with | some c => k c | none => False)
  rw [h]
  exact q
theorem join_l {a : Str} {ds : List D} {ys : List Str} {k : D → Prop} (h : strL ds = some ys) (hz : (ys.map (·.length)).sum + ys.length * a.length ≤ 1000000) (q : k (.str (tJoin a ys))) : oJoin (.str a) (.lst ds) k := by
  refine ⟨?_⟩
  show (match strL ds with | some ys => (ys.map (·.length)).sum + ys.length * a.length ≤ 1000000 ∧ k (.str (tJoin a ys)) | none => False)
  rw [h]
  exact ⟨hz, q⟩
theorem join_t {a : Str} {ds : List D} {ys : List Str} {k : D → Prop} (h : strL ds = some ys) (hz : (ys.map (·.length)).sum + ys.length * a.length ≤ 1000000) (q : k (.str (tJoin a ys))) : oJoin (.str a) (.tup ds) k := by
  refine ⟨?_⟩
  show (match strL ds with | some ys => (ys.map (·.length)).sum + ys.length * a.length ≤ 1000000 ∧ k (.str (tJoin a ys)) | none => False)
  rw [h]
  exact ⟨hz, q⟩
def sg (c : Nat) : Str := ⟨#[c]⟩
theorem joinL_sg : ∀ cs : List Nat, TL.joinL [] (cs.map fun c => [c]) = cs
  | [] => rfl
  | [c] => rfl
  | c :: d :: r => by
    have ih := joinL_sg (d :: r)
    show [c] ++ ([] ++ TL.joinL [] ((d :: r).map fun c => [c])) = _
    rw [ih]
    rfl
theorem tl_signs (cs : List Nat) : tl (tJoin ⟨#[]⟩ (cs.map sg)) = cs := by
  rw [tl_tJoin, List.map_map]
  exact joinL_sg cs
theorem len_tl (z : Str) : z.length = (tl z).length := by unfold Str.length tl; simp
theorem sum_ones : ∀ cs : List Nat, ((cs.map sg).map (·.length)).sum = cs.length
  | [] => rfl
  | c :: cs => by
    rw [List.map_cons, List.map_cons, List.sum_cons, sum_ones cs, List.length_cons]
    show 1 + cs.length = _
    omega
theorem nm_signs {cs : List Nat} (h1 : 1 ≤ cs.length) (h8 : cs.length ≤ 8) (h : ∀ c ∈ cs, isLet c = true) : isNm (tJoin ⟨#[]⟩ (cs.map sg)) = true := by
  unfold isNm
  rw [len_tl, tl_signs]
  simp only [Bool.and_eq_true, decide_eq_true_eq, List.all_eq_true]
  exact ⟨⟨h1, h8⟩, h⟩
theorem strL_sg (cs : List Nat) : strL (cs.map fun c => D.str (sg c)) = some (cs.map sg) := by
  have h := strL_map (cs.map sg)
  rw [List.map_map] at h
  exact h
def abc : Str := "abcdefghijklmnopqrstuvwxyz"
theorem abc_all : ((List.range 26).all fun n => match atI (tl abc) ((n : Nat) : Int) with | some c => isLet c | none => false) = true := by decide +kernel
theorem abc_at {k : Int} (h0 : 0 ≤ k) (h1 : k < 26) : ∃ c, atI (tl abc) k = some c ∧ isLet c = true := by
  have h := List.all_eq_true.mp abc_all k.toNat (List.mem_range.mpr (by omega))
  rw [Int.toNat_of_nonneg h0] at h
  cases e : atI (tl abc) k with
  | none => rw [e] at h; cases h
  | some c => rw [e] at h; exact ⟨c, rfl, h⟩
/-! ### data alone -/
mutual
/-- no address in it, nothing long -/
def plain : D → Bool
  | .adr _ => false | .ins _ _ _ => false | .dct _ _ => false | .lst ds => decide (ds.length ≤ 1000000) && plains ds | .tup ds => decide (ds.length ≤ 1000000) && plains ds | _ => true
def plains : List D → Bool
  | [] => true
  | d :: ds => plain d && plains ds
end
mutual
/-- the same, True no 1 -/
def same : D → D → Bool
  | .non, .non => true
  | .bl a, .bl b => a == b
  | .int a, .int b => a == b
  | .str a, .str b => a == b
  | .lst a, .lst b => sames a b
  | .tup a, .tup b => sames a b
  | _, _ => false
def sames : List D → List D → Bool
  | [], [] => true
  | a :: as, b :: bs => same a b && sames as bs
  | _, _ => false
end
mutual
theorem same_refl : ∀ d : D, plain d = true → same d d = true
  | .non, _ => rfl
  | .bl b, _ => by simp [same]
  | .int b, _ => by simp [same]
  | .str b, _ => by simp [same]
  | .adr _, h => by cases h
  | .ins _ _ _, h => by cases h
  | .dct _ _, h => by cases h
  | .lst ds, h => by simp only [same]; exact sames_refl ds (by simp only [plain, Bool.and_eq_true] at h; exact h.2)
  | .tup ds, h => by simp only [same]; exact sames_refl ds (by simp only [plain, Bool.and_eq_true] at h; exact h.2)
theorem sames_refl : ∀ ds : List D, plains ds = true → sames ds ds = true
  | [], _ => rfl
  | d :: ds, h => by
    simp only [plains, Bool.and_eq_true] at h
    simp only [sames, same_refl d h.1, sames_refl ds h.2]
    rfl
end
theorem plain_tup {ds : List D} (h : plain (.tup ds) = true) : ds.length ≤ 1000000 ∧ plains ds = true := by
  simp only [plain, Bool.and_eq_true, decide_eq_true_eq] at h
  exact h
theorem plain_lst {ds : List D} (h : plain (.lst ds) = true) : ds.length ≤ 1000000 ∧ plains ds = true := by
  simp only [plain, Bool.and_eq_true, decide_eq_true_eq] at h
  exact h
theorem plain_of_tup {ds : List D} (h : ds.length ≤ 1000000) (g : plains ds = true) : plain (.tup ds) = true := by
  simp only [plain, Bool.and_eq_true, decide_eq_true_eq]
  exact ⟨h, g⟩
theorem plain_of_lst {ds : List D} (h : ds.length ≤ 1000000) (g : plains ds = true) : plain (.lst ds) = true := by
  simp only [plain, Bool.and_eq_true, decide_eq_true_eq]
  exact ⟨h, g⟩
theorem plains_mem : ∀ {ds : List D} {d : D}, plains ds = true → d ∈ ds → plain d = true
  | [], _, _, m => by cases m
  | a :: as, d, h, m => by
    simp only [plains, Bool.and_eq_true] at h
    rcases List.mem_cons.mp m with rfl | m
    · exact h.1
    · exact plains_mem h.2 m
theorem plains_of : ∀ {ds : List D}, (∀ d ∈ ds, plain d = true) → plains ds = true
  | [], _ => rfl
  | a :: as, h => by
    simp only [plains, Bool.and_eq_true]
    exact ⟨h a List.mem_cons_self, plains_of fun d m => h d (List.mem_cons_of_mem _ m)⟩
theorem sames_len : ∀ {a b : List D}, sames a b = true → a.length = b.length
  | [], [], _ => rfl
  | _ :: _, _ :: _, h => by
    simp only [sames, Bool.and_eq_true] at h
    rw [List.length_cons, List.length_cons, sames_len h.2]
  | [], _ :: _, h => by simp [sames] at h
  | _ :: _, [], h => by simp [sames] at h
mutual
theorem same_eq : ∀ a b : D, same a b = true → a = b
  | .non, b, h => by cases b <;> first | rfl | (simp [same] at h)
  | .bl x, b, h => by cases b <;> first | (simp [same] at h; rw [h]) | (simp [same] at h)
  | .int x, b, h => by cases b <;> first | (simp [same] at h; rw [h]) | (simp [same] at h)
  | .str x, b, h => by cases b <;> first | (simp [same] at h; rw [h]) | (simp [same] at h)
  | .adr x, b, h => by cases b <;> simp [same] at h
  | .ins _ _ _, b, h => by cases b <;> simp [same] at h
  | .dct _ _, b, h => by cases b <;> simp [same] at h
  | .lst xs, b, h => by cases b <;> first | (simp only [same] at h; rw [sames_eq xs _ h]) | (simp [same] at h)
  | .tup xs, b, h => by cases b <;> first | (simp only [same] at h; rw [sames_eq xs _ h]) | (simp [same] at h)
theorem sames_eq : ∀ a b : List D, sames a b = true → a = b
  | [], [], _ => rfl
  | x :: xs, y :: ys, h => by
    simp only [sames, Bool.and_eq_true] at h
    rw [same_eq x y h.1, sames_eq xs ys h.2]
  | [], _ :: _, h => by simp [sames] at h
  | _ :: _, [], h => by simp [sames] at h
end
theorem eqD_bl (a b : Bool) : eqD (.bl a) (.bl b) = (a == b) := by cases a <;> cases b <;> rfl
theorem eqD_int (a b : Int) : eqD (.int a) (.int b) = (a == b) := rfl
theorem eqD_str (a b : Str) : eqD (.str a) (.str b) = (a == b) := rfl
theorem oEq_bl {a b : Bool} {k : D → Prop} (h : k (.bl (a == b))) : oEq (.bl a) (.bl b) k := ⟨Nat.zero_le _, Nat.zero_le _, by rw [eqD_bl]; exact h⟩
theorem oNe_bl {a b : Bool} {k : D → Prop} (h : k (.bl (!(a == b)))) : oNe (.bl a) (.bl b) k := ⟨Nat.zero_le _, Nat.zero_le _, by rw [eqD_bl]; exact h⟩
theorem oEq_int {a b : Int} {k : D → Prop} (h : k (.bl (a == b))) : oEq (.int a) (.int b) k := ⟨Nat.zero_le _, Nat.zero_le _, by rw [eqD_int]; exact h⟩
theorem oNe_int {a b : Int} {k : D → Prop} (h : k (.bl (!(a == b)))) : oNe (.int a) (.int b) k := ⟨Nat.zero_le _, Nat.zero_le _, by rw [eqD_int]; exact h⟩
theorem oEq_str {a b : Str} {k : D → Prop} (h : k (.bl (a == b))) : oEq (.str a) (.str b) k := ⟨Nat.zero_le _, Nat.zero_le _, by rw [eqD_str]; exact h⟩
theorem oNe_str {a b : Str} {k : D → Prop} (h : k (.bl (!(a == b)))) : oNe (.str a) (.str b) k := ⟨Nat.zero_le _, Nat.zero_le _, by rw [eqD_str]; exact h⟩
theorem ne_len {m n : Nat} (h : m ≠ n) : (!eqD (.int m) (.int n)) = true := by
  rw [eqD_int]
  simp
  omega
theorem eq_len {m n : Nat} (h : m = n) : (!eqD (.int m) (.int n)) = false := by
  rw [eqD_int, h]
  simp
theorem sames_at : ∀ {xs ys : List D} {j : Nat} {x y : D}, sames xs ys = true → xs[j]? = some x → ys[j]? = some y → same x y = true
  | [], _, j, x, y, _, e, _ => by simp at e
  | _ :: _, [], j, x, y, h, _, _ => by simp [sames] at h
  | a :: as, b :: bs, 0, x, y, h, e, f => by
    simp only [sames, Bool.and_eq_true] at h
    simp at e f
    rw [← e, ← f]
    exact h.1
  | a :: as, b :: bs, j + 1, x, y, h, e, f => by
    simp only [sames, Bool.and_eq_true] at h
    exact sames_at (j := j) h.2 (by simpa using e) (by simpa using f)
theorem sames_of : ∀ {xs ys : List D}, xs.length = ys.length → (∀ (j : Nat) (x y : D), xs[j]? = some x → ys[j]? = some y → same x y = true) → sames xs ys = true
  | [], [], _, _ => rfl
  | [], _ :: _, h, _ => by cases h
  | _ :: _, [], h, _ => by cases h
  | a :: as, b :: bs, h, f => by
    simp only [sames, Bool.and_eq_true]
    exact ⟨f 0 a b rfl rfl, sames_of (by simpa using h) fun j x y e g => f (j + 1) x y (by simpa using e) (by simpa using g)⟩
theorem plains_at : ∀ {xs : List D} {j : Nat} {x : D}, plains xs = true → xs[j]? = some x → plain x = true
  | [], j, x, _, e => by simp at e
  | a :: as, 0, x, h, e => by
    simp only [plains, Bool.and_eq_true] at h
    simp at e
    rw [← e]
    exact h.1
  | a :: as, j + 1, x, h, e => by
    simp only [plains, Bool.and_eq_true] at h
    exact plains_at (j := j) h.2 (by simpa using e)
theorem deps_at : ∀ {xs : List D} {j : Nat} {x : D}, xs[j]? = some x → dep x ≤ deps xs
  | [], j, x, e => by simp at e
  | a :: as, 0, x, e => by
    simp at e
    rw [← e]
    simp only [deps]
    omega
  | a :: as, j + 1, x, e => by
    have := deps_at (xs := as) (j := j) (x := x) (by simpa using e)
    simp only [deps]
    omega
/-- the loop of _law_same -/
theorem same_sides {xs ys : List D} {j : Nat} {y : D} (hl : xs.length = ys.length) (e : ys[j]? = some y) : ∃ x, xs[j]? = some x := by
  have := (List.getElem?_eq_some_iff.mp e).1
  exact ⟨xs[j]'(by omega), by simp⟩
/-- _law_same: two data, depth below n -/
def spSame (n : Nat) : SpX := fun ds r P _ => ∃ a b, ds = [a, b] ∧ plain a = true ∧ plain b = true ∧ dep a ≤ 64 ∧ dep b < n ∧ P (.bl (same a b)) r
end G

namespace G
open PySem PySem.Spec L2
open PyProof.Rows (envOfC)
/-! ### written dicts -/
/-- the pairs of a written dict with text keys -/
def KdL (K : PySem.W.Frag) (P : Params) : List DictEntry → List (Str × D) → Prop
  | [], [] => True
  | e :: r, (x, d) :: t => (∃ tk, e.key = .str x tk ∧ e.hash = PyData.keyHash P x ∧ ∃ v, RelV v e.val ∧ ∀ M H, Is K M H v d) ∧ KdL K P r t
  | _, _ => False
theorem KdL.lit {K : PySem.W.Frag} {P : Params} : ∀ {es : List DictEntry} {tbl : List (Str × D)}, KdL K P es tbl → PySem.W.KeysLit P es
  | [], [], _ => trivial
  | e :: r, (x, d) :: t, ⟨⟨tk, h1, h2, _⟩, h⟩ => ⟨⟨x, tk, h1, h2⟩, h.lit⟩
  | [], _ :: _, h => h.elim
  | _ :: _, [], h => h.elim
theorem isStr_str (x z : Str) (t : Tok) : (Value.str x t).isStr z = (x == z) := by
  rw [PySem.W.isStr_of]
  rfl
theorem KdL.find {K : PySem.W.Frag} {P : Params} (z : Str) : ∀ {es : List DictEntry} {tbl : List (Str × D)}, KdL K P es tbl → match tbl.lookup z with
    | some d => ∃ e v, es.find? (·.key.isStr z) = some e ∧ RelV v e.val ∧ ∀ M H, Is K M H v d
    | none => es.find? (·.key.isStr z) = none ∧ es.any (·.refKey) = false
  | [], [], _ => ⟨rfl, rfl⟩
  | [], _ :: _, h => h.elim
  | _ :: _, [], h => h.elim
  | e :: r, (x, d) :: t, ⟨⟨tk, h1, h2, v, h3, h4⟩, h⟩ => by
    have ih := KdL.find z h
    rw [List.lookup_cons, List.find?_cons, h1, isStr_str]
    by_cases hz : x = z
    · subst hz
      have e1 : (x == x) = true := by simp
      rw [e1]
      exact ⟨e, v, rfl, h3, h4⟩
    · have e1 : (x == z) = false := by simpa using hz
      have e2 : (z == x) = false := by simpa using fun q => hz q.symm
      rw [e1, e2]
      dsimp only
      have e3 : e.refKey = false := by unfold DictEntry.refKey; rw [h1]
      cases q : t.lookup z with
      | some d0 => rw [q] at ih; exact ih
      | none =>
        rw [q] at ih
        refine ⟨ih.1, ?_⟩
        rw [List.any_cons, e3, ih.2]
        rfl
theorem kd_of {K : PySem.W.Frag} {w : World} {d : Addr} {es : Array DictEntry} {n : Nat} {tbl : List (Str × D)} (hl : K.lookup d = some ⟨.type "dict", none, .dict es n, #[]⟩) (low : (d == sysModules) = false) (ht : KdL K w.params es.toList tbl) : KD K w d tbl := by
  refine ⟨⟨es, n, hl, ht.lit⟩, low, fun z => ?_⟩
  have h := ht.find z
  unfold PySem.W.nsIn
  rw [hl]
  dsimp only
  cases q : tbl.lookup z with
  | some d0 =>
    rw [q] at h
    obtain ⟨e, v, h1, h2, h3⟩ := h
    rw [h1]
    exact ⟨e.val, v, rfl, h2, h3⟩
  | none =>
    rw [q] at h
    show (match es.toList.find? _ with | some e => _ | none => _) = _
    rw [h.1]
    dsimp only
    rw [h.2]
    rfl
/-! ### a law's first row -/
theorem law_go {K : PySem.W.Frag} {W : WX} {t : AS} {N : List Str} {Dd : Ends} {s p a : Addr} {H' : Hp} (ro : Rok K [poolA p a 0] H') (hD : ∀ H', Dd.rt (.bl true) H')
    (h : t { nx := fun _ _ => False, rt := fun d _ => d = .bl true } (none :: some (.adr p) :: List.replicate (N.length - 2) none) [poolA p a 0]) (hN : 2 ≤ N.length := by decide) : TSD K W t Dd ((L2.start N [.ref s]).set 1 (some (.ref p))) H' := by
  refine ⟨_, _, { nx := fun _ _ => False, rt := fun d _ => d = .bl true }, ⟨⟨fun i d e => ?_, ro, ?_⟩, fun _ _ _ _ _ _ _ _ z => z.elim⟩, h, ⟨fun _ _ _ _ z => z.elim, fun d r' v H2 e _ _ i => ?_, fun _ _ _ _ z => z.elim, fun _ _ _ _ z => z.elim⟩⟩
  · match i with
    | 0 => cases e
    | 1 =>
      cases e
      refine ⟨.ref p, ?_, .adr p⟩
      rw [List.getElem?_set_self]
      unfold L2.start
      simp
      omega
    | i + 2 =>
      have e : (List.replicate (N.length - 2) (none : Option D))[i]? = some (some d) := e
      rw [List.getElem?_replicate] at e
      split at e <;> cases e
  · unfold L2.start
    simp
    omega
  · subst e
    cases i
    exact hD _
/-! ### the top's facts -/
theorem dfn_mk {K : PySem.W.Frag} {h : Heap} {mg : Str → Option Value} (X : K.In h) (G : h.Ns mainGlobals mg) {x : Str} {st : Stmt} {ps : List Str} {f : Addr} {oc : Value} {od an : Option Addr} {osl : Array (Option Value)} {kV doc pm cdv ct : Value}
    (a : PySem.W.nsIn K mainGlobals x = some (some (.ref f))) (l : K.lookup f = some ⟨oc, od, .func (PySem.W.fnOf x x (defArgs st) (defBody st) (defScope st) .none kV doc pm an cdv ct), osl⟩) (c : PySem.W.codeIn K cdv x = true) (k : PySem.W.keepIn K (.ref f) = true)
    (b : ∀ (kV doc pm : Value) (an : Option Addr) (cdv ct : Value) (us : List Value), us.length = ps.length → bindArgs (PySem.W.fnOf x x (defArgs st) (defBody st) (defScope st) .none kV doc pm an cdv ct) ⟨us, []⟩ = pure (ps.zip us)) : Dfn K mg x st ps :=
  have F := fun_mk (st := st) l c k
  ⟨f, _, F, PySem.W.mg_of X G a, F.binds b⟩
theorem law_end {P : Program} {w : World} {K : PySem.W.Frag} {h : Heap} {mg : Str → Option Value} (X : K.In h) (G : h.Ns mainGlobals mg) {fa f : Addr} {st : Stmt} {n : Nat} (hfa : mg "law" = some (.ref fa)) {oc : Value} {od an : Option Addr} {osl : Array (Option Value)} {kV doc pm cdv ct : Value}
    (a : PySem.W.nsIn K mainGlobals "law" = some (some (.ref f))) (l : K.lookup f = some ⟨oc, od, .func (PySem.W.fnOf "law" "law" (defArgs st) (defBody st) (defScope st) .none kV doc pm an cdv ct), osl⟩) (c : PySem.W.codeIn K cdv "law" = true) (k : PySem.W.keepIn K (.ref f) = true)
    (b : ∀ v : Value, bindArgs (PySem.W.fnOf "law" "law" (defArgs st) (defBody st) (defScope st) .none kV doc pm an cdv ct) ⟨[v], []⟩ = pure [(("_law_script" : Str), v)])
    (ok : ∀ (base : Heap) (fd : FuncData), Fun K "law" "law" st f fd → FnOk P w K mg base CX0 n f fd ["_law_script"] (spLaw K)) :
    ∃ fd : FuncData, (∀ (s : Shared) (v : Value), BindsTo s fd ⟨[v], []⟩ [("_law_script", v)]) ∧ ∀ base : Heap, K.In base → base.Ns mainGlobals mg → FnOk P w K mg base CX0 n fa fd ["_law_script"] (spLaw K) := by
  have e := hfa.symm.trans (PySem.W.mg_of X G a)
  cases e
  exact ⟨_, fun s v => .of_eq (b v), fun base _ _ => ok base _ (fun_mk (st := st) l c k)⟩
/-! ### small -/
theorem at0 {α : Type} {z : α} {l : List α} : atI (z :: l) 0 = some z := L2.atI_nat (j := 0) rfl
theorem at1 {α : Type} {z y : α} {l : List α} : atI (z :: y :: l) 1 = some y := L2.atI_nat (j := 1) rfl
theorem at2 {α : Type} {z y x : α} {l : List α} : atI (z :: y :: x :: l) 2 = some x := L2.atI_nat (j := 2) rfl
theorem cut_mem {α : Type} {x : α} {xs : List α} {lo hi : Nat} (h : x ∈ (xs.drop lo).take hi) : x ∈ xs := List.mem_of_mem_drop (List.mem_of_mem_take h)
theorem cutD_mem {x : D} {xs : List D} {lo hi : Option Int} (h : x ∈ cutD xs lo hi) : x ∈ xs := cut_mem h
theorem cutD_len {xs : List D} {lo hi : Option Int} : (cutD xs lo hi).length ≤ xs.length := by
  unfold cutD
  rw [List.length_take, List.length_drop]
  omega
theorem sl_t {xs : List D} {lo hi : Option Int} {k : D → Prop} (h : k (.tup (cutD xs lo hi))) : oSl (.tup xs) lo hi k := ⟨h⟩
theorem sl_l {xs : List D} {lo hi : Option Int} {k : D → Prop} (h : k (.lst (cutD xs lo hi))) : oSl (.lst xs) lo hi k := ⟨h⟩
theorem sl_s {z : Str} {lo hi : Option Int} {k : D → Prop} (h : k (.str (cutS z lo hi))) : oSl (.str z) lo hi k := ⟨h⟩
theorem cutD_from (n : Nat) (xs : List D) : cutD xs (some (n : Int)) none = xs.drop n := by
  unfold cutD
  have e : HT.sIx xs.length 0 (some (n : Int)) = min n xs.length := HT.sIx_nat xs.length 0 n
  rw [e, HT.sIx_none]
  rcases Nat.le_total n xs.length with h | h
  · rw [Nat.min_eq_left h]
    exact List.take_of_length_le (by rw [List.length_drop]; exact Nat.le_refl _)
  · rw [Nat.min_eq_right h, List.drop_eq_nil_of_le h, List.drop_eq_nil_of_le (Nat.le_refl _)]
    exact List.take_nil
theorem oSl_n (n : Nat) {vs : List D} {k : D → Prop} (h : k (.tup (vs.drop n))) : oSl (.tup vs) (some (n : Int)) none k := sl_t (by rw [cutD_from]; exact h)
theorem oSl_1 {v : D} {vs : List D} {k : D → Prop} (h : k (.tup vs)) : oSl (.tup (v :: vs)) (some 1) none k := oSl_n 1 h
theorem eqv_str (a : Str) : PyData.eqv (.str a) (.str a) = true := by
  show (a == a) = true
  simp
end G

namespace G
open PySem PySem.Spec L2
open PyProof.Rows (envOfC)
/-! ### match of a text against texts -/
structure PMt (X : Cx) (p : Pattern) (f : Str → Bool) : Prop where
  run : ∀ (pins : List (Addr × Obj)) (s : Shared) (σ : L2.St) (H : Hp) (z : Str) (t : Tok) (Q : Option (List (Str × Value)) → Shared → Prop), Inv X pins σ H s → sok z →
    (∀ s', Inv X pins σ H s' → Q (cond (f z) (some []) none) s') → wpAny (model X.prog X.w) X.A (matchPattern p X.env (.str z t)) Q X.xe s
structure PMf (X : Cx) (ps : List Pattern) (f : Str → Bool) : Prop where
  run : ∀ (pins : List (Addr × Obj)) (s : Shared) (σ : L2.St) (H : Hp) (z : Str) (t : Tok) (Q : Option (List (Str × Value)) → Shared → Prop), Inv X pins σ H s → sok z →
    (∀ s', Inv X pins σ H s' → Q (cond (f z) (some []) none) s') → wpAny (model X.prog X.w) X.A (matchFirst ps X.env (.str z t)) Q X.xe s
section
variable {X : Cx} {W : WX}
theorem pm_v {c : Str} {j : Nat} {p1 pos : Pos} (hu : X.A.units + 64 < cLine) (h : sokB c = true := by decide +kernel) : PMt X (.MatchValue (.Constant (.str c) j p1) pos) (fun z => z == c) := by
  refine ⟨fun pins s σ H z t Q I hz k => wpAny_matchPattern_Value ?_⟩
  refine thn ((pe_str (X := X) (x := c) (j := j) (pos := p1)).run pins s σ H (fun v H' => v = .str c ∧ H' = H) I ⟨rfl, rfl⟩) fun x s1 ⟨v, H1, I1, r1, e1, e2⟩ => ?_
  subst e1
  subst e2
  have i1 : Is X.K (fun _ => False) H1 (.str z) (.str z) := .str hz
  have i2 : Is X.K (fun _ => False) H1 (.str c) (.str c) := .str (sok_of h)
  obtain ⟨a1, b1⟩ := shaped_py i1 (Nat.zero_le _)
  obtain ⟨a2, b2⟩ := shaped_py i2 (Nat.zero_le _)
  refine thn (op_eqD hu pins s1 σ H1 (.str z) (.str c) (.str z t) x (fun v H' => v = .bl (z == c) ∧ H' = H1) I1 ⟨t, rfl⟩ r1 ⟨_, _, a1, a2, b1, b2, rfl, rfl⟩) fun cc s2 ⟨v, H2, I2, r2, e1, e2⟩ => ?_
  subst e1
  subst e2
  cases r2
  refine wpAny_truthy_bool ?_
  have := k s2 I2
  cases q : (z == c) <;> rw [q] at this <;> exact this
theorem pm_any {pos : Pos} : PMt X (.MatchAs none none pos) (fun _ => true) := ⟨fun pins s σ H z t Q I hz k => wpAny_matchPattern_Capture (k s I)⟩
theorem pf_nil : PMf X [] (fun _ => false) := ⟨fun pins s σ H z t Q I hz k => wpAny_matchFirst_nil (k s I)⟩
theorem pf_cons {p : Pattern} {ps : List Pattern} {f g : Str → Bool} (h : PMt X p f) (h2 : PMf X ps g) : PMf X (p :: ps) (fun z => f z || g z) := by
  refine ⟨fun pins s σ H z t Q I hz k => wpAny_matchFirst_cons (h.run pins s σ H z t _ I hz fun s1 I1 => ?_)⟩
  cases q : f z with
  | true =>
    have := fun s' I' => k s' I'
    simp only [q, Bool.true_or, cond_true] at this
    exact this s1 I1
  | false =>
    refine h2.run pins s1 σ H z t Q I1 hz fun s2 I2 => ?_
    have := k s2 I2
    rw [q, Bool.false_or] at this
    exact this
theorem pm_or {ps : List Pattern} {pos : Pos} {f : Str → Bool} (h : PMf X ps f) : PMt X (.MatchOr ps pos) f := by
  refine ⟨fun pins s σ H z t Q I hz k => wpAny_matchPattern_Or (h.run pins s σ H z t _ I hz fun s1 I1 => ?_)⟩
  have := k s1 I1
  cases q : f z with
  | true =>
    rw [q] at this
    have e : ((namesOfAll (ps.take 1)).filterMap fun n => (([] : List (Str × Value)).lookup n).map (n, ·)) = [] := by
      induction namesOfAll (ps.take 1) with
      | nil => rfl
      | cons a l ih => exact ih
    show Q (some ((namesOfAll (ps.take 1)).filterMap fun n => (([] : List (Str × Value)).lookup n).map (n, ·))) s1
    rw [e]
    exact this
  | false =>
    rw [q] at this
    exact this
/-- the cases at a text -/
def PCs (X : Cx) (W : WX) (cs : List MatchCase) (t : Str → AS) : Prop := ∀ (first : Bool) (pins : List (Addr × Obj)) (s : Shared) (σ : L2.St) (H : Hp) (D : Ends) (z : Str) (tk : Tok), Inv X pins σ H s → sok z → TSD X.K W (t z) D σ H →
  wpAny (model X.prog X.w) X.A (matchCases cs X.env (.str z tk) first) (SP X pins D) X.xe s
def sMc (f : Str → Bool) (u : AS) (v : Str → AS) : Str → AS := fun z A δ r => (f z = true → u A δ r) ∧ (f z = false → v z A δ r)
theorem pc_nil : PCs X W [] (fun _ => sNext) := fun first pins s σ H D z tk I hz ⟨δ, r, A, o, h, f⟩ => wpAny_matchCases_nil ⟨σ, H, I, f.nx _ _ _ _ h o Kp.refl⟩
theorem pc_cons {p : Pattern} {body : List Stmt} {cs : List MatchCase} {f : Str → Bool} {u : AS} {v : Str → AS} (h : PMt X p f) (hb : PBD X W body u) (hc : PCs X W cs v) : PCs X W (⟨p, none, body⟩ :: cs) (sMc f u v) :=
  fun first pins s σ H D z tk I hz ⟨δ, r, A, o, q, fi⟩ => wpAny_matchCases_cons (h.run pins s σ H z tk _ I hz fun s1 I1 => by
    cases e : f z with
    | true => exact wpAny_assignInOrder_none (hb.run pins s1 σ H D I1 ⟨δ, r, A, o, q.1 e, fi⟩)
    | false => exact hc false pins s1 σ H D z tk I1 hz ⟨δ, r, A, o, q.2 e, fi⟩)
def sMatch (te : AT) (t : Str → AS) : AS := fun A δ r => te A.xr δ r fun d r1 => match d with | .str z => t z A δ r1 | _ => False
theorem s_match {e : Expr} {cs : List MatchCase} {pos : Pos} {te : AT} {t : Str → AS} (he : PD X W e te) (hc : PCs X W cs t) : PSD X W (.Match e cs pos) (sMatch te t) := by
  refine ⟨fun pins s σ H D I ⟨δ, r, A, o, h, f⟩ => wpAny_Match ?_⟩
  refine thn (he.run pins s σ H (fun v H1 => ∃ z, v = .str z ∧ sok z ∧ TSD X.K W (t z) D σ H1) I (td_bind o h fun d r1 v H1 h1 o1 k1 i1 => ?_)) fun u s1 ⟨v, H1, I1, r1, z, e1, hz, q⟩ => ?_
  · cases i1 <;> try exact h1.elim
    rename_i z hz
    exact ⟨z, rfl, hz, δ, r1, A, o1, h1, f.step k1⟩
  · subst e1
    obtain ⟨tk, rfl⟩ := r1
    exact hc true pins s1 σ H1 D z tk I1 hz q
/-! ### zip of two lists, of two tuples -/
def zipD (xs ys : List D) : List D := (xs.zip ys).map fun e => .tup [e.1, e.2]
def iZp (l : AL) : AI := fun x δ r P => l x δ r fun ds r1 => match ds with
  | [.lst xs, .lst ys] => xs.length = ys.length ∧ P (zipD xs ys) r1
  | [.tup xs, .tup ys] => xs.length = ys.length ∧ P (zipD xs ys) r1
  | _ => False
theorem zipD_at {xs ys : List D} {i : Nat} {x y : D} (h1 : xs[i]? = some x) (h2 : ys[i]? = some y) : (zipD xs ys)[i]? = some (.tup [x, y]) := by
  unfold zipD
  rw [List.getElem?_map]
  have : (xs.zip ys)[i]? = some (x, y) := by
    rw [List.getElem?_zip_eq_some]
    exact ⟨h1, h2⟩
  rw [this]
  rfl
theorem zipD_len {xs ys : List D} (h : xs.length = ys.length) : (zipD xs ys).length = xs.length := by
  unfold zipD
  rw [List.length_map, List.length_zip, h, Nat.min_self]
theorem walks_zT {K : PySem.W.Frag} {r : Rs} {H : Hp} {a b : Addr} {ds es : List D} (hl : ds.length = es.length) (h : Is K (mem r) H (.ref a) (.tup ds)) (g : Is K (mem r) H (.ref b) (.tup es)) : Walks K (RZ.ItzT K a b) (zipD ds es) r H := by
  intro i r1 H1 k _
  cases k _ _ h with
  | tup s al =>
    cases k _ _ g with
    | tup s2 al2 =>
      rename_i xs ys
      refine ⟨fun hi => ?_, fun hi => ⟨xs, ys, s, s2, .inl (by rw [al.length, hi, zipD_len hl] <;> exact Nat.le_refl _)⟩⟩
      rw [zipD_len hl] at hi
      refine ⟨⟨xs, ys, xs[i]'(by rw [al.length]; exact hi), ys[i]'(by rw [al2.length, ← hl]; exact hi), s, s2, by simp, by simp⟩, ?_⟩
      rintro x H2 ⟨T, x1, y1, rfl, hT, rfl, hx, hy⟩
      obtain ⟨d1, h1, j1⟩ := al.get (hx xs s)
      obtain ⟨d2, h2, j2⟩ := al2.get (hy ys s2)
      exact ⟨Ext.new hT, .tup [d1, d2], zipD_at h1 h2, new_tup hT (.cons j1 (.cons j2 .nil))⟩
theorem walks_zL {K : PySem.W.Frag} {r : Rs} {H : Hp} {a b : Addr} {ds es : List D} (hl : ds.length = es.length) (h : Is K (mem r) H (.ref a) (.lst ds)) (g : Is K (mem r) H (.ref b) (.lst es)) : Walks K (Itz K a b) (zipD ds es) r H := by
  intro i r1 H1 k _
  cases k _ _ h with
  | lst n s al =>
    cases k _ _ g with
    | lst n2 s2 al2 =>
      rename_i xs ys
      refine ⟨fun hi => ?_, fun hi => ⟨xs, ys, SqL.of s, SqL.of s2, .inl (by rw [al.length, hi, zipD_len hl] <;> exact Nat.le_refl _)⟩⟩
      rw [zipD_len hl] at hi
      refine ⟨⟨xs, ys, xs[i]'(by rw [al.length]; exact hi), ys[i]'(by rw [al2.length, ← hl]; exact hi), SqL.of s, SqL.of s2, by simp, by simp⟩, ?_⟩
      rintro x H2 ⟨T, x1, y1, rfl, hT, rfl, hx, hy⟩
      obtain ⟨d1, h1, j1⟩ := al.get (hx xs (SqL.of s))
      obtain ⟨d2, h2, j2⟩ := al2.get (hy ys (SqL.of s2))
      exact ⟨Ext.new hT, .tup [d1, d2], zipD_at h1 h2, new_tup hT (.cons j1 (.cons j2 .nil))⟩
theorem i_zip {e e2 : Expr} {elts : List Expr} {kk : Nat} {p pos tpos : Pos} {l : AL} (hg : Gl X "zip") (hm : X.mg "zip" = none) (ha : PDL X W [e, e2] l)
    (hs : starEach [e, e2] X.env = (false, eval e X.env) :: starEach [e2] X.env := by rfl) (hpl : (backTo pos (starEach [e2] X.env)).any (·.1) = false := by rfl) : PDI X W (.Tuple elts kk tpos) (.Call (.Name "zip" p) [e, e2] [] pos) (iZp l) :=
  imI (RZ.pi_zipA hg hm ha hs hpl) fun σ H Q ⟨XR, δ, r, P, o, q, k⟩ => tdl_bind o q fun ds r1 vs H1 h1 o1 k1 i1 => by
    match ds, h1, i1 with
    | [.lst xs, .lst ys], h1, .cons (.lst n s al) (.cons (.lst n2 s2 al2) .nil) => exact ⟨_, _, _, _, rfl, .inl ⟨SqL.of s, SqL.of s2, k _ _ _ _ h1.2 o1 k1 (walks_zL h1.1 (.lst n s al) (.lst n2 s2 al2))⟩⟩
    | [.tup xs, .tup ys], h1, .cons (.tup s al) (.cons (.tup s2 al2) .nil) => exact ⟨_, _, _, _, rfl, .inr ⟨s, s2, k _ _ _ _ h1.2 o1 k1 (walks_zT h1.1 (.tup s al) (.tup s2 al2))⟩⟩
/-! ### written dicts: d[k], d.get(k) -/
variable {dk : Addr} {tbl : List (Str × D)}
def oKix (d : Addr) (tbl : List (Str × D)) : O2 := fun x y k => x = .adr d ∧ match y with | .str z => (match tbl.lookup z with | some v => k v | none => False) | _ => False
theorem p_kix (T : KD X.K X.w dk tbl) : IxR X (rD X.K (oKix dk tbl)) := by
  rintro value slice pins s σ H x y v u Q I rx ry ⟨r, d1, d2, P, hr, i1, i2, ho, k⟩ hs
  obtain ⟨rfl, ho⟩ := ho
  cases i2 <;> try exact ho.elim
  rename_i z hz
  cases i1
  obtain ⟨es, n, hl, hk⟩ := T.at_
  have g := T.get z
  cases e : tbl.lookup z with
  | none => simp only [e] at ho
  | some d0 =>
    simp only [e] at ho g
    obtain ⟨u0, v0, h1, h2, h3⟩ := g
    exact ix_kdict value slice pins s σ H _ _ v u Q I rx ry ⟨dk, z, v0, rfl, rfl, ⟨es, n, u0, hl, hk, h1, h2⟩, k d0 v0 H ho (Ext.refl H) (h3 _ _)⟩ hs
theorem d_kix {a b : Expr} {ta tb : AT} {pos : Pos} (T : KD X.K X.w dk tbl) (ha : PD X W a ta) (hb : PD X W b tb) (hs : PlainIx b := by exact fun _ _ => rfl) : PD X W (.Subscript a b pos) (aOp (oKix dk tbl) ta tb) := imE (pe_ix (p_kix T) ha hb hs) fun _ _ _ q => td_op q
def aKGet1 (tbl : List (Str × D)) (te : AT) : AT := fun x δ r P => te x δ r fun k r1 => match k with | .str z => P ((tbl.lookup z).getD .non) r1 | _ => False
theorem d_kget1 {x : Str} {p apos cpos : Pos} {e : Expr} {te : AT} (T : KD X.K X.w dk tbl) (hm : X.mg x = some (.ref dk)) (he : PD X W e te) (m : M1 X (.Name x p) "get" apos e cpos) (hg : Gl X x := by rfl) (hdb : (x == ("__debug__" : Str)) = false := by decide) :
    PD X W (.Call (.Attribute (.Name x p) "get" apos) [e] [] cpos) (aKGet1 tbl te) := by
  refine ⟨fun pins s σ H Q I h => ?_⟩
  obtain ⟨XR, δ, r, P, o, h, k⟩ := h
  refine wpAny_Call_method m.base m.few m.line PySem.F.plainAttrs_dict PySem.F.slot_dict_get PySem.F.type_dict_get (ld_glob I hg hm ?_ hdb)
  obtain ⟨t1, t2⟩ := kd_type' T I
  refine ⟨t1, t2, ?_⟩
  rw [m.trees]
  refine Calls.callWith_builtin rfl (Calls.evalArgs_plain (Calls.spliced_cons (thn (he.run pins s σ H (fun v H3 => ∃ (w0 : V) (zz : Str), v = .str zz ∧ (∃ w1, RelV w0 w1 ∧ w1 = (match PySem.W.nsIn X.K dk zz with | some (some u0) => u0 | _ => Value.none)) ∧ Q w0 H3) I (td_bind o h fun kd r1 v H1 h1 o1 k1 i1 => ?_)) fun iv s2 ⟨y, H3, I3, ry, ⟨w0, zz, ey, hw, q3⟩⟩ => Calls.spliced_nil ?_)))
  · cases i1 <;> try exact h1.elim
    rename_i zz hz
    have h2 : P ((tbl.lookup zz).getD .non) r1 := h1
    have g := T.get zz
    split at g
    · rename_i dd e
      obtain ⟨u0, v0, g1, g2, g3⟩ := g
      rw [e] at h2
      exact ⟨v0, zz, rfl, ⟨u0, g2, by rw [g1]⟩, k dd r1 v0 H1 h2 o1 k1 (g3 _ _)⟩
    · rename_i e
      rw [e] at h2
      exact ⟨.non, zz, rfl, ⟨Value.none, rfl, by rw [g]⟩, k .non r1 .non H1 h2 o1 k1 .non⟩
  · subst ey
    obtain ⟨t, rfl⟩ := ry
    obtain ⟨fm, hmap, hfm⟩ := kd_find (P := X.prog) T I3.kIn
    obtain ⟨w1, hw1, ew⟩ := hw
    refine call_meetsIn PySem.F.slot_dict_get hmap.typeIs PySem.F.entry_dict_get (PySem.F.args_dict_get_2 _ _) (meets_dict_get (strKind X.prog X.w) dk (PySem.strKind_is X.prog X.w zz t) T.low) ⟨_, hmap, ⟨w0, H3, I3.tok _, ?_, q3⟩⟩
    have : w1 = (fm zz).getD Value.none := by
      rw [ew, hfm zz]
      cases fm zz <;> rfl
    rw [← this]
    exact hw1
/-- a text of the module -/
theorem d_tuS {x : Str} {a : Addr} {xs : List Str} {vs : List V} {pos : Pos} (hm : X.mg x = some (.ref a)) (ht : ∀ M H, Is X.K M H (.ref a) (.tup (xs.map .str))) (hg : Gl X x := by rfl) (hdb : (x == ("__debug__" : Str)) = false := by decide) : PD X W (.Name x pos) (aC (.tup (xs.map .str))) := d_glob (v := .ref a) hg hm rfl ht hdb
end
end G
namespace G
open PySem PySem.Spec L2
/-! ### constants of the module -/
def GS (mg : Str → Option Value) (x z : Str) : Prop := ∃ t, mg x = some (.str z t)
def GI (mg : Str → Option Value) (x : Str) (n : Int) : Prop := ∃ t, mg x = some (.int n t)
def GT (K : PySem.W.Frag) (mg : Str → Option Value) (x : Str) (xs : List Str) : Prop := ∃ a, mg x = some (.ref a) ∧ ∀ M H, Is K M H (.ref a) (.tup (xs.map .str))
def GD (K : PySem.W.Frag) (w : World) (mg : Str → Option Value) (x : Str) (tbl : List (Str × D)) : Prop := ∃ d, mg x = some (.ref d) ∧ KD K w d tbl
section
variable {X : Cx} {W : WX} {x : Str} {pos : Pos}
theorem d_gS {z : Str} (h : GS X.mg x z) (hz : sokB z = true := by decide +kernel) (hg : Gl X x := by rfl) (hdb : (x == ("__debug__" : Str)) = false := by decide) : PD X W (.Name x pos) (aC (.str z)) := by
  obtain ⟨t, h⟩ := h
  exact d_glob (v := .str z) hg h ⟨t, rfl⟩ (fun _ _ => .str (sok_of hz)) hdb
theorem d_gI {n : Int} (h : GI X.mg x n) (hg : Gl X x := by rfl) (hdb : (x == ("__debug__" : Str)) = false := by decide) : PD X W (.Name x pos) (aC (.int n)) := by
  obtain ⟨t, h⟩ := h
  exact d_glob (v := .int n) hg h ⟨t, rfl⟩ (fun _ _ => .int n) hdb
theorem d_gT {xs : List Str} (h : GT X.K X.mg x xs) (hg : Gl X x := by rfl) (hdb : (x == ("__debug__" : Str)) = false := by decide) : PD X W (.Name x pos) (aC (.tup (xs.map .str))) := by
  obtain ⟨a, h, i⟩ := h
  exact d_glob (v := .ref a) hg h rfl i hdb
end
/-- the texts of a written tuple -/
def strVs : List Value → Option (List Str)
  | [] => some []
  | .str x _ :: r => (strVs r).map (x :: ·)
  | _ :: _ => none
theorem strVs_vals : ∀ {l : List Value} {xs : List Str}, strVs l = some xs → Vals (xs.map V.str) l
  | [], _, e => by cases e; exact .nil
  | .str x t :: r, xs, e => by
    simp only [strVs] at e
    cases q : strVs r with
    | none => rw [q] at e; cases e
    | some ys =>
      rw [q] at e
      cases e
      exact .cons ⟨t, rfl⟩ (strVs_vals q)
theorem all_strs {K : PySem.W.Frag} {M : Addr → Prop} {H : Hp} : ∀ {xs : List Str}, xs.all sokB = true → IsAll K M H (xs.map V.str) (xs.map D.str)
  | [], _ => .nil
  | x :: xs, h => by
    rw [List.all_cons, Bool.and_eq_true] at h
    exact .cons (.str (sok_of h.1)) (all_strs h.2)
theorem isK_tup {K : PySem.W.Frag} {a : Addr} {od : Option Addr} {its : Array Value} {n : Nat} {sl : Array (Option Value)} {xs : List Str} (hl : K.lookup a = some ⟨.type "tuple", od, .seq its n, sl⟩) (h : strVs its.toList = some xs) (hs : xs.all sokB = true) (hn : xs.length ≤ 1000000) (M : Addr → Prop) (H : Hp) : Is K M H (.ref a) (.tup (xs.map .str)) := by
  have v := strVs_vals h
  refine .tup (xs := xs.map V.str) (.inr ⟨_, its, n, hl, rfl, rfl, ?_, v⟩) (all_strs hs)
  have e := v.length
  rw [List.length_map] at e
  have e2 : its.size = xs.length := by rw [← Array.length_toList]; exact e.symm
  rw [e2, sizeLine_eq]
  omega
theorem u65 {k : Nat} {A : Around} (r : Room k A) : A.units + 65 < cLine := by have := r.un; omega
/-! ### readings made short -/
theorem memD_str (z : Str) (xs : List Str) : memD (.str z) (xs.map .str) = xs.any fun y => y == z := by
  unfold memD
  rw [List.any_map]
  congr 1
theorem flat_strs (xs : List Str) : (xs.map D.str).all flat = true := by
  rw [List.all_map, List.all_eq_true]
  exact fun _ _ => rfl
theorem oIn_t {z : Str} {xs : List Str} {k : D → Prop} (h : k (.bl (xs.any fun y => y == z))) : oIn false (.str z) (.tup (xs.map .str)) k := ⟨⟨rfl, flat_strs xs, by rw [cond_false, memD_str]; exact h⟩⟩
theorem oNi_t {z : Str} {xs : List Str} {k : D → Prop} (h : k (.bl (!(xs.any fun y => y == z)))) : oIn true (.str z) (.tup (xs.map .str)) k := ⟨⟨rfl, flat_strs xs, by rw [cond_true, memD_str]; exact h⟩⟩
theorem oAll_of {f : List Bool → Bool} {xs : List D} {bs : List Bool} {k : D → Prop} (h : bls xs = some bs) (q : k (.bl (f bs))) : oAll f [.lst xs] k := by
  refine ⟨?_⟩
  show (match bls xs with | some bs => k (.bl (f bs)) | none => False)
  rw [h]
  exact q
theorem bls_of {α : Type} (f : α → Bool) (xs : List α) : bls (xs.map fun x => D.bl (f x)) = some (xs.map f) := by
  have := bls_map (xs.map f)
  rw [List.map_map] at this
  exact this
theorem abc_in : ((List.range 123).all fun c => isLet c == decide (c ∈ tl abc)) = true := by decide +kernel
theorem abc_max : ((tl abc).all fun c => decide (c < 123)) = true := by decide +kernel
theorem isLet_abc (c : Nat) : decide (c ∈ tl abc) = isLet c := by
  by_cases h : c < 123
  · exact (eq_of_beq (List.all_eq_true.mp abc_in c (List.mem_range.mpr h))).symm
  · have h1 : c ∉ tl abc := fun m => h (of_decide_eq_true (List.all_eq_true.mp abc_max c m))
    rw [decide_eq_false h1]
    unfold isLet
    have : ¬ c ≤ 122 := by omega
    simp [this]
def isNameD : D → Bool | .str z => isNm z | _ => false
def spIsName : SpX := fun ds r P _ => ∃ d, ds = [d] ∧ plain d = true ∧ P (.bl (isNameD d)) r
end G

namespace G
open PySem PySem.Spec L2
open PyProof.Rows (envOfC)
/-! ### lists of our own, at any place of the assertion -/
def Own (r : Rs) (l : Addr) (ds : List D) : Prop := ∃ pre post, r = pre ++ lstA l ds :: post
theorem Own.hd {r : Rs} {l : Addr} {ds : List D} : Own (lstA l ds :: r) l ds := ⟨[], r, rfl⟩
theorem Own.last {r : Rs} {l : Addr} {ds : List D} : Own (r ++ [lstA l ds]) l ds := ⟨r, [], rfl⟩
theorem Own.tl {r : Rs} {l : Addr} {ds : List D} {t : At} (h : Own r l ds) : Own (t :: r) l ds := by
  obtain ⟨pre, post, rfl⟩ := h
  exact ⟨t :: pre, post, rfl⟩
section
variable {K : PySem.W.Frag} {r pre post : Rs} {H : Hp} {l p : Addr} {ds es : List D} {vs ws : List V}
theorem mem_mid {x y : At} (h : x.M = y.M) : mem (pre ++ x :: post) = mem (pre ++ y :: post) := by
  funext a
  refine propext ((mem_append (r := pre) (r' := x :: post)).trans (Iff.trans ?_ (mem_append (r := pre) (r' := y :: post)).symm))
  show (mem pre a ∨ (x.M a ∨ mem post a)) ↔ (mem pre a ∨ (y.M a ∨ mem post a))
  rw [h]
theorem own_mid (h : Rok K (pre ++ lstA l ds :: post) H) : ∃ vs, H l = some (.lst vs) ∧ IsAll K (mem (pre ++ lstA l ds :: post)) H vs ds := by
  obtain ⟨_, ⟨h2, _⟩, _⟩ := hold_append.mp h
  exact h2
theorem own_get (h : Rok K r H) (o : Own r l ds) : ∃ vs, H l = some (.lst vs) ∧ IsAll K (mem r) H vs ds := by
  obtain ⟨pre, post, rfl⟩ := o
  exact own_mid h
theorem own_mem : mem (pre ++ lstA l ds :: post) l := mem_append.mpr (.inr (.inl rfl))
theorem own_put (h : Rok K (pre ++ lstA l ds :: post) H) (i : IsAll K (mem (pre ++ lstA l ds :: post)) H ws es) : Rok K (pre ++ lstA l es :: post) (upd H l (.lst ws)) ∧ Kp K (pre ++ lstA l ds :: post) H (pre ++ lstA l es :: post) (upd H l (.lst ws)) := by
  obtain ⟨vs, e1, _⟩ := own_mid h
  obtain ⟨h1, ⟨h2, h3, h4⟩, h5⟩ := hold_append.mp h
  have me : mem (pre ++ lstA l ds :: post) = mem (pre ++ lstA l es :: post) := mem_mid rfl
  have go : ∀ w e, Is K (mem (pre ++ lstA l ds :: post)) H w e → Is K (mem (pre ++ lstA l ds :: post)) (upd H l (.lst ws)) w e := fun w e q => is_other own_mem e1 q
  refine ⟨hold_append.mpr ⟨?_, ⟨⟨ws, upd_same, ?_⟩, h3, ?_⟩, h5⟩, fun w e q => me ▸ go w e q⟩
  · rw [← me]
    exact hold_loc (fun b o m q => by rw [upd_ne (fun e => h5 b m (.inl e))]; exact q) go h1
  · rw [← me]
    exact all_of go i
  · rw [← me]
    exact hold_loc (fun b o m q => by rw [upd_ne (fun e => h3 b e m)]; exact q) go h4
theorem own_drop (h : Rok K (pre ++ lstA l ds :: post) H) : Rok K (pre ++ post) H ∧ Is K (mem (pre ++ post)) H (.ref l) (.lst ds) ∧ Kp K (pre ++ lstA l ds :: post) H (pre ++ post) H := by
  obtain ⟨h1, ⟨h2, h3, h4⟩, h5⟩ := hold_append.mp h
  have an : ∀ a, mem (pre ++ post) a → mem (pre ++ lstA l ds :: post) a := fun a z => (mem_append.mp z).elim (fun z => mem_append.mpr (.inl z)) fun z => mem_append.mpr (.inr (.inr z))
  obtain ⟨vs, e1, e2⟩ := h2
  refine ⟨hold_append.mpr ⟨hold_anti an h1, hold_anti an h4, fun a m z => h5 a m (.inr z)⟩, .lst (fun z => ?_) e1 (all_of (fun _ _ => is_anti an) e2), fun _ _ => is_anti an⟩
  rcases mem_append.mp z with z | z
  · exact h5 l z (.inl rfl)
  · exact h3 l rfl z
theorem rok_new (h : Rok K r H) (hp : H p = none) (i : IsAll K (mem r) H vs ds) : Rok K (r ++ [lstA p ds]) (upd H p (.lst vs)) ∧ Kp K r H (r ++ [lstA p ds]) (upd H p (.lst vs)) := by
  have e : ∀ a, mem (r ++ [lstA p ds]) a → mem r a ∨ a = p := fun a z => (mem_append.mp z).elim .inl fun z => z.elim .inr False.elim
  have go : Kp K r H (r ++ [lstA p ds]) (upd H p (.lst vs)) := fun v d q => is_anti e (is_ext (Ext.new hp) _ _ (is_grow hp q))
  refine ⟨hold_append.mpr ⟨hold_anti e (hold_ext (Ext.new hp) (hold_grow hp h)), ⟨⟨vs, upd_same, all_of go i⟩, fun _ _ z => z, True.intro⟩, fun a m z => ?_⟩, go⟩
  have : a = p := z.elim (fun z => z) False.elim
  subst this
  exact not_al h hp m
end
/-! ### fresh lists that are our own -/
def aLstO (l : AL) : AT := fun x δ r P => l x δ r fun ds r1 => small ds.length ∧ ∀ p, P (.adr p) (r1 ++ [lstA p ds])
section
variable {X : Cx} {W : WX} {e : Expr} {es : List Expr} {pos : Pos} {l : AL} {te : AT}
theorem d_lstO (ha : PDL X W es l) : PD X W (.List es pos) (aLstO l) := imE (pe_lst ha) fun σ H Q q => by
  obtain ⟨XR, δ, r, P, o, h, k⟩ := q
  refine tdl_bind o h fun ds r1 vs H1 h1 o1 k1 i1 => ⟨by rw [i1.length]; exact h1.1.sz, fun p hp => ?_⟩
  obtain ⟨q1, q2⟩ := rok_new o1.r hp i1
  exact k _ _ _ _ (h1.2 p) (o1.step q2 q1) (k1.trans q2) (.adr p)
/-- a name's own list handed on as data -/
def aMove (te : AT) : AT := fun x δ r P => te x δ r fun d r1 => ∃ l ds pre post, d = .adr l ∧ r1 = pre ++ lstA l ds :: post ∧ P (.lst ds) (pre ++ post)
theorem d_move (h : PD X W e te) : PD X W e (aMove te) := imE h fun σ H Q q => by
  obtain ⟨XR, δ, r, P, o, h, k⟩ := q
  refine td_bind o h fun d r1 v H1 h1 o1 k1 i1 => ?_
  obtain ⟨l, ds, pre, post, rfl, rfl, h1⟩ := h1
  cases i1
  obtain ⟨q1, q2, q3⟩ := own_drop o1.r
  exact k _ _ _ _ h1 (o1.step q3 q1) (k1.trans q3) q2
/-! ### calls of builtins, operators that look at the assertion -/
def rC2 (K : PySem.W.Frag) (o : Rs → OC) : List V → Hp → VK → Prop := fun vs H Q => ∃ (r : Rs) (ds : List D) (P : D → Prop), Rok K r H ∧ IsAll K (mem r) H vs ds ∧ o r ds P ∧ ∀ d v H', P d → Ext H H' → Is K (mem r) H' v d → Q v H'
def aBlt2 (o : Rs → OC) (l : AL) : AT := fun x δ r P => l x δ r fun ds r1 => o r1 ds fun d => P d r1
theorem tcb2 {K : PySem.W.Frag} {W : WX} {o : Rs → OC} {l : AL} {σ : L2.St} {H : Hp} {Q : VK} (q : TD K W (aBlt2 o l) σ H Q) : tCB (rC2 K o) (TDL K W l) σ H Q := by
  obtain ⟨XR, δ, r, P, ok, h, k⟩ := q
  refine tdl_bind ok h fun ds r1 vs H1 h1 o1 k1 i1 => ⟨r1, ds, fun d => P d r1, o1.r, i1, h1, fun d v H' p e i => k d r1 v H' p (o1.ext e) (k1.trans (Kp.ext e)) i⟩
theorem d_blt2 {bid : String} {o : Rs → OC} {x : Str} {p : Pos} (hc : CallR X (.builtin bid) (rC2 X.K o)) (hg : Gl X x) (hm : X.mg x = none) (ha : PDL X W (e :: es) l) (hv : bootBuiltins x = some (.builtin bid) := by decide +kernel) (hn : x ≠ "__name__" := by decide) (hdb : (x == ("__debug__" : Str)) = false := by decide)
    (he : starEach (e :: es) X.env = (false, eval e X.env) :: starEach es X.env := by rfl) (hpl : (backTo pos (starEach es X.env)).any (·.1) = false := by rfl) : PD X W (.Call (.Name x p) (e :: es) [] pos) (aBlt2 o l) :=
  imE (pe_callB hc hg hm hv ha hn hdb he hpl) fun _ _ _ q => tcb2 q
structure oLenO (r : Rs) (ds : List D) (k : D → Prop) : Prop where
  ex : ∃ l xs, ds = [.adr l] ∧ Own r l xs ∧ (xs.length ≤ sizeLine → k (.int xs.length))
theorem c_lenO : CallR X (.builtin "len") (rC2 X.K oLenO) := by
  rintro pins s σ H vs us Q I rv ⟨r, ds, P, hr, i, ⟨l, xs, rfl, ow, ho⟩, k⟩
  obtain ⟨ws, h1, h2⟩ := own_get hr ow
  cases i with
  | cons i t =>
    cases t
    cases i
    obtain ⟨_, _, _, hz⟩ := I.list (SqL.of h1)
    exact call_len pins s σ H _ us Q I rv ⟨_, _, rfl, .inl ⟨_, SqL.of h1, rfl⟩, by rw [h2.length] at hz ⊢; exact k _ _ H (ho hz) (Ext.refl H) (.int _)⟩
def rD2 (K : PySem.W.Frag) (o : Rs → O2) : R2 := fun x y H Q => ∃ (r : Rs) (d1 d2 : D) (P : D → Prop), Rok K r H ∧ Is K (mem r) H x d1 ∧ Is K (mem r) H y d2 ∧ o r d1 d2 P ∧ ∀ d v H', P d → Ext H H' → Is K (mem r) H' v d → Q v H'
def aOp2 (o : Rs → O2) (ta tb : AT) : AT := fun x δ r P => ta x δ r fun d1 r1 => tb x δ r1 fun d2 r2 => o r2 d1 d2 fun d => P d r2
theorem td_op2 {K : PySem.W.Frag} {W : WX} {o : Rs → O2} {ta tb : AT} {σ : L2.St} {H : Hp} {Q : VK} (q : TD K W (aOp2 o ta tb) σ H Q) : tOp (rD2 K o) (TD K W ta) (TD K W tb) σ H Q := by
  obtain ⟨XR, δ, r, P, ok, h, k⟩ := q
  refine td_bind ok h fun d1 r1 v1 H1 h1 o1 k1 i1 => td_bind o1 h1 fun d2 r2 v2 H2 h2 o2 k2 i2 => ?_
  exact ⟨r2, d1, d2, fun d => P d r2, o2.r, k2 _ _ i1, i2, h2, fun d v H' p e i => k d r2 v H' p (o2.ext e) ((k1.trans k2).trans (Kp.ext e)) i⟩
structure oIxO (r : Rs) (x y : D) (k : D → Prop) : Prop where
  ex : ∃ l xs i d, x = .adr l ∧ y = .int i ∧ Own r l xs ∧ atI xs i = some d ∧ k d
theorem p_ixO : IxR X (rD2 X.K oIxO) := by
  rintro value slice pins s σ H x y v u Q I rx ry ⟨r, d1, d2, P, hr, i1, i2, ⟨l, xs, i, d, rfl, rfl, ow, hd, ho⟩, k⟩ hs
  cases i1
  cases i2
  obtain ⟨ws, h1, h2⟩ := own_get hr ow
  obtain ⟨w, hw, iw⟩ := at_all h2 hd
  exact ix_list value slice pins s σ H _ _ v u Q I rx ry ⟨_, _, _, _, rfl, rfl, SqL.of h1, hw, k _ _ H ho (Ext.refl H) iw⟩ hs
theorem d_ixO {a b : Expr} {ta tb : AT} (ha : PD X W a ta) (hb : PD X W b tb) (hs : PlainIx b := by exact fun _ _ => rfl) : PD X W (.Subscript a b pos) (aOp2 oIxO ta tb) := imE (pe_ix p_ixO ha hb hs) fun _ _ _ q => td_op2 q
/-- a test of an own list -/
def aTruO (te : AT) : AB := fun x δ r P => te x δ r fun d r1 => ∃ l xs, d = .adr l ∧ Own r1 l xs ∧ P (!xs.isEmpty) r1
theorem b_truO {a : Expr} {ta : AT} (ha : PD X W a ta) (he : ∀ whole, isTrue a X.env whole = (do let v ← whole; standAt a.pos; holding [v] (truthy v)) := by intro _; rfl) : PDB X W a (aTruO ta) := imT (pt_truth ha he) fun σ H Q q => by
  obtain ⟨XR, δ, r, P, ok, h, k⟩ := q
  refine td_bind ok h fun d r1 v H1 h1 o1 k1 i1 => ?_
  obtain ⟨l, xs, rfl, ow, h1⟩ := h1
  cases i1
  obtain ⟨ws, g1, g2⟩ := own_get o1.r ow
  refine ⟨!ws.isEmpty, ?_, ?_⟩
  · exact .inl ⟨ws, SqL.of g1, rfl⟩
  · rw [isEmpty_all g2]
    exact k _ r1 H1 h1 o1 k1
/-! ### methods that change an own list -/
abbrev OM := Rs → Addr → List D → (D → Rs → Prop) → Prop
def aMth (om : OM) (to : AT) (l : AL) : AT := fun x δ r P => to x δ r fun d r1 => ∃ a xs, d = .adr a ∧ Own r1 a xs ∧ l x δ r1 fun ds r2 => om r2 a ds P
def OMok (K : PySem.W.Frag) (om : OM) (rr : V → List V → Hp → VK → Prop) : Prop := ∀ r a ds P H vs Q, Rok K r H → IsAll K (mem r) H vs ds → om r a ds P → (∀ d r' v H', P d r' → Rok K r' H' → Kp K r H r' H' → Is K (mem r') H' v d → Q v H') → rr (.ref a) vs H Q
theorem d_mth {om : OM} {rr : V → List V → Hp → VK → Prop} {o : Expr} {to : AT} {name : Str} {id : String} {apos cpos : Pos} (slot : Slot "list" name id) (hty : typeOf (.builtin id) = pure (.type "method_descriptor")) (hm : MtR X id rr) (hom : OMok X.K om rr) (ho : PD X W o to) (ha : PDL X W (e :: es) l)
    (hbase : attributeBase o name X.env (eval o X.env) = eval o X.env := by rfl)
    (hfew : ((backTo cpos (starEach (e :: es) X.env)).all (fun x => !x.1) && (backToKw cpos (keywordEach [] X.env)).all (fun x => x.1.isSome)
      && decide ((e :: es).length + ([] : List Keyword).length + (if ([] : List Keyword).isEmpty then 0 else 1) < 30)) = true := by rfl)
    (hline : (apos.endLine == cpos.line) = true := by rfl) (hs : starEach (e :: es) X.env = (false, eval e X.env) :: starEach es X.env := by rfl) (hplain : (backTo cpos (starEach es X.env)).any (·.1) = false := by rfl) :
    PD X W (.Call (.Attribute o name apos) (e :: es) [] cpos) (aMth om to l) := imE (pe_bm PySem.F.plainAttrs_list slot hty hm ho ha hbase hfew hline hs hplain) fun σ H Q q => by
  obtain ⟨XR, δ, r, P, ok, h, k⟩ := q
  refine td_bind ok h fun d r1 v H1 h1 o1 k1 i1 => ?_
  obtain ⟨a, xs, rfl, ow, h1⟩ := h1
  cases i1
  obtain ⟨ws, g1, g2⟩ := own_get o1.r ow
  refine ⟨.inl ⟨rfl, ws, SqL.of g1⟩, tdl_bind o1 h1 fun ds r2 vs H2 h2 o2 k2 i2 => ?_⟩
  exact hom r2 a ds P H2 vs Q o2.r i2 h2 fun d r' v H' p ro kk i => k d r' v H' p (o2.step kk ro) ((k1.trans k2).trans kk) i
structure oApp (r : Rs) (a : Addr) (ds : List D) (P : D → Rs → Prop) : Prop where
  ex : ∃ pre xs post y, ds = [y] ∧ r = pre ++ lstA a xs :: post ∧ small (xs.length + 1) ∧ P .non (pre ++ lstA a (xs ++ [y]) :: post)
theorem om_app {K : PySem.W.Frag} : OMok K oApp rAppend := by
  rintro r a ds P H vs Q ro i ⟨pre, xs, post, y, rfl, rfl, hz, hp⟩ k
  cases i with
  | cons i t =>
    cases t
    obtain ⟨ws, e1, e2⟩ := own_mid ro
    obtain ⟨q1, q2⟩ := own_put ro (e2.append (.cons i .nil))
    exact ⟨a, ws, _, rfl, rfl, e1, by rw [e2.length]; exact Nat.lt_of_lt_of_le (Nat.lt_succ_self _) hz.sz, k _ _ _ _ hp q1 q2 .non⟩
theorem d_app {o : Expr} {to : AT} {apos cpos : Pos} (ho : PD X W o to) (ha : PDL X W [e] l) (hbase : attributeBase o "append" X.env (eval o X.env) = eval o X.env := by rfl)
    (hfew : ((backTo cpos (starEach [e] X.env)).all (fun x => !x.1) && (backToKw cpos (keywordEach [] X.env)).all (fun x => x.1.isSome)
      && decide (([e] : List Expr).length + ([] : List Keyword).length + (if ([] : List Keyword).isEmpty then 0 else 1) < 30)) = true := by rfl)
    (hline : (apos.endLine == cpos.line) = true := by rfl) (hs : starEach [e] X.env = (false, eval e X.env) :: starEach [] X.env := by rfl) (hplain : (backTo cpos (starEach [] X.env)).any (·.1) = false := by rfl) : PD X W (.Call (.Attribute o "append" apos) [e] [] cpos) (aMth oApp to l) :=
  d_mth PySem.F.slot_list_append PySem.F.type_list_append mt_append om_app ho ha hbase hfew hline hs hplain
structure oExt (r : Rs) (a : Addr) (ds : List D) (P : D → Rs → Prop) : Prop where
  ex : ∃ pre xs post ys, ds = [.lst ys] ∧ r = pre ++ lstA a xs :: post ∧ small (xs.length + ys.length) ∧ P .non (pre ++ lstA a (xs ++ ys) :: post)
theorem om_ext {K : PySem.W.Frag} : OMok K oExt rExtend := by
  rintro r a ds P H vs Q ro i ⟨pre, xs, post, ys, rfl, rfl, hz, hp⟩ k
  cases i with
  | cons i t =>
    cases t
    cases i with
    | lst n s al =>
      obtain ⟨ws, e1, e2⟩ := own_mid ro
      obtain ⟨q1, q2⟩ := own_put ro (e2.append al)
      exact ⟨a, _, ws, _, rfl, rfl, e1, s, by rw [e2.length, al.length]; exact hz.sz, k _ _ _ _ hp q1 q2 .non⟩
def rIns : V → List V → Hp → VK → Prop := fun x vs H Q => ∃ (l : Addr) (xs : List V) (i : Int) (y : V), x = .ref l ∧ vs = [.int i, y] ∧ H l = some (.lst xs) ∧ xs.length < sizeLine ∧ 0 ≤ i ∧ i < 2 ^ 63 ∧ Q .non (upd H l (.lst (xs.take i.toNat ++ [y] ++ xs.drop i.toNat)))
structure oIns (r : Rs) (a : Addr) (ds : List D) (P : D → Rs → Prop) : Prop where
  ex : ∃ pre xs post y, ∃ n : Nat, ds = [.int n, y] ∧ r = pre ++ lstA a xs :: post ∧ small (xs.length + 1) ∧ n ≤ 1000000 ∧ P .non (pre ++ lstA a (xs.take n ++ [y] ++ xs.drop n) :: post)
theorem om_ins {K : PySem.W.Frag} : OMok K oIns rIns := by
  rintro r a ds P H vs Q ro i ⟨pre, xs, post, y, n, rfl, rfl, hz, hn, hp⟩ k
  cases i with
  | cons i t =>
    cases i
    cases t with
    | cons i2 t =>
      cases t
      obtain ⟨ws, e1, e2⟩ := own_mid ro
      obtain ⟨q1, q2⟩ := own_put ro (((e2.take n).append (.cons i2 .nil)).append (e2.drop n))
      exact ⟨a, ws, n, _, rfl, rfl, e1, by rw [e2.length]; exact Nat.lt_of_lt_of_le (Nat.lt_succ_self _) hz.sz, by omega, by omega, k _ _ _ _ hp q1 q2 .non⟩
structure oPopAt (r : Rs) (a : Addr) (ds : List D) (P : D → Rs → Prop) : Prop where
  ex : ∃ pre xs post y, ∃ n : Nat, ds = [.int n] ∧ r = pre ++ lstA a xs :: post ∧ xs[n]? = some y ∧ n ≤ 1000000 ∧ P y (pre ++ lstA a (xs.eraseIdx n) :: post)
theorem erase_all {K : PySem.W.Frag} {N : Addr → Prop} {H : Hp} : ∀ {vs : List V} {ds : List D} (n : Nat), IsAll K N H vs ds → IsAll K N H (vs.eraseIdx n) (ds.eraseIdx n)
  | _, _, _, .nil => .nil
  | _, _, 0, .cons _ t => t
  | _, _, n + 1, .cons h t => .cons h (erase_all n t)
theorem set_all {K : PySem.W.Frag} {N : Addr → Prop} {H : Hp} {v : V} {d : D} (i : Is K N H v d) : ∀ {vs : List V} {ds : List D} (n : Nat), IsAll K N H vs ds → IsAll K N H (vs.set n v) (ds.set n d)
  | _, _, _, .nil => .nil
  | _, _, 0, .cons _ t => .cons i t
  | _, _, n + 1, .cons h t => .cons h (set_all i n t)
theorem om_popAt {K : PySem.W.Frag} : OMok K oPopAt rPopAt := by
  rintro r a ds P H vs Q ro i ⟨pre, xs, post, y, n, rfl, rfl, hy, hn, hp⟩ k
  cases i with
  | cons i t =>
    cases i
    cases t
    obtain ⟨ws, e1, e2⟩ := own_mid ro
    obtain ⟨v, hv, iv⟩ := e2.getD hy
    obtain ⟨q1, q2⟩ := own_put ro (erase_all n e2)
    have hl := (List.getElem?_eq_some_iff.mp hv).1
    exact ⟨a, ws, n, n, v, rfl, rfl, e1, by omega, by omega, PySem.StrLaws.seqIndex_nonneg (by omega) (by omega), hv, k _ _ _ _ hp q1 q2 (q2 _ _ iv)⟩
section
variable {X : Cx} {W : WX} {e : Expr} {es : List Expr} {l : AL} {o : Expr} {to : AT} {apos cpos : Pos}
theorem d_ext (ho : PD X W o to) (ha : PDL X W [e] l) (hbase : attributeBase o "extend" X.env (eval o X.env) = eval o X.env := by rfl)
    (hfew : ((backTo cpos (starEach [e] X.env)).all (fun x => !x.1) && (backToKw cpos (keywordEach [] X.env)).all (fun x => x.1.isSome)
      && decide (([e] : List Expr).length + ([] : List Keyword).length + (if ([] : List Keyword).isEmpty then 0 else 1) < 30)) = true := by rfl)
    (hline : (apos.endLine == cpos.line) = true := by rfl) (hs : starEach [e] X.env = (false, eval e X.env) :: starEach [] X.env := by rfl) (hplain : (backTo cpos (starEach [] X.env)).any (·.1) = false := by rfl) : PD X W (.Call (.Attribute o "extend" apos) [e] [] cpos) (aMth oExt to l) :=
  d_mth PySem.F.slot_list_extend PySem.F.type_list_extend mt_extend om_ext ho ha hbase hfew hline hs hplain
theorem d_popAt (ho : PD X W o to) (ha : PDL X W [e] l) (hbase : attributeBase o "pop" X.env (eval o X.env) = eval o X.env := by rfl)
    (hfew : ((backTo cpos (starEach [e] X.env)).all (fun x => !x.1) && (backToKw cpos (keywordEach [] X.env)).all (fun x => x.1.isSome)
      && decide (([e] : List Expr).length + ([] : List Keyword).length + (if ([] : List Keyword).isEmpty then 0 else 1) < 30)) = true := by rfl)
    (hline : (apos.endLine == cpos.line) = true := by rfl) (hs : starEach [e] X.env = (false, eval e X.env) :: starEach [] X.env := by rfl) (hplain : (backTo cpos (starEach [] X.env)).any (·.1) = false := by rfl) : PD X W (.Call (.Attribute o "pop" apos) [e] [] cpos) (aMth oPopAt to l) :=
  d_mth PySem.F.slot_list_pop PySem.F.type_list_pop mt_popAt om_popAt ho ha hbase hfew hline hs hplain
theorem d_ins {e2 : Expr} (ho : PD X W o to) (ha : PDL X W [e, e2] l) (hbase : attributeBase o "insert" X.env (eval o X.env) = eval o X.env := by rfl)
    (hfew : ((backTo cpos (starEach [e, e2] X.env)).all (fun x => !x.1) && (backToKw cpos (keywordEach [] X.env)).all (fun x => x.1.isSome)
      && decide (([e, e2] : List Expr).length + ([] : List Keyword).length + (if ([] : List Keyword).isEmpty then 0 else 1) < 30)) = true := by rfl)
    (hline : (apos.endLine == cpos.line) = true := by rfl) (hs : starEach [e, e2] X.env = (false, eval e X.env) :: starEach [e2] X.env := by rfl) (hplain : (backTo cpos (starEach [e2] X.env)).any (·.1) = false := by rfl) : PD X W (.Call (.Attribute o "insert" apos) [e, e2] [] cpos) (aMth oIns to l) :=
  d_mth PySem.F.slot_list_insert PySem.F.type_list_insert mt_insert om_ins ho ha hbase hfew hline hs hplain
/-- x[i] = value, x an own list -/
def sSetO (te to ti : AT) : AS := fun A δ r => te A.xr δ r fun y r1 => to A.xr δ r1 fun d r2 => ti A.xr δ r2 fun di r3 => ∃ a pre xs post, ∃ n : Nat, d = .adr a ∧ di = .int n ∧ r3 = pre ++ lstA a xs :: post ∧ n < xs.length ∧ A.nx δ (pre ++ lstA a (xs.set n y) :: post)
theorem s_setO {i value : Expr} {te ti : AT} {p2 pos : Pos} (he : PD X W value te) (ho : PD X W o to) (hi : PD X W i ti)
    (ha : ∀ v, assign (.Subscript o i p2) X.env v = (do
      let ov ← holding [v] (eval o X.env)
      let iv ← holding [v, ov] (eval i X.env)
      standAt p2
      holding [v, ov, iv] (setItem ov iv v)
      release [v, ov, iv] []) := by intro _; rfl)
    (hs : swapsWithSole [.Subscript o i p2] value pos.line X.env = pure false := by rfl) (hw : swappedStores [.Subscript o i p2] value X.env = pure none := by rfl)
    (h1 : (assignEach [.Subscript o i p2] X.env).map (·.2) = [assign (.Subscript o i p2) X.env] := by rfl) : PSD X W (.Assign [.Subscript o i p2] value pos) (sSetO te to ti) :=
  imS (ps_asg he (pg_sub ho hi set_list ha) hs hw h1) fun Dd σ H ⟨δ, r, A, ok, h, f⟩ => td_bind ok h fun y r1 v H1 h1 o1 k1 i1 => td_bind o1 h1 fun d r2 v2 H2 h2 o2 k2 i2 => td_bind o2 h2 fun di r3 v3 H3 h3 o3 k3 i3 => by
    obtain ⟨a, pre, xs, post, n, rfl, rfl, rfl, hn, h3⟩ := h3
    cases i2
    cases i3
    obtain ⟨ws, e1, e2⟩ := own_mid o3.r
    obtain ⟨q1, q2⟩ := own_put o3.r (set_all (k3 _ _ (k2 _ _ i1)) n e2)
    refine ⟨a, ws, n, n, rfl, rfl, e1, ?_, f.nx _ _ _ _ h3 (o3.step q2 q1) (((k1.trans k2).trans k3).trans q2)⟩
    unfold ixN
    rw [e2.length, if_pos (by omega), if_pos (by omega)]
    rfl
/-- list(e), our own -/
def aListO (l : AL) : AT := fun x δ r P => l x δ r fun ds r1 => match ds with | [.lst xs] => ∀ p, P (.adr p) (r1 ++ [lstA p xs]) | [.tup xs] => ∀ p, P (.adr p) (r1 ++ [lstA p xs]) | _ => False
theorem d_listO {p pos : Pos} (hg : Gl X "list") (hm : X.mg "list" = none) (ha : PDL X W [e] l) (hv : bootBuiltins "list" = some (.type "list") := by decide +kernel)
    (he : starEach [e] X.env = (false, eval e X.env) :: starEach [] X.env := by rfl) (hpl : (backTo pos (starEach [] X.env)).any (·.1) = false := by rfl) : PD X W (.Call (.Name "list" p) [e] [] pos) (aListO l) :=
  imE (pe_callTy call_list_of hg hm hv ha (by decide) (by decide) he hpl) fun σ H Q q => by
    obtain ⟨XR, δ, r, P, o, h, k⟩ := q
    refine tdl_bind o h fun ds r1 vs H1 h1 o1 k1 i1 => ?_
    cases i1 with
    | nil => exact h1.elim
    | cons i t =>
      cases t with
      | cons _ _ => cases i <;> exact h1.elim
      | nil =>
        cases i <;> try exact h1.elim
        · rename_i n s al
          exact ⟨_, _, rfl, .inl (SqL.of s), fun p hp => let ⟨q1, q2⟩ := rok_new o1.r hp al; k _ _ _ _ (h1 p) (o1.step q2 q1) (k1.trans q2) (.adr p)⟩
        · rename_i s al
          exact ⟨_, _, rfl, .inr s, fun p hp => let ⟨q1, q2⟩ := rok_new o1.r hp al; k _ _ _ _ (h1 p) (o1.step q2 q1) (k1.trans q2) (.adr p)⟩
end
end
end G

namespace G
open PySem PySem.Spec L2
/-! ### data of bounded depth and length -/
def gd (n : Nat) : Nat → D → Bool
  | _, .adr _ => false
  | _, .ins _ _ _ => false
  | _, .dct _ _ => false
  | 0, .lst _ => false
  | 0, .tup _ => false
  | m + 1, .lst ds => decide (ds.length ≤ n) && ds.all (gd n m)
  | m + 1, .tup ds => decide (ds.length ≤ n) && ds.all (gd n m)
  | _, _ => true
theorem gd_lst {n m : Nat} {ds : List D} : gd n (m + 1) (.lst ds) = true ↔ ds.length ≤ n ∧ ∀ d ∈ ds, gd n m d = true := by
  simp only [gd, Bool.and_eq_true, decide_eq_true_eq, List.all_eq_true]
theorem gd_tup {n m : Nat} {ds : List D} : gd n (m + 1) (.tup ds) = true ↔ ds.length ≤ n ∧ ∀ d ∈ ds, gd n m d = true := by
  simp only [gd, Bool.and_eq_true, decide_eq_true_eq, List.all_eq_true]
theorem gd_str {n m : Nat} {z : Str} : gd n m (.str z) = true := by cases m <;> rfl
theorem gd_int {n m : Nat} {z : Int} : gd n m (.int z) = true := by cases m <;> rfl
theorem gd_bl {n m : Nat} {z : Bool} : gd n m (.bl z) = true := by cases m <;> rfl
theorem gd_non {n m : Nat} : gd n m .non = true := by cases m <;> rfl
theorem gd_mono {n n' : Nat} (hn : n ≤ n') : ∀ {m m' : Nat} {d : D}, m ≤ m' → gd n m d = true → gd n' m' d = true := by
  intro m
  induction m with
  | zero =>
    intro m' d _ h
    cases d with
    | lst _ => cases h
    | tup _ => cases h
    | adr _ => cases h
    | ins _ _ _ => cases h
    | dct _ _ => cases h
    | non => exact gd_non
    | bl _ => exact gd_bl
    | int _ => exact gd_int
    | str _ => exact gd_str
  | succ m ih =>
    intro m' d hm h
    obtain ⟨k, rfl⟩ : ∃ k, m' = k + 1 := ⟨m' - 1, by omega⟩
    cases d with
    | lst ds =>
      rw [gd_lst] at h ⊢
      exact ⟨by omega, fun d hd => ih (by omega) (h.2 d hd)⟩
    | tup ds =>
      rw [gd_tup] at h ⊢
      exact ⟨by omega, fun d hd => ih (by omega) (h.2 d hd)⟩
    | adr _ => cases h
    | ins _ _ _ => cases h
    | dct _ _ => cases h
    | non => exact gd_non
    | bl _ => exact gd_bl
    | int _ => exact gd_int
    | str _ => exact gd_str
theorem gd_plain {n : Nat} (hn : n ≤ 1000000) : ∀ {m : Nat} {d : D}, gd n m d = true → plain d = true := by
  intro m
  induction m with
  | zero =>
    intro d h
    cases d <;> first | rfl | cases h
  | succ m ih =>
    intro d h
    cases d with
    | lst ds =>
      rw [gd_lst] at h
      exact plain_of_lst (by omega) (plains_of fun d hd => ih (h.2 d hd))
    | tup ds =>
      rw [gd_tup] at h
      exact plain_of_tup (by omega) (plains_of fun d hd => ih (h.2 d hd))
    | adr _ => cases h
    | ins _ _ _ => cases h
    | dct _ _ => cases h
    | _ => rfl
theorem deps_le {k : Nat} : ∀ {ds : List D}, (∀ d ∈ ds, dep d ≤ k) → deps ds ≤ k
  | [], _ => Nat.zero_le _
  | d :: ds, h => by
    simp only [deps]
    have h1 := h d List.mem_cons_self
    have h2 := deps_le (ds := ds) fun d m => h d (List.mem_cons_of_mem _ m)
    omega
theorem gd_dep {n : Nat} : ∀ {m : Nat} {d : D}, gd n m d = true → dep d ≤ m := by
  intro m
  induction m with
  | zero =>
    intro d h
    cases d <;> first | exact Nat.zero_le _ | cases h
  | succ m ih =>
    intro d h
    cases d with
    | lst ds =>
      rw [gd_lst] at h
      have := deps_le fun d hd => ih (h.2 d hd)
      simp only [dep]
      omega
    | tup ds =>
      rw [gd_tup] at h
      have := deps_le fun d hd => ih (h.2 d hd)
      simp only [dep]
      omega
    | adr _ => cases h
    | ins _ _ _ => cases h
    | dct _ _ => cases h
    | _ => exact Nat.zero_le _
theorem isNm_len {z : Str} (h : isNm z = true) : z.length ≤ 8 := by
  unfold isNm at h
  simp only [Bool.and_eq_true, decide_eq_true_eq] at h
  exact h.1.2
theorem len_app (a b : Str) : (a ++ b).length = a.length + b.length := by
  show (a.cps ++ b.cps).size = _
  rw [Array.size_append]
  rfl
theorem oAdd_s {a b : Str} {k : D → Prop} (h : a.length + b.length ≤ 1000000) (q : k (.str (a ++ b))) : oAdd (.str a) (.str b) k := ⟨h, q⟩
theorem pick_at {l : List Str} {k : Int} (h0 : 0 ≤ k) (h1 : k < (l.length : Nat)) : ∃ n w, k = ((n : Nat) : Int) ∧ l[n]? = some w ∧ atI (l.map D.str) k = some (.str w) := by
  obtain ⟨n, rfl⟩ : ∃ n : Nat, k = n := ⟨k.toNat, by omega⟩
  have hn : n < l.length := by omega
  exact ⟨n, l[n], rfl, by simp, L2.atI_nat (by simp)⟩
/-- at a place of a written list of data -/
theorem pick_in {l : List D} {k : Int} (h0 : 0 ≤ k) (h1 : k < (l.length : Nat)) : ∃ d, d ∈ l ∧ atI l k = some d := by
  obtain ⟨n, rfl⟩ : ∃ n : Nat, k = n := ⟨k.toNat, by omega⟩
  have hn : n < l.length := by omega
  exact ⟨l[n], List.getElem_mem _, L2.atI_nat (by simp)⟩
/-- any object, depth left n -/
def objB : Nat → Nat
  | 0 => 60
  | n + 1 => 100 + 4 * objB n
def spObj (n : Nat) : SpX := fun ds r P _ => ∃ p a N X, ∃ dp : Int, ds = [.adr p, .int dp] ∧ r = poolA p a N :: X ∧ 0 ≤ dp ∧ 2 ≤ dp + n ∧ N + 10000 * n < 20000000000 ∧ n ≤ 2 ∧ ∀ d, gd 8 (n + 1) d = true → P d (poolA p a (N + objB n) :: X)
end G

namespace G
open PySem PySem.Spec L2
/-- [e(x) for x in ds if f(x)] -/
theorem lc_fm {x : XT} {g : AG} {te : AT} {tt : AB} {δw : Dl} {ds : List D} {r1 : Rs} {P : PK1} (f : D → Bool) (e : D → D) (hz : small ds.length)
    (he : ∀ d ∈ ds, ∀ (r' : Rs) (Q1 : PK1) (Q2 : Rs → Prop), (f d = true → Q1 (e d) r') → (f d = false → Q2 r') → g d δw fun δ2 => tt x δ2 r' fun b r2 => (b = true → te x δ2 r2 Q1) ∧ (b = false → Q2 r2)) (hP : P (.lst ((ds.filter f).map e)) r1) : aLcK x g tt te δw ds r1 P := by
  refine ⟨fun i acc r' => acc = ((ds.take i).filter f).map e ∧ r' = r1, ⟨rfl, rfl⟩, ?_, ?_⟩
  · rintro p i d acc r' hd ⟨rfl, rfl⟩
    have hi := (List.getElem?_eq_some_iff.mp hd).1
    refine he d (List.mem_of_getElem? hd) _ _ _ (fun q => ⟨?_, r', le.refl, ?_, rfl⟩) (fun q => ⟨r', le.refl, ?_, rfl⟩)
    · rw [List.length_map]
      have h1 := List.length_filter_le f (ds.take i)
      rw [List.length_take] at h1
      have : small ds.length := hz
      unfold small at *
      omega
    · rw [List.take_add_one, hd, List.filter_append, List.map_append]
      show _ = _ ++ List.map e (List.filter f [d])
      rw [List.filter_cons, q]
      rfl
    · rw [List.take_add_one, hd, List.filter_append, List.map_append]
      show _ = _ ++ List.map e (List.filter f [d])
      rw [List.filter_cons, q]
      simp
  · rintro acc r' ⟨rfl, rfl⟩
    rw [List.take_length]
    exact hP
theorem eq_nil (xs : List D) : eqD (.lst xs) (.lst []) = xs.isEmpty := by
  cases xs <;> rfl
theorem filter_none {xs : List D} {f : D → Bool} : (xs.filter fun d => !f d).isEmpty = xs.all f := by
  induction xs with
  | nil => rfl
  | cons x xs ih =>
    rw [List.filter_cons, List.all_cons]
    cases f x with
    | true => exact ih
    | false => rfl
theorem deps_mem {k : Nat} : ∀ {ds : List D} {d : D}, deps ds ≤ k → d ∈ ds → dep d ≤ k
  | [], _, _, m => by cases m
  | a :: as, d, h, m => by
    simp only [deps] at h
    rcases List.mem_cons.mp m with rfl | m
    · omega
    · exact deps_mem (by omega) m
theorem deps_filter {k : Nat} {f : D → Bool} {ds : List D} (h : deps ds ≤ k) : deps (ds.filter f) ≤ k := deps_le fun d m => deps_mem h (List.mem_filter.mp m).1
theorem deps_chars {α : Type} (f : α → Str) (l : List α) : deps (l.map fun c => D.str (f c)) = 0 := by
  have : deps (l.map fun c => D.str (f c)) ≤ 0 := deps_le fun d m => by
    obtain ⟨c, _, rfl⟩ := List.mem_map.mp m
    exact Nat.le_refl _
  omega
theorem plains_drop {n : Nat} {ds : List D} (h : plains ds = true) : plains (ds.drop n) = true := plains_of fun d m => plains_mem h (List.mem_of_mem_drop m)
theorem deps_drop {n k : Nat} {ds : List D} (h : deps ds ≤ k) : deps (ds.drop n) ≤ k := deps_le fun d m => deps_mem h (List.mem_of_mem_drop m)
theorem nad_plain {d : D} (h : plain d = true) : ∀ a, d ≠ .adr a := fun a e => by rw [e] at h; cases h
end G
namespace G
open PySem PySem.Spec L2
/-! ### tests that change nothing -/
theorem bAnd_of {x : XT} {t u : AB} {δ : Dl} {r : Rs} {P : Bool → Rs → Prop} (b1 b2 : Bool) (h1 : ∀ P : Bool → Rs → Prop, P b1 r → t x δ r P) (h2 : b1 = true → ∀ P : Bool → Rs → Prop, P b2 r → u x δ r P) (h : P (b1 && b2) r) : bAnd t u x δ r P := by
  refine h1 _ ⟨fun e => ?_, fun e => ?_⟩
  · rw [e] at h
    exact h2 e _ h
  · rw [e] at h
    exact h
theorem bOr_of {x : XT} {t u : AB} {δ : Dl} {r : Rs} {P : Bool → Rs → Prop} (b1 b2 : Bool) (h1 : ∀ P : Bool → Rs → Prop, P b1 r → t x δ r P) (h2 : b1 = false → ∀ P : Bool → Rs → Prop, P b2 r → u x δ r P) (h : P (b1 || b2) r) : bOr t u x δ r P := by
  refine h1 _ ⟨fun e => ?_, fun e => ?_⟩
  · rw [e] at h
    exact h
  · rw [e] at h
    exact h2 e _ h
theorem sIf_of {c : AB} {t u : AS} {A : An} {δ : Dl} {r : Rs} (b : Bool) (h : ∀ P : Bool → Rs → Prop, P b r → c A.xr δ r P) (ht : b = true → t A δ r) (hf : b = false → u A δ r) : sIf c t u A δ r := h _ ⟨ht, hf⟩
end G
namespace G
open PySem PySem.Spec L2
theorem sSeqIf_of {c : AB} {t u v : AS} {A : An} {δ : Dl} {r : Rs} (b : Bool) (h : ∀ P : Bool → Rs → Prop, P b r → c A.xr δ r P) (ht : b = true → t { A with nx := fun δ' r' => v A δ' r' } δ r) (hf : b = false → u { A with nx := fun δ' r' => v A δ' r' } δ r) : sSeq (sIf c t u) v A δ r := h _ ⟨ht, hf⟩
end G

namespace G
open PySem PySem.Spec L2
/-! ### split -/
theorem spl_mem {S : List Nat} : ∀ {l : List Nat} {k : Nat} {acc p : List Nat}, p ∈ TL.spl S k acc l → (∀ c ∈ p, c ∈ acc ∨ c ∈ l) ∧ p.length ≤ acc.length + l.length
  | [], k, acc, p, h => by
    rw [TL.spl_nil] at h
    obtain rfl := List.mem_singleton.mp h
    exact ⟨fun c m => .inl m, Nat.le_add_right _ _⟩
  | c :: r, 0, acc, p, h => by
    cases q : TL.pre S (c :: r) with
    | true =>
      rw [TL.spl_hit q] at h
      rcases List.mem_cons.mp h with rfl | h
      · exact ⟨fun c m => .inl m, Nat.le_add_right _ _⟩
      · obtain ⟨h1, h2⟩ := spl_mem h
        refine ⟨fun x m => (h1 x m).elim (fun z => by cases z) fun z => .inr (List.mem_cons_of_mem _ z), ?_⟩
        rw [List.length_nil] at h2
        rw [List.length_cons]
        omega
    | false =>
      rw [TL.spl_miss q] at h
      obtain ⟨h1, h2⟩ := spl_mem h
      refine ⟨fun x m => (h1 x m).elim (fun z => (List.mem_append.mp z).elim .inl fun z => .inr ((List.mem_singleton.mp z) ▸ List.mem_cons_self)) fun z => .inr (List.mem_cons_of_mem _ z), ?_⟩
      rw [List.length_append, List.length_singleton] at h2
      rw [List.length_cons]
      omega
  | c :: r, k + 1, acc, p, h => by
    have h : p ∈ TL.spl S k acc r := h
    obtain ⟨h1, h2⟩ := spl_mem h
    refine ⟨fun x m => (h1 x m).elim .inl fun z => .inr (List.mem_cons_of_mem _ z), ?_⟩
    rw [List.length_cons]
    omega
def sepOk (b : Str) : Bool := !(tl b).isEmpty && b.cps.all (· < 256)
theorem sep_len {b : Str} (h : sepOk b = true) : (b.length == 0) = false := by
  unfold sepOk at h
  rw [Bool.and_eq_true] at h
  have : b.length ≠ 0 := fun e => by
    rw [len_tl] at e
    rw [List.eq_nil_of_length_eq_zero e] at h
    cases h.1
  simpa using this
theorem split_tl {a b : Str} (h : sepOk b = true) : (Txt.split a b).map tl = TL.spl (tl b) 0 [] (tl a) := by
  unfold sepOk at h
  rw [Bool.and_eq_true] at h
  refine TL.split_spl a b (fun e => ?_) (TL.kind_ok h.2)
  have e' : tl b = [] := e
  rw [e'] at h
  cases h.1
theorem split_sok {a b : Str} (h : sepOk b = true) (ha : sok a) : ∀ p ∈ Txt.split a b, sok p ∧ p.length ≤ a.length := fun p m => by
  have m2 : tl p ∈ TL.spl (tl b) 0 [] (tl a) := by rw [← split_tl h]; exact List.mem_map_of_mem m
  obtain ⟨h1, h2⟩ := spl_mem m2
  rw [List.length_nil, Nat.zero_add] at h2
  obtain ⟨g1, g2⟩ := sok_iff.mp ha
  exact ⟨sok_iff.mpr ⟨fun c hc => (h1 c hc).elim (fun z => by cases z) (g1 c), by omega⟩, by rw [len_tl, len_tl]; exact h2⟩
theorem all_soks {K : PySem.W.Frag} {M : Addr → Prop} {H : Hp} : ∀ {xs : List Str}, (∀ x ∈ xs, sok x) → IsAll K M H (xs.map V.str) (xs.map D.str)
  | [], _ => .nil
  | x :: xs, h => .cons (.str (h x List.mem_cons_self)) (all_soks fun y m => h y (List.mem_cons_of_mem _ m))
structure oSplit (x y : D) (k : D → Prop) : Prop where
  ex : ∃ a b, x = .str a ∧ y = .str b ∧ sepOk b = true ∧ a.length ≤ 1000 ∧ k (.lst ((Txt.split a b).map .str))
def aSplitO (ta tb : AT) : AT := fun x δ r P => ta x δ r fun d1 r1 => match d1 with | .str a => tb x δ r1 fun d2 r2 => ∃ b, d2 = .str b ∧ sepOk b = true ∧ a.length ≤ 1000 ∧ ∀ p, P (.adr p) (r2 ++ [lstA p ((Txt.split a b).map .str)]) | _ => False
section
variable {X : Cx} {W : WX} {o e : Expr} {ta tb : AT} {apos pos : Pos}
theorem d_split (ho : PD X W o ta) (he : PD X W e tb) (hs : starEach [e] X.env = [(false, eval e X.env)] := by rfl) (hbase : attributeBase o "split" X.env (eval o X.env) = eval o X.env := by rfl) (hline : (apos.endLine == pos.line) = true := by rfl) :
    PD X W (.Call (.Attribute o "split" apos) [e] [] pos) (aM1 oSplit ta tb) := imE (pe_split ho he hs hbase hline) fun σ H Q q => by
  obtain ⟨XR, δ, r, P, ok, h, k⟩ := q
  refine td_bind ok h fun d1 r1 v1 H1 h1 o1 k1 i1 => ?_
  cases i1 <;> try exact h1.elim
  rename_i z hz
  refine ⟨⟨z, rfl⟩, td_bind o1 h1 fun d2 r2 v2 H2 h2 o2 k2 i2 => ?_⟩
  obtain ⟨a, b, e1, rfl, hb, hl, h2⟩ := h2
  cases e1
  cases i2
  refine ⟨z, b, rfl, rfl, sep_len hb, by rw [sizeLine_eq]; omega, fun p hp => ?_⟩
  exact k _ r2 _ _ h2 (o2.new hp) ((k1.trans k2).trans (Kp.ext (Ext.new hp))) (new_lst o2.r hp (all_soks fun x m => (split_sok hb hz x m).1))
theorem d_splitO (ho : PD X W o ta) (he : PD X W e tb) (hs : starEach [e] X.env = [(false, eval e X.env)] := by rfl) (hbase : attributeBase o "split" X.env (eval o X.env) = eval o X.env := by rfl) (hline : (apos.endLine == pos.line) = true := by rfl) :
    PD X W (.Call (.Attribute o "split" apos) [e] [] pos) (aSplitO ta tb) := imE (pe_split ho he hs hbase hline) fun σ H Q q => by
  obtain ⟨XR, δ, r, P, ok, h, k⟩ := q
  refine td_bind ok h fun d1 r1 v1 H1 h1 o1 k1 i1 => ?_
  cases i1 <;> try exact h1.elim
  rename_i z hz
  refine ⟨⟨z, rfl⟩, td_bind o1 h1 fun d2 r2 v2 H2 h2 o2 k2 i2 => ?_⟩
  obtain ⟨b, rfl, hb, hl, h2⟩ := h2
  cases i2
  refine ⟨z, b, rfl, rfl, sep_len hb, by rw [sizeLine_eq]; omega, fun p hp => ?_⟩
  obtain ⟨q1, q2⟩ := rok_new o2.r hp (all_soks (K := X.K) fun x m => (split_sok hb hz x m).1)
  exact k _ _ _ _ (h2 p) (o2.step q2 q1) ((k1.trans k2).trans q2) (.adr p)
/-! ### methods of data lists -/
def aLm (om : List D → OC) (to : AT) (l : AL) : AT := fun x δ r P => to x δ r fun d r1 => match d with | .lst xs => l x δ r1 fun ds r2 => om xs ds fun d => P d r2 | _ => False
def LMok (K : PySem.W.Frag) (om : List D → OC) (rr : V → List V → Hp → VK → Prop) : Prop := ∀ (N : Addr → Prop) a xs ds (P : D → Prop) H vs Q, Is K N H (.ref a) (.lst xs) → IsAll K N H vs ds → om xs ds P → (∀ d v, P d → Is K N H v d → Q v H) → rr (.ref a) vs H Q
theorem d_lm {om : List D → OC} {rr : V → List V → Hp → VK → Prop} {es : List Expr} {to : AT} {l : AL} {name : Str} {id : String} {cpos : Pos} (slot : Slot "list" name id) (hty : typeOf (.builtin id) = pure (.type "method_descriptor")) (hm : MtR X id rr) (hom : LMok X.K om rr) (ho : PD X W o to) (ha : PDL X W (e :: es) l)
    (hbase : attributeBase o name X.env (eval o X.env) = eval o X.env := by rfl)
    (hfew : ((backTo cpos (starEach (e :: es) X.env)).all (fun x => !x.1) && (backToKw cpos (keywordEach [] X.env)).all (fun x => x.1.isSome)
      && decide ((e :: es).length + ([] : List Keyword).length + (if ([] : List Keyword).isEmpty then 0 else 1) < 30)) = true := by rfl)
    (hline : (apos.endLine == cpos.line) = true := by rfl) (hs : starEach (e :: es) X.env = (false, eval e X.env) :: starEach es X.env := by rfl) (hplain : (backTo cpos (starEach es X.env)).any (·.1) = false := by rfl) :
    PD X W (.Call (.Attribute o name apos) (e :: es) [] cpos) (aLm om to l) := imE (pe_bm PySem.F.plainAttrs_list slot hty hm ho ha hbase hfew hline hs hplain) fun σ H Q q => by
  obtain ⟨XR, δ, r, P, ok, h, k⟩ := q
  refine td_bind ok h fun d r1 v H1 h1 o1 k1 i1 => ?_
  cases i1 <;> try exact h1.elim
  rename_i n s al
  refine ⟨.inl ⟨rfl, _, SqL.of s⟩, tdl_bind o1 h1 fun ds r2 vs H2 h2 o2 k2 i2 => ?_⟩
  exact hom _ _ _ ds (fun d => P d r2) H2 vs Q (k2 _ _ (.lst n s al)) i2 h2 fun d v p i => k d r2 v H2 p o2 (k1.trans k2) i
def rCntF (K : PySem.W.Frag) : V → List V → Hp → VK → Prop := fun x xs H Q => ∃ (a : Addr) (ys : List V) (y : V), x = V.ref a ∧ xs = [y] ∧ SqL K H a ys ∧ flatV y = true ∧ ys.all flatV = true ∧ Q (.int (ys.countP (fun z => eqV z y) : Nat)) H
theorem cnt_vals {y : V} : ∀ {ys : List V} {us : List Value}, Vals ys us → ys.all flatV = true → us.countP (eqU y) = ys.countP (fun z => eqV z y)
  | _, _, .nil, _ => rfl
  | z :: ys, u :: us, .cons r t, f => by
    rw [List.all_cons, Bool.and_eq_true] at f
    rw [List.countP_cons, List.countP_cons, cnt_vals t f.2, eqU_of r f.1]
theorem mt_lcountF : MtR X "list.count" (rCntF X.K) := by
  intro pins s σ H x xs v us Q I rx rxs h
  obtain ⟨a, ys, y, rfl, rfl, hs, fy, fys, q⟩ := h
  cases rx
  obtain ⟨u, rfl, ru⟩ := rxs.one
  obtain ⟨its, rv, ⟨⟨cls, dd, data, sl⟩, n, ho, hc, hdn, hd⟩, hlen⟩ := I.list hs
  simp only at hc hd
  subst hc hd
  refine call_meets PySem.F.slot_list_count ⟨_, ho, rfl⟩ PySem.F.entry_list_count (PySem.F.args_list_count_2 _ _)
    (SeqAt.list_countAt a its.toArray n dd sl u (eqU y)) ⟨ho, fun z hz => mem_eqAt ru fy rv fys z (by simpa using hz), ?_⟩
  have ec : its.toArray.toList.countP (eqU y) = ys.countP (fun z => eqV z y) := cnt_vals rv fys
  refine ⟨.int (ys.countP (fun z => eqV z y) : Nat), H, I.tok _, ⟨s.toks, ?_⟩, q⟩
  show Value.int ((its.toArray.toList.countP (eqU y) : Nat) : Int) s.toks = Value.int ((ys.countP (fun z => eqV z y) : Nat) : Int) s.toks
  rw [ec]
structure oCnt (xs ds : List D) (k : D → Prop) : Prop where
  ex : ∃ (zs : List Str) (z : Str), xs = zs.map D.str ∧ ds = [.str z] ∧ k (.int (zs.countP (fun y => y == z) : Nat))
theorem strs_all {K : PySem.W.Frag} {N : Addr → Prop} {H : Hp} : ∀ {zs : List Str} {vs : List V}, IsAll K N H vs (zs.map D.str) → vs = zs.map V.str
  | [], _, h => by cases h; rfl
  | z :: zs, _, h => by
    cases h with
    | cons i t => cases i; rw [strs_all t]; rfl
theorem flat_strV (zs : List Str) : (zs.map V.str).all flatV = true := by
  rw [List.all_map, List.all_eq_true]
  exact fun _ _ => rfl
theorem lm_cnt {K : PySem.W.Frag} : LMok K oCnt (rCntF K) := by
  rintro N a xs ds P H vs Q i1 i2 ⟨zs, z, rfl, rfl, hp⟩ k
  cases i1 with
  | lst n s al =>
    have e := strs_all al
    subst e
    cases i2 with
    | cons i t =>
      cases t
      cases i
      refine ⟨a, _, _, rfl, rfl, SqL.of s, rfl, flat_strV zs, ?_⟩
      rw [List.countP_map]
      exact k _ _ hp (.int _)
structure oIdx (xs ds : List D) (k : D → Prop) : Prop where
  ex : ∃ (zs : List Str) (z : Str) (j : Nat), xs = zs.map D.str ∧ ds = [.str z] ∧ zs[j]? = some z ∧ z ∉ zs.take j ∧ k (.int (j : Nat))
theorem lm_idx {K : PySem.W.Frag} : LMok K oIdx (rIndex K) := by
  rintro N a xs ds P H vs Q i1 i2 ⟨zs, z, j, rfl, rfl, hj, hno, hp⟩ k
  cases i1 with
  | lst n s al =>
    have e := strs_all al
    subst e
    cases i2 with
    | cons i t =>
      cases t
      cases i
      refine ⟨a, _, _, j, .str z, rfl, rfl, SqL.of s, rfl, flat_strV zs, by rw [List.getElem?_map, hj]; rfl, by show (z == z) = true; simp, fun m z' hm hz' => ?_, k _ _ hp (.int _)⟩
      rw [List.getElem?_map] at hz'
      cases q : zs[m]? with
      | none => rw [q] at hz'; cases hz'
      | some y =>
        rw [q] at hz'
        cases hz'
        show (y == z) = false
        have : ¬ y = z := fun e => hno (e ▸ List.mem_take_iff_getElem.mpr ⟨m, by have := (List.getElem?_eq_some_iff.mp q).1; omega, (List.getElem?_eq_some_iff.mp q).2⟩)
        simpa using this
theorem d_count {to : AT} {l : AL} {cpos : Pos} (ho : PD X W o to) (ha : PDL X W [e] l) (hbase : attributeBase o "count" X.env (eval o X.env) = eval o X.env := by rfl)
    (hfew : ((backTo cpos (starEach [e] X.env)).all (fun x => !x.1) && (backToKw cpos (keywordEach [] X.env)).all (fun x => x.1.isSome)
      && decide (([e] : List Expr).length + ([] : List Keyword).length + (if ([] : List Keyword).isEmpty then 0 else 1) < 30)) = true := by rfl)
    (hline : (apos.endLine == cpos.line) = true := by rfl) (hs : starEach [e] X.env = (false, eval e X.env) :: starEach [] X.env := by rfl) (hplain : (backTo cpos (starEach [] X.env)).any (·.1) = false := by rfl) : PD X W (.Call (.Attribute o "count" apos) [e] [] cpos) (aLm oCnt to l) :=
  d_lm PySem.F.slot_list_count PySem.F.type_list_count mt_lcountF lm_cnt ho ha hbase hfew hline hs hplain
theorem d_index {to : AT} {l : AL} {cpos : Pos} (ho : PD X W o to) (ha : PDL X W [e] l) (hbase : attributeBase o "index" X.env (eval o X.env) = eval o X.env := by rfl)
    (hfew : ((backTo cpos (starEach [e] X.env)).all (fun x => !x.1) && (backToKw cpos (keywordEach [] X.env)).all (fun x => x.1.isSome)
      && decide (([e] : List Expr).length + ([] : List Keyword).length + (if ([] : List Keyword).isEmpty then 0 else 1) < 30)) = true := by rfl)
    (hline : (apos.endLine == cpos.line) = true := by rfl) (hs : starEach [e] X.env = (false, eval e X.env) :: starEach [] X.env := by rfl) (hplain : (backTo cpos (starEach [] X.env)).any (·.1) = false := by rfl) : PD X W (.Call (.Attribute o "index" apos) [e] [] cpos) (aLm oIdx to l) :=
  d_lm PySem.F.slot_list_index PySem.F.type_list_index mt_index lm_idx ho ha hbase hfew hline hs hplain
/-- tuple(an own list), the list kept -/
structure oTupO (r : Rs) (ds : List D) (k : D → Prop) : Prop where
  ex : ∃ l xs, ds = [.adr l] ∧ Own r l xs ∧ k (.tup xs)
theorem c_tupO : CallR X (.type "tuple") (rC2 X.K oTupO) := by
  rintro pins s σ H vs us Q I rv ⟨r, ds, P, hr, i, ⟨l, xs, rfl, ow, ho⟩, k⟩
  obtain ⟨ws, h1, h2⟩ := own_get hr ow
  cases i with
  | cons i t =>
    cases t
    cases i
    exact call_tuple_of pins s σ H _ us Q I rv ⟨_, _, rfl, .inl ⟨SqL.of h1, fun p hp => k _ _ _ ho (Ext.new hp) (new_tup hp h2)⟩⟩
theorem d_ty2 {T : String} {oo : Rs → OC} {es : List Expr} {l : AL} {x : Str} {p : Pos} (hc : CallR X (.type T) (rC2 X.K oo)) (hg : Gl X x) (hm : X.mg x = none) (ha : PDL X W (e :: es) l) (hv : bootBuiltins x = some (.type T) := by decide +kernel) (hn : x ≠ "__name__" := by decide) (hdb : (x == ("__debug__" : Str)) = false := by decide)
    (he : starEach (e :: es) X.env = (false, eval e X.env) :: starEach es X.env := by rfl) (hpl : (backTo pos (starEach es X.env)).any (·.1) = false := by rfl) : PD X W (.Call (.Name x p) (e :: es) [] pos) (aBlt2 oo l) :=
  imE (pe_callTy hc hg hm hv ha hn hdb he hpl) fun _ _ _ q => tcb2 q
/-- x[i], y[j] = a, b: own lists -/
structure setO (r : Rs) (d di y : D) (k : Rs → Prop) : Prop where
  ex : ∃ a pre xs post, ∃ n : Nat, d = .adr a ∧ di = .int n ∧ r = pre ++ lstA a xs :: post ∧ n < xs.length ∧ k (pre ++ lstA a (xs.set n y) :: post)
theorem setO_go {K : PySem.W.Frag} {W : WX} {XR : XT} {r : Rs} {δ : Dl} {σ : L2.St} {H : Hp} {d di y : D} {v vi vy : V} {k : Rs → Prop} {Q : Hp → Prop} (o : Ok K W XR r δ σ H) (i1 : Is K (mem r) H v d) (i2 : Is K (mem r) H vi di) (i3 : Is K (mem r) H vy y) (h : setO r d di y k)
    (q : ∀ r' H', k r' → Ok K W XR r' δ σ H' → Kp K r H r' H' → Q H') : rSetL v vi vy H Q := by
  obtain ⟨a, pre, xs, post, n, rfl, rfl, rfl, hn, h3⟩ := h
  cases i1
  cases i2
  obtain ⟨ws, e1, e2⟩ := own_mid o.r
  obtain ⟨q1, q2⟩ := own_put o.r (set_all i3 n e2)
  refine ⟨a, ws, n, n, rfl, rfl, e1, ?_, q _ _ h3 (o.step q2 q1) q2⟩
  unfold ixN
  rw [e2.length, if_pos (by omega), if_pos (by omega)]
  rfl
def sSet2O (te to1 ti1 to2 ti2 : AT) : AS := fun A δ r => te A.xr δ r fun d r1 => ∃ y1 y2, d = .tup [y1, y2] ∧ to1 A.xr δ r1 fun d1 r2 => ti1 A.xr δ r2 fun e1 r3 => setO r3 d1 e1 y1 fun r4 => to2 A.xr δ r4 fun d2 r5 => ti2 A.xr δ r5 fun e2 r6 => setO r6 d2 e2 y2 fun r7 => A.nx δ r7
theorem s_set2O {o1 i1 o2 i2 value : Expr} {te to1 ti1 to2 ti2 : AT} {p1 p2 tp pos : Pos} {kk : Nat} (he : PD X W value te) (h1 : PD X W o1 to1) (h2 : PD X W i1 ti1) (h3 : PD X W o2 to2) (h4 : PD X W i2 ti2) (hc : X.calm = true := by rfl)
    (ha : ∀ v, assign (.Subscript o1 i1 p1) X.env v = (do
      let ov ← holding [v] (eval o1 X.env)
      let iv ← holding [v, ov] (eval i1 X.env)
      standAt p1
      holding [v, ov, iv] (setItem ov iv v)
      release [v, ov, iv] []) := by intro _; rfl)
    (hb : ∀ v, assign (.Subscript o2 i2 p2) X.env v = (do
      let ov ← holding [v] (eval o2 X.env)
      let iv ← holding [v, ov] (eval i2 X.env)
      standAt p2
      holding [v, ov, iv] (setItem ov iv v)
      release [v, ov, iv] []) := by intro _; rfl)
    (hn : (assignEach [.Subscript o1 i1 p1, .Subscript o2 i2 p2] X.env).length = 2 := by rfl) (hst : (assignEach [.Subscript o1 i1 p1, .Subscript o2 i2 p2] X.env).findIdx? (·.1) = none := by rfl)
    (hq1 : (assignEach [.Subscript o1 i1 p1, .Subscript o2 i2 p2] X.env).map (·.2) = assign (.Subscript o1 i1 p1) X.env :: (assignEach [.Subscript o2 i2 p2] X.env).map (·.2) := by rfl)
    (hq2 : (assignEach [.Subscript o2 i2 p2] X.env).map (·.2) = assign (.Subscript o2 i2 p2) X.env :: (assignEach [] X.env).map (·.2) := by rfl)
    (hs : swapsWithSole [.Tuple [.Subscript o1 i1 p1, .Subscript o2 i2 p2] kk tp] value pos.line X.env = pure false := by rfl) (hw : swappedStores [.Tuple [.Subscript o1 i1 p1, .Subscript o2 i2 p2] kk tp] value X.env = pure none := by rfl)
    (h1' : (assignEach [.Tuple [.Subscript o1 i1 p1, .Subscript o2 i2 p2] kk tp] X.env).map (·.2) = [assign (.Tuple [.Subscript o1 i1 p1, .Subscript o2 i2 p2] kk tp) X.env] := by rfl) :
    PSD X W (.Assign [.Tuple [.Subscript o1 i1 p1, .Subscript o2 i2 p2] kk tp] value pos) (sSet2O te to1 ti1 to2 ti2) :=
  imS (ps_asg he (pg_tup hc (pgs_cons (pg_sub h1 h2 set_list ha) (pgs_cons (pg_sub h3 h4 set_list hb) pgs_nil hq2) hq1) hn hst) hs hw h1') fun Dd σ H ⟨δ, r, A, ok, h, f⟩ => td_bind ok h fun d r1 v H1 g1 w1 k1 j1 => by
    obtain ⟨y1, y2, rfl, g1⟩ := g1
    cases j1 with
    | tup s al =>
      cases al with
      | cons ja al =>
        cases al with
        | cons jb al =>
          cases al
          refine ⟨_, _, rfl, s, rfl, _, _, rfl, td_bind w1 g1 fun d1 r2 v1 H2 g2 w2 k2 j2 => td_bind w2 g2 fun e1 r3 v2 H3 g3 w3 k3 j3 => ?_⟩
          refine setO_go w3 (k3 _ _ j2) j3 (k3 _ _ (k2 _ _ ja)) g3 fun r4 H4 g4 w4 k4 => ?_
          refine ⟨_, _, rfl, td_bind w4 g4 fun d2 r5 v3 H5 g5 w5 k5 j5 => td_bind w5 g5 fun e2 r6 v4 H6 g6 w6 k6 j6 => ?_⟩
          refine setO_go w6 (k6 _ _ j5) j6 (k6 _ _ (k5 _ _ (k4 _ _ (k3 _ _ (k2 _ _ jb))))) g6 fun r7 H7 g7 w7 k7 => ?_
          exact ⟨rfl, f.nx _ _ _ _ g7 w7 ((((((k1.trans k2).trans k3).trans k4).trans k5).trans k6).trans k7)⟩
    | _ => cases j1
end
end G
namespace G
open PySem PySem.Spec L2
/-! ### a new list of our own -/
def aAddO (ta tb : AT) : AT := fun x δ r P => ta x δ r fun d1 r1 => tb x δ r1 fun d2 r2 => ∃ xs ys, d1 = .lst xs ∧ d2 = .lst ys ∧ small (xs.length + ys.length) ∧ ∀ p, P (.adr p) (r2 ++ [lstA p (xs ++ ys)])
theorem d_addO {X : Cx} {W : WX} {a b : Expr} {ta tb : AT} {pos : Pos} (ha : PD X W a ta) (hb : PD X W b tb) : PD X W (.BinOp a .Add b pos) (aAddO ta tb) := imE (pe_op op_cat ha hb) fun σ H Q q => by
  obtain ⟨XR, δ, r, P, ok, h, k⟩ := q
  refine td_bind ok h fun d1 r1 v1 H1 h1 o1 k1 i1 => td_bind o1 h1 fun d2 r2 v2 H2 h2 o2 k2 i2 => ?_
  obtain ⟨xs, ys, rfl, rfl, hz, h3⟩ := h2
  have j1 := k2 _ _ i1
  cases j1 with
  | lst n1 s1 a1 =>
    cases i2 with
    | lst n2 s2 a2 =>
      refine ⟨_, _, _, _, rfl, rfl, s1, s2, by rw [a1.length, a2.length]; exact hz.sz, fun p hp => ?_⟩
      obtain ⟨q1, q2⟩ := rok_new o2.r hp (a1.append a2)
      exact k _ _ _ _ (h3 p) (o2.step q2 q1) ((k1.trans k2).trans q2) (.adr p)
end G

/-! own errors whose __init__ says super().__init__(text) and stores its argument -/
namespace G
open PySem PySem.Spec L2 PySem.W PyProof.Rows
/-- what the written part says of such a class at C: its __init__ at f stores under fld -/
structure ErrK (P : Program) (K : Frag) (mg : Str → Option Value) (C : Addr) : Prop where
  cls : OexC K C
  mro : mroIn K C (.ref C) = some true
  sub : subIn K (.ref C) (.type "ValueError") = some true
  sup : ks_superIn K C C "__init__" = some (some (.builtin "ValueError.__init__"))
  opq : nsIn K cStatics "thirdparty.any" = some none
  mgs : mg "super" = none
  top : (P.main.scope.names.lookup ("super" : Str)).isSome = false
def spEI (C : Addr) (fld : Str) : Sp := fun vs H Q _ => ∃ (a : Addr) (v : V), vs = [.ref a, v] ∧ H a = some (exo a C none) ∧ ∀ dx, H dx = none → dx ≠ a → Q .non (upd (upd H dx (exd dx [(fld, v)])) a (exo a C (some dx)))
def cxE (P : Program) (w : World) (K : Frag) (mg : Str → Option Value) (base : Heap) (N : List Str) (qual : Str) (scope : Scope) (f : Addr) (cda cc : Addr) (A : Around) (outer : List Env) (s : Shared) (H : Hp) (xe : Value → Shared → Prop) : Cx where
  prog := P
  w := w
  K := K
  mg := mg
  base := base
  A := A.deeper (ksEnv qual scope s.heap.objs.size f (.ref cda) cc)
  N := N
  s_0 := s
  H_0 := H
  env := ksEnv qual scope s.heap.objs.size f (.ref cda) cc
  outer := outer
  stack := ksEnv qual scope s.heap.objs.size f (.ref cda) cc :: outer
  ex := []
  calm := true
  fn := fun _ => false
  pn := []
  xe := xe
section
variable {P : Program} {w : World} {K : Frag} {mg : Str → Option Value} {base : Heap}
theorem exinit {C fI cc cda : Addr} {cd0 : ClassData} {prm fld : Str} {qual name : Str} {params : Arguments} {scope : Scope} {dV kV doc pm cdv ct oc ccl cl : Value} {an od cdd cld : Option Addr} {osl ccs csl : Array (Option Value)} {vs0 : Array Value} {file : Str} {tf : Tok}
    {p0 p1 p2 p3 p4 p5 p6 p7 p8 p9 : Pos} {txt : Str} {j : Nat} {jj : _}
    (T : ErrK P K mg C)
    (lk : K.lookup fI = some ⟨oc, od, .func (ksFn name qual params [.Expr (.Call (.Attribute (.Call (.Name "super" p0) [] [] p1) "__init__" p2) [.Constant (.str txt) jj p3] [] p4) p5, .Assign [.Attribute (.Name "self" p6) fld p7] (.Name prm p8) p9] scope dV kV doc pm an (.ref cda) ct cc), osl⟩)
    (hcd : codeIn K (.ref cda) qual = true) (hD : clsIn K C = some cd0) (hno : findIn K (.ref C) fld = some none)
    (hcode : K.lookup cda = some ⟨ccl, cdd, .fields vs0, ccs⟩) (hvs : vs0[2]? = some (.str file tf)) (hfile : ((P.main.file : Str) == file) = true)
    (hcell : K.lookup cc = some ⟨cl, cld, .cell (some (.ref C)), csl⟩)
    (hp : ∃ ar : Arg, (params.posonlyargs ++ params.args).head? = some ar ∧ ar.arg = "self")
    (hnm : scope.names.lookup ("self" : Str) = some .local ∧ scope.names.lookup prm = some .local ∧ scope.names.lookup ("super" : Str) = some .globalImplicit ∧ scope.names.lookup ("__class__" : Str) = some .free)
    (hfree : ∀ x, scope.names.lookup x = some .cell ∨ scope.names.lookup x = some .free → x = "__class__") (hcl : ∀ x ∈ scope.names, x.2 ≠ .cell)
    (hsc : scope.isCoroutine = false ∧ scope.isGenerator = false ∧ scope.kind = .function) (hps : ("self" : Str) ≠ prm) (hcdbg : (prm == ("__debug__" : Str)) = false ∧ (prm == ("__classdict__" : Str)) = false)
    (hin : ∀ L, interactive (ksEnv qual scope L fI (.ref cda) cc) = false)
    (hpl1 : ∀ L, swapsWith (.Call (.Attribute (.Call (.Name "super" p0) [] [] p1) "__init__" p2) [.Constant (.str txt) jj p3] [] p4) none p5.line (ksEnv qual scope L fI (.ref cda) cc) = pure false)
    (hev : ∀ L, ∃ pl : Sem Bool, eval (.Call (.Attribute (.Call (.Name "super" p0) [] [] p1) "__init__" p2) [.Constant (.str txt) jj p3] [] p4) (ksEnv qual scope L fI (.ref cda) cc) = (do
      let ov ← attributeBase (.Call (.Name "super" p0) [] [] p1) "__init__" (ksEnv qual scope L fI (.ref cda) cc) (eval (.Call (.Name "super" p0) [] [] p1) (ksEnv qual scope L fI (.ref cda) cc))
      standAt p2.atName
      let (f, first) ← holding [ov] (getMethod ov "__init__" pl)
      callWith p4 f first (backTo p4 (starEach [.Constant (.str txt) jj p3] (ksEnv qual scope L fI (.ref cda) cc))) []))
    (hpl2 : ∀ L, swapsWith (.Name prm p8) (some (.Attribute (.Name "self" p6) fld p7)) p9.line (ksEnv qual scope L fI (.ref cda) cc) = pure false) :
    FnOk P w K mg base CX0 1 fI (ksFn name qual params [.Expr (.Call (.Attribute (.Call (.Name "super" p0) [] [] p1) "__init__" p2) [.Constant (.str txt) jj p3] [] p4) p5, .Assign [.Attribute (.Name "self" p6) fld p7] (.Name prm p8) p9] scope dV kV doc pm an (.ref cda) ct cc) ["self", prm] (spEI C fld) := by
  refine ⟨fun vs H Q E ⟨a, v, e, _⟩ => by rw [e]; rfl, fun A outer s H args us vs Q E hr e0 hb r hsp => ?_⟩
  obtain ⟨a, v, rfl, hea, hq⟩ := hsp
  obtain ⟨u, rfl, rv⟩ : ∃ u, us = [.ref a, u] ∧ RelV v u := by
    match us, r with
    | [_, u], .cons ra (.cons rv .nil) => exact ⟨u, by rw [show _ = Value.ref a from ra], rv⟩
  have KX : K.In s.heap := e0.mod.kin.keeps fun b o e => (e0.bs b o e).1
  have lim : s.heap.NoLimit := e0.mod.nolimit.keeps fun b o e => (e0.bs b o e).1
  refine ks_codeAny_call_defAt hr.depth (KX _ _ lk) rfl lim (codeRec_of KX hcd) rfl hb hcl (fun x hx => ?_) (fun h₀ hns hk => ?_) hsc.1 hsc.2.1 hsc.2.2
  · simp only [List.zip_cons_cons, List.zip_nil_right, List.mem_cons, List.not_mem_nil, or_false] at hx
    rcases hx with rfl | rfl
    · exact hnm.1
    · exact hnm.2.1
  have kX : K.In h₀ := KX.keeps hk
  have hcc : H cc = none := (e0.bs _ _ (e0.mod.kin _ _ hcell)).2
  have lkc : ∀ {x : Str} {c : Addr}, List.lookup x [(("__class__" : Str), cc)] = some c → x = "__class__" ∧ c = cc := fun {x c} h => by
    by_cases e : x = "__class__"
    · subst e
      simp at h
      exact ⟨rfl, h.symm⟩
    · have e2 : (x == ("__class__" : Str)) = false := by simpa using e
      simp [List.lookup, e2] at h
  have hm1 : ((("self" : Str), Value.ref a) :: (prm, u) :: []).reverse.lookup ("self" : Str) = some (.ref a) := by
    have : (("self" : Str) == prm) = false := by simpa using hps
    simp [List.lookup, this]
  have hm2 : ((("self" : Str), Value.ref a) :: (prm, u) :: []).reverse.lookup prm = some u := by
    simp [List.lookup]
  have hns' : h₀.Ns s.heap.objs.size fun x => ((("self" : Str), Value.ref a) :: (prm, u) :: []).reverse.lookup x := hns
  have I : L2.Inv (cxE P w K mg base ["self", prm] qual scope fI cda cc A outer s H fun _ _ => False) [] [some (.ref a), some v] H { s with heap := h₀, toks := s.toks + 2 } := by
    refine ⟨⟨e0.mod, hsc.2.2, rfl, rfl, Nat.le_refl _, fun x y c h1 h2 => ?_, fun x hx => ?_, fun x c z _ => (by cases z), fun _ => hr.hd, Around.frames_deeper e0.frames, .inr ⟨rfl, rfl⟩, fun b z => (by cases z), e0.bs, e0.bsz, fun b o _ z => (by cases z), fun b z => (by cases z), e0.funs, e0.frf⟩,
      rfl, e0.bare, Un.kept hk, ⟨_, hns', fun i x v' h1 h2 h3 => ?_⟩, fun x c h => ?_, e0.hok.fresh (Nat.le_refl _), fun x c h => ?_, fun p z => (by cases z), e0.hok.kept hk, rfl⟩
    · rw [(lkc h1).1, (lkc h2).1]
    · have := hfree x hx
      subst this
      exact ⟨cc, by simp [cxE, ksEnv, envX]⟩
    · match i, h1, h2 with
      | 0, h1, h2 =>
        cases h1
        cases h2
        exact ⟨_, rfl, .inl ⟨hnm.1, hm1⟩⟩
      | 1, h1, h2 =>
        cases h1
        cases h2
        exact ⟨u, rv, .inl ⟨hnm.2.1, hm2⟩⟩
    · rw [(lkc h).2]
      exact ⟨_, _, kX _ _ hcell, rfl⟩
    · rw [(lkc h).2]
      exact hcc
  obtain ⟨ar, hp1, hp2⟩ := hp
  obtain ⟨pl, hev⟩ := hev s.heap.objs.size
  -- super().__init__(text)
  refine ks_wpAt_execs_cons (ks_wpAt_Expr_any (ks_wpAt_MethodCall (c := _) (ks_wpAt_super_base (env := ksEnv qual scope s.heap.objs.size fI (.ref cda) cc) hnm.2.2.1 hnm.2.2.2 rfl rfl (kX _ _ lk) rfl hp1 rfl (kX _ _ hcode) rfl hvs hfile T.top ?_) hev) (hin _) (hpl1 _))
  obtain ⟨mb, hmb, hmb2⟩ := e0.mod.blt
  have kb : ∀ b o, base.get? b = some o → h₀.get? b = some o := fun b o e => hk _ _ (e0.bs b o e).1
  refine ks_loadName_global hsc.2.2 hnm.2.2.1 (PySem.Calls.loadGlobal_builtin (env := ksEnv qual scope s.heap.objs.size fI (.ref cda) cc) (e0.mod.glob.keeps kb) T.mgs (hmb.keeps kb) ((hmb2 _ (by decide +kernel)).trans PyProof.Rows.Boot.super) ⟨rfl, ?_⟩)
  refine wpAny_loadName_free hsc.2.2 hnm.2.2.2 rfl ⟨_, kX _ _ hcell, rfl⟩ ?_
  rw [hp2]
  refine wpAny_loadName_local hsc.2.2 hnm.1 hns' hm1 ?_
  obtain ⟨t1, ho⟩ := exo_at I.hok hea
  obtain ⟨oD, hD1, hD2⟩ : ∃ oD, h₀.get? C = some oD ∧ oD.data = .cls cd0 := by
    unfold clsIn at hD
    split at hD
    · rename_i c d cd' sl ho
      cases hD
      exact ⟨_, kX _ _ ho, rfl⟩
    · cases hD
  refine ks_wpAny_isType_cls hD1 hD2 ⟨rfl, ?_⟩
  replace ho : h₀.get? a = _ := ho
  refine ks_wpAny_call_super hD1 hD2 ho rfl (fun c e => by cases e) (looks_mroIn kX T.mro) (fun h2 hso k2 => ?_)
  have kX2 : K.In h2 := kX.keeps k2
  have hne : a ≠ C := fun e => by
    subst e
    rw [hD1] at ho
    cases ho
    cases hD2
  have hmro : ∃ l, alongIn K "__init__" l = some (some (.builtin "ValueError.__init__")) ∧ (cd0.mro.dropWhile (· != .ref C)).drop 1 = l := by
    have q := T.sup
    unfold ks_superIn at q
    rw [hD] at q
    exact ⟨_, q, rfl⟩
  obtain ⟨ml, hml, hdl⟩ := hmro
  have ho2 := k2 _ _ ho
  have hI2 : Looks (model P w) h2 (isInstance (.ref a) (.type "ValueError")) true := (InstAt.type (show InstAt h2 a _ C none from ⟨ho2, rfl, rfl, trivial⟩)).andThen (looks_subIn kX2 T.sub)
  refine kxs_getMethod kxs_ValueError hso (looks_opaque kX2 T.opq) (l₀ := cd0.mro) (fun A Q E s k q => wpAny_bind ((looks_clsIn kX2 hD) A _ E s k (wpAny_pure q))) hdl kX2 hml hI2 hne rfl ?_
  have hlt : h₀.objs.size < h2.objs.size := Heap.lt_size hso
  have hsz : h₀.objs.size ≤ h2.objs.size := Nat.le_of_lt hlt
  have k3 : ∀ b o, h₀.get? b = some o → (h2.push (kxs_mw "ValueError.__init__" a)).get? b = some o := fun b o e => Heap.get?_push_of_some _ (k2 b o e)
  have hu3 : (h2.push (kxs_mw "ValueError.__init__" a)).get? h2.objs.size = some (kxs_mw "ValueError.__init__" a) := Heap.get?_push_size h2 rfl
  have J3 := ClX.pin_new (t' := s.toks + 2 + 1) I k3 hsz hu3 (fun v e => by cases e)
  dsimp only
  refine kxs_callWith (i := "ValueError.__init__") (x := a) rfl ?_
  refine PySem.Calls.evalArgs_plain ?_
  refine wpAny_mono (((pa_cons (X := cxE P w K mg base ["self", prm] qual scope fI cda cc A outer s H fun _ _ => False) (e := .Constant (.str txt) jj p3) (es := []) pe_str pa_nil).run p4 _ _ _ H (fun vs H' => vs = [.str txt] ∧ H' = H) J3 ⟨rfl, rfl⟩)) (fun vs s4 ⟨ws, H4, I4, r4, e4, e5⟩ => ?_) (fun _ _ z => False.elim z)
  subst e4
  have e5' := e5.symm
  subst e5'
  have hu4 : s4.heap.get? h2.objs.size = some (kxs_mw "ValueError.__init__" a) := ClX.pin_at I4
  have J4 := ClX.unpin I4
  refine ⟨hu4, ?_⟩
  obtain ⟨t4, ho4⟩ := exo_at J4.hok hea
  obtain ⟨hp4, g4, d4, tk4, os4⟩ := s4
  have hl4 : vs.length ≤ sizeLine := by
    rw [← r4.length]
    show 1 ≤ sizeLine
    rw [sizeLine_eq]
    omega
  obtain ⟨nm, q, N, bs, bm, sn, sub, ab, col, dd, k0, k1, k2', k3', k5, hC, hbm⟩ := T.cls.cls
  refine wpAny_call (codeAny_of_tree ?_)
  show wpAny _ _ (callAny (.ref h2.objs.size) ⟨vs, []⟩) _ _ _
  simp only [callAny]
  refine wpAny_bind (wpAny_load hu4 ?_)
  simp only [kxs_mw, show (Value.type "method-wrapper" == Value.type "method" || Value.type "method-wrapper" == Value.type "builtin_function_or_method" || Value.type "method-wrapper" == Value.type "method-wrapper") = true by decide, if_true]
  refine KFB.if_so (by decide) ?_
  refine wpAny_bind (check_bound_init F.excBase_ValueError.toExcCallFacts (J4.kIn _ _ hC) ho4 rfl ?_)
  refine wpAny_bind (wpAny_pure (wpAny_pure ?_))
  refine ⟨plainId_quiet F.excBase_ValueError.init.plain _, codeAny_builtin F.excBase_ValueError.initEntry ?_⟩
  refine exc_init_tree (cls := .ref C) (t0 := t4) (dv := none) (c2 := .none) (c3 := .none) (b4 := .bool false) ho4 hl4 fun h5 kk5 ho5 _ => ?_
  have J5 := J4.write (t' := tk4) (x := a) (e := a) (o := exo a C none) (by rw [hea]; exact True.intro) (.inl rfl) kk5 ⟨_, ho5⟩ (exo_ok ho5)
  have eu : upd H a (exo a C none) = H := by
    funext b
    by_cases hb : b = a
    · rw [hb, upd_same, hea]
    · rw [upd_ne hb]
  rw [eu] at J5
  dsimp only
  refine wpAt_of_wpAny (wpAny_mono ((pss_one (ps_ost (X := cxE P w K mg base ["self", prm] qual scope fI cda cc A outer s H fun _ _ => False) (pe_var (i := 0) rfl (.inl hnm.1)) (pe_var (i := 1) rfl (.inl hnm.2.1) hcdbg.1 hcdbg.2) (hpl2 _))).run [] _ _ H { nx := fun _ H' => Q .non H', rt := Q } J5 ⟨v, rfl, .ref a, rfl, a, C, rfl, T.cls, hno, .inl ⟨hea, fun dx n1 n2 => hq dx n1 n2⟩⟩) (fun fl s' hs => ?_) fun _ _ z => False.elim z)
  cases fl with
  | next =>
    obtain ⟨σ', H', J, q⟩ := hs
    exact ⟨.non, H', J.os, J.bare, J.base, J.hok, rfl, q⟩
  | ret u =>
    obtain ⟨v, σ', H', J, rv, q⟩ := hs
    exact ⟨v, H', J.os, J.bare, J.base, J.hok, rv, q⟩
  | brk =>
    obtain ⟨_, _, _, q⟩ := hs
    exact False.elim q
  | cont =>
    obtain ⟨_, _, _, q⟩ := hs
    exact False.elim q
end
end G

/-! try with clauses that name what they catch, or don't -/
namespace L2
open PySem PySem.Spec PyProof.Rows
/-- what the clauses wish of an exception of the body, one after the other; some i: the slot of the clause's name -/
def wManyA (K : PySem.W.Frag) (Wout : WX) (D : Ends) : List (Value × Option Nat × (Addr → Value → Option Addr → TS)) → WX
  | [] => Wout
  | (c, none, ts) :: r => fun cls d σ H => ∃ b, PySem.W.exmOne K cls c = some b ∧ (b = true → ∀ a, H a = none → ts a cls d D σ H) ∧ (b = false → wManyA K Wout D r cls d σ H)
  | (c, some i, ts) :: r => fun cls d σ H => ∃ b, PySem.W.exmOne K cls c = some b ∧
      (b = true → ∀ a, H a = none → ts a cls d { nx := fun σ' H' => D.nx (σ'.set i none) H', rt := D.rt, bk := fun σ' H' => D.bk (σ'.set i none) H', ct := fun σ' H' => D.ct (σ'.set i none) H' } (σ.set i (some (.ref a))) H) ∧ (b = false → wManyA K Wout D r cls d σ H)
inductive HdsA (X : Cx) : List ExceptHandler → List (Value × Option Nat × (Addr → Value → Option Addr → TS)) → Prop
  | nil : HdsA X [] []
  | cons {x : Str} {c : Value} {ts : Addr → Value → Option Addr → TS} {b₀ : Stmt} {suite : List Stmt} {np pos' : Pos} {hds : List ExceptHandler} {l : List (Value × Option Nat × (Addr → Value → Option Addr → TS))} (hc : Names X x c)
      (hsu : ∀ (a : Addr) (oe : Obj) (cls : Value) (d : Option Addr) (pn : List (Addr × Obj)), Zc cls d oe → (∃ vs, oe.data = .fields vs) → PSs (X.suite a ((a, oe) :: pn)) (b₀ :: suite) (ts a cls d)) (r : HdsA X hds l) :
      HdsA X (.ExceptHandler (some (.Name x np)) none (b₀ :: suite) pos' :: hds) ((c, none, ts) :: l)
  | as {x n : Str} {i : Nat} {c : Value} {ts : Addr → Value → Option Addr → TS} {b₀ : Stmt} {suite : List Stmt} {np pos' : Pos} {hds : List ExceptHandler} {l : List (Value × Option Nat × (Addr → Value → Option Addr → TS))} (hN : X.N.Nodup) (hi : X.N[i]? = some n) (hln : X.env.kindOf n = some .local) (hc : Names X x c)
      (hsu : ∀ (a : Addr) (oe : Obj) (cls : Value) (d : Option Addr) (pn : List (Addr × Obj)), Zc cls d oe → (∃ vs, oe.data = .fields vs) → PSs (X.suite a ((a, oe) :: pn)) (b₀ :: suite) (ts a cls d)) (r : HdsA X hds l) :
      HdsA X (.ExceptHandler (some (.Name x np)) (some n) (b₀ :: suite) pos' :: hds) ((c, some i, ts) :: l)
section
variable {X : Cx} {body : List Stmt} {h₀ : ExceptHandler} {hds : List ExceptHandler} {l : List (Value × Option Nat × (Addr → Value → Option Addr → TS))} {pos : Pos} {tb : WX → TS} {Wout : WX}
theorem ps_try_manyA (hs : X.stack = X.env :: X.outer) (hf : X.env.frame = some X.env.locals) (tk : Takes X Wout)
    (hb : ∀ (W : WX) (pn : List (Addr × Obj)) (xe : Value → Shared → Prop), Takes (X.tr pn xe) W → PassesOwn (model X.prog X.w) X.A X.env xe → PSs (X.tr pn xe) body (tb W))
    (hh : HdsA X (h₀ :: hds) l) : PS X (.Try body (h₀ :: hds) [] [] pos) (fun D σ H => tb (wManyA X.K Wout D l) D σ H) := by
  refine ⟨fun pins s σ H D I h => ?_⟩
  have ok := I.ok
  have hfr : X.A.frames = some (X.env :: X.outer) := by rw [ok.frames, hs]
  refine wpAny_Try_except ?_
  refine wpAny_mono ((hb (wManyA X.K Wout D l) (X.pn ++ pins) (fun e s₁ => wpAny (model X.prog X.w) X.A (noteFrame e X.env) (fun _ s₂ => wpAny (model X.prog X.w) X.A (setFlight e none) (fun _ s₃ =>
    wpAny (model X.prog X.w) X.A (handleBy e X.env (h₀ :: hds)) (SP X pins D) X.xe s₃) X.xe s₂) X.xe s₁) (fun u s' xx => ?_) PassesOwn.looking).run [] s σ H D (I.toTry _) h) (fun f s1 hsp => ?_) (fun e s1 he => he)
  · obtain ⟨a, B, sI, pins', σ', H', cls, d, rfl, J', nb, up, sky, na, os, ag, w⟩ := xx
    have J : Inv X pins σ' H' sI := J'.ofTry ok
    have sky' : Sky B (X.env :: X.outer) a (Zc cls d) X.env.locals s'.heap := by rw [← hs]; exact sky
    show wpAny (model X.prog X.w) X.A (noteFrame (.ref a) X.env) _ _ _
    refine Sky.land Zc.steady hfr hf sky' fun h3 fl3 up3 => ?_
    have J3 : Inv X pins σ' H' { s' with heap := h3 } := J.landed nb fl3.1 (up.trans up3) os ag
    obtain ⟨oe3, vs3, he3, hz3, hd3⟩ := fl3.there
    have notFr : ∀ {h : Heap} {o : Obj} {vs : Array Value}, h.FunFrames B (X.env :: X.outer) → h.get? a = some o → o.data = .fields vs → a ∉ frs (X.env :: X.outer) := fun {h o vs} ff e dd hm => by
      obtain ⟨_, o', e', hnf⟩ := ff.mem hm
      rw [e] at e'; cases e'
      exact hnf _ dd
    have nfr := notFr fl3.2.2.1 he3 hd3
    have nL : a ≠ X.env.locals := fun z => nfr (List.mem_filterMap.mpr ⟨X.env, List.mem_cons_self, by rw [hf, z]⟩)
    have nF : a ∉ X.fs := fun hm => by
      obtain ⟨e, he, q⟩ := List.mem_filterMap.mp hm
      exact nfr (List.mem_filterMap.mpr ⟨e, List.mem_cons_of_mem _ he, q⟩)
    have S3 := J3.suite he3 hd3 na nL nF
    have go : ∀ {hds' : List ExceptHandler} {l' : List (Value × Option Nat × (Addr → Value → Option Addr → TS))}, HdsA X hds' l' → wManyA X.K Wout D l' cls d σ' H' →
        wpAny (model X.prog X.w) X.A (handleBy (.ref a) X.env hds') (SP X pins D) X.xe { s' with heap := h3 } := by
      intro hds' l' hk
      induction hk with
      | nil =>
        intro w
        refine wpAny_handleBy_nil ?_
        obtain ⟨k1, k2, k3, oe, vs, T, oT, ts', he, hz, hd, h1, hr⟩ := id fl3
        unfold PySem.passOn
        refine wpAny_bind (wpAny_field he hd h1 ?_)
        rw [if_neg (show ¬ ((Value.ref T == Value.none) = true) from by simp)]
        have fin : wpAny (model X.prog X.w) X.A (setFlight (.ref a) X.env.frame) (fun _ s4 => wpAny (model X.prog X.w) X.A (throw (.ref a) : Sem Flow) (SP X pins D) X.xe s4) X.xe { s' with heap := h3 } := by
          rw [hf]
          refine HandSPX.setFlight_upZ fl3 fun h4 hh4 up4 => wpAny_throw (tk _ _ ?_)
          exact ⟨a, B, sI, pins, σ', H', cls, d, rfl, J, nb, (up.trans up3).trans up4, .inr (.inr (by rw [hs]; exact hh4)), na, os, ag, w⟩
        first
          | exact wpAny_bind (wpAny_pure (wpAny_bind fin))
          | exact wpAny_bind fin
      | @cons x c ts b₀ suite np pos' hds2 l2 hc hsu r ih =>
        intro w
        obtain ⟨b, hb1, hyes, hno⟩ := w
        refine wpAny_handleBy_cons (codeAny_handlers_test ?_) (by intro q; cases q)
        have LT : PySem.W.Looks (model X.prog X.w) h3 (typeOf (.ref a)) cls := fun A Q E s k q => wpAny_typeOf_ref (k _ _ he3) (by rw [hz3.1]; exact q)
        have LM := PySem.W.exm_one (M := model X.prog X.w) (J3.kIn) LT hb1
        have test : ∀ {Q : Value → Shared → Prop} {E : Value → Shared → Prop}, Q c { s' with heap := h3 } → wpAny (model X.prog X.w) (X.A.mark (some (.ref a))) (eval (.Name x np) X.env) Q E { s' with heap := h3 } := fun {Q E} q => by
          obtain ⟨hg, hdbg, hm | ⟨hm, hv, hnn⟩⟩ := hc
          · exact ld_glob (X := X.suite a ((a, oe3) :: (X.pn ++ pins))) S3 hg hm q hdbg
          · exact ld_blt (X := X.suite a ((a, oe3) :: (X.pn ++ pins))) S3 hg hm hv q hnn hdbg
        refine test (LM.here ?_)
        cases b with
        | true =>
          refine codeAny_handlers_suite ?_
          refine HandSPX.lands_againZ fl3 fun h4 fl4 up4 => ?_
          have J4 : Inv X pins σ' H' { s' with heap := h4 } := J.landed nb fl4.1 ((up.trans up3).trans up4) os ag
          obtain ⟨oe4, vs4, he4, hz4, hd4⟩ := fl4.there
          have S4 := J4.suite he4 hd4 na nL nF
          refine wpAny_mono ((hsu a oe4 cls d (X.pn ++ pins) hz4 ⟨_, hd4⟩).run [] _ _ H' _ S4 (hyes rfl a na)) (fun f s6 hsp => ?_) (fun _ _ z => False.elim z)
          cases f with
          | next =>
            obtain ⟨σ6, H6, S6, q6⟩ := hsp
            exact ⟨_, _, S6.unsuite ok, q6⟩
          | brk =>
            obtain ⟨σ6, H6, S6, q6⟩ := hsp
            exact ⟨_, _, S6.unsuite ok, q6⟩
          | cont =>
            obtain ⟨σ6, H6, S6, q6⟩ := hsp
            exact ⟨_, _, S6.unsuite ok, q6⟩
          | ret u =>
            obtain ⟨v6, σ6, H6, S6, r6, q6⟩ := hsp
            exact ⟨_, _, _, S6.unsuite ok, r6, q6⟩
        | false =>
          show wpAny _ X.A (handleBy (.ref a) X.env hds2) _ _ _
          exact ih (hno rfl)
      | @as x n i c ts b₀ suite np pos' hds2 l2 hN hi hln hc hsu r ih =>
        intro w
        obtain ⟨b, hb1, hyes, hno⟩ := w
        have hloc : Loc X.env.scope n := .inl hln
        refine wpAny_handleBy_cons (codeAny_handlers_test ?_) (by intro q; cases q)
        have LT : PySem.W.Looks (model X.prog X.w) h3 (typeOf (.ref a)) cls := fun A Q E s k q => wpAny_typeOf_ref (k _ _ he3) (by rw [hz3.1]; exact q)
        have LM := PySem.W.exm_one (M := model X.prog X.w) (J3.kIn) LT hb1
        have test : ∀ {Q : Value → Shared → Prop} {E : Value → Shared → Prop}, Q c { s' with heap := h3 } → wpAny (model X.prog X.w) (X.A.mark (some (.ref a))) (eval (.Name x np) X.env) Q E { s' with heap := h3 } := fun {Q E} q => by
          obtain ⟨hg, hdbg, hm | ⟨hm, hv, hnn⟩⟩ := hc
          · exact ld_glob (X := X.suite a ((a, oe3) :: (X.pn ++ pins))) S3 hg hm q hdbg
          · exact ld_blt (X := X.suite a ((a, oe3) :: (X.pn ++ pins))) S3 hg hm hv q hnn hdbg
        refine test (LM.here ?_)
        cases b with
        | true =>
          refine codeAny_handlers_suite_as ?_
          refine HandSPX.lands_againZ fl3 fun h4 fl4 up4 => ?_
          have J4 : Inv X pins σ' H' { s' with heap := h4 } := J.landed nb fl4.1 ((up.trans up3).trans up4) os ag
          obtain ⟨oe4, vs4, he4, hz4, hd4⟩ := fl4.there
          have S4 := J4.suite he4 hd4 na nL nF
          refine store_ok (X := X.suite a ((a, oe4) :: (X.pn ++ pins))) (v := .ref a) S4 hN hi hloc rfl (fun s5 S5 => ?_) (.inr hln)
          refine wpAny_mono ((hsu a oe4 cls d (X.pn ++ pins) hz4 ⟨_, hd4⟩).run [] s5 _ H' _ S5 (hyes rfl a na)) (fun f s6 hsp => ?_) (fun _ _ z => False.elim z)
          have end_ : ∀ {σ6 : St} {H6 : Hp} {Q : Shared → Prop}, Inv (X.suite a ((a, oe4) :: (X.pn ++ pins))) [] σ6 H6 s6 → (∀ s7, Inv X pins (σ6.set i none) H6 s7 → Q s7) →
              wpAny (model X.prog X.w) X.A (do bindName X.env n .none; unbindBehindTheSuite X.env n pos') (fun _ s7 => Q s7) X.xe s6 := fun {σ6 H6 Q} S6 hq => gone_ok (S6.unsuite ok) hN hi hln hq
          cases f with
          | next =>
            obtain ⟨σ6, H6, S6, q6⟩ := hsp
            exact end_ S6 fun s7 J7 => ⟨_, _, J7, q6⟩
          | brk =>
            obtain ⟨σ6, H6, S6, q6⟩ := hsp
            exact end_ S6 fun s7 J7 => ⟨_, _, J7, q6⟩
          | cont =>
            obtain ⟨σ6, H6, S6, q6⟩ := hsp
            exact end_ S6 fun s7 J7 => ⟨_, _, J7, q6⟩
          | ret u =>
            obtain ⟨v6, σ6, H6, S6, r6, q6⟩ := hsp
            exact end_ S6 fun s7 J7 => ⟨_, _, _, J7, r6, q6⟩
        | false =>
          show wpAny _ X.A (handleBy (.ref a) X.env hds2) _ _ _
          exact ih (hno rfl)
    exact go hh w
  · cases f with
    | next =>
      obtain ⟨σ', H', J', q⟩ := hsp
      exact wpAny_execs_nil ⟨σ', H', J'.ofTry ok, q⟩
    | brk =>
      obtain ⟨σ', H', J', q⟩ := hsp
      exact ⟨σ', H', J'.ofTry ok, q⟩
    | cont =>
      obtain ⟨σ', H', J', q⟩ := hsp
      exact ⟨σ', H', J'.ofTry ok, q⟩
    | ret u =>
      obtain ⟨v, σ', H', J', r, q⟩ := hsp
      exact ⟨v, σ', H', J'.ofTry ok, r, q⟩
end
end L2
namespace G
open PySem PySem.Spec L2
/-! ### raise -/
/-- the module's name x is an own error at C; its one argument is its field fld -/
structure ErrC (P : Program) (w : World) (K : PySem.W.Frag) (mg : Str → Option Value) (base : Heap) (x : Str) (C : Addr) (fld : Str) : Prop where
  g : mg x = some (.ref C)
  cls : OexC K C
  init : ∃ fI fd prm, PySem.W.findIn K (.ref C) "__init__" = some (some (.ref fI)) ∧ PySem.W.typeIn K (.ref fI) = some (.type "function") ∧ FnOk P w K mg base CX0 1 fI fd ["self", prm] (spEI C fld) ∧ Binds K fd ["self", prm] []
def sRaise (C : Addr) (fld : Str) (l : AL) : AS := fun A δ r => l A.xr δ r fun ds r1 => ∃ d, ds = [d] ∧ A.xr C [fld] [d] δ r1
section
variable {X : Cx} {W : WX} {x fld : Str} {C : Addr} {e : Expr} {l : AL} {p pos pos2 : Pos} {k : Nat}
theorem s_raise (T : ErrC X.prog X.w X.K X.mg X.base x C fld) (tk : Takes X W) (hr : Room k X.A) (ha : PDL X W [e] l) (hk : 2 ≤ k := by first | decide | omega) (hc : X.calm = true := by rfl) (hg : Gl X x := by rfl) (hdb : (x == ("__debug__" : Str)) = false := by decide)
    (he : starEach [e] X.env = (false, eval e X.env) :: starEach [] X.env := by rfl) (hpl : (backTo pos (starEach [] X.env)).any (·.1) = false := by rfl) : PSD X W (.Raise (some (.Call (.Name x p) [e] [] pos)) none pos2) (sRaise C fld l) := by
  obtain ⟨fI, fd, prm, i1, i2, F, hb⟩ := T.init
  refine imS (ps_raise hc tk (pmk_oex (CX := CX0) T.cls i1 i2 F (hr.mono hk) hb .nil (fun _ _ _ _ _ _ _ z => z.elim) hg T.g ha hdb he hpl)) fun D σ H ⟨δ, r, A, o, h, f⟩ => ?_
  refine tdl_bind o h fun ds r1 vs H1 h1 o1 k1 i1 => ?_
  obtain ⟨d, rfl, h1⟩ := h1
  cases i1 with
  | cons iv it =>
    cases it
    rename_i v
    refine ⟨by show 1 ≤ 1000; decide, fun a na => ⟨a, v, rfl, upd_same, fun dx n1 n2 => ⟨rfl, dx, [(fld, v)], upd_same, ?_, ?_, ?_⟩⟩⟩
    · rw [upd_ne n2, upd_same]
    · rw [upd_ne n2] at n1
      exact n1
    · have nd : H1 dx = none := by rw [upd_ne n2] at n1; exact n1
      have ext : Ext H1 (upd (del (upd (upd (upd H1 a (exo a C none)) dx (exd dx [(fld, v)])) a (exo a C (some dx))) a) dx (.xd [(fld, v)])) := fun b u e => by
        have h1 : b ≠ a := ne_of_none e na
        have h2 : b ≠ dx := ne_of_none e nd
        rw [upd_ne h2, del_ne h1, upd_ne h1, upd_ne h2, upd_ne h1]
        exact e
      exact o1.x C [fld] [d] δ r1 σ (some dx) _ h1 (o1.b.step (Kp.ext ext) (o1.r.ext ext)) (Kp.ext ext) ⟨not_al o1.r nd, [(fld, v)], upd_same, rfl, .cons (is_ext ext _ _ iv) .nil⟩
/-- a raise that is never met -/
theorem s_raiseN {st : Stmt} : PSD X W st (fun _ _ _ => False) := ⟨fun _ _ _ _ _ _ ⟨_, _, _, _, h, _⟩ => h.elim⟩
end
/-! ### try .. except -/
/-- an exception's own dict, while it is held -/
def xdA (dx : Addr) (fs : List Str) (ds : List D) : At where
  M := fun a => a = dx
  R := fun K N H => ∃ kvs : List (Str × V), H dx = some (.xd kvs) ∧ kvs.map Prod.fst = fs ∧ IsAll K N H (kvs.map Prod.snd) ds
  loc := fun f g ⟨vs, h, e, i⟩ => ⟨vs, f _ _ rfl h, e, all_of g i⟩
  anti := fun q ⟨vs, h, e, i⟩ => ⟨vs, h, e, all_of (fun _ _ => is_anti q) i⟩
  grow := fun hp ⟨vs, h, e, i⟩ => ⟨vs, h, e, all_of (fun _ _ => is_growD hp) i⟩
  al := fun ⟨vs, h, _⟩ a z => ⟨.xd vs, by rw [show a = dx from z]; exact h⟩
theorem rok_xd {K : PySem.W.Frag} {r : Rs} {H : Hp} {dx : Addr} {fs : List Str} {ds : List D} (h : Rok K r H) (e : ExAt K r H (some dx) fs ds) : Rok K (r ++ [xdA dx fs ds]) H ∧ Kp K r H (r ++ [xdA dx fs ds]) H := by
  obtain ⟨nm, kvs, h1, h2, h3⟩ := e
  have e : ∀ a, mem (r ++ [xdA dx fs ds]) a → mem r a ∨ a = dx := fun a z => (mem_append.mp z).elim .inl fun z => z.elim .inr False.elim
  have nd : NoDat H dx := fun o q => by rw [h1] at q; cases q; exact fun z => z
  have go : Kp K r H (r ++ [xdA dx fs ds]) H := fun v d q => is_anti e (is_growD nd q)
  refine ⟨hold_append.mpr ⟨hold_anti e (hold_growD nd h), ⟨⟨kvs, h1, h2, all_of go h3⟩, fun _ _ z => z, True.intro⟩, fun a m z => ?_⟩, go⟩
  have : a = dx := z.elim (fun z => z) False.elim
  subst this
  exact nm m
/-- an except clause's reading: what its class answers of the classes that may come (Cs), the slot of its name, its suite's reading -/
structure Cl1 where
  Cs : List (Addr × Bool)
  i : Option Nat
  u : Addr → Value → Option Addr → AS
def held : Option Addr → List Str → List D → Rs
  | some dx, fs, ds => [xdA dx fs ds]
  | none, _, _ => []
def dropR (Q : Dl → Rs → Prop) : Dl → Rs → Prop := fun δ r => ∃ r', le r r' ∧ Q δ r'
def sHds (A : An) : List Cl1 → XT
  | [] => A.xr
  | c :: cs => fun C fs ds δ r => ∃ b, (C, b) ∈ c.Cs ∧ (b = true → ∀ (a : Addr) (d : Option Addr), (d = none → fs = [] ∧ ds = []) → match c.i with
      | none => c.u a (.ref C) d { nx := dropR A.nx, rt := fun v r' => ∃ r2, le r' r2 ∧ A.rt v r2, bk := dropR A.bk, ct := dropR A.ct } δ (r ++ held d fs ds)
      | some i => c.u a (.ref C) d { nx := dropR fun δ' => A.nx (δ'.set i none), rt := fun v r' => ∃ r2, le r' r2 ∧ A.rt v r2, bk := dropR fun δ' => A.bk (δ'.set i none), ct := dropR fun δ' => A.ct (δ'.set i none) } (δ.set i (some (.adr a))) (r ++ held d fs ds)) ∧
    (b = false → sHds A cs C fs ds δ r)
def sTry (tb : AS) (cs : List Cl1) : AS := fun A δ r => tb { A with xr := sHds A cs } δ r
inductive HdsD (X : Cx) : List ExceptHandler → List Cl1 → Prop
  | nil : HdsD X [] []
  | cons {x : Str} {c : Value} {Cs : List (Addr × Bool)} {u : Addr → Value → Option Addr → AS} {b₀ : Stmt} {suite : List Stmt} {np pos' : Pos} {hds : List ExceptHandler} {l : List Cl1} (hc : Names X x c) (hC : ∀ p ∈ Cs, PySem.W.exmOne X.K (.ref p.1) c = some p.2)
      (hsu : ∀ (a : Addr) (oe : Obj) (cls : Value) (d : Option Addr) (pn : List (Addr × Obj)), Zc cls d oe → (∃ vs, oe.data = .fields vs) → PBD (X.suite a ((a, oe) :: pn)) W0 (b₀ :: suite) (u a cls d)) (r : HdsD X hds l) :
      HdsD X (.ExceptHandler (some (.Name x np)) none (b₀ :: suite) pos' :: hds) (⟨Cs, none, u⟩ :: l)
  | as {x n : Str} {i : Nat} {c : Value} {Cs : List (Addr × Bool)} {u : Addr → Value → Option Addr → AS} {b₀ : Stmt} {suite : List Stmt} {np pos' : Pos} {hds : List ExceptHandler} {l : List Cl1} (hN : X.N.Nodup) (hi : X.N[i]? = some n) (hln : X.env.kindOf n = some .local) (hc : Names X x c) (hC : ∀ p ∈ Cs, PySem.W.exmOne X.K (.ref p.1) c = some p.2)
      (hsu : ∀ (a : Addr) (oe : Obj) (cls : Value) (d : Option Addr) (pn : List (Addr × Obj)), Zc cls d oe → (∃ vs, oe.data = .fields vs) → PBD (X.suite a ((a, oe) :: pn)) W0 (b₀ :: suite) (u a cls d)) (r : HdsD X hds l) :
      HdsD X (.ExceptHandler (some (.Name x np)) (some n) (b₀ :: suite) pos' :: hds) (⟨Cs, some i, u⟩ :: l)
theorem held_ok {K : PySem.W.Frag} {r : Rs} {H : Hp} {d : Option Addr} {fs : List Str} {ds : List D} (h : Rok K r H) (e : ExAt K r H d fs ds) : Rok K (r ++ held d fs ds) H ∧ Kp K r H (r ++ held d fs ds) H := by
  cases d with
  | none =>
    show Rok K (r ++ []) H ∧ Kp K r H (r ++ []) H
    rw [List.append_nil]
    exact ⟨h, Kp.refl⟩
  | some dx => exact rok_xd h e
theorem Ok.le {K : PySem.W.Frag} {W : WX} {XR : XT} {r r' : Rs} {δ : Dl} {σ : L2.St} {H : Hp} (o : Ok K W XR r δ σ H) (l : G.le r r') : Ok K W XR r' δ σ H := o.step l.kp (l.r _ _ o.r)
theorem hdsA_of {X : Cx} {W : WX} : ∀ {hds : List ExceptHandler} {cs : List Cl1}, HdsD X hds cs → ∃ l, HdsA X hds l ∧ ∀ (D : Ends) (A : An) (r : Rs) (H : Hp), Xc X.K W A.xr r H → Fin X.K W A r H D → Xc X.K (wManyA X.K W D l) (sHds A cs) r H := by
  intro hds cs h
  induction h with
  | nil => exact ⟨[], .nil, fun D A r H x f => x⟩
  | @cons x c Cs u b₀ suite np pos' hds l hc hC hsu r ih =>
    obtain ⟨l', hl, hx⟩ := ih
    refine ⟨(c, none, fun a cls d => TSD X.K W0 (u a cls d)) :: l', .cons hc hsu hl, fun D A r H x f => ?_⟩
    rintro C fs ds δ' r' σ' a H' ⟨b, hb, ht, hf⟩ o k e
    refine ⟨b, hC _ hb, fun q a0 na => ?_, fun q => hx D A r H x f C fs ds δ' r' σ' a H' (hf q) o k e⟩
    obtain ⟨q1, q2⟩ := held_ok o.r e
    have hh := ht q a0 a (fun z => by subst z; exact e)
    refine ⟨δ', r' ++ held a fs ds, _, ⟨o.step q2 q1, ?_⟩, hh, ?_⟩
    · exact fun _ _ _ _ _ _ _ _ z => z.elim
    refine ⟨?_, ?_, ?_, ?_⟩
    · rintro δ2 r2 σ2 H2 ⟨r3, l3, q3⟩ o2 k2
      exact f.nx _ _ _ _ q3 ⟨o2.b.step l3.kp (l3.r _ _ o2.r), x.step (((k.trans q2).trans k2).trans l3.kp)⟩ (((k.trans q2).trans k2).trans l3.kp)
    · rintro d r2 v H2 ⟨r3, l3, q3⟩ o2 k2 i
      exact f.rt _ _ _ _ q3 (l3.r _ _ o2) (((k.trans q2).trans k2).trans l3.kp) (l3.kp _ _ i)
    · rintro δ2 r2 σ2 H2 ⟨r3, l3, q3⟩ o2 k2
      exact f.bk _ _ _ _ q3 ⟨o2.b.step l3.kp (l3.r _ _ o2.r), x.step (((k.trans q2).trans k2).trans l3.kp)⟩ (((k.trans q2).trans k2).trans l3.kp)
    · rintro δ2 r2 σ2 H2 ⟨r3, l3, q3⟩ o2 k2
      exact f.ct _ _ _ _ q3 ⟨o2.b.step l3.kp (l3.r _ _ o2.r), x.step (((k.trans q2).trans k2).trans l3.kp)⟩ (((k.trans q2).trans k2).trans l3.kp)
  | @as x n i c Cs u b₀ suite np pos' hds l hN hi hln hc hC hsu r ih =>
    obtain ⟨l', hl, hx⟩ := ih
    refine ⟨(c, some i, fun a cls d => TSD X.K W0 (u a cls d)) :: l', .as hN hi hln hc hsu hl, fun D A r H x f => ?_⟩
    rintro C fs ds δ' r' σ' a H' ⟨b, hb, ht, hf⟩ o k e
    refine ⟨b, hC _ hb, fun q a0 na => ?_, fun q => hx D A r H x f C fs ds δ' r' σ' a H' (hf q) o k e⟩
    obtain ⟨q1, q2⟩ := held_ok o.r e
    have hh := ht q a0 a (fun z => by subst z; exact e)
    refine ⟨δ'.set i (some (.adr a0)), r' ++ held a fs ds, _, ⟨(o.step q2 q1).set (.adr a0), ?_⟩, hh, ?_⟩
    · exact fun _ _ _ _ _ _ _ _ z => z.elim
    refine ⟨?_, ?_, ?_, ?_⟩
    · rintro δ2 r2 σ2 H2 ⟨r3, l3, q3⟩ o2 k2
      exact f.nx _ _ _ _ q3 ⟨(o2.b.step l3.kp (l3.r _ _ o2.r)).drop, x.step (((k.trans q2).trans k2).trans l3.kp)⟩ (((k.trans q2).trans k2).trans l3.kp)
    · rintro d r2 v H2 ⟨r3, l3, q3⟩ o2 k2 i
      exact f.rt _ _ _ _ q3 (l3.r _ _ o2) (((k.trans q2).trans k2).trans l3.kp) (l3.kp _ _ i)
    · rintro δ2 r2 σ2 H2 ⟨r3, l3, q3⟩ o2 k2
      exact f.bk _ _ _ _ q3 ⟨(o2.b.step l3.kp (l3.r _ _ o2.r)).drop, x.step (((k.trans q2).trans k2).trans l3.kp)⟩ (((k.trans q2).trans k2).trans l3.kp)
    · rintro δ2 r2 σ2 H2 ⟨r3, l3, q3⟩ o2 k2
      exact f.ct _ _ _ _ q3 ⟨(o2.b.step l3.kp (l3.r _ _ o2.r)).drop, x.step (((k.trans q2).trans k2).trans l3.kp)⟩ (((k.trans q2).trans k2).trans l3.kp)
section
variable {X : Cx} {W : WX} {body : List Stmt} {h₀ : ExceptHandler} {hds : List ExceptHandler} {cs : List Cl1} {pos : Pos} {tb : AS}
theorem s_try (tk : Takes X W) (hb : ∀ (W' : WX) (pn : List (Addr × Obj)) (xe : Value → Shared → Prop), Takes (X.tr pn xe) W' → PassesOwn (model X.prog X.w) X.A X.env xe → PBD (X.tr pn xe) W' body tb)
    (hh : HdsD X (h₀ :: hds) cs) (hs : X.stack = X.env :: X.outer := by rfl) (hf : X.env.frame = some X.env.locals := by rfl) : PSD X W (.Try body (h₀ :: hds) [] [] pos) (sTry tb cs) := by
  obtain ⟨l, hl, hx⟩ := hdsA_of (W := W) hh
  refine imS (ps_try_manyA (tb := fun W' => TSD X.K W' tb) hs hf tk (fun W' pn xe tk' po => hb W' pn xe tk' po) hl) fun D σ H ⟨δ, r, A, o, h, f⟩ => ?_
  refine ⟨δ, r, { A with xr := sHds A cs }, ⟨o.b, hx D A r H o.x f⟩, h, ?_⟩
  have ok : ∀ {r' : Rs} {δ' : Dl} {σ' : L2.St} {H' : Hp} {W' : WX} {XR : XT}, Ok X.K W' XR r' δ' σ' H' → Kp X.K r H r' H' → Ok X.K W A.xr r' δ' σ' H' := fun o' k => ⟨o'.b, o.x.step k⟩
  exact ⟨fun δ' r' σ' H' a o' k => f.nx _ _ _ _ a (ok o' k) k, f.rt, fun δ' r' σ' H' a o' k => f.bk _ _ _ _ a (ok o' k) k, fun δ' r' σ' H' a o' k => f.ct _ _ _ _ a (ok o' k) k⟩
end
end G

namespace G
open PySem PySem.Spec L2
open PyProof.Rows (envOfC)

/-! ### names of fields, places of what they hold -/
def ixF : List Str → Str → Option Nat
  | [], _ => none
  | f :: fs, g => if f = g then some 0 else (ixF fs g).map (· + 1)
theorem ixF_mem : ∀ {fs : List Str} {g : Str} {i : Nat}, ixF fs g = some i → g ∈ fs
  | f :: fs, g, i, h => by
    unfold ixF at h
    split at h
    · rename_i e
      subst e
      exact List.mem_cons_self
    · obtain ⟨j, hj, _⟩ := Option.map_eq_some_iff.mp h
      exact List.mem_cons_of_mem _ (ixF_mem hj)
theorem ixF_get : ∀ {kvs : List (Str × V)} {fs : List Str} {g : Str} {i : Nat} {v : V}, kvs.map Prod.fst = fs → ixF fs g = some i → (kvs.map Prod.snd)[i]? = some v → kvs.lookup g = some v
  | [], _, g, i, v, e, h, hv => by simp at hv
  | (f, x) :: kvs, _, g, i, v, e, h, hv => by
    subst e
    unfold List.map ixF at h
    by_cases q : f = g
    · rw [if_pos q] at h
      cases h
      subst q
      have : x = v := by simpa using hv
      rw [← this]
      simp [List.lookup]
    · rw [if_neg q] at h
      obtain ⟨j, hj, rfl⟩ := Option.map_eq_some_iff.mp h
      have hb : (g == f) = false := beq_eq_false_iff_ne.mpr fun e => q e.symm
      rw [List.lookup, hb]
      exact ixF_get rfl hj (by simpa using hv)
theorem ixF_put : ∀ {kvs : List (Str × V)} {g : Str} {i : Nat} {v : V}, ixF (kvs.map Prod.fst) g = some i → (putF g v kvs).map Prod.fst = kvs.map Prod.fst ∧ (putF g v kvs).map Prod.snd = (kvs.map Prod.snd).set i v
  | [], g, i, v, h => by cases h
  | (f, x) :: kvs, g, i, v, h => by
    unfold List.map ixF at h
    unfold putF
    by_cases q : f = g
    · rw [if_pos q] at h ⊢
      cases h
      exact ⟨rfl, rfl⟩
    · rw [if_neg q] at h ⊢
      obtain ⟨j, hj, rfl⟩ := Option.map_eq_some_iff.mp h
      obtain ⟨h1, h2⟩ := ixF_put (v := v) hj
      exact ⟨by rw [List.map_cons, List.map_cons, h1], by rw [List.map_cons, List.map_cons, h2] <;> rfl⟩
theorem ixF_new : ∀ {kvs : List (Str × V)} {g : Str} {v : V}, ixF (kvs.map Prod.fst) g = none → (putF g v kvs).map Prod.fst = kvs.map Prod.fst ++ [g] ∧ (putF g v kvs).map Prod.snd = kvs.map Prod.snd ++ [v]
  | [], g, v, h => ⟨rfl, rfl⟩
  | (f, x) :: kvs, g, v, h => by
    unfold List.map ixF at h
    unfold putF
    by_cases q : f = g
    · rw [if_pos q] at h
      cases h
    · rw [if_neg q] at h ⊢
      have hj := Option.map_eq_none_iff.mp h
      obtain ⟨h1, h2⟩ := ixF_new (v := v) hj
      exact ⟨by rw [List.map_cons, List.map_cons, h1] <;> rfl, by rw [List.map_cons, List.map_cons, h2] <;> rfl⟩

/-! ### pieces that own one object -/
section
variable {K : PySem.W.Frag} {r pre post : Rs} {H : Hp} {l : Addr} {t t' : At} {u u' : HO}
theorem mid_R (h : Rok K (pre ++ t :: post) H) : t.R K (mem (pre ++ t :: post)) H := (hold_append.mp h).2.1.1
theorem mid_mem {a : Addr} (h : t.M a) : mem (pre ++ t :: post) a := mem_append.mpr (.inr (.inl h))
theorem mid_put (hm : t.M = fun b => b = l) (hm' : t'.M = fun b => b = l) (hu : H l = some u) (nt : ∀ xs, u ≠ .tup xs ∧ ∀ o : Obj, u ≠ .frz o (.tup xs)) (h : Rok K (pre ++ t :: post) H)
    (ht : (∀ w e, Is K (mem (pre ++ t :: post)) H w e → Is K (mem (pre ++ t' :: post)) (upd H l u') w e) → t'.R K (mem (pre ++ t' :: post)) (upd H l u')) :
    Rok K (pre ++ t' :: post) (upd H l u') ∧ Kp K (pre ++ t :: post) H (pre ++ t' :: post) (upd H l u') := by
  obtain ⟨h1, ⟨h2, h3, h4⟩, h5⟩ := hold_append.mp h
  have me : mem (pre ++ t :: post) = mem (pre ++ t' :: post) := mem_mid (by rw [hm, hm'])
  have tl : t.M l := by rw [hm]
  have go : ∀ w e, Is K (mem (pre ++ t :: post)) H w e → Is K (mem (pre ++ t :: post)) (upd H l u') w e := fun w e q => is_otherO (mid_mem tl) hu nt q
  refine ⟨hold_append.mpr ⟨?_, ⟨ht fun w e q => me ▸ go w e q, ?_, ?_⟩, ?_⟩, fun w e q => me ▸ go w e q⟩
  · rw [← me]
    exact hold_loc (fun b o m q => by rw [upd_ne (fun e => h5 b m (.inl (by rw [hm]; exact e)))]; exact q) go h1
  · intro a z
    exact h3 a (by rw [hm]; rw [hm'] at z; exact z)
  · rw [← me]
    exact hold_loc (fun b o m q => by rw [upd_ne (fun e => h3 b (by rw [hm]; exact e) m)]; exact q) go h4
  · intro a m z
    refine h5 a m (z.elim (fun z => .inl ?_) .inr)
    rw [hm]; rw [hm'] at z; exact z
theorem mid_anti {a : Addr} (z : mem (pre ++ post) a) : mem (pre ++ t :: post) a := (mem_append.mp z).elim (fun z => mem_append.mpr (.inl z)) fun z => mem_append.mpr (.inr (.inr z))
theorem mid_drop (h : Rok K (pre ++ t :: post) H) : Rok K (pre ++ post) H ∧ Kp K (pre ++ t :: post) H (pre ++ post) H ∧ ∀ a, t.M a → ¬ mem (pre ++ post) a := by
  obtain ⟨h1, ⟨h2, h3, h4⟩, h5⟩ := hold_append.mp h
  refine ⟨hold_append.mpr ⟨hold_anti (fun _ => mid_anti) h1, hold_anti (fun _ => mid_anti) h4, fun a m z => h5 a m (.inr z)⟩, fun _ _ => is_anti fun _ => mid_anti, fun a m z => ?_⟩
  rcases mem_append.mp z with z | z
  · exact h5 a z (.inl m)
  · exact h3 a m z
theorem mid_new {p : Addr} {H' : Hp} (hm : t.M = fun b => b = p) (h : Rok K r H) (hp : H p = none) (e : Ext H H') (ht : (∀ w d, Is K (mem r) H w d → Is K (mem (r ++ [t])) H' w d) → t.R K (mem (r ++ [t])) H') : Rok K (r ++ [t]) H' ∧ Kp K r H (r ++ [t]) H' := by
  have an : ∀ a, mem (r ++ [t]) a → mem r a ∨ a = p := fun a z => (mem_append.mp z).elim .inl fun z => z.elim (fun z => .inr (by rw [hm] at z; exact z)) False.elim
  have go : Kp K r H (r ++ [t]) H' := fun v d q => is_anti an (is_ext e _ _ (is_grow hp q))
  refine ⟨hold_append.mpr ⟨hold_anti an (hold_ext e (hold_grow hp h)), ⟨ht go, fun _ _ z => z, True.intro⟩, fun a m z => ?_⟩, go⟩
  have : a = p := z.elim (fun z => by rw [hm] at z; exact z) False.elim
  subst this
  exact not_al h hp m
end
/-- an instance of our own at a -/
def insA (a C : Addr) (fs : List Str) (ds : List D) : At where
  M := fun b => b = a
  R := fun K N H => Good K C fs ∧ ∃ (dx : Addr) (kvs : List (Str × V)), H a = some (.ins C dx kvs) ∧ kvs.map Prod.fst = fs ∧ IsAll K N H (kvs.map Prod.snd) ds
  loc := fun f g ⟨q, dx, vs, h, e, i⟩ => ⟨q, dx, vs, f _ _ rfl h, e, all_of g i⟩
  anti := fun q ⟨z, dx, vs, h, e, i⟩ => ⟨z, dx, vs, h, e, all_of (fun _ _ => is_anti q) i⟩
  grow := fun hp ⟨z, dx, vs, h, e, i⟩ => ⟨z, dx, vs, h, e, all_of (fun _ _ => is_growD hp) i⟩
  al := fun ⟨z, dx, vs, h, _⟩ b e => ⟨.ins C dx vs, by rw [show b = a from e]; exact h⟩
section
variable {K : PySem.W.Frag} {r pre post : Rs} {H : Hp} {a C : Addr} {fs : List Str} {ds : List D}
theorem ins_drop (h : Rok K (pre ++ insA a C fs ds :: post) H) : Rok K (pre ++ post) H ∧ Is K (mem (pre ++ post)) H (.ref a) (.ins C fs ds) ∧ Kp K (pre ++ insA a C fs ds :: post) H (pre ++ post) H := by
  obtain ⟨h1, h2, h3⟩ := mid_drop h
  obtain ⟨g, dx, kvs, e1, e2, e3⟩ := mid_R h
  exact ⟨h1, .ins (h3 a rfl) e1 e2 g (all_of h2 e3), h2⟩
theorem ins_new {dx : Addr} (h : Rok K r H) (g : Plain K C) (ha : H a = none) (hd : H dx = none) (ne : dx ≠ a) : Ext H (upd (upd H dx (.own a)) a (.ins C dx [])) ∧ Rok K (r ++ [insA a C [] []]) (upd (upd H dx (.own a)) a (.ins C dx [])) ∧ Kp K r H (r ++ [insA a C [] []]) (upd (upd H dx (.own a)) a (.ins C dx [])) := by
  have e : Ext H (upd (upd H dx (.own a)) a (.ins C dx [])) := fun b o q => by
    rw [upd_ne (ne_of_none q ha), upd_ne (ne_of_none q hd)]
    exact q
  exact ⟨e, mid_new rfl h ha e fun _ => ⟨⟨g, fun f z => by cases z⟩, dx, [], upd_same, rfl, .nil⟩⟩
end
/-! ### e.f -/
inductive oFld (f : Str) : D → Rs → PK1 → Prop
  | fro {C : Addr} {fs : List Str} {ds : List D} {r : Rs} {P : PK1} (i : Nat) (y : D) (h : ixF fs f = some i) (hy : ds[i]? = some y) (p : P y r) : oFld f (.ins C fs ds) r P
  | own {a C : Addr} {fs : List Str} {ds : List D} {r : Rs} {P : PK1} (pre post : Rs) (i : Nat) (y : D) (e : r = pre ++ insA a C fs ds :: post) (h : ixF fs f = some i) (hy : ds[i]? = some y) (p : P y r) : oFld f (.adr a) r P
def aFld (f : Str) (te : AT) : AT := fun x δ r P => te x δ r fun d r1 => oFld f d r1 P
section
variable {X : Cx} {W : WX} {e o value : Expr} {f : Str} {pos pos' : Pos} {te to tv : AT}
theorem d_fld (he : PD X W e te) (hb : attributeBase e f X.env (eval e X.env) = eval e X.env := by rfl) : PD X W (.Attribute e f pos) (aFld f te) := imE (pe_fld he hb) fun σ H Q q => by
  obtain ⟨XR, δ, r, P, ok, h, k⟩ := q
  refine td_bind ok h fun d r1 v H1 h1 o1 k1 i1 => ?_
  cases h1 with
  | @fro C fs ds _ _ i y h hy p =>
    cases i1 with
    | ins n s e2 g a =>
      obtain ⟨v, hv, iv⟩ := a.getD hy
      exact ⟨_, _, _, _, v, rfl, s, g.cls, g.no _ (ixF_mem h), ixF_get e2 h hv, k _ _ _ _ p o1 k1 iv⟩
  | @own a C fs ds _ _ pre post i y e2 h hy p =>
    cases i1
    subst e2
    obtain ⟨g, dx, kvs, s, e3, a⟩ := mid_R o1.r
    obtain ⟨v, hv, iv⟩ := a.getD hy
    exact ⟨_, _, _, _, v, rfl, s, g.cls, g.no _ (ixF_mem h), ixF_get e3 h hv, k _ _ _ _ p o1 k1 iv⟩
/-- o.f = value -/
inductive oPut (C : Addr) (f : Str) (y : D) : D → Rs → (Rs → Prop) → Prop
  | new {a : Addr} {fs : List Str} {ds : List D} {r : Rs} {k : Rs → Prop} (pre post : Rs) (e : r = pre ++ insA a C fs ds :: post) (h : ixF fs f = none) (z : fs.length < 1000) (p : k (pre ++ insA a C (fs ++ [f]) (ds ++ [y]) :: post)) : oPut C f y (.adr a) r k
  | old {a : Addr} {fs : List Str} {ds : List D} {r : Rs} {k : Rs → Prop} (pre post : Rs) (i : Nat) (e : r = pre ++ insA a C fs ds :: post) (h : ixF fs f = some i) (z : fs.length < 1000) (p : k (pre ++ insA a C fs (ds.set i y) :: post)) : oPut C f y (.adr a) r k
def sPut (C : Addr) (f : Str) (to tv : AT) : AS := fun A δ r => tv A.xr δ r fun y r1 => to A.xr δ r1 fun d r2 => oPut C f y d r2 fun r3 => A.nx δ r3
theorem s_put {C : Addr} (n : NoAttr X.K C f) (ho : PD X W o to) (hv : PD X W value tv) (hs : swapsWith value (some (.Attribute o f pos')) pos.line X.env = pure false := by rfl) : PSD X W (.Assign [.Attribute o f pos'] value pos) (sPut C f to tv) :=
  imS (ps_fld ho hv hs) fun Dd σ H ⟨δ, r, A, ok, h, ff⟩ => td_bind ok h fun y r1 v H1 h1 o1 k1 i1 => td_bind o1 h1 fun d r2 v2 H2 h2 o2 k2 i2 => by
    cases h2 with
    | @new a fs ds _ _ pre post e h z p =>
      cases i2
      subst e
      obtain ⟨g, dx, kvs, s, e3, i⟩ := mid_R o2.r
      subst e3
      obtain ⟨q1, q2⟩ := ixF_new (v := v) h
      obtain ⟨z1, z2⟩ := mid_put (t := insA a C _ ds) (t' := insA a C (kvs.map Prod.fst ++ [f]) (ds ++ [y])) (u' := .ins C dx (putF f v kvs)) rfl rfl s (fun xs => ⟨(fun e => by cases e), fun o e => by cases e⟩) o2.r
        (fun go => ⟨⟨g.p, fun x hx => (List.mem_append.mp hx).elim (g.no x) fun hx => by rw [List.mem_singleton.mp hx]; exact n⟩, dx, putF f v kvs, upd_same, q1, by rw [q2]; exact (all_of go i).append (.cons (go _ _ (k2 _ _ i1)) .nil)⟩)
      exact ⟨a, C, dx, kvs, rfl, s, g.cls, n, by rw [List.length_map] at z; exact z, ff.nx _ _ _ _ p (o2.step z2 z1) ((k1.trans k2).trans z2)⟩
    | @old a fs ds _ _ pre post i e h z p =>
      cases i2
      subst e
      obtain ⟨g, dx, kvs, s, e3, i2⟩ := mid_R o2.r
      subst e3
      obtain ⟨q1, q2⟩ := ixF_put (v := v) h
      obtain ⟨z1, z2⟩ := mid_put (t := insA a C _ ds) (t' := insA a C (kvs.map Prod.fst) (ds.set i y)) (u' := .ins C dx (putF f v kvs)) rfl rfl s (fun xs => ⟨(fun e => by cases e), fun o e => by cases e⟩) o2.r
        (fun go => ⟨g, dx, putF f v kvs, upd_same, q1, by rw [q2]; exact set_all (go _ _ (k2 _ _ i1)) i (all_of go i2)⟩)
      exact ⟨a, C, dx, kvs, rfl, s, g.cls, n, by rw [List.length_map] at z; exact z, ff.nx _ _ _ _ p (o2.step z2 z1) ((k1.trans k2).trans z2)⟩
/-- an own instance handed on as data -/
def aFrz (te : AT) : AT := fun x δ r P => te x δ r fun d r1 => ∃ a C fs ds pre post, d = .adr a ∧ r1 = pre ++ insA a C fs ds :: post ∧ P (.ins C fs ds) (pre ++ post)
theorem d_frz (h : PD X W e te) : PD X W e (aFrz te) := imE h fun σ H Q q => by
  obtain ⟨XR, δ, r, P, o, h, k⟩ := q
  refine td_bind o h fun d r1 v H1 h1 o1 k1 i1 => ?_
  obtain ⟨a, C, fs, ds, pre, post, rfl, rfl, h1⟩ := h1
  cases i1
  obtain ⟨q1, q2, q3⟩ := ins_drop o1.r
  exact k _ _ _ _ h1 (o1.step q3 q1) (k1.trans q3) q2
end
/-! ### C(..) -/
def aNew (C : Addr) (sd : SpX) (l : AL) : AT := fun x δ r P => l x δ r fun ds r1 => ∀ a, sd (.adr a :: ds) (r1 ++ [insA a C [] []]) (fun d r2 => d = .non ∧ P (.adr a) r2) fun E fs es r' => x E fs es δ r'
section
variable {X : Cx} {W : WX} {k : Nat} {f C : Addr} {sd : SpX} {x : Str} {p pos : Pos} {e : Expr} {es : List Expr} {l : AL}
theorem run_mk {sp : Sp} {E : XK} {pins : List (Addr × Obj)} {σ : L2.St} {H : Hp} {s : Shared} {Q : VK} {us : List Value} {vs : List V} (M : Mk X.K C f) (F : FnR X.prog X.w X.K X.mg X.base (L2.CX X.prog X.w) k f sp) (hr : Room (k + 1) X.A) (hx : PassesAt (L2.CX X.prog X.w) X σ E) (I : L2.Inv X pins σ H s) (r : Vals vs us)
    (h : ∀ x dx, H x = Option.none → H dx = Option.none → dx ≠ x → sp (V.ref x :: vs) (upd (upd H dx (.own x)) x (.ins C dx [])) (fun v H2 => v = .non ∧ Q (.ref x) H2) E) :
    wpAny (model X.prog X.w) X.A (call (.ref C) us) (EP X pins σ Q) X.xe s := by
  have hq := h (s.heap.objs.size + 1) s.heap.objs.size (I.hok.fresh (Nat.le_succ _)) (I.hok.fresh (Nat.le_refl _)) (Nat.ne_of_lt (Nat.lt_succ_self _))
  have I2 := Inv.made (C := C) I
  have r2 : Vals (V.ref (s.heap.objs.size + 1) :: vs) (Value.ref (s.heap.objs.size + 1) :: us) := .cons rfl r
  refine wpAny_call (make_map (f := f) I.kIn M.makes M.init (beq_iff_eq.mp M.fn) (codeAny_mono (F _ X.stack _ _ (Value.ref (s.heap.objs.size + 1) :: us) _ _ E (hr.make C us []) (I2.env0.make C us []) r2 hq) fun r s' hq' => ?_))
  cases r with
  | error e => exact hx pins _ _ e s' I2 hq'
  | ok fl =>
    cases fl with
    | ret u =>
      obtain ⟨v, H', I3, rv, ev, q3⟩ := I2.after hq'
      subst ev
      exact ⟨rv, ⟨V.ref (s.heap.objs.size + 1), H', I3, rfl, q3⟩⟩
    | next => exact False.elim hq'
    | brk => exact False.elim hq'
    | cont => exact False.elim hq'
theorem d_new (M : Mk X.K C f) (g : Plain X.K C) (F : FR X.prog X.w X.K X.mg X.base k f sd) (tk : Takes X W) (hr : Room (k + 1) X.A) (hm : X.mg x = some (.ref C)) (ha : PDL X W (e :: es) l)
    (hg : Gl X x := by rfl) (hdb : (x == ("__debug__" : Str)) = false := by decide) (he : starEach (e :: es) X.env = (false, eval e X.env) :: starEach es X.env := by rfl) (hpl : (backTo pos (starEach es X.env)).any (·.1) = false := by rfl) :
    PD X W (.Call (.Name x p) (e :: es) [] pos) (aNew C sd l) := by
  refine ⟨fun pins s σ H Q I h => ?_⟩
  refine wpAny_Call_Name_kw (ld_glob I hg hm ?_ hdb)
  obtain ⟨XR, δ, r, P, ok, h, kk⟩ := h
  refine PySem.W.callWith_K (h₀ := X.base) I.ok.mod.kin M.kp (thn (ha.run pos pins s σ H _ I (tdl_bind (Q := fun vs H1 => ∀ x dx, H1 x = Option.none → H1 dx = Option.none → dx ≠ x → lift X.K sd (V.ref x :: vs) (upd (upd H1 dx (.own x)) x (.ins C dx [])) (fun v H2 => v = .non ∧ Q (.ref x) H2) (WE W σ)) ok h fun ds r1 vs H1 h1 o1 k1 i1 x dx hx hd ne => ?_)) fun us s1 ⟨vs, H1, I1, r, q⟩ => ⟨I1.kIn, ?_⟩) he hpl
  · obtain ⟨e1, q1, q2⟩ := ins_new o1.r g hx hd ne
    refine ⟨r1 ++ [insA x C [] []], .adr x :: ds, _, _, q1, .cons (.adr x) (q2.all i1), h1 x, fun d r' v H' ⟨a, b⟩ rr c i => ?_, fun C' fs es r' a H' z ro kk e => ?_⟩
    · subst a
      cases i
      exact ⟨rfl, kk _ r' _ H' b (o1.step (q2.trans c) rr) (k1.trans (q2.trans c)) (.adr x)⟩
    · exact o1.x C' fs es δ r' σ a H' z (o1.b.step (q2.trans kk) ro) (q2.trans kk) e
  · exact run_mk M F hr (passAt tk _) I1 r q
theorem d_new0 (M : Mk X.K C f) (g : Plain X.K C) (F : FR X.prog X.w X.K X.mg X.base k f sd) (tk : Takes X W) (hr : Room (k + 1) X.A) (hm : X.mg x = some (.ref C)) (hg : Gl X x := by rfl) (hdb : (x == ("__debug__" : Str)) = false := by decide) :
    PD X W (.Call (.Name x p) [] [] pos) (aNew C sd aNil) := by
  refine ⟨fun pins s σ H Q I h => ?_⟩
  refine wpAny_Call_Name_kw (ld_glob I hg hm ?_ hdb)
  obtain ⟨XR, δ, r, P, ok, h, kk⟩ := h
  refine PySem.W.callWith_K0 I.kIn M.kp (run_mk (us := []) (vs := []) M F hr (passAt tk _) I .nil fun x dx hx hd ne => ?_)
  obtain ⟨e1, q1, q2⟩ := ins_new ok.r g hx hd ne
  refine ⟨r ++ [insA x C [] []], [.adr x], _, _, q1, .cons (.adr x) .nil, h x, fun d r' v H' ⟨a, b⟩ rr c i => ?_, fun C' fs es r' a H' z ro kk e => ?_⟩
  · subst a
    cases i
    exact ⟨rfl, kk _ r' _ H' b (ok.step (q2.trans c) rr) (q2.trans c) (.adr x)⟩
  · exact ok.x C' fs es δ r' σ a H' z (ok.b.step (q2.trans kk) ro) (q2.trans kk) e
end
/-! ### o.m(..) -/
inductive isC (C : Addr) : D → Rs → Prop
  | fro {fs : List Str} {ds : List D} {r : Rs} : isC C (.ins C fs ds) r
  | own {a : Addr} {fs : List Str} {ds : List D} {r : Rs} (pre post : Rs) (e : r = pre ++ insA a C fs ds :: post) : isC C (.adr a) r
theorem isC_at {K : PySem.W.Frag} {C : Addr} {d : D} {r : Rs} {v : V} {H : Hp} (h : isC C d r) (ro : Rok K r H) (i : Is K (mem r) H v d) : ∃ a dx kvs, v = .ref a ∧ H a = some (.ins C dx kvs) ∧ Good K C (kvs.map Prod.fst) := by
  cases h with
  | fro =>
    cases i with
    | ins n s e g a => exact ⟨_, _, _, rfl, s, by rw [show List.map Prod.fst _ = _ from e]; exact g⟩
  | own pre post e =>
    cases i
    subst e
    obtain ⟨g, dx, kvs, s, e3, a⟩ := mid_R ro
    exact ⟨_, _, _, rfl, s, by rw [e3]; exact g⟩
theorem lookup_none : ∀ {kvs : List (Str × V)} {m : Str}, m ∉ kvs.map Prod.fst → kvs.lookup m = none
  | [], _, _ => rfl
  | (f, x) :: kvs, m, h => by
    have hb : (m == f) = false := beq_eq_false_iff_ne.mpr fun e => h (by rw [e]; exact List.mem_cons_self)
    rw [List.lookup, hb]
    exact lookup_none fun z => h (List.mem_cons_of_mem _ z)
theorem Meth.free {K : PySem.W.Frag} {C g : Addr} {m : Str} {kvs : List (Str × V)} (k : Meth K C m g) (q : Good K C (kvs.map Prod.fst)) : kvs.lookup m = none := lookup_none fun z => by
  have := (q.no m z).symm.trans k.at_
  cases this
def aMeth (C : Addr) (sd : SpX) (to : AT) (l : AL) : AT := fun x δ r P => to x δ r fun d r1 => isC C d r1 ∧ l x δ r1 fun ds r2 => sd (d :: ds) r2 P fun E fs es r' => x E fs es δ r'
section
variable {X : Cx} {W : WX} {k : Nat} {f C : Addr} {sd : SpX} {m : Str} {apos pos : Pos} {o e : Expr} {es : List Expr} {to : AT} {l : AL} {pl : Sem Bool}
theorem d_meth (hm : Meth X.K C m f) (F : FR X.prog X.w X.K X.mg X.base k f sd) (tk : Takes X W) (hr : Room k X.A) (ho : PD X W o to) (ha : PDL X W (e :: es) l)
    (hst : starEach (e :: es) X.env = (false, eval e X.env) :: starEach es X.env := by rfl) (hpl : (backTo pos (starEach es X.env)).any (·.1) = false := by rfl)
    (ht : eval (.Call (.Attribute o m apos) (e :: es) [] pos) X.env = (do
      let ov ← eval o X.env
      standAt apos.atName
      let (f, first) ← holding [ov] (getMethod ov m pl)
      callWith pos f first (backTo pos (starEach (e :: es) X.env)) (backToKw pos (keywordEach [] X.env))) := by rfl) :
    PD X W (.Call (.Attribute o m apos) (e :: es) [] pos) (aMeth C sd to l) := by
  refine ⟨fun pins s σ H Q I h => ?_⟩
  obtain ⟨XR, δ, r, P, ok, h, kk⟩ := h
  refine PySem.W.methodCall_KW (pl := pl) (thn (ho.run pins s σ H (fun x H1 => ∃ a dx fs, x = V.ref a ∧ H1 a = some (.ins C dx fs) ∧ Cls X.K C ∧ fs.lookup m = none ∧ TDL X.K W l σ H1 fun vs H2 => lift X.K sd (x :: vs) H2 Q (WE W σ)) I (td_bind ok h fun d r1 v H1 ⟨hc, h1⟩ o1 k1 i1 => ?_)) fun u s1 ⟨x, H1, I1, rx, a, dx, fs, ex, ea, c, lk, q⟩ => ?_) ht
  · obtain ⟨a, dx, kvs, rfl, s, g⟩ := isC_at hc o1.r i1
    refine ⟨a, dx, kvs, rfl, s, g.cls, Meth.free hm g, tdl_bind o1 h1 fun ds r2 vs H2 h2 o2 k2 i2 => lift_at o2 (.cons (k2 _ _ i1) i2) h2 fun d' r' v' H' p o3 k3 i3 => kk d' r' v' H' p o3 ((k1.trans k2).trans k3) i3⟩
  · subst ex
    obtain rfl : u = Value.ref a := rx
    refine getmeth_ok I1 ea c hm lk ?_
    refine PySem.W.callWith_K (first := [.ref a]) (h₀ := X.base) I.ok.mod.kin hm.kp (thn (ha.run pos pins s1 σ H1 _ I1 q) fun us s2 ⟨vs, H2, I2, r, q2⟩ => ⟨I2.kIn, ?_⟩) hst hpl
    exact call_P (us := .ref a :: us) (vs := .ref a :: vs) F hr (passAt tk _) I2 (.cons rfl r) q2
theorem d_meth0 (hm : Meth X.K C m f) (F : FR X.prog X.w X.K X.mg X.base k f sd) (tk : Takes X W) (hr : Room k X.A) (ho : PD X W o to)
    (ht : eval (.Call (.Attribute o m apos) [] [] pos) X.env = (do
      let ov ← eval o X.env
      standAt apos.atName
      let (f, first) ← holding [ov] (getMethod ov m pl)
      callWith pos f first (backTo pos (starEach [] X.env)) (backToKw pos (keywordEach [] X.env))) := by rfl) :
    PD X W (.Call (.Attribute o m apos) [] [] pos) (aMeth C sd to aNil) := by
  refine ⟨fun pins s σ H Q I h => ?_⟩
  obtain ⟨XR, δ, r, P, ok, h, kk⟩ := h
  refine PySem.W.methodCall_KW (pl := pl) (thn (ho.run pins s σ H (fun x H1 => ∃ a dx fs, x = V.ref a ∧ H1 a = some (.ins C dx fs) ∧ Cls X.K C ∧ fs.lookup m = none ∧ lift X.K sd [x] H1 Q (WE W σ)) I (td_bind ok h fun d r1 v H1 ⟨hc, h1⟩ o1 k1 i1 => ?_)) fun u s1 ⟨x, H1, I1, rx, a, dx, fs, ex, ea, c, lk, q⟩ => ?_) ht
  · obtain ⟨a, dx, kvs, rfl, s, g⟩ := isC_at hc o1.r i1
    exact ⟨a, dx, kvs, rfl, s, g.cls, Meth.free hm g, lift_at o1 (.cons i1 .nil) h1 fun d' r' v' H' p o3 k3 i3 => kk d' r' v' H' p o3 (k1.trans k3) i3⟩
  · subst ex
    obtain rfl : u = Value.ref a := rx
    refine getmeth_ok I1 ea c hm lk ?_
    exact PySem.W.callWith_K0 (first := [.ref a]) I1.kIn hm.kp (call_P (us := [.ref a]) (vs := [.ref a]) F hr (passAt tk _) I1 (.cons rfl .nil) q)
end
end G

namespace PySem.W
open Sem (wp)
theorem gne_bind (self : Value) : bindSpecial (.builtin "object.__ne__") self = pure (.builtin "object.__ne__", [self]) :=
  (Slot.of (T := "object") (name := "__ne__") (owner := "object") (n := "__ne__") (by rw [typeLookup_type, builtinLookup_eq_fast]; kernel_rfl) (by decide +kernel) (by decide +kernel) (by decide +kernel)
    (.inl (by decide +kernel)) (by rw [isSubtype_type]; kernel_rfl)).bind self
section
variable {prog : Program} {w : World} {A : Around} {E : Value → Shared → Prop} {s : Shared} {K : Frag} {x C L f : Addr} {h₀ : Heap} {m : Str → Option Value} {ox : Obj} {od : Option Obj} {b tb : Value}
/-- a special name of the class that is the default !=: .. -/
theorem gifBound_ne {M : Model} {args : List Value} {Q : Option Value → Shared → Prop} (X : K.In s.heap) (I : InstAt s.heap x ox C od) (hs : findIn K (.ref C) "__ne__" = some (some (.builtin "object.__ne__")))
    (h : wpAny M A (call (.builtin "object.__ne__") (.ref x :: args)) (fun v => Q (some v)) E s) : wpAny M A (callSpecialIfBound? (.ref x) "__ne__" args) Q E s := by
  simp only [callSpecialIfBound?, bindSpecialIfBound?]
  refine wpAny_holding (wpAny_bind (wpAny_bind (wpAny_bind (I.type.here ((looks_findIn X hs).here ?_)))))
  refine wpAny_bind (wpAny_askSetting (wpAny_ite ?_))
  have fin : wpAny M A (call (.builtin "object.__ne__") ([.ref x] ++ args) >>= fun v => pure (some v)) Q E s := wpAny_bind (wpAny_mono h (fun v s' h' => wpAny_pure h') fun _ _ h' => h')
  have L : Looks M s.heap (bindSpecial (.builtin "object.__ne__") (.ref x)) (.builtin "object.__ne__", [.ref x]) := Looks.of_pure (gne_bind _)
  split
  · exact wpAny_bind (L.here (wpAny_pure (by exact fin)))
  · exact wpAny_tryCatch (wpAny_bind (L.here (wpAny_pure (by exact fin))))
theorem gne_entry {b : Value} (X : K.In s.heap) (I : InstAt s.heap x ox C od) (hu : A.units < cLine) (heq : findIn K (.ref C) "__eq__" = some (some (.ref f))) (hf : isFn K (.ref f) = true) {Q : Fin → Shared → Prop}
    (hcall : wpAny (model prog w) A (call (.ref f) [.ref x, b]) (fun v s' => ∃ r, v = .bool r ∧ Q (.done (.ret (.bool (!r)))) s') E s) :
    wpAny (model prog w) A (Builtin.«object.__ne__» ⟨[.ref x, b], []⟩) Q E s := by
  unfold Builtin.«object.__ne__»
  repeat (first
    | with_reducible refine wpAny_cRoomFor hu ?_
    | (refine wpAny_bind (m := callSpecialIfBound? (.ref x) (Str.ofString "__eq__") [b])
        (ifBound_K X I heq hf (wpAny_mono hcall (fun r s' hr => by
          obtain ⟨b, rfl, hq⟩ := hr
          repeat (first | exact hq | exact wpAny_pure hq | exact wpAny_truthy_bool hq | (refine wpAny_bind (m := truthy (.bool _)) (wpAny_truthy_bool ?_)) | wp_step)) fun _ _ e => e)))
    | wp_step)
/-- x != b by the class's own == -/
theorem gne_K {Q : Value → Shared → Prop} (hu : A.units + 1 < cLine) (X : K.In s.heap) (I : InstAt s.heap x ox C od) (hb : Looks (model prog w) s.heap (typeOf b) tb) (hn : notFirst K C tb = true)
    (hs : findIn K (.ref C) "__ne__" = some (some (.builtin "object.__ne__"))) (heq : findIn K (.ref C) "__eq__" = some (some (.ref f))) (hf : isFn K (.ref f) = true) (hm : mroIn K C (.type "object") = some true)
    (h : wpAny (model prog w) A.in1 (call (.ref f) [.ref x, b]) (fun v s' => ∃ r, v = .bool r ∧ Q (.bool (!r)) s') E s) : wpAny (model prog w) A (richCompare .NotEq (.ref x) b) Q E s := by
  have one : wpAny (model prog w) A (tryCompare (.ref x) "__ne__" b) (fun r s' => ∃ v, r = some v ∧ Q v s') E s := by
    unfold tryCompare
    have it : Looks (model prog w) s.heap (isInstance (.ref x) (.type "object")) true := I.type.andThen (looks_mroIn X hm)
    refine wpAny_bind (gifBound_ne X I hs (wpAny_call (codeAny_call_builtin (by decide +kernel) F.cmpEntry_ne (@check_slot (model prog w) _ _ _ "object.__ne__" "object" "__ne__" (.ref x) [b] [] _ F.cmpKind_ne F.cmpSplit_ne it (F.cmpArgs_ne _ _)
      (gne_entry X I (by show A.units + 1 < cLine; exact hu) heq hf (wpAny_mono h (fun v s' hv => ?_) fun _ _ e => e))))))
    obtain ⟨r, rfl, hq⟩ := hv
    exact ⟨r, rfl, wpAny_pure ⟨_, rfl, hq⟩⟩
  unfold richCompare
  simp only [oneThing_ref]
  refine wpAny_holding (wpAny_bind (wpAny_cRoomFor (Nat.lt_of_succ_lt hu) ?_))
  refine wpAny_bind (I.type.here (wpAny_bind (hb.here ?_)))
  split
  · rename_i q
    have e : subIn K tb (.ref C) = some false := by
      rcases Bool.or_eq_true_iff.mp hn with e | e
      · rw [beq_iff_eq.mp e] at q; simp at q
      · exact beq_iff_eq.mp e
    refine wpAny_bind ((looks_subIn X e).here ?_)
    simp only [Bool.false_eq_true, if_false]
    refine wpAny_bind (wpAny_mono one (fun r s' z => ?_) fun _ _ e => e)
    obtain ⟨v, rfl, hq⟩ := z
    exact wpAny_pure hq
  · refine wpAny_bind (wpAny_pure ?_)
    simp only [Bool.false_eq_true, if_false]
    refine wpAny_bind (wpAny_mono one (fun r s' z => ?_) fun _ _ e => e)
    obtain ⟨v, rfl, hq⟩ := z
    exact wpAny_pure hq
end
end PySem.W
namespace G
open PySem PySem.Spec L2
open PyProof.Rows (envOfC)
/-! ### the type of data -/
def tyV : D → Value
  | .ins C _ _ => .ref C
  | d => .type (tyD d)
theorem tyC {K : PySem.W.Frag} {C : Addr} {d : D} {r : Rs} {v : V} {H : Hp} (h : isC C d r) (ro : Rok K r H) (i : Is K (mem r) H v d) : TyX K H v (.ref C) := by
  obtain ⟨a, dx, kvs, rfl, s, g⟩ := isC_at h ro i
  exact .base (.ins s g.cls g.p.kls g.p.get g.p.tak g.p.mro)
/-- what isinstance(.., C) finds at plain data -/
structure IsK (K : PySem.W.Frag) (C : Addr) : Prop where
  ic : PySem.W.isClsIn K C = true
  ty : PySem.W.typeIn K (.ref C) = some (.type "type")
  sub : ∀ n ∈ ks6, PySem.W.subIn K (.type n) (.ref C) = some false
theorem IsK.of {K : PySem.W.Frag} {C : Addr} (k : IsK K C) {t : Value} {b : Bool} (h : PySem.W.subIn K t (.ref C) = some b) (ne : t ≠ .ref C) : PySem.W.kitOne K t (.ref C) = some b := by
  unfold PySem.W.kitOne
  rw [if_neg (fun e => ne (beq_iff_eq.mp e))]
  have e : ((PySem.W.clsIn K C).isSome && PySem.W.typeIn K (.ref C) == some (.type "type")) = true := by
    have := k.ic
    unfold PySem.W.isClsIn at this
    rw [this, k.ty] <;> rfl
  show (if ((PySem.W.clsIn K C).isSome && PySem.W.typeIn K (.ref C) == some (.type "type")) = true then PySem.W.subIn K t (.ref C) else none) = some b
  rw [if_pos e]
  exact h
theorem IsK.no {K : PySem.W.Frag} {C : Addr} (k : IsK K C) : ∀ n ∈ ks6, PySem.W.kitOne K (.type n) (.ref C) = some false := fun n hn => k.of (k.sub n hn) (fun e => by cases e)
theorem IsK.nf {K : PySem.W.Frag} {C : Addr} (k : IsK K C) : ∀ n ∈ ks6, PySem.W.notFirst K C (.type n) = true := fun n hn => by
  unfold PySem.W.notFirst
  rw [k.sub n hn]
  exact Bool.or_true _
theorem kit_self {K : PySem.W.Frag} {C : Addr} : PySem.W.kitOne K (.ref C) (.ref C) = some true := by
  unfold PySem.W.kitOne
  rw [if_pos (beq_self_eq_true _)]
theorem tyD_mem {d : D} (n : nad d = true) : tyD d ∈ ks6 := by
  cases d <;> first | (cases n; done) | simp [tyD, ks6]
inductive oIsC (C : Addr) : D → Rs → PK1 → Prop
  | yes {d : D} {r : Rs} {P : PK1} (h : isC C d r) (p : P (.bl true) r) : oIsC C d r P
  | no {d : D} {r : Rs} {P : PK1} (h : nad d = true) (p : P (.bl false) r) : oIsC C d r P
def aIsC (C : Addr) (t : AT) : AT := fun x δ r P => t x δ r fun d r1 => oIsC C d r1 P
section
variable {X : Cx} {W : WX} {C : Addr} {a b : Expr} {ta tb : AT} {p pos : Pos}
/-- isinstance(x, C) -/
theorem d_isC {q : Pos} {y : Str} (k : IsK X.K C) (hg : Gl X "isinstance") (hm : X.mg "isinstance" = none) (ha : PD X W a ta) (my : X.mg y = some (.ref C)) (gy : Gl X y := by rfl) (hdy : (y == ("__debug__" : Str)) = false := by decide)
    (he : starEach [a, .Name y q] X.env = (false, eval a X.env) :: starEach [.Name y q] X.env := by rfl) (hpl : (backTo pos (starEach [.Name y q] X.env)).any (·.1) = false := by rfl) (he2 : starEach [.Name y q] X.env = (false, eval (.Name y q) X.env) :: starEach [] X.env := by rfl) :
    PD X W (.Call (.Name "isinstance" p) [a, .Name y q] [] pos) (aIsC C ta) := imE (pe_callB call_isi hg hm (by decide +kernel) (pa_cons ha (pa_cons (pe_glob (v := .ref C) gy my rfl hdy) pa_nil he2) he) (by decide) (by decide) he hpl) fun σ H Q q => by
  obtain ⟨XR, δ, r, P, ok, h, k'⟩ := q
  refine td_bind ok h fun d r1 v H1 h1 o1 k1 i1 => ?_
  cases h1 with
  | yes hc p => exact ⟨v, .ref C, _, _, _, rfl, .own C, tyC hc o1.r i1, kit_self, k' _ r1 _ H1 p o1 k1 (.bl _)⟩
  | no n p => exact ⟨v, .ref C, _, _, _, rfl, .own C, tyX i1 n, k.no _ (tyD_mem n), k' _ r1 _ H1 p o1 k1 (.bl _)⟩
end
/-! ### x == y by the class's own def -/
structure EqK (K : PySem.W.Frag) (C g : Addr) : Prop where
  at_ : PySem.W.findIn K (.ref C) "__eq__" = some (some (.ref g))
  fn : PySem.W.isFn K (.ref g) = true
  nf : ∀ n ∈ ks6, PySem.W.notFirst K C (.type n) = true
  ne : PySem.W.findIn K (.ref C) "__ne__" = some (some (.builtin "object.__ne__"))
theorem nf_self {K : PySem.W.Frag} {C : Addr} : PySem.W.notFirst K C (.ref C) = true := by
  unfold PySem.W.notFirst
  rw [beq_self_eq_true, Bool.true_or]
def rOwnI (K : PySem.W.Frag) (C : Addr) (sp : Sp) (neg : Bool) : R2 := fun x y H Q => ∃ a dx kvs t, x = .ref a ∧ H a = some (.ins C dx kvs) ∧ TyX K H y t ∧ PySem.W.notFirst K C t = true ∧ PySem.W.mroIn K C (.type "object") = some true ∧ sp [x, y] H (fun v H' => ∃ b : Bool, v = .bl b ∧ Q (.bl (cond neg (!b) b)) H') E0
section
variable {X : Cx} {W : WX} {k : Nat} {C g : Addr} {sp : Sp}
theorem op_eqI (e : EqK X.K C g) (F : FnR X.prog X.w X.K X.mg X.base (L2.CX X.prog X.w) k g sp) (hr : Room k X.A) : OpR X (compareOp .Eq) (rOwnI X.K C sp false) := by
  intro pins s σ H x y v u Q I rx ry h
  obtain ⟨a, dx, kvs, t, rfl, ha, ty, hn, _, q⟩ := h
  cases (show v = Value.ref a from rx)
  obtain ⟨mA, O, _⟩ := ins_get I.hok ha
  obtain ⟨od, J, _⟩ := O.look
  obtain ⟨m, hF⟩ := I.fr
  obtain ⟨P, Z, p, _⟩ := kit_of I ry ty
  show wpAny _ _ (richCompare .Eq (.ref a) u) _ _ _
  refine PySem.W.cmp_K (op := .Eq) hr.units0 hF I.ok.mod.kin J (Z.ty _ _ I.kIn p) hn e.at_ e.fn ?_
  refine thn (call_P (us := [.ref a, u]) (vs := [.ref a, y]) F hr passE I (.cons rfl (.cons ry .nil)) q) fun w s' z => ?_
  obtain ⟨z', H', I', rz, b, eb, qz⟩ := z
  subst eb
  exact SlX.cmpback rz ⟨_, H', I', rz, qz⟩
theorem op_neI (e : EqK X.K C g) (F : FnR X.prog X.w X.K X.mg X.base (L2.CX X.prog X.w) k g sp) (hr : Room (k + 1) X.A) : OpR X (compareOp .NotEq) (rOwnI X.K C sp true) := by
  intro pins s σ H x y v u Q I rx ry h
  obtain ⟨a, dx, kvs, t, rfl, ha, ty, hn, hm, q⟩ := h
  cases (show v = Value.ref a from rx)
  obtain ⟨mA, O, _⟩ := ins_get I.hok ha
  obtain ⟨od, J, _⟩ := O.look
  obtain ⟨P, Z, p, _⟩ := kit_of I ry ty
  show wpAny _ _ (richCompare .NotEq (.ref a) u) _ _ _
  refine PySem.W.gne_K (by have := hr.units; omega) I.kIn J (Z.ty _ _ I.kIn p) hn e.ne e.at_ e.fn hm ?_
  refine wpAny_call (codeAny_mono (F X.A.in1 X.stack s H [.ref a, u] [.ref a, y] _ E0 hr.in1 I.env0.in1 (.cons rfl (.cons ry .nil)) q) fun r s' hq => ?_)
  cases r with
  | error e => exact passE pins H s e s' I hq
  | ok fl =>
    cases fl with
    | ret u2 =>
      obtain ⟨z', H', I', rz, b, eb, qz⟩ := I.after hq
      subst eb
      cases rz
      exact ⟨b, rfl, .bl (!b), H', I', rfl, qz⟩
    | next => exact False.elim hq
    | brk => exact False.elim hq
    | cont => exact False.elim hq
def aEqI (C : Addr) (sd : SpX) (neg : Bool) (ta tb : AT) : AT := fun x δ r P => ta x δ r fun d1 r1 => tb x δ r1 fun d2 r2 => isC C d1 r2 ∧ (nad d2 = true ∨ isC C d2 r2) ∧ sd [d1, d2] r2 (fun d r3 => ∃ b, d = .bl b ∧ P (.bl (cond neg (!b) b)) r3) noX
theorem td_eqI {C : Addr} {sd : SpX} {neg : Bool} {ta tb : AT} {σ : L2.St} {H : Hp} {Q : VK} (e : EqK X.K C g) (q : TD X.K W (aEqI C sd neg ta tb) σ H Q) : tOp (rOwnI X.K C (lift X.K sd) neg) (TD X.K W ta) (TD X.K W tb) σ H Q := by
  obtain ⟨XR, δ, r, P, ok, h, kk⟩ := q
  refine td_bind ok h fun d1 r1 v1 H1 h1 o1 k1 i1 => td_bind o1 h1 fun d2 r2 v2 H2 h2 o2 k2 i2 => ?_
  obtain ⟨hc, hd, h2⟩ := h2
  obtain ⟨a, dx, kvs, rfl, s, gd⟩ := isC_at hc o2.r (k2 _ _ i1)
  have fin : lift X.K sd [.ref a, v2] H2 (fun v H' => ∃ b : Bool, v = .bl b ∧ Q (.bl (cond neg (!b) b)) H') E0 := lift_n o2 (.cons (k2 _ _ i1) (.cons i2 .nil)) h2 fun d r' v H' p o3 k3 i3 => by
    obtain ⟨b, rfl, p⟩ := p
    cases i3
    exact ⟨b, rfl, kk _ r' _ H' p o3 ((k1.trans k2).trans k3) (.bl _)⟩
  rcases hd with hd | hd
  · exact ⟨a, dx, kvs, _, rfl, s, tyX i2 hd, e.nf _ (tyD_mem hd), gd.p.mro, fin⟩
  · exact ⟨a, dx, kvs, _, rfl, s, tyC hd o2.r i2, nf_self, gd.p.mro, fin⟩
variable {C : Addr} {sd : SpX} {ta tb : AT} {a b : Expr} {pos : Pos}
theorem d_eqI (e : EqK X.K C g) (F : FR X.prog X.w X.K X.mg X.base k g sd) (hr : Room k X.A) (ha : PD X W a ta) (hb : PD X W b tb) : PD X W (.Compare a [.Eq] [b] pos) (aEqI C sd false ta tb) := imE (pe_cmpR (op_eqI e F hr) ha hb (nomark _)) fun _ _ _ q => td_eqI e q
theorem d_neI (e : EqK X.K C g) (F : FR X.prog X.w X.K X.mg X.base k g sd) (hr : Room (k + 1) X.A) (ha : PD X W a ta) (hb : PD X W b tb) : PD X W (.Compare a [.NotEq] [b] pos) (aEqI C sd true ta tb) := imE (pe_cmpR (op_neI e F hr) ha hb (nomark _)) fun _ _ _ q => td_eqI e q
theorem b_eqI (e : EqK X.K C g) (F : FR X.prog X.w X.K X.mg X.base k g sd) (hr : Room k X.A) (ha : PD X W a ta) (hb : PD X W b tb) : PDB X W (.Compare a [.Eq] [b] pos) (aTest (aEqI C sd false ta tb)) := imT (pt_cmpR (op_eqI e F hr) ha hb (nomark _)) fun _ _ _ q => tdb_test (fun _ q => td_eqI e q) q
theorem b_neI (e : EqK X.K C g) (F : FR X.prog X.w X.K X.mg X.base k g sd) (hr : Room (k + 1) X.A) (ha : PD X W a ta) (hb : PD X W b tb) : PDB X W (.Compare a [.NotEq] [b] pos) (aTest (aEqI C sd true ta tb)) := imT (pt_cmpR (op_neI e F hr) ha hb (nomark _)) fun _ _ _ q => tdb_test (fun _ q => td_eqI e q) q
end
/-! ### C.m(..), m a static method; C.f, a constant of the class -/
structure SMet (K : PySem.W.Frag) (C : Addr) (mc : Value) (m : Str) (p g : Addr) : Prop where
  rd : ClX.CRead K C mc
  at_ : PySem.W.findCls K (.ref C) mc m = some (.get (.builtin "staticmethod.__get__") (.ref p) .none (.ref C))
  rc : ∃ rest, PySem.W.recIn K p "staticmethod" = some (.ref g :: rest)
  kp : PySem.W.keepIn K (.ref g) = true
section
variable {X : Cx} {W : WX} {k : Nat} {C p g : Addr} {mc : Value} {m y : Str} {sd : SpX} {q apos pos : Pos} {e : Expr} {es : List Expr} {l : AL} {pl : Sem Bool}
theorem d_stat (k1 : SMet X.K C mc m p g) (F : FR X.prog X.w X.K X.mg X.base k g sd) (tk : Takes X W) (hr : Room k X.A) (my : X.mg y = some (.ref C)) (ha : PDL X W (e :: es) l) (gy : Gl X y := by rfl) (hdy : (y == ("__debug__" : Str)) = false := by decide)
    (hst : starEach (e :: es) X.env = (false, eval e X.env) :: starEach es X.env := by rfl) (hpl : (backTo pos (starEach es X.env)).any (·.1) = false := by rfl)
    (ht : eval (.Call (.Attribute (.Name y q) m apos) (e :: es) [] pos) X.env = (do
      let ov ← eval (.Name y q) X.env
      standAt apos.atName
      let (f, first) ← holding [ov] (getMethod ov m pl)
      callWith pos f first (backTo pos (starEach (e :: es) X.env)) (backToKw pos (keywordEach [] X.env))) := by rfl) :
    PD X W (.Call (.Attribute (.Name y q) m apos) (e :: es) [] pos) (aCall sd l) := by
  refine ⟨fun pins s σ H Q I h => ?_⟩
  obtain ⟨XR, δ, r, P, ok, h, kk⟩ := h
  refine PySem.W.methodCall_KW (pl := pl) (ld_glob I gy my ?_ hdy) ht
  obtain ⟨rest, hp⟩ := k1.rc
  refine PySem.W.method_cls I.kIn k1.rd.ga (PySem.W.cls_bind I.kIn k1.rd.rd k1.at_ (wpAny_call (PySem.W.sm_get (s := { s with toks := s.toks + 1 }) I.kIn hp (PySem.W.handed_on rfl ?_))))
  refine PySem.W.callWith_K (first := []) (h₀ := X.base) I.ok.mod.kin k1.kp (thn (ha.run pos pins _ σ H _ (I.tok _) (tdl_bind ok h fun ds r1 vs H1 h1 o1 kk1 i1 => lift_at o1 i1 h1 fun d' r' v' H' p o3 k3 i3 => kk d' r' v' H' p o3 (kk1.trans k3) i3)) fun us s1 ⟨vs, H1, I1, r, q1⟩ => ⟨I1.kIn, ?_⟩) hst hpl
  exact call_P (us := us) (vs := vs) F hr (passAt tk _) I1 r q1
theorem d_con {f : Str} {v : V} {u : Value} {d : D} (r : ClX.CRead X.K C mc) (c : ClX.CVal X.K C mc f v u) (hd : ∀ M H, Is X.K M H v d) (my : X.mg y = some (.ref C)) (gy : Gl X y := by rfl) (hdy : (y == ("__debug__" : Str)) = false := by decide)
    (hb : attributeBase (.Name y q) f X.env (eval (.Name y q) X.env) = eval (.Name y q) X.env := by rfl) : PD X W (.Attribute (.Name y q) f pos) (aC d) := imE (ClX.pe_cval (pe_glob (v := .ref C) gy my rfl hdy) hb) fun σ H Q h => by
  obtain ⟨XR, δ, r1, P, ok, h, kk⟩ := h
  exact ⟨C, mc, v, u, rfl, r, c, kk _ _ _ _ h ok Kp.refl (hd _ _)⟩
end
/-! ### err.f in an except suite -/
def aXf (a : Addr) (cls : Value) (d : Option Addr) (Cs : List Addr) (f : Str) (te : AT) : AT := fun x δ r P => te x δ r fun v r1 => v = .adr a ∧ ∃ C dx fs ds i y pre post, C ∈ Cs ∧ cls = .ref C ∧ d = some dx ∧ r1 = pre ++ xdA dx fs ds :: post ∧ ixF fs f = some i ∧ ds[i]? = some y ∧ P y r1
section
theorem d_xf {X : Cx} {W : WX} {a : Addr} {oe : Obj} {cls : Value} {d : Option Addr} {pn : List (Addr × Obj)} {Cs : List Addr} {e : Expr} {te : AT} {pos : Pos} {f : Str} (T : ∀ C ∈ Cs, XfC X.K C ∧ PySem.W.findIn X.K (.ref C) f = some none)
    (hz : Zc cls d oe) (hf : ∃ vs, oe.data = .fields vs) (he : PD (X.suite a ((a, oe) :: pn)) W e te) (hb : attributeBase e f X.env (eval e X.env) = eval e X.env := by rfl) : PD (X.suite a ((a, oe) :: pn)) W (.Attribute e f pos) (aXf a cls d Cs f te) := by
  refine ⟨fun pins s σ H Q I h => ?_⟩
  obtain ⟨XR, δ, r, P, ok, h, kk⟩ := h
  refine attr_of hb (thn (he.run pins s σ H (fun x H1 => x = V.ref a ∧ ∃ C ∈ Cs, cls = .ref C ∧ ∃ (dd : Addr) (fs : List (Str × V)) (v : V), d = some dd ∧ H1 dd = some (.xd fs) ∧ fs.lookup f = some v ∧ Q v H1) I (td_bind ok h fun dv r1 v H1 h1 o1 k1 i1 => ?_)) fun u s1 hh => ?_)
  · obtain ⟨rfl, C, dx, fs, ds, i, y, pre, post, hC, ec, ed, er, hi, hy, p⟩ := h1
    cases i1
    subst er
    obtain ⟨kvs, e1, e2, e3⟩ := mid_R o1.r
    obtain ⟨v, hv, iv⟩ := e3.getD hy
    exact ⟨rfl, C, hC, ec, dx, kvs, v, ed, e1, ixF_get e2 hi hv, kk _ _ _ _ p o1 k1 iv⟩
  · obtain ⟨x, H1, I1, rx, ex, C, hC, ec, dd, fs, v, ed, ea, l, q⟩ := hh
    subst ex
    obtain rfl : u = Value.ref a := rx
    subst ec
    subst ed
    obtain ⟨T1, hno⟩ := T C hC
    obtain ⟨ha, _⟩ := I1.pin (a, oe) (List.mem_append_left _ List.mem_cons_self)
    obtain ⟨vs, hd⟩ := hf
    have hx : ObjOk X.prog X.w H1 s1.heap dd (.xd fs) := I1.hok dd _ ea
    obtain ⟨mA, hns, hr⟩ := hx
    obtain ⟨od, ho, hl⟩ := lookIn_ns hns
    obtain ⟨u, hu, ru⟩ := RelO.some_of (v := v) (o := mA f) (by rw [← l]; exact hr f)
    have J : PySem.W.InstAt s1.heap a oe C (some od) := ⟨ha, hz.1, by unfold PySem.W.notCls; rw [hd] <;> rfl, by rw [hz.2]; exact ho⟩
    exact HandSPX.exc_get I1.kIn J T1.ga T1.gg T1.exC (PySem.W.findObj_own T1.hdC hno rfl (by rw [hl, hu])) (handed_of ru) ⟨v, H1, I1.tok _, ru, q⟩
end
end G

namespace G
open PySem PySem.Spec L2
open PyProof.Rows (envOfC)
/-! ### classes of the text -/
/-- a def as it stands behind the top, whatever its defaults are -/
structure FunA (K : PySem.W.Frag) (x qual : Str) (st : Stmt) (f : Addr) (fd : FuncData) : Prop where
  ex : ∃ (oc : Value) (od : Option Addr) (dV kV doc pm : Value) (an : Option Addr) (cdv ct : Value) (osl : Array (Option Value)),
    fd = PySem.W.fnOf x qual (defArgs st) (defBody st) (defScope st) dV kV doc pm an cdv ct ∧ K.lookup f = some ⟨oc, od, .func fd, osl⟩ ∧ PySem.W.codeIn K cdv qual = true
section
variable {P : Program} {w : World} {K : PySem.W.Frag} {mg : Str → Option Value} {base : Heap}
/-- THE RULE for such a def -/
theorem fnA_d {x qual : Str} {st : Stmt} {f : Addr} {fd : FuncData} {N ps : List Str} {k : Nat} {sd : SpX} (F : FunA K x qual st f fd) (S : FnScope N ps (defScope st)) (len : ∀ ds r P' XR, sd ds r P' XR → ds.length = ps.length)
    (hbody : ∀ (cdv : Value) (A : Around) (outer : List Env) (s : Shared) (H : Hp) (E : XK), Room k (A.deeper (envOfC qual (defScope st) s.heap.objs.size f cdv)) → Takes (cxOf (L2.CX P w) P w K mg base N qual (defScope st) f cdv A outer s H E) (WK E) →
      PassesOwn (model P w) (cxOf (L2.CX P w) P w K mg base N qual (defScope st) f cdv A outer s H E).A (cxOf (L2.CX P w) P w K mg base N qual (defScope st) f cdv A outer s H E).env (cxOf (L2.CX P w) P w K mg base N qual (defScope st) f cdv A outer s H E).xe →
      ∃ t : AS, PBD (cxOf (L2.CX P w) P w K mg base N qual (defScope st) f cdv A outer s H E) (WK E) (defBody st) t ∧
      ∀ ds r P' XR, sd ds r P' XR → t { nx := fun _ r' => fit P' .non r', rt := fit P', xr := fitX XR } (startD N ds) r) : FO P w K mg base (k + 1) f fd ps sd := by
  obtain ⟨oc, od, dV, kV, doc, pm, an, cdv, ct, osl, rfl, lk, hcd⟩ := F.ex
  refine fn_of lk hcd S (fun vs H Q E h => ?_) fun A outer s H vs Q E hr h => ?_
  · obtain ⟨r, ds, P', XR, hr, hi, hs, _, _⟩ := h
    rw [hi.length]
    exact len _ _ _ _ hs
  · obtain ⟨r, ds, P', XR, ro, hi, hs, hq, hx⟩ := h
    obtain ⟨t, ht, hread⟩ := hbody cdv A outer s H E hr (takes_of rfl rfl rfl rfl) (passes_of rfl)
    refine ⟨_, ht, startD N ds, r, { nx := fun _ r' => fit P' .non r', rt := fit P', xr := fitX XR }, start_ok ro hi ?_, hread ds r P' XR hs, ⟨fun δ' r' σ' H' a o k => ?_, fun d r' v H' a o k i => ?_, fun _ _ _ _ z => z.elim, fun _ _ _ _ z => z.elim⟩⟩
    · rintro C fs es δ' r' σ' a H' ⟨r0, l, q⟩ o k e
      exact hx C fs es r0 a H' q (l.r _ _ o.r) (k.trans l.kp) (e.anti l.m)
    · obtain ⟨r0, l, a⟩ := a
      exact hq _ r0 _ H' a (l.r _ _ o.r) (k.trans l.kp) .non
    · obtain ⟨r0, l, a⟩ := a
      exact hq _ r0 _ H' a (l.r _ _ o) (k.trans l.kp) (is_anti l.m i)
end
/-- what a body must give -/
def Bod (P : Program) (w : World) (K : PySem.W.Frag) (mg : Str → Option Value) (base : Heap) (qual : Str) (st : Stmt) (N : List Str) (k : Nat) (sd : SpX) : Prop :=
  ∀ (f : Addr) (cdv : Value) (A : Around) (outer : List Env) (s : Shared) (H : Hp) (E : XK), Room k (A.deeper (envOfC qual (defScope st) s.heap.objs.size f cdv)) → Takes (cxOf (L2.CX P w) P w K mg base N qual (defScope st) f cdv A outer s H E) (WK E) →
      PassesOwn (model P w) (cxOf (L2.CX P w) P w K mg base N qual (defScope st) f cdv A outer s H E).A (cxOf (L2.CX P w) P w K mg base N qual (defScope st) f cdv A outer s H E).env (cxOf (L2.CX P w) P w K mg base N qual (defScope st) f cdv A outer s H E).xe →
      ∃ t : AS, PBD (cxOf (L2.CX P w) P w K mg base N qual (defScope st) f cdv A outer s H E) (WK E) (defBody st) t ∧
      ∀ ds r P' XR, sd ds r P' XR → t { nx := fun _ r' => fit P' .non r', rt := fit P', xr := fitX XR } (startD N ds) r
/-- an own class: where it stands, how it answers -/
structure KCls (K : PySem.W.Frag) (mg : Str → Option Value) (x : Str) (C : Addr) (fs : List Str) : Prop where
  g : mg x = some (.ref C)
  p : Plain K C
  no : ∀ f ∈ fs, NoAttr K C f
  isk : IsK K C
theorem KCls.good {K : PySem.W.Frag} {mg : Str → Option Value} {x : Str} {C : Addr} {fs : List Str} (k : KCls K mg x C fs) : Good K C fs := ⟨k.p, k.no⟩
theorem fm_nil {α : Type} {p : α → Prop} : ∀ x ∈ ([] : List α), p x := fun _ h => by cases h
theorem fm_cons {α : Type} {p : α → Prop} {a : α} {l : List α} (h : p a) (t : ∀ x ∈ l, p x) : ∀ x ∈ a :: l, p x := fun x hx => by
  rcases List.mem_cons.mp hx with e | hx
  · rw [e]; exact h
  · exact t x hx
/-- methods, static methods, makers: where their defs stand -/
def DfM (K : PySem.W.Frag) (C : Addr) (m qual : Str) (st : Stmt) (ps : List Str) : Prop := ∃ f fd, FunA K m qual st f fd ∧ Meth K C m f ∧ Binds K fd ps []
def DfS (K : PySem.W.Frag) (C : Addr) (m qual : Str) (st : Stmt) (ps : List Str) : Prop := ∃ mc p f fd, FunA K m qual st f fd ∧ SMet K C mc m p f ∧ Binds K fd ps []
/-- dd: the defaults -/
def DfN (K : PySem.W.Frag) (C : Addr) (qual : Str) (st : Stmt) (ps : List Str) (dd : List D) : Prop := ∃ f fd, FunA K "__init__" qual st f fd ∧ Mk K C f ∧ ∀ j, j ≤ dd.length → ∃ dus dvs, Binds K fd ps dus ∧ Vals dvs dus ∧ ∀ M H, IsAll K M H dvs (dd.drop j)
def DfE (K : PySem.W.Frag) (C : Addr) (qual : Str) (st : Stmt) (ps : List Str) : Prop := ∃ f fd, FunA K "__eq__" qual st f fd ∧ EqK K C f ∧ Binds K fd ps []
/-- .. and what they promise -/
def ClM (P : Program) (w : World) (K : PySem.W.Frag) (mg : Str → Option Value) (base : Heap) (k : Nat) (C : Addr) (m : Str) (sd : SpX) : Prop := ∃ f, Meth K C m f ∧ FR P w K mg base k f sd
def ClS (P : Program) (w : World) (K : PySem.W.Frag) (mg : Str → Option Value) (base : Heap) (k : Nat) (C : Addr) (m : Str) (sd : SpX) : Prop := ∃ mc p f, SMet K C mc m p f ∧ FR P w K mg base k f sd
def ClN (P : Program) (w : World) (K : PySem.W.Frag) (mg : Str → Option Value) (base : Heap) (k : Nat) (C : Addr) (dd : List D) (sd : SpX) : Prop := ∃ f, Mk K C f ∧ ∀ j, j ≤ dd.length → FR P w K mg base k f (fun ds r P XR => sd (ds ++ dd.drop j) r P XR)
def ClE (P : Program) (w : World) (K : PySem.W.Frag) (mg : Str → Option Value) (base : Heap) (k : Nat) (C : Addr) (sd : SpX) : Prop := ∃ f, EqK K C f ∧ FR P w K mg base k f sd
section
variable {P : Program} {w : World} {K : PySem.W.Frag} {mg : Str → Option Value} {base : Heap} {C : Addr} {m qual : Str} {st : Stmt} {N ps : List Str} {dd : List D} {k j : Nat} {sd sd' : SpX}
theorem clm_of (d : DfM K C m qual st ps) (S : FnScope N ps (defScope st)) (len : ∀ ds r P' XR, sd ds r P' XR → ds.length = ps.length) (h : Bod P w K mg base qual st N k sd) : ClM P w K mg base (k + 1) C m sd := by
  obtain ⟨f, fd, F, M, b⟩ := d
  exact ⟨f, M, fr_of (fnA_d F S len (h f)) b⟩
theorem cls_of (d : DfS K C m qual st ps) (S : FnScope N ps (defScope st)) (len : ∀ ds r P' XR, sd ds r P' XR → ds.length = ps.length) (h : Bod P w K mg base qual st N k sd) : ClS P w K mg base (k + 1) C m sd := by
  obtain ⟨mc, p, f, fd, F, M, b⟩ := d
  exact ⟨mc, p, f, M, fr_of (fnA_d F S len (h f)) b⟩
theorem cln_of (d : DfN K C qual st ps dd) (S : FnScope N ps (defScope st)) (len : ∀ ds r P' XR, sd ds r P' XR → ds.length = ps.length) (h : Bod P w K mg base qual st N k sd) : ClN P w K mg base (k + 1) C dd sd := by
  obtain ⟨f, fd, F, M, b⟩ := d
  refine ⟨f, M, fun j hj => ?_⟩
  obtain ⟨dus, dvs, b1, b2, b3⟩ := b j hj
  exact fr_dfl (fnA_d F S len (h f)) b1 b2 b3
theorem cle_of (d : DfE K C qual st ps) (S : FnScope N ps (defScope st)) (len : ∀ ds r P' XR, sd ds r P' XR → ds.length = ps.length) (h : Bod P w K mg base qual st N k sd) : ClE P w K mg base (k + 1) C sd := by
  obtain ⟨f, fd, F, M, b⟩ := d
  exact ⟨f, M, fr_of (fnA_d F S len (h f)) b⟩
theorem fr_never {f : Addr} : FR P w K mg base k f (fun _ _ _ _ => False) := fun A outer s H us vs Q E _ _ _ ⟨_, _, _, _, _, _, z, _⟩ => z.elim
theorem fr_mono {f : Addr} (F : FR P w K mg base j f sd) (h : j ≤ k) : FR P w K mg base k f sd := fun A outer s H us vs Q E hr => F A outer s H us vs Q E (hr.mono h)
end
section
variable {X : Cx} {W : WX} {k j : Nat} {C : Addr} {sd : SpX} {dd : List D} {x y m : Str} {fs : List Str} {p q apos pos : Pos} {e o a b : Expr} {es : List Expr} {l : AL} {to ta tb : AT} {pl : Sem Bool}
theorem d_mt (M : ClM X.prog X.w X.K X.mg X.base k C m sd) (tk : Takes X W) (hr : Room j X.A) (ho : PD X W o to) (ha : PDL X W (e :: es) l) (hj : k ≤ j := by first | decide | exact Nat.le_refl _ | omega)
    (hst : starEach (e :: es) X.env = (false, eval e X.env) :: starEach es X.env := by rfl) (hpl : (backTo pos (starEach es X.env)).any (·.1) = false := by rfl)
    (ht : eval (.Call (.Attribute o m apos) (e :: es) [] pos) X.env = (do
      let ov ← eval o X.env
      standAt apos.atName
      let (f, first) ← holding [ov] (getMethod ov m pl)
      callWith pos f first (backTo pos (starEach (e :: es) X.env)) (backToKw pos (keywordEach [] X.env))) := by rfl) :
    PD X W (.Call (.Attribute o m apos) (e :: es) [] pos) (aMeth C sd to l) := by
  obtain ⟨f, M, F⟩ := M
  exact d_meth M F tk (hr.mono hj) ho ha hst hpl ht
theorem d_mt0 (M : ClM X.prog X.w X.K X.mg X.base k C m sd) (tk : Takes X W) (hr : Room j X.A) (ho : PD X W o to) (hj : k ≤ j := by first | decide | exact Nat.le_refl _ | omega)
    (ht : eval (.Call (.Attribute o m apos) [] [] pos) X.env = (do
      let ov ← eval o X.env
      standAt apos.atName
      let (f, first) ← holding [ov] (getMethod ov m pl)
      callWith pos f first (backTo pos (starEach [] X.env)) (backToKw pos (keywordEach [] X.env))) := by rfl) :
    PD X W (.Call (.Attribute o m apos) [] [] pos) (aMeth C sd to aNil) := by
  obtain ⟨f, M, F⟩ := M
  exact d_meth0 M F tk (hr.mono hj) ho ht
theorem d_st (M : ClS X.prog X.w X.K X.mg X.base k C m sd) (kc : KCls X.K X.mg y C fs) (tk : Takes X W) (hr : Room j X.A) (ha : PDL X W (e :: es) l) (hj : k ≤ j := by first | decide | exact Nat.le_refl _ | omega) (gy : Gl X y := by rfl) (hdy : (y == ("__debug__" : Str)) = false := by decide)
    (hst : starEach (e :: es) X.env = (false, eval e X.env) :: starEach es X.env := by rfl) (hpl : (backTo pos (starEach es X.env)).any (·.1) = false := by rfl)
    (ht : eval (.Call (.Attribute (.Name y q) m apos) (e :: es) [] pos) X.env = (do
      let ov ← eval (.Name y q) X.env
      standAt apos.atName
      let (f, first) ← holding [ov] (getMethod ov m pl)
      callWith pos f first (backTo pos (starEach (e :: es) X.env)) (backToKw pos (keywordEach [] X.env))) := by rfl) :
    PD X W (.Call (.Attribute (.Name y q) m apos) (e :: es) [] pos) (aCall sd l) := by
  obtain ⟨mc, p, f, M, F⟩ := M
  exact d_stat M F tk (hr.mono hj) kc.g ha gy hdy hst hpl ht
/-- C(..), the defaults behind the first i used -/
theorem d_mk (i : Nat) (M : ClN X.prog X.w X.K X.mg X.base k C dd sd) (kc : KCls X.K X.mg x C fs) (tk : Takes X W) (hr : Room j X.A) (ha : PDL X W (e :: es) l) (hi : i ≤ dd.length := by first | decide | exact Nat.le_refl _) (hj : k + 1 ≤ j := by first | decide | exact Nat.le_refl _ | omega)
    (hg : Gl X x := by rfl) (hdb : (x == ("__debug__" : Str)) = false := by decide) (he : starEach (e :: es) X.env = (false, eval e X.env) :: starEach es X.env := by rfl) (hpl : (backTo pos (starEach es X.env)).any (·.1) = false := by rfl) :
    PD X W (.Call (.Name x p) (e :: es) [] pos) (aNew C (fun ds r P XR => sd (ds ++ dd.drop i) r P XR) l) := by
  obtain ⟨f, M, F⟩ := M
  exact d_new M kc.p (F i hi) tk (hr.mono hj) kc.g ha hg hdb he hpl
theorem d_eqi (M : ClE X.prog X.w X.K X.mg X.base k C sd) (hr : Room j X.A) (ha : PD X W a ta) (hb : PD X W b tb) (hj : k ≤ j := by first | decide | exact Nat.le_refl _ | omega) : PD X W (.Compare a [.Eq] [b] pos) (aEqI C sd false ta tb) := by
  obtain ⟨f, M, F⟩ := M
  exact d_eqI M F (hr.mono hj) ha hb
theorem d_nei (M : ClE X.prog X.w X.K X.mg X.base k C sd) (hr : Room j X.A) (ha : PD X W a ta) (hb : PD X W b tb) (hj : k + 1 ≤ j := by first | decide | exact Nat.le_refl _ | omega) : PD X W (.Compare a [.NotEq] [b] pos) (aEqI C sd true ta tb) := by
  obtain ⟨f, M, F⟩ := M
  exact d_neI M F (hr.mono hj) ha hb
theorem b_eqi (M : ClE X.prog X.w X.K X.mg X.base k C sd) (hr : Room j X.A) (ha : PD X W a ta) (hb : PD X W b tb) (hj : k ≤ j := by first | decide | exact Nat.le_refl _ | omega) : PDB X W (.Compare a [.Eq] [b] pos) (aTest (aEqI C sd false ta tb)) := by
  obtain ⟨f, M, F⟩ := M
  exact b_eqI M F (hr.mono hj) ha hb
theorem b_nei (M : ClE X.prog X.w X.K X.mg X.base k C sd) (hr : Room j X.A) (ha : PD X W a ta) (hb : PD X W b tb) (hj : k + 1 ≤ j := by first | decide | exact Nat.le_refl _ | omega) : PDB X W (.Compare a [.NotEq] [b] pos) (aTest (aEqI C sd true ta tb)) := by
  obtain ⟨f, M, F⟩ := M
  exact b_neI M F (hr.mono hj) ha hb
end
end G

namespace G
open PySem PySem.Spec PySem.W L2 PyProof.Rows
/-! ### own errors from what the top has left -/
theorem lookup_mem : ∀ {α : Type} {l : List (Str × α)} {x : Str} {k : α}, l.lookup x = some k → (x, k) ∈ l
  | _, [], x, k, h => by cases h
  | _, (y, j) :: l, x, k, h => by
    rw [List.lookup] at h
    split at h
    · rename_i e
      cases h
      rw [beq_iff_eq.mp e]
      exact List.mem_cons_self
    · exact List.mem_cons_of_mem _ (lookup_mem h)
def freeOk (q : Str × NameKind) : Bool := match q.2 with
  | .cell => false
  | .free => q.1 == "__class__"
  | _ => true
theorem free_of {l : List (Str × NameKind)} (h : l.all freeOk = true) : (∀ x, l.lookup x = some .cell ∨ l.lookup x = some .free → x = "__class__") ∧ ∀ x ∈ l, x.2 ≠ .cell := by
  refine ⟨fun x e => ?_, fun x hx e => ?_⟩
  · rcases e with e | e
    · have := List.all_eq_true.mp h _ (lookup_mem e)
      cases this
    · have := List.all_eq_true.mp h _ (lookup_mem e)
      exact beq_iff_eq.mp this
  · have := List.all_eq_true.mp h x hx
    unfold freeOk at this
    rw [e] at this
    cases this
/-- what an except clause and a read of the field ask, too -/
structure ErrX (P : Program) (w : World) (K : PySem.W.Frag) (mg : Str → Option Value) (base : Heap) (x : Str) (C : Addr) (fld : Str) : Prop where
  c : ErrC P w K mg base x C fld
  xf : XfC K C
  no : findIn K (.ref C) fld = some none
  hd : hasDictIn K C = true
  se : subIn K (.ref C) (.ref C) = some true
theorem ErrX.exm {P : Program} {w : World} {K : PySem.W.Frag} {mg : Str → Option Value} {base : Heap} {x fld : Str} {C C' : Addr} {b : Bool} (e : ErrX P w K mg base x C fld) (h : subIn K (.ref C') (.ref C) = some b) : exmOne K (.ref C') (.ref C) = some b :=
  exm_ref e.c.cls.exC e.hd e.c.cls.tyC h
theorem errX_mk {P : Program} {w : World} {K : PySem.W.Frag} {h : Heap} {mg : Str → Option Value} {base : Heap} (X : K.In h) (G : h.Ns mainGlobals mg) {x fld prm qual : Str} {C fI cc cda N : Addr} {st : Stmt} {dV kV doc pm ct oc ccl cl : Value} {an od cdd cld : Option Addr} {osl ccs csl : Array (Option Value)} {vs0 : Array Value} {file : Str} {tf : Tok}
    {p0 p1 p2 p3 p4 p5 p6 p7 p8 p9 : Pos} {txt : Str} {jj : _} {nm q : Str} {bs bm : List Value} {sn : List Str} {sub : List Value} {ab : Bool} {col : Option Bool} {dd : Option Addr} {k0 k1 k2 k3 k5 : Option Value}
    (cg : nsIn K mainGlobals x = some (some (.ref C))) (xL : K.lookup C = some (excClassObj nm q C N bs bm true sn sub ab col dd k0 k1 k2 k3 k5 "ValueError.__new__"))
    (sa : findIn K (.ref C) "__setattr__" = some (some (.builtin "object.__setattr__"))) (exC : subIn K (.ref C) (.type "BaseException") = some true) (tyC : typeIn K (.ref C) = some (.type "type")) (kC : keepIn K (.ref C) = true)
    (i1 : findIn K (.ref C) "__init__" = some (some (.ref fI))) (i2 : typeIn K (.ref fI) = some (.type "function"))
    (mro : mroIn K C (.ref C) = some true) (sve : subIn K (.ref C) (.type "ValueError") = some true) (sup : ks_superIn K C C "__init__" = some (some (.builtin "ValueError.__init__"))) (opq : nsIn K cStatics "thirdparty.any" = some none) (zs : nsIn K mainGlobals "super" = some none)
    (lk : K.lookup fI = some ⟨oc, od, .func (ksFn "__init__" qual (defArgs st) (defBody st) (defScope st) dV kV doc pm an (.ref cda) ct cc), osl⟩)
    (hcd : codeIn K (.ref cda) qual = true) (hno : findIn K (.ref C) fld = some none)
    (hcode : K.lookup cda = some ⟨ccl, cdd, .fields vs0, ccs⟩) (hcell : K.lookup cc = some ⟨cl, cld, .cell (some (.ref C)), csl⟩)
    (ga : findIn K (.ref C) "__getattribute__" = some (some (.builtin "BaseException.__getattribute__"))) (gg : findIn K (.ref C) "__getattr__" = some none) (hd : hasDictIn K C = true) (se : subIn K (.ref C) (.ref C) = some true)
    (hbm : PySem.HandSPX.refsVE bm = true) (hvs : vs0[2]? = some (.str file tf)) (hfile : ((P.main.file : Str) == file) = true) (top : (P.main.scope.names.lookup ("super" : Str)).isSome = false)
    (hbody : defBody st = [.Expr (.Call (.Attribute (.Call (.Name "super" p0) [] [] p1) "__init__" p2) [.Constant (.str txt) jj p3] [] p4) p5, .Assign [.Attribute (.Name "self" p6) fld p7] (.Name prm p8) p9])
    (hp : ∃ ar : Arg, ((defArgs st).posonlyargs ++ (defArgs st).args).head? = some ar ∧ ar.arg = "self")
    (hnm : (defScope st).names.lookup ("self" : Str) = some .local ∧ (defScope st).names.lookup prm = some .local ∧ (defScope st).names.lookup ("super" : Str) = some .globalImplicit ∧ (defScope st).names.lookup ("__class__" : Str) = some .free)
    (hfree : (defScope st).names.all freeOk = true) (hsc : (defScope st).isCoroutine = false ∧ (defScope st).isGenerator = false ∧ (defScope st).kind = .function) (hps : ("self" : Str) ≠ prm) (hcdbg : (prm == ("__debug__" : Str)) = false ∧ (prm == ("__classdict__" : Str)) = false)
    (hin : ∀ L, interactive (ksEnv qual (defScope st) L fI (.ref cda) cc) = false)
    (hpl1 : ∀ L, swapsWith (.Call (.Attribute (.Call (.Name "super" p0) [] [] p1) "__init__" p2) [.Constant (.str txt) jj p3] [] p4) none p5.line (ksEnv qual (defScope st) L fI (.ref cda) cc) = pure false)
    (hev : ∀ L, ∃ pl : Sem Bool, eval (.Call (.Attribute (.Call (.Name "super" p0) [] [] p1) "__init__" p2) [.Constant (.str txt) jj p3] [] p4) (ksEnv qual (defScope st) L fI (.ref cda) cc) = (do
      let ov ← attributeBase (.Call (.Name "super" p0) [] [] p1) "__init__" (ksEnv qual (defScope st) L fI (.ref cda) cc) (eval (.Call (.Name "super" p0) [] [] p1) (ksEnv qual (defScope st) L fI (.ref cda) cc))
      standAt p2.atName
      let (f, first) ← holding [ov] (getMethod ov "__init__" pl)
      callWith p4 f first (backTo p4 (starEach [.Constant (.str txt) jj p3] (ksEnv qual (defScope st) L fI (.ref cda) cc))) []))
    (hpl2 : ∀ L, swapsWith (.Name prm p8) (some (.Attribute (.Name "self" p6) fld p7)) p9.line (ksEnv qual (defScope st) L fI (.ref cda) cc) = pure false)
    (bnd : ∀ us : List Value, us.length = 2 → bindArgs (ksFn "__init__" qual (defArgs st) (defBody st) (defScope st) dV kV doc pm an (.ref cda) ct cc) ⟨us, []⟩ = pure ((["self", prm] : List Str).zip us)) : ErrX P w K mg base x C fld := by
  have oc : OexC K C := ⟨⟨_, _, _, _, _, _, _, _, _, _, _, _, _, _, _, xL, hbm⟩, sa, exC, tyC, kC⟩
  have T : ErrK P K mg C := ⟨oc, mro, sve, sup, opq, mg_none_of X G zs, top⟩
  obtain ⟨f1, f2⟩ := free_of hfree
  obtain ⟨cd0, hD, _⟩ := any_some hd
  refine ⟨⟨mg_of X G cg, oc, fI, _, prm, i1, i2, ?_, .all bnd⟩, ⟨ga, gg, exC, hd⟩, hno, hd, se⟩
  rw [hbody] at lk ⊢
  exact exinit (j := 0) (cdv := .none) T lk hcd hD hno hcode hvs hfile hcell hp hnm f1 f2 hsc hps hcdbg hin hpl1 hev hpl2
/-! ### constants of classes, defaults -/
def GCon (K : Frag) (C : Addr) (f : Str) (xs : List Str) : Prop := ∃ mc v, ClX.CRead K C mc ∧ ClX.CVal K C mc f (.ref v) (.ref v) ∧ ∀ M H, Is K M H (.ref v) (.tup (xs.map .str))
theorem d_gcon {X : Cx} {W : WX} {C : Addr} {y f : Str} {xs fs : List Str} {q pos : Pos} (h : GCon X.K C f xs) (kc : KCls X.K X.mg y C fs) (gy : Gl X y := by rfl) (hdy : (y == ("__debug__" : Str)) = false := by decide)
    (hb : attributeBase (.Name y q) f X.env (eval (.Name y q) X.env) = eval (.Name y q) X.env := by rfl) : PD X W (.Attribute (.Name y q) f pos) (aC (.tup (xs.map .str))) := by
  obtain ⟨mc, v, r, c, i⟩ := h
  exact d_con r c i kc.g gy hdy hb
theorem dflt_one {K : Frag} {x qual : Str} {params : Arguments} {body : List Stmt} {scope : Scope} {ps : List Str} {T : Addr} {to_ : Option Addr} {ti : Array Value} {tn : Nat} {tsl : Array (Option Value)} {kV doc pm cdv ct : Value} {an : Option Addr} {us0 : List Value} {dvs : List V} {dd : List D}
    (lT : K.lookup T = some ⟨.type "tuple", to_, .seq ti tn, tsl⟩) (e : ti.toList = us0) (rv : Vals dvs us0) (hi : ∀ M H, IsAll K M H dvs dd) (j : Nat)
    (h : ∀ us its : List Value, us.length = ps.length - (us0.length - j) → its.length = us0.length → ∃ k, bindArgs (fnOf x qual params body scope (.ref T) kV doc pm an cdv ct) ⟨us, []⟩ = seqItems? (.ref T) >>= k ∧ k (some its.toArray) = pure (ps.zip (us ++ its.drop j)))
    : ∃ dus dvs', Binds K (fnOf x qual params body scope (.ref T) kV doc pm an cdv ct) ps dus ∧ Vals dvs' dus ∧ ∀ M H, IsAll K M H dvs' (dd.drop j) := by
  refine ⟨us0.drop j, dvs.drop j, fun s us X hlen => ?_, rv.drop j, fun M H => (hi M H).drop j⟩
  have l2 : us.length = ps.length - (us0.length - j) := by
    rw [List.length_append, List.length_drop] at hlen
    omega
  obtain ⟨k, e1, e2⟩ := h us us0 l2 rfl
  refine BindsTo.of_looks fun M => ?_
  rw [e1]
  refine looks_items X lT rfl (.of_pure ?_)
  rw [← e2, ← e, Array.toArray_toList]
end G

namespace G
open PySem PySem.Spec L2
/-! ### an own list that a name holds is data from here on -/
def melt (i : Nat) (t : AS) : AS := fun A δ r => ∃ q ds pre post, lk δ i = some (.adr q) ∧ r = pre ++ lstA q ds :: post ∧ t A (δ.set i (some (.lst ds))) (pre ++ post)
theorem Okb.name {K : PySem.W.Frag} {r : Rs} {δ : Dl} {σ : L2.St} {H : Hp} (o : Okb K r δ σ H) {i : Nat} {d d' : D} (hi : δ[i]? = some (some d)) (h : ∀ v, Is K (mem r) H v d → Is K (mem r) H v d') : Okb K r (δ.set i (some d')) σ H := by
  refine ⟨fun j e he => ?_, o.r, by rw [List.length_set]; exact o.len⟩
  by_cases hj : j = i
  · subst hj
    have hl : j < δ.length := by
      have := (List.getElem?_eq_some_iff.mp he).1
      rwa [List.length_set] at this
    rw [List.getElem?_set_self hl] at he
    cases he
    obtain ⟨v, h1, h2⟩ := o.env j d hi
    exact ⟨v, h1, h v h2⟩
  · rw [List.getElem?_set_ne (Ne.symm hj)] at he
    exact o.env j e he
theorem tsd_melt {K : PySem.W.Frag} {W : WX} {t : AS} {i : Nat} {D : Ends} {σ : L2.St} {H : Hp} (h : TSD K W (melt i t) D σ H) : TSD K W t D σ H := by
  obtain ⟨δ, r, A, o, ⟨q, ds, pre, post, hl, rfl, h⟩, f⟩ := h
  obtain ⟨h1, h2, h3⟩ := own_drop o.r
  refine ⟨_, _, A, ⟨(o.b.step h3 h1).name (lk_get hl) (fun v z => by cases z; exact h2), o.x.step h3⟩, h, ⟨fun δ' r' σ' H' a o' k => f.nx _ _ _ _ a o' (h3.trans k), fun d r' v H' a o' k i => f.rt _ _ _ _ a o' (h3.trans k) i, fun δ' r' σ' H' a o' k => f.bk _ _ _ _ a o' (h3.trans k), fun δ' r' σ' H' a o' k => f.ct _ _ _ _ a o' (h3.trans k)⟩⟩
section
variable {X : Cx} {W : WX} {st : Stmt} {t : AS}
theorem s_melt (i : Nat) (h : PSD X W st t) : PSD X W st (melt i t) := imS h fun D σ H q => tsd_melt q
end
/-! ### which classes an except clause names -/
theorem hc0 {K : PySem.W.Frag} {c : Value} : ∀ p ∈ ([] : List (Addr × Bool)), PySem.W.exmOne K (.ref p.1) c = some p.2 := fm_nil
theorem hcc {K : PySem.W.Frag} {c : Value} {C : Addr} {b : Bool} {l : List (Addr × Bool)} (h : PySem.W.exmOne K (.ref C) c = some b) (t : ∀ p ∈ l, PySem.W.exmOne K (.ref p.1) c = some p.2) : ∀ p ∈ (C, b) :: l, PySem.W.exmOne K (.ref p.1) c = some p.2 := fm_cons h t
/-! ### cuts: what an expression, a statement gives is told at once -/
def aCut (t : AT) : AT := fun x δ r P => ∃ S : D → Rs → Prop, t x δ r S ∧ ∀ d r', S d r' → P d r'
def sCut (t : AS) : AS := fun A δ r => ∃ I : Dl → Rs → Prop, t { A with nx := I } δ r ∧ ∀ δ' r', I δ' r' → A.nx δ' r'
section
variable {X : Cx} {W : WX} {st : Stmt} {e : Expr} {t : AT} {u : AS}
theorem d_cut (h : PD X W e t) : PD X W e (aCut t) := imE h fun σ H Q ⟨XR, δ, r, P, o, ⟨S, h, hS⟩, k⟩ => ⟨XR, δ, r, S, o, h, fun d r' v H' p => k d r' v H' (hS d r' p)⟩
theorem s_cut (h : PSD X W st u) : PSD X W st (sCut u) := imS h fun D σ H ⟨δ, r, A, o, ⟨I, h, hI⟩, f⟩ => ⟨δ, r, { A with nx := I }, o, h, ⟨fun δ' r' σ' H' a => f.nx δ' r' σ' H' (hI δ' r' a), f.rt, f.bk, f.ct⟩⟩
end
end G

namespace G
open PySem PySem.Spec L2
open PyProof.Rows (envOfC)
/-! ### slices of an own list; what is in an own list -/
structure oSlO (r : Rs) (x : D) (lo hi : Option Int) (k : D → Prop) : Prop where
  ex : ∃ l xs, x = .adr l ∧ Own r l xs ∧ k (.lst (cutD xs lo hi))
def aSlO (t : AT) (lo hi : AO) : AT := fun x δ r P => t x δ r fun d r1 => lo x δ r1 fun l r2 => hi x δ r2 fun u r3 => oSlO r3 d l u fun d => P d r3
def rSlO (K : PySem.W.Frag) : V → Option Int → Option Int → Hp → VK → Prop := fun x lo hi H Q => ∃ (r : Rs) (d : D) (P : D → Prop), Rok K r H ∧ Is K (mem r) H x d ∧ oSlO r d lo hi P ∧ ∀ d v H', P d → Ext H H' → Is K (mem r) H' v d → Q v H'
section
variable {X : Cx} {W : WX} {a b : Expr} {ta tb : AT} {pos : Pos}
theorem p_slO : SlR X (rSlO X.K) := by
  rintro pins s σ H x v vl vu lo hi sl Q I rx hs pl pu ⟨r, d, P, hr, i, ⟨l, xs, rfl, ow, ho⟩, k⟩
  cases i
  obtain ⟨vs, h, al⟩ := own_get hr ow
  exact sl_list pins s σ H _ v vl vu lo hi sl Q I rx hs pl pu ⟨_, _, rfl, SqL.of h, fun p hp => k _ _ _ ho (Ext.new hp) (new_lst hr hp (cut_all lo hi al))⟩
theorem d_slO {lo hi : Option Expr} {tl th : AO} {p2 : Pos} (ha : PD X W a ta) (hl : PDO X W lo tl) (hh : PDO X W hi th) : PD X W (.Subscript a (.Slice lo hi none p2) pos) (aSlO ta tl th) := imE (pe_slice p_slO ha hl hh) fun σ H Q q => by
  obtain ⟨XR, δ, r, P, ok, h, k⟩ := q
  refine td_bind ok h fun d r1 v H1 h1 o1 k1 i1 => ⟨_, δ, r1, _, o1, h1, fun l r2 H2 h2 o2 k2 => ⟨_, δ, r2, _, o2, h2, fun u r3 H3 h3 o3 k3 => ?_⟩⟩
  exact ⟨r3, d, fun d => P d r3, o3.r, k3 _ _ (k2 _ _ i1), h3, fun d v H' p e i => k d r3 v H' p (o3.ext e) (((k1.trans k2).trans k3).trans (Kp.ext e)) i⟩
structure oInO (neg : Bool) (r : Rs) (x y : D) (k : D → Prop) : Prop where
  ex : ∃ l xs, y = .adr l ∧ Own r l xs ∧ oIn neg x (.lst xs) fun d => ∃ b, d = .bl b ∧ k d
theorem inO_go {neg : Bool} {f : Value → Value → Sem Value} (hp : OpR X f (rD X.K (oIn neg))) : OpR X f (rD2 X.K (oInO neg)) := by
  rintro pins s σ H x y v u Q I rx ry ⟨r, d1, d2, P, hr, i1, i2, ⟨l, xs, rfl, ⟨pre, post, rfl⟩, ho⟩, k⟩
  cases i2
  obtain ⟨q1, q2, q3⟩ := own_drop hr
  exact hp pins s σ H _ _ v u Q I rx ry ⟨pre ++ post, d1, .lst xs, _, q1, q3 _ _ i1, q2, ho, fun d v H' ⟨b, e, p⟩ ex i => by
    subst e
    cases i
    exact k _ _ H' p ex (.bl _)⟩
theorem p_inO (hu : X.A.units + 65 < cLine) : OpR X (compareOp .In) (rD2 X.K (oInO false)) := inO_go (p_in hu)
theorem p_notInO (hu : X.A.units + 65 < cLine) : OpR X (compareOp .NotIn) (rD2 X.K (oInO true)) := inO_go (p_notIn hu)
theorem d_cmpO {op : CmpOp} {o : Rs → O2} (ho : OpR X (compareOp op) (rD2 X.K o)) (ha : PD X W a ta) (hb : PD X W b tb) (hm : behindInMarks op b = false := by first | exact nomark _ | with_unfolding_all rfl) : PD X W (.Compare a [op] [b] pos) (aOp2 o ta tb) :=
  imE (pe_cmpR ho ha hb hm) fun _ _ _ q => td_op2 q
theorem b_cmpO {op : CmpOp} {o : Rs → O2} (ho : OpR X (compareOp op) (rD2 X.K o)) (ha : PD X W a ta) (hb : PD X W b tb) (hm : behindInMarks op b = false := by first | exact nomark _ | with_unfolding_all rfl) : PDB X W (.Compare a [op] [b] pos) (aTest (aOp2 o ta tb)) :=
  imT (pt_cmpR ho ha hb hm) fun _ _ _ q => tdb_test (fun _ q => td_op2 q) q
end
/-! ### defs with *args -/
theorem all_split {K : PySem.W.Frag} {M : Addr → Prop} {H : Hp} : ∀ {a rest : List D} {vs : List V}, IsAll K M H vs (a ++ rest) → ∃ ws us, vs = ws ++ us ∧ IsAll K M H ws a ∧ IsAll K M H us rest
  | [], rest, vs, h => ⟨[], vs, rfl, .nil, h⟩
  | d :: a, rest, _, .cons h t => by
    obtain ⟨ws, us, e, h1, h2⟩ := all_split (a := a) t
    exact ⟨_ :: ws, us, by rw [e]; rfl, .cons h h1, h2⟩
/-- the promise of a def with *args, told of its arguments one by one -/
def starP (n : Nat) (sd : SpX) : SpX := fun ds r P XR => ∃ a rest, ds = a ++ rest ∧ a.length = n ∧ rest.length ≤ 1000000 ∧ sd (a ++ [.tup rest]) r P XR
section
variable {P : Program} {w : World} {K : PySem.W.Frag} {mg : Str → Option Value} {base : Heap}
theorem fnS_d {x qual pv : Str} {st : Stmt} {f : Addr} {fd : FuncData} {N ps : List Str} {k : Nat} {sd : SpX} (F : FunA K x qual st f fd) (S : FnScope N (ps ++ [pv]) (defScope st))
    (hb : ∀ us rest : List Value, us.length = ps.length → bindArgs fd ⟨us ++ rest, []⟩ = (newTuple rest >>= fun t => pure (ps.zip us ++ [(pv, t)])))
    (hbody : Bod P w K mg base qual st N k sd) : FR P w K mg base (k + 1) f (starP ps.length sd) := by
  obtain ⟨oc, od, dV, kV, doc, pm, an, cdv, ct, osl, rfl, lk, hcd⟩ := F.ex
  refine FnR.imp (StX.fn_star (CX := L2.CX P w) (sp := lift K sd) lk hcd S StX.cxUp hb (fun A outer s H vs Q E hr h => ?_)) fun vs H Q E h => ?_
  · obtain ⟨r, ds, P', XR, ro, hi, hs, hq, hx⟩ := h
    obtain ⟨t, ht, hread⟩ := hbody f cdv A outer s H E hr (takes_of rfl rfl rfl rfl) (passes_of rfl)
    refine ⟨_, ht, startD N ds, r, { nx := fun _ r' => fit P' .non r', rt := fit P', xr := fitX XR }, start_ok ro hi ?_, hread ds r P' XR hs, ⟨fun δ' r' σ' H' a o k => ?_, fun d r' v H' a o k i => ?_, fun _ _ _ _ z => z.elim, fun _ _ _ _ z => z.elim⟩⟩
    · rintro C fs es δ' r' σ' a H' ⟨r0, l, q⟩ o k e
      exact hx C fs es r0 a H' q (l.r _ _ o.r) (k.trans l.kp) (e.anti l.m)
    · obtain ⟨r0, l, a⟩ := a
      exact hq _ r0 _ H' a (l.r _ _ o.r) (k.trans l.kp) .non
    · obtain ⟨r0, l, a⟩ := a
      exact hq _ r0 _ H' a (l.r _ _ o) (k.trans l.kp) (is_anti l.m i)
  · obtain ⟨r, ds, P', XR, ro, hi, ⟨a, rest, rfl, hl, hz, hs⟩, hq, hx⟩ := h
    obtain ⟨ws, us, rfl, h1, h2⟩ := all_split hi
    refine ⟨ws, us, rfl, by rw [h1.length, hl], by rw [h2.length]; rw [sizeLine_eq]; omega, fun p hp => ?_⟩
    have e := Ext.new (o := .tup us) hp
    refine ⟨r, a ++ [.tup rest], P', XR, ro.ext e, (Kp.all (Kp.ext e) h1).append (.cons (new_tup hp h2) .nil), hs, fun d r' v H' q ro' kk i => hq d r' v H' q ro' ((Kp.ext e).trans kk) i, fun C fs es r' a H' q ro' kk ea => hx C fs es r' a H' q ro' ((Kp.ext e).trans kk) ea⟩
end
/-- a static method with *args -/
def DfSS (K : PySem.W.Frag) (C : Addr) (m qual : Str) (st : Stmt) (ps : List Str) (pv : Str) : Prop := ∃ mc p f fd, FunA K m qual st f fd ∧ SMet K C mc m p f ∧ ∀ us rest : List Value, us.length = ps.length → bindArgs fd ⟨us ++ rest, []⟩ = (newTuple rest >>= fun t => pure (ps.zip us ++ [(pv, t)]))
theorem clss_of {P : Program} {w : World} {K : PySem.W.Frag} {mg : Str → Option Value} {base : Heap} {C : Addr} {m qual pv : Str} {st : Stmt} {N ps : List Str} {k : Nat} {sd : SpX} (d : DfSS K C m qual st ps pv) (S : FnScope N (ps ++ [pv]) (defScope st)) (h : Bod P w K mg base qual st N k sd) : ClS P w K mg base (k + 1) C m (starP ps.length sd) := by
  obtain ⟨mc, p, f, fd, F, M, b⟩ := d
  exact ⟨mc, p, f, M, fnS_d F S b h⟩
end G

namespace G
open PySem PySem.Spec L2
open PyProof.Rows (envOfC)
/-! ### str(x) by the class's own def -/
structure StrK (K : PySem.W.Frag) (C g : Addr) : Prop where
  at_ : PySem.W.findIn K (.ref C) "__str__" = some (some (.ref g))
  fn : PySem.W.isFn K (.ref g) = true
def rStrI (C : Addr) (sp : Sp) : List V → Hp → VK → Prop := fun xs H Q => ∃ a dx kvs, xs = [V.ref a] ∧ H a = some (.ins C dx kvs) ∧ sp xs H (fun v H' => ∃ z, v = .str z ∧ Q v H') E0
section
variable {X : Cx} {W : WX} {n j : Nat} {C g : Addr} {sp : Sp} {sd : SpX}
theorem call_strI (e : StrK X.K C g) (F : FnR X.prog X.w X.K X.mg X.base (L2.CX X.prog X.w) n g sp) (hr : Room (n + 2) X.A) : CallR X (.type "str") (rStrI C sp) := by
  intro pins s σ H xs us Q I r h
  obtain ⟨a, dx, kvs, rfl, ha, q⟩ := h
  obtain ⟨u, rfl, ru⟩ := r.one
  cases (show u = Value.ref a from ru)
  obtain ⟨mA, O, _⟩ := ins_get I.hok ha
  obtain ⟨od, J, _⟩ := O.look
  have hr2 : Room n X.A.in1.in1 := (show Room (n + 1) X.A.in1 from Room.in1 hr).in1
  refine PySem.W.kso_call hr2.units0 I.kIn J e.at_ e.fn (wpAny_call (codeAny_mono (F X.A.in1.in1 X.stack s H [.ref a] [.ref a] _ E0 hr2 I.env0.in1.in1 (.cons rfl .nil) q) fun r s' hq => ?_))
  cases r with
  | error e => exact passE pins H s e s' I hq
  | ok fl =>
    cases fl with
    | ret u2 =>
      obtain ⟨z', H', I', rz, y, ey, qz⟩ := I.after hq
      subst ey
      obtain ⟨t, rfl⟩ := (show ∃ t, u2 = Value.str y t from rz)
      exact ⟨.str y, H', I', ⟨t, rfl⟩, qz⟩
    | next => exact False.elim hq
    | brk => exact False.elim hq
    | cont => exact False.elim hq
def aStrI (C : Addr) (sd : SpX) (te : AT) : AT := fun x δ r P => te x δ r fun d r1 => isC C d r1 ∧ sd [d] r1 (fun d' r2 => ∃ z, d' = .str z ∧ P d' r2) noX
def DfT (K : PySem.W.Frag) (C : Addr) (qual : Str) (st : Stmt) (ps : List Str) : Prop := ∃ f fd, FunA K "__str__" qual st f fd ∧ StrK K C f ∧ Binds K fd ps []
def ClT (P : Program) (w : World) (K : PySem.W.Frag) (mg : Str → Option Value) (base : Heap) (k : Nat) (C : Addr) (sd : SpX) : Prop := ∃ f, StrK K C f ∧ FR P w K mg base k f sd
theorem clt_of {P : Program} {w : World} {K : PySem.W.Frag} {mg : Str → Option Value} {base : Heap} {C : Addr} {qual : Str} {st : Stmt} {N ps : List Str} {k : Nat} (d : DfT K C qual st ps) (S : FnScope N ps (defScope st)) (len : ∀ ds r P' XR, sd ds r P' XR → ds.length = ps.length) (h : Bod P w K mg base qual st N k sd) : ClT P w K mg base (k + 1) C sd := by
  obtain ⟨f, fd, F, M, b⟩ := d
  exact ⟨f, M, fr_of (fnA_d F S len (h f)) b⟩
theorem d_stri {a : Expr} {ta : AT} {p pos : Pos} (M : ClT X.prog X.w X.K X.mg X.base n C sd) (hr : Room j X.A) (hg : Gl X "str") (hm : X.mg "str" = none) (ha : PD X W a ta) (hj : n + 2 ≤ j := by first | decide | exact Nat.le_refl _ | omega)
    (he : starEach [a] X.env = (false, eval a X.env) :: starEach [] X.env := by rfl) (hpl : (backTo pos (starEach [] X.env)).any (·.1) = false := by rfl) :
    PD X W (.Call (.Name "str" p) [a] [] pos) (aStrI C sd ta) := by
  obtain ⟨g, e, F⟩ := M
  refine imE (pe_callTy (call_strI e F (hr.mono hj)) hg hm (by decide +kernel) (pa_cons ha pa_nil he) (by decide) (by decide) he hpl) fun σ H Q q => ?_
  obtain ⟨XR, δ, r, P, ok, h, k⟩ := q
  refine td_bind ok h fun d r1 v H1 ⟨hc, h1⟩ o1 k1 i1 => ?_
  obtain ⟨a, dx, kvs, rfl, s, gd⟩ := isC_at hc o1.r i1
  refine ⟨a, dx, kvs, rfl, s, lift_n o1 (.cons i1 .nil) h1 fun d r' v H' p o3 k3 i3 => ?_⟩
  obtain ⟨z, rfl, p⟩ := p
  cases i3 with
  | str hz => exact ⟨z, rfl, k _ r' _ H' p o3 (k1.trans k3) (.str hz)⟩
end
end G

namespace Q
open PySem PySem.Spec L2 G
open PyProof.Rows (envOfC)
def top (i : Nat) : Stmt := PySem.Challenge.pw_quietprobes_k03_lines_of_things.main.body.getD i (.Pass ⟨0, 0, 0, 0⟩)
abbrev s_BadName___init__ : Stmt := inClass (top 2) 0
abbrev s_Twice___init__ : Stmt := inClass (top 3) 0
abbrev s_TooMany___init__ : Stmt := inClass (top 4) 0
abbrev s_is_name : Stmt := top 9
abbrev s_need_names : Stmt := top 10
abbrev s_need_unlike : Stmt := top 11
abbrev s_Thing___init__ : Stmt := inClass (top 12) 1
abbrev s_Thing___eq__ : Stmt := inClass (top 12) 2
abbrev s_Thing___str__ : Stmt := inClass (top 12) 3
abbrev s_Thing_feed : Stmt := inClass (top 12) 4
abbrev s_Thing_dice : Stmt := inClass (top 12) 5
abbrev s_Thing_source : Stmt := inClass (top 12) 6
abbrev s_Thing_flag : Stmt := inClass (top 12) 7
abbrev s_Thing_slot : Stmt := inClass (top 12) 8
abbrev s_Thing_field : Stmt := inClass (top 12) 9
abbrev s_Thing_table : Stmt := inClass (top 12) 10
abbrev s__law_pool : Stmt := top 14
abbrev s__law_draw : Stmt := top 15
abbrev s__law_word : Stmt := top 16
abbrev s__law_thing : Stmt := top 17
abbrev s__law_same : Stmt := top 18
abbrev s__law_table : Stmt := top 19
abbrev s_law : Stmt := top 20
section
variable {P : Program} {w : World} {K : PySem.W.Frag} {mg : Str → Option Value} {base : Heap}
/-! ### the pool of draws -/
abbrev N__law_draw : List Str := ["_law_pool_here", "_law_many", "_law_cell", "_law_code", "_law_digit", "_law_far", "_law_mixed"]
theorem sc__law_draw : FnScope N__law_draw ["_law_pool_here", "_law_many"] (defScope s__law_draw) := ⟨rfl, rfl, rfl, by decide +kernel, rfl, by decide +kernel, by decide +kernel⟩
theorem emod_lt' {a m : Int} (h : 0 < m) : 0 ≤ a % m ∧ a % m < m := ⟨Int.emod_nonneg a (by omega), Int.emod_lt_of_pos a h⟩
theorem c__law_draw (B : Bl mg) (Dx : Dfn K mg "_law_draw" s__law_draw ["_law_pool_here", "_law_many"]) : Cl P w K mg base 1 "_law_draw" ["_law_pool_here", "_law_many"] spDraw := by
  obtain ⟨f, fd, F, g, b⟩ := Dx
  refine cl_cx0 (f := f) (fd := fd) ?_ g F.kp b
  have sc := sc__law_draw
  refine F.ok sc (fun vs H Q E h => ?_) (fun cdv A outer s H vs Q E hr h => ?_)
  · obtain ⟨r, ds, P', XR, ro, hi, ⟨p, a, m, N, X, rfl, _⟩, _, _⟩ := h
    exact hi.length
  · obtain ⟨r, ds, P', XR, ro, hi, ⟨p, a, m, N, X, rfl, rfl, ⟨hm, hm2⟩, hN, hP⟩, hQ, _⟩ := h
    obtain ⟨rfl⟩ : vs = [.ref p, .int m] := by
      match vs, hi with
      | [_, _], .cons (.adr _) (.cons (.int _) .nil) => rfl
    have fin : ∀ (k : Int) (H' : Hp), 0 ≤ k → k < m → (∀ b o, b ≠ p → b ≠ a → H b = some o → H' b = some o) → (poolA p a (N + 1)).R K (mem (poolA p a (N + 1) :: X)) H' → Q (.int k) H' := fun k H' h0 h1 hk ht =>
      let ⟨q1, q2⟩ := pool_step ro hk ht
      hQ _ _ _ _ (hP k h0 h1) q1 q2 (.int k)
    obtain ⟨⟨ne, ns, c1, c2, c3, h1, h2, g1, g2, g2', g3, g3', gn⟩, _, _⟩ := ro
    have ix : ∀ {X : Cx} {a b : Expr} {ta tb : TE} {pos : Pos}, PE X a ta → PE X b tb → PlainIx b → PE X (.Subscript a b pos) (tOp (rIxL X.K) ta tb) := fun ha hb hs => pe_ix ix_list ha hb hs
    refine ⟨_, pss_cons (ps_augS (pv 0) pe_int pget_list pe_int ip_add set_list)
      (Evl.pss_cut (ps_if (PW.pt (pw_and (pt_cmpR op_eq (ix (pv 0) pe_int (fun _ _ => rfl)) pe_int (nomark _)) (pw_and1 (pt_truth (ix (pv 0) pe_int (fun _ _ => rfl)) (by intro _; rfl)))))
        (pss_cons (ps_set (i := 2) sc.nd rfl (.inl rfl) (pe_callTy call_int1 (by rfl) B.int (by decide +kernel) (pa_cons (pe_bm PySem.F.plainAttrs_list PySem.F.slot_list_pop PySem.F.type_list_pop mt_popAt (ix (pv 0) pe_int (fun _ _ => rfl)) (pa_cons pe_int pa_nil)) pa_nil)))
        (pss_cons (ps_set (i := 3) sc.nd rfl (.inl rfl) (pe_ifExp (pt_cmpR op_ge (pv 2) pe_int (nomark _)) (pe_op op_mul pe_int (pv 2)) (pe_op op_sub (pe_un un_neg pe_int) (pe_op op_mul pe_int (pv 2)))))
        (pss_one (ps_if (pt_cmpR op_ge (pv 3) (pe_op op_pow pe_int pe_int) (nomark _))
          (pss_one (ps_asg (pv 3) (pg_sub (pv 0) pe_int set_list)))
          (pss_one (ps_asg (pe_op op_mod (pe_callTy call_int1 (by rfl) B.int (by decide +kernel) (pa_cons (pe_op op_add (pe_op op_add (pe_op op_mul (ix (pv 0) pe_int (fun _ _ => rfl)) pe_int) (pe_op op_mul (pv 3) pe_int)) pe_int) pa_nil)) pe_int) (pg_sub (pv 0) pe_int set_list)))))))
        pss_nil)
      (pss_cons (ps_if (pt_cmpR op_gt (ix (pv 0) pe_int (fun _ _ => rfl)) pe_int (nomark _))
        (pss_cons (ps_set (i := 4) sc.nd rfl (.inl rfl) (pe_op op_mod (pe_callTy call_int1 (by rfl) B.int (by decide +kernel) (pa_cons (ix (pv 0) pe_int (fun _ _ => rfl)) pa_nil)) (pv 1)))
        (pss_cons (ps_asg (pe_op op_fdivW (ix (pv 0) pe_int (fun _ _ => rfl)) (pv 1)) (pg_sub (pv 0) pe_int set_list))
        (pss_one (ps_ret (pv 4))))) pss_nil)
      (pss_cons (ps_if (pt_cmpR op_eq (ix (pv 0) pe_int (fun _ _ => rfl)) pe_int (nomark _)) (pss_one (ps_ret pe_int)) pss_nil)
      (pss_cons (ps_set (i := 5) sc.nd rfl (.inl rfl) (pe_op op_add (pe_op op_mul (ix (pv 0) pe_int (fun _ _ => rfl)) pe_int) (pe_op op_mul (pe_op op_mul (ix (pv 0) pe_int (fun _ _ => rfl)) (ix (pv 0) pe_int (fun _ _ => rfl))) pe_int)))
      (pss_cons (ps_set (i := 6) sc.nd rfl (.inl rfl) (pe_op op_mod (pe_callTy call_int1 (by rfl) B.int (by decide +kernel) (pa_cons (pe_op op_add (pe_op op_mul (ix (pv 0) pe_int (fun _ _ => rfl)) pe_int) (pv 5)) pa_nil)) pe_int))
      (pss_one (ps_ret (pe_op op_mod (pe_op op_mod (pe_callTy call_int1 (by rfl) B.int (by decide +kernel) (pa_cons (pe_op op_fdivW (pe_op op_mul (pv 6) pe_int) pe_int) pa_nil)) pe_int) (pv 1))))))))), ?_⟩
    -- _law_pool_here[2] += 1
    refine ⟨_, rfl, p, _, 2, .int c2, rfl, rfl, by decide, SqL.of h1, rfl, c2, 1, rfl, rfl, p, _, 2, 2, rfl, rfl, h1, rfl, ?_⟩
    let c2' := c2 + 1
    have k1 : (upd H p (.lst ([V.ref a, .int c1, .int c2, .int c3].set 2 (.int (c2 + 1))))) p = some (.lst [.ref a, .int c1, .int (c2 + 1), .int c3]) := upd_same
    have k2 : (upd H p (.lst ([V.ref a, .int c1, .int c2, .int c3].set 2 (.int (c2 + 1))))) a = some (.lst (ns.map V.int)) := by rw [upd_ne (Ne.symm ne)]; exact h2
    have k3 : ∀ b o, b ≠ p → b ≠ a → H b = some o → (upd H p (.lst ([V.ref a, .int c1, .int c2, .int c3].set 2 (.int (c2 + 1))))) b = some o := fun b o n1 _ e => by rw [upd_ne n1]; exact e
    generalize upd H p (.lst ([V.ref a, .int c1, .int c2, .int c3].set 2 (.int (c2 + 1)))) = H1 at k1 k2 k3
    refine ⟨fun σ' H' => ∃ (x y : Option V) (ns' : List Int) (d1 d3 : Int), σ' = [some (.ref p), some (.int m), x, y, none, none, none] ∧ H' p = some (.lst [.ref a, .int d1, .int (c2 + 1), .int d3]) ∧ H' a = some (.lst (ns'.map V.int)) ∧ 0 ≤ d1 ∧ 0 ≤ d3 ∧ d3 < 2147483629 ∧ ns'.length ≤ 63 ∧
      ∀ b o, b ≠ p → b ≠ a → H b = some o → H' b = some o, ?_, ?_⟩
    · -- the pool takes one more of the script
      refine ⟨_, rfl, p, _, 1, .int c1, rfl, rfl, SqL.of k1, rfl, rfl, _, rfl, ?_⟩
      refine ite2 (fun hc => ?_) (fun hc => ?_)
      · refine ⟨_, rfl, p, _, 0, .ref a, rfl, rfl, SqL.of k1, rfl, _, .inl ⟨_, SqL.of k2, rfl⟩, ?_⟩
        refine ite2 (fun he => ?_) (fun he => ?_)
        · cases ns with
          | nil => cases he
          | cons n0 ns =>
            refine ⟨_, rfl, p, _, 0, .ref a, rfl, rfl, SqL.of k1, rfl, .inl ⟨rfl, _, SqL.of k2⟩, a, _, 0, 0, .int n0, rfl, rfl, k2, by decide, by decide, PySem.StrLaws.seqIndex_nonneg (Int.le_refl 0) (by rw [List.length_map, List.length_cons]; omega), rfl, .inl ⟨n0, rfl, ?_⟩⟩
            have k1' : (upd H1 a (.lst ((List.map V.int (n0 :: ns)).eraseIdx 0))) p = some (.lst [.ref a, .int c1, .int (c2 + 1), .int c3]) := by rw [upd_ne ne]; exact k1
            have k2' : (upd H1 a (.lst ((List.map V.int (n0 :: ns)).eraseIdx 0))) a = some (.lst (ns.map V.int)) := upd_same
            have k3' : ∀ b o, b ≠ p → b ≠ a → H b = some o → (upd H1 a (.lst ((List.map V.int (n0 :: ns)).eraseIdx 0))) b = some o := fun b o n1 n2 e => by rw [upd_ne n2]; exact k3 b o n1 n2 e
            generalize upd H1 a (.lst ((List.map V.int (n0 :: ns)).eraseIdx 0)) = H2 at k1' k2' k3'
            have gl : ns.length ≤ 63 := Nat.le_trans (Nat.le_succ _) gn
            -- code
            refine ⟨_, rfl, _, _, rfl, rfl, _, rfl, ?_⟩
            refine ite2 (fun h => ?_) (fun h => ?_)
            refine ⟨_, rfl, 2, n0, rfl, rfl, .inl ⟨by decide, by decide⟩, ?_⟩
            have hcd : 0 ≤ 2 * n0 := by
              have := of_decide_eq_true h
              omega
            show gName 3 (.int (2 * n0)) _ _ _
            generalize 2 * n0 = cd at hcd ⊢
            rotate_left
            refine ⟨1, rfl, _, rfl, 2, n0, rfl, rfl, .inl ⟨by decide, by decide⟩, -1, 2 * n0, rfl, rfl, ?_⟩
            have hcd : 0 ≤ -1 - 2 * n0 := by
              have : ¬ (0 ≤ n0) := fun z => h (decide_eq_true z)
              omega
            show gName 3 (.int (-1 - 2 * n0)) _ _ _
            generalize -1 - 2 * n0 = cd at hcd ⊢
            all_goals
              refine ⟨_, rfl, 10, 18, rfl, rfl, ⟨by decide, by decide, by decide⟩, _, _, rfl, rfl, _, rfl, ?_⟩
              refine ite2 (fun h => ?_) (fun h => ?_)
              · refine ⟨_, rfl, _, rfl, p, _, 1, 1, rfl, rfl, k1', rfl, ?_⟩
                exact ⟨_, _, ns, cd, c3, rfl, upd_same, by rw [upd_ne (Ne.symm ne)]; exact k2', hcd, g3, g3', gl, fun b o n1 n2 e => by rw [upd_ne n1]; exact k3' b o n1 n2 e⟩
              · refine ⟨_, rfl, p, _, 3, .int c3, rfl, rfl, SqL.of k1', rfl, c3, 48271, rfl, rfl, .inr ⟨by decide, by decide⟩, _, rfl, cd, 69621, rfl, rfl, .inr ⟨by decide, by decide⟩, _, _, rfl, rfl, _, _, rfl, rfl, .inl ⟨_, rfl, _, _, rfl, rfl, (by decide : (0 : Int) < 2147483629), ?_⟩⟩
                refine ⟨_, rfl, p, _, 3, 3, rfl, rfl, k1', rfl, ?_⟩
                exact ⟨_, _, ns, c1, _, rfl, upd_same, by rw [upd_ne (Ne.symm ne)]; exact k2', g1, (emod_lt' (by decide)).1, (emod_lt' (by decide)).2, gl, fun b o n1 n2 e => by rw [upd_ne n1]; exact k3' b o n1 n2 e⟩
        · exact ⟨_, _, ns, c1, c3, rfl, k1, k2, g1, g3, g3', gn, k3⟩
      · exact ⟨_, _, ns, c1, c3, rfl, k1, k2, g1, g3, g3', gn, k3⟩
    · -- the digit
      rintro σ' H' ⟨x, y, ns', d1, d3, rfl, k1, k2, e1, e3, e3', en, k3⟩
      have ok : ∀ d, 0 ≤ d → ∀ H'', H'' p = some (.lst [.ref a, .int d, .int (c2 + 1), .int d3]) → H'' a = some (.lst (ns'.map V.int)) → (poolA p a (N + 1)).R K (mem (poolA p a (N + 1) :: X)) H'' := fun d hd H'' q1 q2 => ⟨ne, ns', d, c2 + 1, d3, q1, q2, hd, by omega, by omega, e3, e3', en⟩
      refine ⟨_, rfl, p, _, 1, .int d1, rfl, rfl, SqL.of k1, rfl, _, _, rfl, rfl, _, rfl, ?_⟩
      refine ite2 (fun h => ?_) (fun h => ?_)
      · have hd : 0 < d1 := of_decide_eq_true h
        refine ⟨_, rfl, p, _, 1, .int d1, rfl, rfl, SqL.of k1, rfl, .inl ⟨_, rfl, _, rfl, _, _, rfl, rfl, hm, ?_⟩⟩
        refine ⟨_, rfl, p, _, 1, .int d1, rfl, rfl, SqL.of k1, rfl, _, rfl, d1, m, rfl, rfl, wide_div hm (b := 200) (by omega) (by decide) (by decide), ?_⟩
        refine ⟨_, rfl, p, _, 1, 1, rfl, rfl, k1, rfl, ?_⟩
        refine ⟨_, rfl, fin _ _ (emod_lt' hm).1 (emod_lt' hm).2 (fun b o n1 n2 e => by rw [upd_ne n1]; exact k3 b o n1 n2 e) (ok (d1 / m) (Int.ediv_nonneg (by omega) (by omega)) _ upd_same (by rw [upd_ne (Ne.symm ne)]; exact k2))⟩
      · refine ⟨_, rfl, p, _, 3, .int d3, rfl, rfl, SqL.of k1, rfl, rfl, _, rfl, ?_⟩
        refine ite2 (fun h => ?_) (fun h => ?_)
        · exact fin 0 _ (Int.le_refl _) hm k3 (ok d1 e1 _ k1 k2)
        · have b2 : CMul (c2 + 1) (c2 + 1) := .inl ⟨by omega, by omega⟩
          refine ⟨_, rfl, p, _, 2, .int (c2 + 1), rfl, rfl, SqL.of k1, rfl, _, 40692, rfl, rfl, .inr ⟨by decide, by decide⟩, _, rfl, p, _, 2, .int (c2 + 1), rfl, rfl, SqL.of k1, rfl, _, rfl, p, _, 2, .int (c2 + 1), rfl, rfl, SqL.of k1, rfl, _, _, rfl, rfl, b2, _, 3, rfl, rfl, .inr ⟨by decide, by decide⟩, _, _, rfl, rfl, ?_⟩
          refine ⟨_, rfl, p, _, 3, .int d3, rfl, rfl, SqL.of k1, rfl, _, 16807, rfl, rfl, .inr ⟨by decide, by decide⟩, _, rfl, _, _, rfl, rfl, .inl ⟨_, rfl, _, _, rfl, rfl, (by decide : (0 : Int) < 2147483647), ?_⟩⟩
          refine ⟨_, rfl, _, 48271, rfl, rfl, .inr ⟨by decide, by decide⟩, _, 7, rfl, rfl, wide_div (by decide) (b := 10) (by decide) (by decide) (by decide), .inl ⟨_, rfl, _, _, rfl, rfl, (by decide : (0 : Int) < 2147483629), _, rfl, _, _, rfl, rfl, hm, ?_⟩⟩
          exact fin _ _ (emod_lt' hm).1 (emod_lt' hm).2 k3 (ok d1 e1 _ k1 k2)

abbrev N__law_pool : List Str := ["_law_script"]
theorem sc__law_pool : FnScope N__law_pool ["_law_script"] (defScope s__law_pool) := ⟨rfl, rfl, rfl, by decide +kernel, rfl, by decide +kernel, by decide +kernel⟩
theorem cut_map {α : Type} (f : α → V) (xs : List α) (lo hi : Option Int) : ∃ ys : List α, cutV (xs.map f) lo hi = ys.map f ∧ ys.length ≤ xs.length := by
  unfold cutV
  refine ⟨(xs.drop (HT.sIx (xs.map f).length 0 lo)).take (HT.sIx (xs.map f).length (xs.map f).length hi - HT.sIx (xs.map f).length 0 lo), by rw [List.map_take, List.map_drop], ?_⟩
  rw [List.length_take, List.length_drop]
  omega
theorem c__law_pool (B : Bl mg) (Dx : Dfn K mg "_law_pool" s__law_pool ["_law_script"]) : ∃ f fd, FnOk P w K mg base CX0 1 f fd ["_law_script"] (spPool K) ∧ mg "_law_pool" = some (.ref f) ∧ PySem.W.keepIn K (.ref f) = true ∧ Binds K fd ["_law_script"] [] := by
  obtain ⟨f, fd, F, g, b⟩ := Dx
  refine ⟨f, fd, ?_, g, F.kp, b⟩
  have sc := sc__law_pool
  refine F.ok sc (fun vs H Q E h => ?_) (fun cdv A outer s H vs Q E hr h => ?_)
  · obtain ⟨a, ns, rfl, _⟩ := h
    rfl
  · obtain ⟨a, ns, rfl, hS, hl, hQ⟩ := h
    refine ⟨_, pss_one (ps_ret (pe_lst (pa_cons (pe_callTy call_list_of (by rfl) B.list (by decide +kernel) (pa_cons (pe_slice sl_list (pv 0) po_none (po_some pe_int)) pa_nil)) (pa_cons pe_int (pa_cons pe_int (pa_cons pe_int pa_nil)))))), ?_⟩
    obtain ⟨ms, e, hm⟩ := cut_map V.int ns none (some 63)
    refine ⟨_, rfl, _, rfl, a, _, rfl, hS, fun q hq => ?_⟩
    rw [e]
    refine ⟨q, _, rfl, .inl (SqL.of upd_same), fun l hl2 => ⟨(by decide : 4 ≤ sizeLine), fun p hp => ?_⟩⟩
    have hlp : l ≠ p := ne_of_none (H := upd (upd H q (.lst (ms.map V.int))) l (.lst (ms.map V.int))) upd_same hp
    refine hQ p l _ ⟨⟨Ne.symm hlp, ms, 0, 0, 0, upd_same, ?_, by decide, by decide, by decide, by decide, by decide, by omega⟩, fun _ _ z => z, True.intro⟩
    rw [upd_ne hlp, upd_same]

abbrev N__law_word : List Str := ["_law_pool_here", "_law_letters", "_law_k"]
theorem sc__law_word : FnScope N__law_word ["_law_pool_here"] (defScope s__law_word) := ⟨rfl, rfl, rfl, by decide +kernel, rfl, by decide +kernel, by decide +kernel⟩

theorem c__law_word (B : Bl mg) (C__law_draw : Cl P w K mg base 1 "_law_draw" ["_law_pool_here", "_law_many"] spDraw) (Dx : Dfn K mg "_law_word" s__law_word ["_law_pool_here"]) : Cl P w K mg base 2 "_law_word" ["_law_pool_here"] spWord := by
  have sc := sc__law_word
  refine cl_of Dx sc (fun ds r P' XR ⟨p, a, N, X, e, _⟩ => by rw [e]; rfl) (fun f cdv A outer s H E hr tk po => ⟨_, (ss_cons (s_set (i := 1) sc.nd d_str)
  (ss_one (s_ret (d_join d_str (d_lc (js := [2]) (own := [("_law_k", 2)]) sc.nd (i_r1 (by rfl) B.range (dl_cons (d_bin p_add d_int (d_fn C__law_draw tk hr (dl_cons (dv 0) (dl_cons d_int dl_nil)))) dl_nil)) (blkOk_by (own := [("_law_k", 2)]) (N := N__law_word) (sc := defScope s__law_word) (by decide +kernel)) (fun _ _ _ _ _ => (g_name (i := 2) sc.nd)) (fun _ _ _ _ _ => pts_no) (fun _ _ _ _ _ => (d_ix (dv 1) (d_fnN C__law_draw hr (dl_cons (dv 0) (dl_cons d_int dl_nil)))))))))), fun ds r P' XR h => ?_⟩)
  obtain ⟨p, a, N, X, rfl, rfl, hN, hP⟩ := h
  refine ⟨p, a, 8, N, X, rfl, rfl, ⟨by decide, by decide⟩, by omega, fun k h0 h1 => ⟨⟨by omega, by omega⟩, ?_⟩⟩
  refine ⟨fun i acc r' => ∃ cs : List Nat, acc = cs.map (fun c => D.str (sg c)) ∧ cs.length = i ∧ (∀ c ∈ cs, isLet c = true) ∧ r' = poolA p a (N + 1 + i) :: X, ⟨[], rfl, rfl, fun _ h => (by cases h), rfl⟩, ?_, ?_⟩
  · rintro q i d acc r' hd ⟨cs, rfl, hc, hl, rfl⟩
    have hi : i < 8 := by
      have := (List.getElem?_eq_some_iff.mp hd).1
      rw [List.length_map, List.length_range] at this
      omega
    refine brT ?_
    refine ⟨p, a, 26, N + 1 + i, X ++ [lstA q _], rfl, rfl, ⟨by decide, by decide⟩, by omega, fun j j0 j1 => ?_⟩
    obtain ⟨c, hat, hc2⟩ := abc_at j0 j1
    refine ix_s hat ⟨?_, poolA p a (N + 1 + i + 1) :: X, le.refl, cs ++ [c], by rw [List.map_append]; rfl, by rw [List.length_append, hc]; rfl, fun x hx => (List.mem_append.mp hx).elim (hl x) fun h => (List.mem_singleton.mp h) ▸ hc2, rfl⟩
    rw [List.length_map, hc]
    unfold small
    omega
  · rintro acc r' ⟨cs, rfl, hc, hl, rfl⟩
    rw [List.length_map, List.length_range] at hc
    have e8 : cs.length ≤ 8 := by omega
    have e1 : 1 ≤ cs.length := by omega
    refine join_l (strL_sg cs) ?_ ⟨poolA p a (N + 9) :: X, pool_mono (by rw [List.length_map, List.length_range]; omega), hP _ (nm_signs e1 e8 hl)⟩
    rw [sum_ones, List.length_map]
    show cs.length + cs.length * 0 ≤ 1000000
    omega

abbrev N__law_same : List Str := ["_law_actual", "_law_due", "_law_k"]
theorem sc__law_same : FnScope N__law_same ["_law_actual", "_law_due"] (defScope s__law_same) := ⟨rfl, rfl, rfl, by decide +kernel, rfl, by decide +kernel, by decide +kernel⟩

theorem c__law_same (B : Bl mg) (Dx : Dfn K mg "_law_same" s__law_same ["_law_actual", "_law_due"]) : ∀ n : Nat, Cl P w K mg base n "_law_same" ["_law_actual", "_law_due"] (spSame n)
  | 0 => cl_never Dx fun ds r P' XR ⟨a, b, _, _, _, _, z, _⟩ => by omega
  | n + 1 => by
    have sc := sc__law_same
    have C__law_same := c__law_same B Dx n
    refine cl_of Dx sc (fun ds r P' XR ⟨a, b, e, _⟩ => by rw [e]; rfl) (fun f cdv A outer s H E hr tk po => ?_)
    have hu := hr.units
    refine ⟨_, (ss_cons (s_if (b_cmp p_is (dv 1) d_non)
  (ss_one (s_ret (d_cmp p_is (dv 0) d_non)))
  ss_nil)
  (ss_cons (s_if (b_w (w_or (b_tru (d_isi .bool (by rfl) B.isi (dv 1) (by rfl) B.bool)) (w_or1 (b_tru (d_isi .str (by rfl) B.isi (dv 1) (by rfl) B.str)))))
  (ss_cons (s_if (b_w (w_or (b_cmp (p_ne hu) (d_isi .bool (by rfl) B.isi (dv 0) (by rfl) B.bool) (d_isi .bool (by rfl) B.isi (dv 1) (by rfl) B.bool)) (w_or1 (b_cmp (p_ne hu) (d_isi .str (by rfl) B.isi (dv 0) (by rfl) B.str) (d_isi .str (by rfl) B.isi (dv 1) (by rfl) B.str)))))
  (ss_one (s_ret d_bl))
  ss_nil)
  (ss_one (s_ret (d_cmp (p_eq hu) (dv 0) (dv 1)))))
  ss_nil)
  (ss_cons (s_if (b_tru (d_isi .int (by rfl) B.isi (dv 1) (by rfl) B.int))
  (ss_one (s_ret (d_and (d_isi .int (by rfl) B.isi (dv 0) (by rfl) B.int) (d_and (d_not (d_isi .bool (by rfl) B.isi (dv 0) (by rfl) B.bool)) (d_one (d_cmp (p_eq hu) (dv 0) (dv 1)))))))
  ss_nil)
  (ss_cons (s_if (b_w (w_and (b_tru (d_isi .list (by rfl) B.isi (dv 1) (by rfl) B.list)) (w_and1 (b_not (b_tru (d_isi .list (by rfl) B.isi (dv 0) (by rfl) B.list))))))
  (ss_one (s_ret d_bl))
  ss_nil)
  (ss_cons (s_if (b_w (w_and (b_tru (d_isi .tuple (by rfl) B.isi (dv 1) (by rfl) B.tuple)) (w_and1 (b_not (b_tru (d_isi .tuple (by rfl) B.isi (dv 0) (by rfl) B.tuple))))))
  (ss_one (s_ret d_bl))
  ss_nil)
  (ss_cons (s_if (b_cmp (p_ne hu) (d_blt c_len (by rfl) B.len (dl_cons (dv 0) dl_nil)) (d_blt c_len (by rfl) B.len (dl_cons (dv 1) dl_nil)))
  (ss_one (s_ret d_bl))
  ss_nil)
  (ss_cons (s_for (i_r1 (by rfl) B.range (dl_cons (d_blt c_len (by rfl) B.len (dl_cons (dv 1) dl_nil)) dl_nil)) (g_name (i := 2) sc.nd)
  (ss_one (s_if (b_not (b_tru (d_fn C__law_same tk hr (dl_cons (d_ix (dv 0) (dv 2)) (dl_cons (d_ix (dv 1) (dv 2)) dl_nil)))))
  (ss_one (s_ret d_bl))
  ss_nil)) po)
  (ss_one (s_ret d_bl))))))))), fun ds r P' XR h => ?_⟩
    obtain ⟨a, b, rfl, pa, pb, da, db, h⟩ := h
    replace h := fit.of h
    cases b with
    | adr x => cases pb
    | ins _ _ _ => cases pb
    | dct _ _ => cases pb
    | non =>
      refine brT ?_
      cases a <;> exact h
    | bl x =>
      refine brF (brT (brT ?_))
      cases a <;> first | (cases pa; done) | skip
      case bl y => cases x <;> cases y <;> exact ⟨Nat.zero_le _, Nat.zero_le _, brF ⟨Nat.zero_le _, Nat.zero_le _, brF ⟨Nat.zero_le _, Nat.zero_le _, h⟩⟩⟩
      all_goals exact ⟨Nat.zero_le _, Nat.zero_le _, brT (brT h)⟩
    | str x =>
      refine brF (brF (brT ?_))
      cases a <;> first | (cases pa; done) | skip
      case str y => exact ⟨Nat.zero_le _, Nat.zero_le _, brF ⟨Nat.zero_le _, Nat.zero_le _, brF ⟨Nat.zero_le _, Nat.zero_le _, h⟩⟩⟩
      case bl y => exact ⟨Nat.zero_le _, Nat.zero_le _, brT (brT h)⟩
      all_goals exact ⟨Nat.zero_le _, Nat.zero_le _, brF ⟨Nat.zero_le _, Nat.zero_le _, brT h⟩⟩
    | int x =>
      refine brF (brF (brF (brT ?_)))
      cases a <;> first | (cases pa; done) | skip
      case int y => exact brT (brT ⟨Nat.zero_le _, Nat.zero_le _, h⟩)
      case bl y => exact brT (brF h)
      all_goals exact brF h
    | lst ys =>
      refine brF (brF (brF (brF (brT ?_))))
      cases a <;> first | (cases pa; done) | skip
      case lst xs =>
        refine brF (brF (brF ?_))
        refine fun ly lx => ⟨Nat.zero_le _, Nat.zero_le _, ?_⟩
        by_cases hl : xs.length = ys.length
        rotate_left
        · refine brt (ne_len hl) ?_
          have : sames xs ys = false := by
            cases q : sames xs ys with
            | false => rfl
            | true => exact absurd (sames_len q) hl
          simp only [G.same, this] at h
          exact h
        · refine brf (eq_len hl) ?_
          replace pa := (plain_lst pa).2
          replace pb := (plain_lst pb).2
          simp only [dep] at da db
          simp only [G.same] at h
          rw [sizeLine_eq] at ly
          refine fun _ => ⟨⟨by omega, by omega⟩, fun i δ' r' => (∃ k, δ' = [some (.lst xs), some (.lst ys), k]) ∧ r' = r ∧ ∀ (j : Nat) (x y : D), j < i → xs[j]? = some x → ys[j]? = some y → same x y = true, ⟨⟨none, rfl⟩, rfl, fun _ _ _ z => by omega⟩, ?_, ?_⟩
          · rintro i d δ' r' hd ⟨⟨k, rfl⟩, rfl, hI⟩
            have hi : i < ys.length := by
              have := (List.getElem?_eq_some_iff.mp hd).1
              simpa using this
            rw [List.getElem?_map, List.getElem?_range (by simpa using hi)] at hd
            cases hd
            obtain ⟨y, ey⟩ : ∃ y, ys[i]? = some y := ⟨ys[i], by simp⟩
            obtain ⟨x, ex⟩ := same_sides hl ey
            refine ix_l (atI_nat ex) (ix_l (atI_nat ey) ⟨x, y, rfl, plains_at pa ex, plains_at pb ey, by have := deps_at ex; omega, by have := deps_at ey; omega, ?_⟩)
            cases q : same x y with
            | false =>
              refine brT ?_
              have : sames xs ys = false := by
                cases q2 : sames xs ys with
                | false => rfl
                | true => rw [sames_at q2 ex ey] at q; cases q
              rw [this] at h
              exact h
            | true =>
              refine brF ⟨⟨_, rfl⟩, rfl, fun j x' y' hj ex' ey' => ?_⟩
              by_cases hji : j = i
              · subst hji
                rw [ex] at ex'
                rw [ey] at ey'
                cases ex'
                cases ey'
                exact q
              · exact hI j x' y' (by omega) ex' ey'
          · rintro δ' r' ⟨⟨k, rfl⟩, rfl, hI⟩
            have : sames xs ys = true := sames_of hl fun j x y ex ey => hI j x y (by have := (List.getElem?_eq_some_iff.mp ey).1; simpa using this) ex ey
            rw [this] at h
            exact h
      all_goals exact brT h
    | tup ys =>
      refine brF (brF (brF (brF (brF (brF (brT ?_))))))
      cases a <;> first | (cases pa; done) | skip
      case tup xs =>
        refine brF ?_
        refine fun ly lx => ⟨Nat.zero_le _, Nat.zero_le _, ?_⟩
        by_cases hl : xs.length = ys.length
        rotate_left
        · refine brt (ne_len hl) ?_
          have : sames xs ys = false := by
            cases q : sames xs ys with
            | false => rfl
            | true => exact absurd (sames_len q) hl
          simp only [G.same, this] at h
          exact h
        · refine brf (eq_len hl) ?_
          replace pa := (plain_tup pa).2
          replace pb := (plain_tup pb).2
          simp only [dep] at da db
          simp only [G.same] at h
          rw [sizeLine_eq] at ly
          refine fun _ => ⟨⟨by omega, by omega⟩, fun i δ' r' => (∃ k, δ' = [some (.tup xs), some (.tup ys), k]) ∧ r' = r ∧ ∀ (j : Nat) (x y : D), j < i → xs[j]? = some x → ys[j]? = some y → same x y = true, ⟨⟨none, rfl⟩, rfl, fun _ _ _ z => by omega⟩, ?_, ?_⟩
          · rintro i d δ' r' hd ⟨⟨k, rfl⟩, rfl, hI⟩
            have hi : i < ys.length := by
              have := (List.getElem?_eq_some_iff.mp hd).1
              simpa using this
            rw [List.getElem?_map, List.getElem?_range (by simpa using hi)] at hd
            cases hd
            obtain ⟨y, ey⟩ : ∃ y, ys[i]? = some y := ⟨ys[i], by simp⟩
            obtain ⟨x, ex⟩ := same_sides hl ey
            refine ix_t (atI_nat ex) (ix_t (atI_nat ey) ⟨x, y, rfl, plains_at pa ex, plains_at pb ey, by have := deps_at ex; omega, by have := deps_at ey; omega, ?_⟩)
            cases q : same x y with
            | false =>
              refine brT ?_
              have : sames xs ys = false := by
                cases q2 : sames xs ys with
                | false => rfl
                | true => rw [sames_at q2 ex ey] at q; cases q
              rw [this] at h
              exact h
            | true =>
              refine brF ⟨⟨_, rfl⟩, rfl, fun j x' y' hj ex' ey' => ?_⟩
              by_cases hji : j = i
              · subst hji
                rw [ex] at ex'
                rw [ey] at ey'
                cases ex'
                cases ey'
                exact q
              · exact hI j x' y' (by omega) ex' ey'
          · rintro δ' r' ⟨⟨k, rfl⟩, rfl, hI⟩
            have : sames xs ys = true := sames_of hl fun j x y ex ey => hI j x y (by have := (List.getElem?_eq_some_iff.mp ey).1; simpa using this) ex ey
            rw [this] at h
            exact h
      all_goals exact brT h

abbrev N_is_name : List Str := ["value", "letter"]
theorem sc_is_name : FnScope N_is_name ["value"] (defScope s_is_name) := ⟨rfl, rfl, rfl, by decide +kernel, rfl, by decide +kernel, by decide +kernel⟩

theorem c_is_name (B : Bl mg) (gL : GS mg "LETTERS" abc) (gM : GI mg "MOST_LETTERS" 8) (Dx : Dfn K mg "is_name" s_is_name ["value"]) : Cl P w K mg base 1 "is_name" ["value"] spIsName := by
  have sc := sc_is_name
  refine cl_of Dx sc (fun ds r P' XR ⟨d, e, _⟩ => by rw [e]; rfl) (fun f cdv A outer s H E hr tk po => ?_)
  have hi := u65 hr
  refine ⟨_, (ss_cons (s_if (b_w (w_or (b_not (b_tru (d_isi .str (by rfl) B.isi (dv 0) (by rfl) B.str))) (w_or1 (b_not (b_chain p_le p_le d_int (d_blt c_len (by rfl) B.len (dl_cons (dv 0) dl_nil)) (d_gI gM))))))
  (ss_one (s_ret d_bl))
  ss_nil)
  (ss_one (s_ret (d_blt c_all (by rfl) B.all (dl_cons (d_lc (js := [1]) (own := [("letter", 1)]) sc.nd (i_str (dv 0)) (blkOk_by (own := [("letter", 1)]) (N := N_is_name) (sc := defScope s_is_name) (by decide +kernel)) (fun _ _ _ _ _ => (g_name (i := 1) sc.nd)) (fun _ _ _ _ _ => pts_no) (fun _ _ _ _ _ => (d_cmp (p_in hi) (dv 1) (d_gS gL)))) dl_nil))))), fun ds r P' XR h => ?_⟩
  obtain ⟨d, rfl, pd, h⟩ := h
  replace h := fit.of h
  cases d with
  | adr => cases pd
  | ins => cases pd
  | dct => cases pd
  | str z =>
    refine brF ?_
    have hb : ∀ b, isNm z = b → fit P' (.bl b) r := fun b e => e ▸ h
    refine ⟨fun (h1 : decide ((1 : Int) ≤ ((z.length : Nat) : Int)) = true) => ⟨fun (h2 : (!decide (((z.length : Nat) : Int) ≤ 8)) = true) => ?_, fun (h2 : (!decide (((z.length : Nat) : Int) ≤ 8)) = false) => ?_⟩, fun (h1 : decide ((1 : Int) ≤ ((z.length : Nat) : Int)) = false) => brT ?_⟩
    · refine hb _ ?_
      have : ¬ z.length ≤ 8 := fun q => by
        have q2 : ((z.length : Nat) : Int) ≤ 8 := by omega
        rw [decide_eq_true q2] at h2
        cases h2
      unfold isNm
      rw [decide_eq_false this, Bool.and_false, Bool.false_and]
    · have l8 : z.length ≤ 8 := by
        have : ((z.length : Nat) : Int) ≤ 8 := by
          cases q : decide (((z.length : Nat) : Int) ≤ 8) with
          | true => exact of_decide_eq_true q
          | false => rw [q] at h2; cases h2
        omega
      have l1 : 1 ≤ z.length := by
        have : (1 : Int) ≤ ((z.length : Nat) : Int) := of_decide_eq_true h1
        omega
      refine lc_map (fun d => .bl (match d with | .str w => (match sub1 w with | some c => decide (c ∈ tl abc) | none => false) | _ => false)) ?_ ?_ ?_
      · rw [List.length_map]
        show (tl z).length ≤ 1000000
        rw [← len_tl]
        omega
      · intro d hd r' P'' q
        obtain ⟨c, hc, rfl⟩ := List.mem_map.mp hd
        exact ⟨q⟩
      · have e : (List.map (fun c => D.str ⟨#[c]⟩) (tl z)).map (fun d => D.bl (match d with | .str w => (match sub1 w with | some c => decide (c ∈ tl abc) | none => false) | _ => false)) = (tl z).map fun c => D.bl (isLet c) := by
          rw [List.map_map]
          congr 1
          funext c
          show D.bl (decide (c ∈ tl abc)) = _
          rw [isLet_abc]
        rw [e]
        refine oAll_of (f := fun bs => bs.all id) (k := fun d => fit P' d r) (bls_of isLet (tl z)) ?_
        refine hb _ ?_
        unfold isNm
        rw [decide_eq_true l1, decide_eq_true l8, List.all_map]
        rfl
    · refine hb _ ?_
      have : ¬ 1 ≤ z.length := fun q => by
        have q2 : (1 : Int) ≤ ((z.length : Nat) : Int) := by omega
        rw [decide_eq_true q2] at h1
        cases h1
      unfold isNm
      rw [decide_eq_false this, Bool.false_and, Bool.false_and]
  | _ => exact brT (brT h)

/-! ### things -/
abbrev thF : List Str := ["kind", "name", "parts"]
def spNeed (CB : Addr) : SpX := fun ds r P XR => ∃ xs, ds = [.lst xs] ∧ xs.length ≤ 1000 ∧ (∀ x ∈ xs, plain x = true) ∧ (xs.all isNameD = true → P .non r) ∧ (∀ d, xs.find? (fun d => !isNameD d) = some d → XR CB ["name"] [d] r)
abbrev N_need_names : List Str := ["values", "value"]
theorem sc_need_names : FnScope N_need_names ["values"] (defScope s_need_names) := ⟨rfl, rfl, rfl, by decide +kernel, rfl, by decide +kernel, by decide +kernel⟩

theorem find_at {α : Type} {p : α → Bool} {xs : List α} {i : Nat} {d : α} (h0 : ∀ x ∈ xs.take i, p x = false) (h : xs[i]? = some d) (hd : p d = true) : xs.find? p = some d := by
  have e : xs = xs.take i ++ d :: xs.drop (i + 1) := by
    have hi := (List.getElem?_eq_some_iff.mp h).1
    have e2 : xs[i] = d := (List.getElem?_eq_some_iff.mp h).2
    rw [← e2]
    exact (by rw [List.getElem_cons_drop, List.take_append_drop] : xs = xs.take i ++ xs[i] :: xs.drop (i + 1))
  rw [e, List.find?_append, List.find?_eq_none.mpr (fun x hx => by rw [h0 x hx]; decide), Option.none_or, List.find?_cons, hd]
theorem c_need_names {CB : Addr} (X_BadName : ErrX P w K mg base "BadName" CB "name") (C_is_name : Cl P w K mg base 1 "is_name" ["value"] spIsName) (Dx : Dfn K mg "need_names" s_need_names ["values"]) : Cl P w K mg base 4 "need_names" ["values"] (spNeed CB) := by
  have sc := sc_need_names
  refine cl_of Dx sc (fun ds r P' XR ⟨xs, e, _⟩ => by rw [e]; rfl) (fun f cdv A outer s H E hr tk po => ?_)
  refine ⟨_, (ss_one (s_for (i_list (dv 0)) (g_name (i := 1) sc.nd)
  (ss_one (s_if (b_not (b_tru (d_fn C_is_name tk hr (dl_cons (dv 1) dl_nil))))
  (ss_one (s_raise X_BadName.c tk hr (dl_cons (dv 1) dl_nil)))
  ss_nil)) po)), fun ds r P' XR h => ?_⟩
  obtain ⟨xs, rfl, hl, hp, hP, hX⟩ := h
  refine ⟨fun i δ r' => (∃ d1, δ = [some (.lst xs), d1]) ∧ r' = r ∧ ∀ x ∈ xs.take i, isNameD x = true, ⟨⟨_, rfl⟩, rfl, fun x hx => by cases hx⟩, ?_, ?_⟩
  · rintro i d δ r' hd ⟨⟨d1, rfl⟩, rfl, ht⟩
    refine ⟨d, rfl, hp d (List.mem_of_getElem? hd), ?_⟩
    cases e : isNameD d with
    | true =>
      refine brF ⟨⟨_, rfl⟩, rfl, fun x hx => ?_⟩
      rw [List.take_add_one, hd] at hx
      rcases List.mem_append.mp hx with hx | hx
      · exact ht x hx
      · rw [List.mem_singleton.mp hx]; exact e
    | false =>
      exact brT ⟨d, rfl, _, le.refl, (hX d (find_at (fun x hx => by rw [ht x hx]; rfl) hd (by rw [e]; rfl)))⟩
  · rintro δ r' ⟨⟨d1, rfl⟩, rfl, ht⟩
    rw [List.take_length] at ht
    exact fit.of (hP (List.all_eq_true.mpr ht))
def spThing (C : Addr) : SpX := fun ds r P _ => ∃ a pre post k n ps, ds = [.adr a, k, n, ps] ∧ r = pre ++ insA a C [] [] :: post ∧ P .non (pre ++ insA a C thF [k, n, ps] :: post)
abbrev N_Thing___init__ : List Str := ["self", "kind", "name", "parts"]
theorem sc_Thing___init__ : FnScope N_Thing___init__ ["self", "kind", "name", "parts"] (defScope s_Thing___init__) := ⟨rfl, rfl, rfl, by decide +kernel, rfl, by decide +kernel, by decide +kernel⟩

theorem c_Thing_init {CT : Addr} (K_Thing : KCls K mg "Thing" CT thF) (Dx : DfN K CT "Thing.__init__" s_Thing___init__ ["self", "kind", "name", "parts"] [.tup []]) : ClN P w K mg base 1 CT [.tup []] (spThing CT) := by
  have sc := sc_Thing___init__
  refine cln_of Dx sc (fun ds r P' XR ⟨_, _, _, _, _, _, e, _⟩ => by rw [e]; rfl) (fun f cdv A outer s H E hr tk po => ?_)
  refine ⟨_, (ss_cons (s_put (K_Thing.no "kind" (by decide)) (dv 0) (dv 1))
  (ss_cons (s_put (K_Thing.no "name" (by decide)) (dv 0) (dv 2))
  (ss_one (s_put (K_Thing.no "parts" (by decide)) (dv 0) (dv 3))))), fun ds r P' XR h => ?_⟩
  obtain ⟨a, pre, post, k, n, ps, rfl, rfl, h⟩ := h
  exact .new pre post rfl rfl (by decide) (.new pre post rfl (by decide) (by decide) (.new pre post rfl (by decide) (by decide) (fit.of h)))
/-- the answer of the own == -/
def thEq (C : Addr) : D → D → Bool
  | .ins _ _ [k, n, p], .ins C' _ [k', n', p'] => C' == C && (eqD k k' && (eqD n n' && eqD p p'))
  | _, _ => false
def isTh (C : Addr) : D → Bool
  | .ins C' fs [k, n, p] => C' == C && (fs == thF && (decide (dep k ≤ 64) && (decide (dep n ≤ 64) && decide (dep p ≤ 64))))
  | _ => false
theorem isTh_ex {C : Addr} {d : D} (h : isTh C d = true) : ∃ k n p, d = .ins C thF [k, n, p] ∧ dep k ≤ 64 ∧ dep n ≤ 64 ∧ dep p ≤ 64 := by
  unfold isTh at h
  split at h
  · rename_i C' fs k n p
    simp only [Bool.and_eq_true, beq_iff_eq, decide_eq_true_eq] at h
    obtain ⟨rfl, rfl, h1, h2, h3⟩ := h
    exact ⟨k, n, p, rfl, h1, h2, h3⟩
  · cases h
def spThEq (C : Addr) : SpX := fun ds r P _ => ∃ a b, ds = [a, b] ∧ isTh C a = true ∧ (nad b = true ∨ isTh C b = true) ∧ P (.bl (thEq C a b)) r
abbrev N_Thing___eq__ : List Str := ["self", "other"]
theorem sc_Thing___eq__ : FnScope N_Thing___eq__ ["self", "other"] (defScope s_Thing___eq__) := ⟨rfl, rfl, rfl, by decide +kernel, rfl, by decide +kernel, by decide +kernel⟩

theorem c_Thing_eq {CT : Addr} (B : Bl mg) (K_Thing : KCls K mg "Thing" CT thF) (Dx : DfE K CT "Thing.__eq__" s_Thing___eq__ ["self", "other"]) : ClE P w K mg base 1 CT (spThEq CT) := by
  have sc := sc_Thing___eq__
  refine cle_of Dx sc (fun ds r P' XR ⟨_, _, e, _⟩ => by rw [e]; rfl) (fun f cdv A outer s H E hr tk po => ?_)
  have hu := hr.units
  refine ⟨_, (ss_one (s_ret (d_and (d_isC K_Thing.isk (by rfl) B.isi (dv 1) K_Thing.g) (d_and (d_cmp (p_eq hu) (d_fld (dv 0)) (d_fld (dv 1))) (d_and (d_cmp (p_eq hu) (d_fld (dv 0)) (d_fld (dv 1))) (d_one (d_cmp (p_eq hu) (d_fld (dv 0)) (d_fld (dv 1))))))))), fun ds r P' XR h => ?_⟩
  obtain ⟨a, b, rfl, ha, hb, h⟩ := h
  replace h := fit.of h
  obtain ⟨k, n, p, rfl, d1, d2, d3⟩ := isTh_ex ha
  rcases hb with hb | hb
  · refine .no hb (brF ?_)
    have : thEq CT (.ins CT thF [k, n, p]) b = false := by cases b <;> first | rfl | cases hb
    rw [this] at h
    exact h
  · obtain ⟨k', n', p', rfl, e1, e2, e3⟩ := isTh_ex hb
    refine .yes .fro (brT ?_)
    have e : thEq CT (.ins CT thF [k, n, p]) (.ins CT thF [k', n', p']) = (eqD k k' && (eqD n n' && eqD p p')) := by
      show (CT == CT && _) = _
      rw [beq_self_eq_true, Bool.true_and]
    rw [e] at h
    refine .fro 0 k (by decide) rfl (.fro 0 k' (by decide) rfl ⟨d1, e1, ?_⟩)
    cases q : eqD k k' with
    | false => rw [q] at h; exact brF h
    | true =>
      rw [q] at h
      refine brT (.fro 1 n (by decide) rfl (.fro 1 n' (by decide) rfl ⟨d2, e2, ?_⟩))
      cases q2 : eqD n n' with
      | false => rw [q2] at h; exact brF h
      | true =>
        rw [q2] at h
        refine brT (.fro 2 p (by decide) rfl (.fro 2 p' (by decide) rfl ⟨d3, e3, ?_⟩))
        exact h
def spKind (CT CB : Addr) (kd : Str) : SpX := fun ds r P XR => ∃ d, ds = [d] ∧ plain d = true ∧ (isNameD d = true → P (.ins CT thF [.str kd, d, .tup []]) r) ∧ (isNameD d = false → XR CB ["name"] [d] r)
abbrev N_Thing_feed : List Str := ["name"]
theorem sc_Thing_feed : FnScope N_Thing_feed ["name"] (defScope s_Thing_feed) := ⟨rfl, rfl, rfl, by decide +kernel, rfl, by decide +kernel, by decide +kernel⟩

theorem c_Thing_feed {CT CB : Addr} (K_Thing : KCls K mg "Thing" CT thF) (C_need_names : Cl P w K mg base 4 "need_names" ["values"] (spNeed CB)) (N_Thing : ClN P w K mg base 1 CT [.tup []] (spThing CT)) (Dx : DfS K CT "feed" "Thing.feed" s_Thing_feed ["name"]) : ClS P w K mg base 5 CT "feed" (spKind CT CB "feed") := by
  have sc := sc_Thing_feed
  refine cls_of Dx sc (fun ds r P' XR ⟨_, e, _⟩ => by rw [e]; rfl) (fun f cdv A outer s H E hr tk po => ?_)
  refine ⟨_, (ss_cons (s_expr (d_fn C_need_names tk hr (dl_cons (d_lst (dl_cons (dv 0) dl_nil)) dl_nil)))
  (ss_one (s_ret (d_frz (d_mk 0 N_Thing K_Thing tk hr (dl_cons d_str (dl_cons (dv 0) dl_nil))))))), fun ds r P' XR h => ?_⟩
  obtain ⟨d, rfl, pd, h1, h2⟩ := h
  refine ⟨Nat.le_of_ble_eq_true rfl, [d], rfl, Nat.le_of_ble_eq_true rfl, fun x hx => by rw [List.mem_singleton.mp hx]; exact pd, fun q => fun a => ⟨a, r, [], _, _, _, rfl, rfl, rfl, a, CT, _, _, r, [], rfl, rfl, r, le.drop, h1 ?_⟩, fun e he => ?_⟩
  · simpa using q
  · have hd : isNameD d = false ∧ d = e := by
      rw [List.find?_cons] at he
      cases q : isNameD d with
      | true => rw [q] at he; cases he
      | false => rw [q] at he; exact ⟨rfl, Option.some.inj he⟩
    obtain ⟨hd, rfl⟩ := hd
    exact ⟨_, le.refl, h2 hd⟩
abbrev N_Thing_dice : List Str := ["name"]
theorem sc_Thing_dice : FnScope N_Thing_dice ["name"] (defScope s_Thing_dice) := ⟨rfl, rfl, rfl, by decide +kernel, rfl, by decide +kernel, by decide +kernel⟩

theorem c_Thing_dice {CT CB : Addr} (K_Thing : KCls K mg "Thing" CT thF) (C_need_names : Cl P w K mg base 4 "need_names" ["values"] (spNeed CB)) (N_Thing : ClN P w K mg base 1 CT [.tup []] (spThing CT)) (Dx : DfS K CT "dice" "Thing.dice" s_Thing_dice ["name"]) : ClS P w K mg base 5 CT "dice" (spKind CT CB "dice") := by
  have sc := sc_Thing_dice
  refine cls_of Dx sc (fun ds r P' XR ⟨_, e, _⟩ => by rw [e]; rfl) (fun f cdv A outer s H E hr tk po => ?_)
  refine ⟨_, (ss_cons (s_expr (d_fn C_need_names tk hr (dl_cons (d_lst (dl_cons (dv 0) dl_nil)) dl_nil)))
  (ss_one (s_ret (d_frz (d_mk 0 N_Thing K_Thing tk hr (dl_cons d_str (dl_cons (dv 0) dl_nil))))))), fun ds r P' XR h => ?_⟩
  obtain ⟨d, rfl, pd, h1, h2⟩ := h
  refine ⟨Nat.le_of_ble_eq_true rfl, [d], rfl, Nat.le_of_ble_eq_true rfl, fun x hx => by rw [List.mem_singleton.mp hx]; exact pd, fun q => fun a => ⟨a, r, [], _, _, _, rfl, rfl, rfl, a, CT, _, _, r, [], rfl, rfl, r, le.drop, h1 ?_⟩, fun e he => ?_⟩
  · simpa using q
  · have hd : isNameD d = false ∧ d = e := by
      rw [List.find?_cons] at he
      cases q : isNameD d with
      | true => rw [q] at he; cases he
      | false => rw [q] at he; exact ⟨rfl, Option.some.inj he⟩
    obtain ⟨hd, rfl⟩ := hd
    exact ⟨_, le.refl, h2 hd⟩
abbrev N_Thing_source : List Str := ["name"]
theorem sc_Thing_source : FnScope N_Thing_source ["name"] (defScope s_Thing_source) := ⟨rfl, rfl, rfl, by decide +kernel, rfl, by decide +kernel, by decide +kernel⟩

theorem c_Thing_source {CT CB : Addr} (K_Thing : KCls K mg "Thing" CT thF) (C_need_names : Cl P w K mg base 4 "need_names" ["values"] (spNeed CB)) (N_Thing : ClN P w K mg base 1 CT [.tup []] (spThing CT)) (Dx : DfS K CT "source" "Thing.source" s_Thing_source ["name"]) : ClS P w K mg base 5 CT "source" (spKind CT CB "source") := by
  have sc := sc_Thing_source
  refine cls_of Dx sc (fun ds r P' XR ⟨_, e, _⟩ => by rw [e]; rfl) (fun f cdv A outer s H E hr tk po => ?_)
  refine ⟨_, (ss_cons (s_expr (d_fn C_need_names tk hr (dl_cons (d_lst (dl_cons (dv 0) dl_nil)) dl_nil)))
  (ss_one (s_ret (d_frz (d_mk 0 N_Thing K_Thing tk hr (dl_cons d_str (dl_cons (dv 0) dl_nil))))))), fun ds r P' XR h => ?_⟩
  obtain ⟨d, rfl, pd, h1, h2⟩ := h
  refine ⟨Nat.le_of_ble_eq_true rfl, [d], rfl, Nat.le_of_ble_eq_true rfl, fun x hx => by rw [List.mem_singleton.mp hx]; exact pd, fun q => fun a => ⟨a, r, [], _, _, _, rfl, rfl, rfl, a, CT, _, _, r, [], rfl, rfl, r, le.drop, h1 ?_⟩, fun e he => ?_⟩
  · simpa using q
  · have hd : isNameD d = false ∧ d = e := by
      rw [List.find?_cons] at he
      cases q : isNameD d with
      | true => rw [q] at he; cases he
      | false => rw [q] at he; exact ⟨rfl, Option.some.inj he⟩
    obtain ⟨hd, rfl⟩ := hd
    exact ⟨_, le.refl, h2 hd⟩
abbrev N_Thing_flag : List Str := ["name"]
theorem sc_Thing_flag : FnScope N_Thing_flag ["name"] (defScope s_Thing_flag) := ⟨rfl, rfl, rfl, by decide +kernel, rfl, by decide +kernel, by decide +kernel⟩

theorem c_Thing_flag {CT CB : Addr} (K_Thing : KCls K mg "Thing" CT thF) (C_need_names : Cl P w K mg base 4 "need_names" ["values"] (spNeed CB)) (N_Thing : ClN P w K mg base 1 CT [.tup []] (spThing CT)) (Dx : DfS K CT "flag" "Thing.flag" s_Thing_flag ["name"]) : ClS P w K mg base 5 CT "flag" (spKind CT CB "flag") := by
  have sc := sc_Thing_flag
  refine cls_of Dx sc (fun ds r P' XR ⟨_, e, _⟩ => by rw [e]; rfl) (fun f cdv A outer s H E hr tk po => ?_)
  refine ⟨_, (ss_cons (s_expr (d_fn C_need_names tk hr (dl_cons (d_lst (dl_cons (dv 0) dl_nil)) dl_nil)))
  (ss_one (s_ret (d_frz (d_mk 0 N_Thing K_Thing tk hr (dl_cons d_str (dl_cons (dv 0) dl_nil))))))), fun ds r P' XR h => ?_⟩
  obtain ⟨d, rfl, pd, h1, h2⟩ := h
  refine ⟨Nat.le_of_ble_eq_true rfl, [d], rfl, Nat.le_of_ble_eq_true rfl, fun x hx => by rw [List.mem_singleton.mp hx]; exact pd, fun q => fun a => ⟨a, r, [], _, _, _, rfl, rfl, rfl, a, CT, _, _, r, [], rfl, rfl, r, le.drop, h1 ?_⟩, fun e he => ?_⟩
  · simpa using q
  · have hd : isNameD d = false ∧ d = e := by
      rw [List.find?_cons] at he
      cases q : isNameD d with
      | true => rw [q] at he; cases he
      | false => rw [q] at he; exact ⟨rfl, Option.some.inj he⟩
    obtain ⟨hd, rfl⟩ := hd
    exact ⟨_, le.refl, h2 hd⟩
abbrev N_Thing_slot : List Str := ["name"]
theorem sc_Thing_slot : FnScope N_Thing_slot ["name"] (defScope s_Thing_slot) := ⟨rfl, rfl, rfl, by decide +kernel, rfl, by decide +kernel, by decide +kernel⟩

theorem c_Thing_slot {CT CB : Addr} (K_Thing : KCls K mg "Thing" CT thF) (C_need_names : Cl P w K mg base 4 "need_names" ["values"] (spNeed CB)) (N_Thing : ClN P w K mg base 1 CT [.tup []] (spThing CT)) (Dx : DfS K CT "slot" "Thing.slot" s_Thing_slot ["name"]) : ClS P w K mg base 5 CT "slot" (spKind CT CB "slot") := by
  have sc := sc_Thing_slot
  refine cls_of Dx sc (fun ds r P' XR ⟨_, e, _⟩ => by rw [e]; rfl) (fun f cdv A outer s H E hr tk po => ?_)
  refine ⟨_, (ss_cons (s_expr (d_fn C_need_names tk hr (dl_cons (d_lst (dl_cons (dv 0) dl_nil)) dl_nil)))
  (ss_one (s_ret (d_frz (d_mk 0 N_Thing K_Thing tk hr (dl_cons d_str (dl_cons (dv 0) dl_nil))))))), fun ds r P' XR h => ?_⟩
  obtain ⟨d, rfl, pd, h1, h2⟩ := h
  refine ⟨Nat.le_of_ble_eq_true rfl, [d], rfl, Nat.le_of_ble_eq_true rfl, fun x hx => by rw [List.mem_singleton.mp hx]; exact pd, fun q => fun a => ⟨a, r, [], _, _, _, rfl, rfl, rfl, a, CT, _, _, r, [], rfl, rfl, r, le.drop, h1 ?_⟩, fun e he => ?_⟩
  · simpa using q
  · have hd : isNameD d = false ∧ d = e := by
      rw [List.find?_cons] at he
      cases q : isNameD d with
      | true => rw [q] at he; cases he
      | false => rw [q] at he; exact ⟨rfl, Option.some.inj he⟩
    obtain ⟨hd, rfl⟩ := hd
    exact ⟨_, le.refl, h2 hd⟩
def spField (CT CB : Addr) : SpX := fun ds r P XR => ∃ d e, ds = [d, e] ∧ plain d = true ∧ plain e = true ∧ (isNameD d = true → isNameD e = true → P (.ins CT thF [.str "field", d, .tup [e]]) r) ∧ (∀ x, [d, e].find? (fun d => !isNameD d) = some x → XR CB ["name"] [x] r)
abbrev N_Thing_field : List Str := ["name", "over"]
theorem sc_Thing_field : FnScope N_Thing_field ["name", "over"] (defScope s_Thing_field) := ⟨rfl, rfl, rfl, by decide +kernel, rfl, by decide +kernel, by decide +kernel⟩

theorem c_Thing_field {CT CB : Addr} (K_Thing : KCls K mg "Thing" CT thF) (C_need_names : Cl P w K mg base 4 "need_names" ["values"] (spNeed CB)) (N_Thing : ClN P w K mg base 1 CT [.tup []] (spThing CT)) (Dx : DfS K CT "field" "Thing.field" s_Thing_field ["name", "over"]) : ClS P w K mg base 5 CT "field" (spField CT CB) := by
  have sc := sc_Thing_field
  refine cls_of Dx sc (fun ds r P' XR ⟨_, _, e, _⟩ => by rw [e]; rfl) (fun f cdv A outer s H E hr tk po => ?_)
  refine ⟨_, (ss_cons (s_expr (d_fn C_need_names tk hr (dl_cons (d_lst (dl_cons (dv 0) (dl_cons (dv 1) dl_nil))) dl_nil)))
  (ss_one (s_ret (d_frz (d_mk 1 N_Thing K_Thing tk hr (dl_cons d_str (dl_cons (dv 0) (dl_cons (d_tup (dl_cons (dv 1) dl_nil)) dl_nil)))))))), fun ds r P' XR h => ?_⟩
  obtain ⟨d, e, rfl, pd, pe, h1, h2⟩ := h
  refine ⟨Nat.le_of_ble_eq_true rfl, [d, e], rfl, Nat.le_of_ble_eq_true rfl, fun x hx => ?_, fun q => ⟨Nat.le_of_ble_eq_true rfl, fun a => ⟨a, r, [], _, _, _, rfl, rfl, rfl, a, CT, _, _, r, [], rfl, rfl, r, le.drop, h1 ?_ ?_⟩⟩, fun e he => ⟨_, le.refl, h2 _ he⟩⟩
  · rcases List.mem_cons.mp hx with rfl | hx
    · exact pd
    · rw [List.mem_singleton.mp hx]; exact pe
  · rw [List.all_cons, Bool.and_eq_true] at q
    exact q.1
  · rw [List.all_cons, Bool.and_eq_true] at q
    simpa using q.2

/-! ### tables -/
/-- the first that equals an earlier one -/
def twice : List D → List D → Option D
  | _, [] => none
  | s, x :: xs => if memD x s = true then some x else twice (s ++ [x]) xs
theorem twice_step {xs : List D} {i : Nat} {d : D} (h0 : twice (xs.take i) (xs.drop i) = twice [] xs) (h : xs[i]? = some d) : (memD d (xs.take i) = true → twice [] xs = some d) ∧ (memD d (xs.take i) = false → twice (xs.take (i + 1)) (xs.drop (i + 1)) = twice [] xs) := by
  have hi := (List.getElem?_eq_some_iff.mp h).1
  have e : xs.drop i = d :: xs.drop (i + 1) := by
    rw [← (List.getElem?_eq_some_iff.mp h).2]
    exact (List.getElem_cons_drop hi).symm
  rw [e, show twice (xs.take i) (d :: xs.drop (i + 1)) = if memD d (xs.take i) = true then some d else twice (xs.take i ++ [d]) (xs.drop (i + 1)) from rfl] at h0
  refine ⟨fun q => ?_, fun q => ?_⟩
  · rw [if_pos q] at h0
    exact h0.symm
  · rw [if_neg (by rw [q]; decide)] at h0
    rw [List.take_add_one, h]
    exact h0
def spUnlike (CT2 : Addr) : SpX := fun ds r P XR => ∃ xs, ds = [.tup xs] ∧ xs.length ≤ 1000 ∧ (∀ x ∈ xs, dep x ≤ 60) ∧ (twice [] xs = none → P .non r) ∧ (∀ d, twice [] xs = some d → XR CT2 ["name"] [d] r)
theorem deps_le {n : Nat} : ∀ {xs : List D}, (∀ x ∈ xs, dep x ≤ n) → deps xs ≤ n
  | [], _ => Nat.zero_le _
  | x :: xs, h => by
    show max (dep x) (deps xs) ≤ n
    have h1 := h x List.mem_cons_self
    have h2 := deps_le (n := n) (xs := xs) fun y hy => h y (List.mem_cons_of_mem _ hy)
    omega
abbrev N_need_unlike : List Str := ["names", "seen", "name"]
theorem sc_need_unlike : FnScope N_need_unlike ["names"] (defScope s_need_unlike) := ⟨rfl, rfl, rfl, by decide +kernel, rfl, by decide +kernel, by decide +kernel⟩

theorem c_need_unlike {CT2 : Addr} (X_Twice : ErrX P w K mg base "Twice" CT2 "name") (Dx : Dfn K mg "need_unlike" s_need_unlike ["names"]) : Cl P w K mg base 3 "need_unlike" ["names"] (spUnlike CT2) := by
  have sc := sc_need_unlike
  refine cl_of Dx sc (fun ds r P' XR ⟨xs, e, _⟩ => by rw [e]; rfl) (fun f cdv A outer s H E hr tk po => ?_)
  have hi := u65 hr
  refine ⟨_, (ss_cons (s_set (i := 1) sc.nd (d_lstO dl_nil))
  (ss_one (s_for (i_tup (dv 0)) (g_name (i := 2) sc.nd)
  (ss_cons (s_if (b_cmpO (p_inO hi) (dv 2) (dv 1))
  (ss_one (s_raise X_Twice.c tk hr (dl_cons (dv 2) dl_nil)))
  ss_nil)
  (ss_one (s_expr (d_app (dv 1) (dl_cons (dv 2) dl_nil))))) po))), fun ds r P' XR h => ?_⟩
  obtain ⟨xs, rfl, hl, hd, hP, hX⟩ := h
  refine ⟨Nat.le_of_ble_eq_true rfl, fun q => ?_⟩
  refine ⟨fun i δ r' => (∃ d2, δ = [some (.tup xs), some (.adr q), d2]) ∧ r' = r ++ [lstA q (xs.take i)] ∧ i ≤ xs.length ∧ twice (xs.take i) (xs.drop i) = twice [] xs, ⟨⟨_, rfl⟩, rfl, Nat.zero_le _, rfl⟩, ?_, ?_⟩
  · rintro i d δ r' hi2 ⟨⟨d2, rfl⟩, rfl, hil, ht⟩
    have hlt := (List.getElem?_eq_some_iff.mp hi2).1
    obtain ⟨t1, t2⟩ := twice_step ht hi2
    refine ⟨q, xs.take i, rfl, ⟨r, [], rfl⟩, ⟨by have := hd d (List.mem_of_getElem? hi2); omega, by have := deps_le (n := 60) (xs := xs.take i) fun x hx => hd x (List.mem_of_mem_take hx); omega, _, rfl, ?_⟩⟩
    cases e : memD d (xs.take i) with
    | true => exact brT ⟨d, rfl, _, le.drop, hX d (t1 e)⟩
    | false =>
      refine brF ⟨q, xs.take i, rfl, ⟨r, [], rfl⟩, ⟨r, _, [], d, rfl, rfl, by unfold small; rw [List.length_take]; omega, ⟨_, rfl⟩, ?_, by omega, t2 e⟩⟩
      rw [List.take_add_one, hi2]
      rfl
  · rintro δ r' ⟨⟨d2, rfl⟩, rfl, hil, ht⟩
    rw [List.take_length, List.drop_length] at ht
    exact ⟨_, le.drop, hP ht.symm⟩
/-- Thing.table of a name and its keys -/
def spTable (CT CB CT2 CTM : Addr) : SpX := fun ds r P XR => ∃ d ks, ds = [d, .tup ks] ∧ ks.length ≤ 900 ∧ plain d = true ∧ (∀ x ∈ ks, plain x = true) ∧ (∀ x, (d :: ks).find? (fun d => !isNameD d) = some x → XR CB ["name"] [x] r) ∧
  ((d :: ks).all isNameD = true → (∀ x, twice [] ks = some x → XR CT2 ["name"] [x] r) ∧ (twice [] ks = none → (4 < ks.length → XR CTM ["limit"] [.int 4] r) ∧ (ks.length ≤ 4 → P (.ins CT thF [.str "table", d, .tup ks]) r)))
theorem name_dep {d : D} (h : isNameD d = true) : dep d ≤ 60 := by
  cases d <;> first | (cases h; done) | exact Nat.zero_le _
abbrev N_Thing_table : List Str := ["name", "keys"]
theorem sc_Thing_table : FnScope N_Thing_table ["name", "keys"] (defScope s_Thing_table) := ⟨rfl, rfl, rfl, by decide +kernel, rfl, by decide +kernel, by decide +kernel⟩

theorem c_Thing_table {CT CB CT2 CTM : Addr} (B : Bl mg) (gM : GI mg "MOST_KEYS" 4) (X_TooMany : ErrX P w K mg base "TooMany" CTM "limit") (K_Thing : KCls K mg "Thing" CT thF) (C_need_names : Cl P w K mg base 4 "need_names" ["values"] (spNeed CB)) (C_need_unlike : Cl P w K mg base 3 "need_unlike" ["names"] (spUnlike CT2)) (N_Thing : ClN P w K mg base 1 CT [.tup []] (spThing CT))
    (Dx : DfSS K CT "table" "Thing.table" s_Thing_table ["name"] "keys") : ClS P w K mg base 7 CT "table" (starP 1 (spTable CT CB CT2 CTM)) := by
  have sc := sc_Thing_table
  refine clss_of (N := N_Thing_table) (ps := ["name"]) Dx sc (fun f cdv A outer s H E hr tk po => ?_)
  have hu := hr.units
  refine ⟨_, (ss_cons (s_expr (d_fn C_need_names tk hr (dl_cons (d_lst (dl_cons (dv 0) (dl_star (dv 1) dl_nil))) dl_nil)))
  (ss_cons (s_expr (d_fn C_need_unlike tk hr (dl_cons (dv 1) dl_nil)))
  (ss_cons (s_if (b_cmp p_gt (d_blt c_len (by rfl) B.len (dl_cons (dv 1) dl_nil)) (d_gI gM))
  (ss_one (s_raise X_TooMany.c tk hr (dl_cons (d_gI gM) dl_nil)))
  ss_nil)
  (ss_one (s_ret (d_frz (d_mk 1 N_Thing K_Thing tk hr (dl_cons d_str (dl_cons (dv 0) (dl_cons (dv 1) dl_nil)))))))))), fun ds r P' XR h => ?_⟩
  obtain ⟨d, ks, rfl, hl, pd, pk, hX, hR⟩ := h
  refine ⟨by show (d :: (ks ++ [])).length ≤ 1000000; rw [List.append_nil, List.length_cons]; omega, d :: (ks ++ []), rfl, by rw [List.append_nil, List.length_cons]; omega, fun x hx => ?_, fun q => ?_, fun x hx => ?_⟩
  · rw [List.append_nil] at hx
    rcases List.mem_cons.mp hx with rfl | hx
    · exact pd
    · exact pk x hx
  · rw [List.append_nil] at q
    obtain ⟨h1, h2⟩ := hR q
    refine ⟨ks, rfl, by omega, fun x hx => name_dep (List.all_eq_true.mp q x (List.mem_cons_of_mem _ hx)), fun e => ?_, fun x hx => ⟨_, le.refl, h1 x hx⟩⟩
    obtain ⟨h3, h4⟩ := h2 e
    refine fun _ => ⟨fun z => ⟨.int 4, rfl, _, le.refl, h3 ?_⟩, fun z => ?_⟩
    · have : (4 : Int) < ((ks.length : Nat) : Int) := of_decide_eq_true z
      omega
    · have : ¬ (4 : Int) < ((ks.length : Nat) : Int) := of_decide_eq_false z
      exact fun a => ⟨a, r, [], _, _, _, rfl, rfl, rfl, a, CT, _, _, r, [], rfl, rfl, r, le.drop, h4 (by omega)⟩
  · rw [List.append_nil] at hx
    exact ⟨_, le.refl, hX x hx⟩

/-! ### _law_thing -/
def five : List Str := ["feed", "dice", "source", "flag", "slot"]
def spLThing (CT CB : Addr) (sdT : SpX) : SpX := fun ds r P XR => ∃ (kd : Str) (d : D) (ps : List D), ds = [.tup [.str kd, d, .tup ps]] ∧ plain d = true ∧
  ((kd ∈ five ∧ ps = [] ∧ (isNameD d = true → P (.ins CT thF [.str kd, d, .tup []]) r) ∧ (isNameD d = false → XR CB ["name"] [d] r)) ∨
   (kd = "field" ∧ ∃ e, ps = [e] ∧ plain e = true ∧ (isNameD d = true → isNameD e = true → P (.ins CT thF [.str "field", d, .tup [e]]) r) ∧ (∀ x, [d, e].find? (fun d => !isNameD d) = some x → XR CB ["name"] [x] r)) ∨
   (kd = "table" ∧ ∀ (P2 : PK1) (XR2 : XD), (∀ d r, P d r → P2 d r) → (∀ C fs ds r, XR C fs ds r → XR2 C fs ds r) → (∃ e, ps = [e] ∧ sdT [d, e] r P2 XR2) ∨ (∃ e e', ps = [e, e'] ∧ sdT [d, e, e'] r P2 XR2)))
abbrev N__law_thing : List Str := ["_law_thing_here", "_law_kind", "_law_name", "_law_parts"]
theorem sc__law_thing : FnScope N__law_thing ["_law_thing_here"] (defScope s__law_thing) := ⟨rfl, rfl, rfl, by decide +kernel, rfl, by decide +kernel, by decide +kernel⟩

theorem c__law_thing {CT CB : Addr} {sdT : SpX} (B : Bl mg) (K_Thing : KCls K mg "Thing" CT thF) (S_Thing_feed : ClS P w K mg base 5 CT "feed" (spKind CT CB "feed")) (S_Thing_dice : ClS P w K mg base 5 CT "dice" (spKind CT CB "dice")) (S_Thing_source : ClS P w K mg base 5 CT "source" (spKind CT CB "source"))
    (S_Thing_flag : ClS P w K mg base 5 CT "flag" (spKind CT CB "flag")) (S_Thing_slot : ClS P w K mg base 5 CT "slot" (spKind CT CB "slot")) (S_Thing_field : ClS P w K mg base 5 CT "field" (spField CT CB)) (S_Thing_table : ClS P w K mg base 7 CT "table" sdT)
    (Dx : Dfn K mg "_law_thing" s__law_thing ["_law_thing_here"]) : Cl P w K mg base 8 "_law_thing" ["_law_thing_here"] (spLThing CT CB sdT) := by
  have sc := sc__law_thing
  refine cl_of Dx sc (fun ds r P' XR ⟨_, _, _, e, _⟩ => by rw [e]; rfl) (fun f cdv A outer s H E hr tk po => ?_)
  have hu := hr.units
  refine ⟨_, (ss_cons (s_tup (is := [1, 2, 3]) (dv 0) (pgs_n (i := 1) sc.nd (pgs_n (i := 2) sc.nd (pgs_n (i := 3) sc.nd pgs_nil))))
  (ss_cons (s_if (b_cmp (p_eq hu) (dv 1) d_str)
  (ss_one (s_ret (d_st S_Thing_feed K_Thing tk hr (dl_cons (dv 2) dl_nil))))
  ss_nil)
  (ss_cons (s_if (b_cmp (p_eq hu) (dv 1) d_str)
  (ss_one (s_ret (d_st S_Thing_dice K_Thing tk hr (dl_cons (dv 2) dl_nil))))
  ss_nil)
  (ss_cons (s_if (b_cmp (p_eq hu) (dv 1) d_str)
  (ss_one (s_ret (d_st S_Thing_source K_Thing tk hr (dl_cons (dv 2) dl_nil))))
  ss_nil)
  (ss_cons (s_if (b_cmp (p_eq hu) (dv 1) d_str)
  (ss_one (s_ret (d_st S_Thing_flag K_Thing tk hr (dl_cons (dv 2) dl_nil))))
  ss_nil)
  (ss_cons (s_if (b_cmp (p_eq hu) (dv 1) d_str)
  (ss_one (s_ret (d_st S_Thing_slot K_Thing tk hr (dl_cons (dv 2) dl_nil))))
  ss_nil)
  (ss_cons (s_if (b_cmp (p_eq hu) (dv 1) d_str)
  (ss_one (s_ret (d_st S_Thing_field K_Thing tk hr (dl_cons (dv 2) (dl_cons (d_ix (dv 3) d_int) dl_nil)))))
  ss_nil)
  (ss_cons (s_if (b_cmp (p_eq hu) (d_blt c_len (by rfl) B.len (dl_cons (dv 3) dl_nil)) d_int)
  (ss_one (s_ret (d_st S_Thing_table K_Thing tk hr (dl_cons (dv 2) (dl_cons (d_ix (dv 3) d_int) dl_nil)))))
  ss_nil)
  (ss_one (s_ret (d_st S_Thing_table K_Thing tk hr (dl_cons (dv 2) (dl_cons (d_ix (dv 3) d_int) (dl_cons (d_ix (dv 3) d_int) dl_nil)))))))))))))), fun ds r P' XR h => ?_⟩
  obtain ⟨kd, d, ps, rfl, pd, h⟩ := h
  refine ⟨rfl, ?_⟩
  have no : ∀ {a b : Str} {A B : Prop}, a ≠ b → B → ((eqD (.str a) (.str b)) = true → A) ∧ ((eqD (.str a) (.str b)) = false → B) := fun ne h => brf (by
    show ((_ : Str) == _) = false
    exact beq_eq_false_iff_ne.mpr ne) h
  have ye : ∀ {a : Str} {A B : Prop}, A → ((eqD (.str a) (.str a)) = true → A) ∧ ((eqD (.str a) (.str a)) = false → B) := fun h => brt (by
    show ((_ : Str) == _) = true
    exact beq_self_eq_true _) h
  rcases h with ⟨hk, rfl, h1, h2⟩ | ⟨rfl, e, rfl, pe, h1, h2⟩ | ⟨rfl, h⟩
  · have go : ∀ kd, kd ∈ five → (isNameD d = true → P' (.ins CT thF [.str kd, d, .tup []]) r) → spKind CT CB kd [d] r (fit P') fun C fs es r' => fitX XR C fs es [some (.tup [.str kd, d, .tup []]), some (.str kd), some d, some (.tup [])] r' := fun kd _ h1 => ⟨d, rfl, pd, fun q => fit.of (h1 q), fun q => ⟨_, le.refl, h2 q⟩⟩
    simp only [five, List.mem_cons, List.not_mem_nil, or_false] at hk
    rcases hk with rfl | rfl | rfl | rfl | rfl
    · exact ⟨Nat.zero_le _, Nat.zero_le _, ye (go _ (by decide) h1)⟩
    · exact ⟨Nat.zero_le _, Nat.zero_le _, no (by decide) ⟨Nat.zero_le _, Nat.zero_le _, ye (go _ (by decide) h1)⟩⟩
    · exact ⟨Nat.zero_le _, Nat.zero_le _, no (by decide) ⟨Nat.zero_le _, Nat.zero_le _, no (by decide) ⟨Nat.zero_le _, Nat.zero_le _, ye (go _ (by decide) h1)⟩⟩⟩
    · exact ⟨Nat.zero_le _, Nat.zero_le _, no (by decide) ⟨Nat.zero_le _, Nat.zero_le _, no (by decide) ⟨Nat.zero_le _, Nat.zero_le _, no (by decide) ⟨Nat.zero_le _, Nat.zero_le _, ye (go _ (by decide) h1)⟩⟩⟩⟩
    · exact ⟨Nat.zero_le _, Nat.zero_le _, no (by decide) ⟨Nat.zero_le _, Nat.zero_le _, no (by decide) ⟨Nat.zero_le _, Nat.zero_le _, no (by decide) ⟨Nat.zero_le _, Nat.zero_le _, no (by decide) ⟨Nat.zero_le _, Nat.zero_le _, ye (go _ (by decide) h1)⟩⟩⟩⟩⟩
  · refine ⟨Nat.zero_le _, Nat.zero_le _, no (by decide) ⟨Nat.zero_le _, Nat.zero_le _, no (by decide) ⟨Nat.zero_le _, Nat.zero_le _, no (by decide) ⟨Nat.zero_le _, Nat.zero_le _, no (by decide) ⟨Nat.zero_le _, Nat.zero_le _, no (by decide) ⟨Nat.zero_le _, Nat.zero_le _, ye ?_⟩⟩⟩⟩⟩⟩
    exact ix_t at0 ⟨d, e, rfl, pd, pe, fun q q2 => fit.of (h1 q q2), fun x q => ⟨_, le.refl, h2 x q⟩⟩
  · refine ⟨Nat.zero_le _, Nat.zero_le _, no (by decide) ⟨Nat.zero_le _, Nat.zero_le _, no (by decide) ⟨Nat.zero_le _, Nat.zero_le _, no (by decide) ⟨Nat.zero_le _, Nat.zero_le _, no (by decide) ⟨Nat.zero_le _, Nat.zero_le _, no (by decide) ⟨Nat.zero_le _, Nat.zero_le _, no (by decide) ?_⟩⟩⟩⟩⟩⟩
    rcases h (fit P') (fun C fs es r' => ∃ r0, le r' r0 ∧ XR C fs es r0) (fun d r q => fit.of q) (fun C fs ds r q => ⟨r, le.refl, q⟩) with ⟨e, rfl, hh⟩ | ⟨e, e', rfl, hh⟩
    · exact fun _ => ⟨Nat.zero_le _, Nat.zero_le _, brT (ix_t at0 hh)⟩
    · exact fun _ => ⟨Nat.zero_le _, Nat.zero_le _, brF (ix_t at0 (ix_t at1 hh))⟩

/-! ### lines of things -/
def spThStr (CT : Addr) : SpX := fun ds r P _ => ∃ (k : Str) (n : Str) (ps : List Str), ds = [.ins CT thF [.str k, .str n, .tup (ps.map .str)]] ∧ k.length ≤ 8 ∧ n.length ≤ 8 ∧ ps.length ≤ 4 ∧ (∀ x ∈ ps, x.length ≤ 8) ∧ P (.str (tJoin " " (k :: n :: ps))) r
theorem sum8' : ∀ {ps : List Str}, (∀ x ∈ ps, x.length ≤ 8) → (ps.map (·.length)).sum ≤ 8 * ps.length
  | [], _ => Nat.le_refl _
  | p :: ps, h => by
    have h1 := h p List.mem_cons_self
    have h2 := sum8' (ps := ps) fun y hy => h y (List.mem_cons_of_mem _ hy)
    rw [List.map_cons, List.sum_cons, List.length_cons]
    omega
abbrev N_Thing___str__ : List Str := ["self"]
theorem sc_Thing___str__ : FnScope N_Thing___str__ ["self"] (defScope s_Thing___str__) := ⟨rfl, rfl, rfl, by decide +kernel, rfl, by decide +kernel, by decide +kernel⟩

theorem c_Thing_str {CT : Addr} (K_Thing : KCls K mg "Thing" CT thF) (Dx : DfT K CT "Thing.__str__" s_Thing___str__ ["self"]) : ClT P w K mg base 1 CT (spThStr CT) := by
  have sc := sc_Thing___str__
  refine clt_of Dx sc (fun ds r P' XR ⟨_, _, _, e, _⟩ => by rw [e]; rfl) (fun f cdv A outer s H E hr tk po => ?_)
  refine ⟨_, (ss_one (s_ret (d_join d_str (d_lst (dl_cons (d_fld (dv 0)) (dl_cons (d_fld (dv 0)) (dl_star (d_fld (dv 0)) dl_nil))))))), fun ds r P' XR h => ?_⟩
  obtain ⟨k, n, ps, rfl, hk, hn, hl, hp, h⟩ := h
  have s8 := sum8' hp
  refine .fro 0 _ (by decide) rfl (.fro 1 _ (by decide) rfl (.fro 2 _ (by decide) rfl ⟨?_, ?_⟩))
  · show (_ :: _ :: (List.map D.str ps ++ [])).length ≤ 1000000
    rw [List.append_nil, List.length_cons, List.length_cons, List.length_map]
    omega
  · rw [List.append_nil]
    refine join_l (ys := k :: n :: ps) ?_ ?_ (fit.of h)
    · rw [← List.map_cons, ← List.map_cons]
      exact strL_map _
    · show ((k :: n :: ps).map (·.length)).sum + (k :: n :: ps).length * 1 ≤ 1000000
      rw [List.map_cons, List.map_cons, List.sum_cons, List.sum_cons, List.length_cons, List.length_cons]
      omega
/-! ### _law_table -/
def spCall4 (sdT : SpX) : SpX := fun ds r P XR => ∃ d ks, ds = [d, .lst ks] ∧ ks.length ≤ 4 ∧ ∀ (P2 : PK1) (XR2 : XD), (∀ d r, P d r → P2 d r) → sdT [d, .tup ks] r P2 XR2
abbrev N__law_table : List Str := ["_law_name", "_law_keys"]
theorem sc__law_table : FnScope N__law_table ["_law_name", "_law_keys"] (defScope s__law_table) := ⟨rfl, rfl, rfl, by decide +kernel, rfl, by decide +kernel, by decide +kernel⟩

set_option maxHeartbeats 2000000 in
theorem c__law_table {CT : Addr} {sdT : SpX} (B : Bl mg) (K_Thing : KCls K mg "Thing" CT thF) (S_Thing_table : ClS P w K mg base 7 CT "table" (starP 1 sdT)) (Dx : Dfn K mg "_law_table" s__law_table ["_law_name", "_law_keys"]) : Cl P w K mg base 8 "_law_table" ["_law_name", "_law_keys"] (spCall4 sdT) := by
  have sc := sc__law_table
  refine cl_of Dx sc (fun ds r P' XR ⟨_, _, e, _⟩ => by rw [e]; rfl) (fun f cdv A outer s H E hr tk po => ?_)
  have hu := hr.units
  refine ⟨_, (ss_cons (s_if (b_cmp (p_eq hu) (d_blt c_len (by rfl) B.len (dl_cons (dv 1) dl_nil)) d_int)
  (ss_one (s_ret (d_st S_Thing_table K_Thing tk hr (dl_cons (dv 0) dl_nil))))
  ss_nil)
  (ss_cons (s_if (b_cmp (p_eq hu) (d_blt c_len (by rfl) B.len (dl_cons (dv 1) dl_nil)) d_int)
  (ss_one (s_ret (d_st S_Thing_table K_Thing tk hr (dl_cons (dv 0) (dl_cons (d_ix (dv 1) d_int) dl_nil)))))
  ss_nil)
  (ss_cons (s_if (b_cmp (p_eq hu) (d_blt c_len (by rfl) B.len (dl_cons (dv 1) dl_nil)) d_int)
  (ss_one (s_ret (d_st S_Thing_table K_Thing tk hr (dl_cons (dv 0) (dl_cons (d_ix (dv 1) d_int) (dl_cons (d_ix (dv 1) d_int) dl_nil))))))
  ss_nil)
  (ss_cons (s_if (b_cmp (p_eq hu) (d_blt c_len (by rfl) B.len (dl_cons (dv 1) dl_nil)) d_int)
  (ss_one (s_ret (d_st S_Thing_table K_Thing tk hr (dl_cons (dv 0) (dl_cons (d_ix (dv 1) d_int) (dl_cons (d_ix (dv 1) d_int) (dl_cons (d_ix (dv 1) d_int) dl_nil)))))))
  ss_nil)
  (ss_one (s_ret (d_st S_Thing_table K_Thing tk hr (dl_cons (dv 0) (dl_cons (d_ix (dv 1) d_int) (dl_cons (d_ix (dv 1) d_int) (dl_cons (d_ix (dv 1) d_int) (dl_cons (d_ix (dv 1) d_int) dl_nil)))))))))))), fun ds r P' XR h => ?_⟩
  obtain ⟨d, ks, rfl, hl, h⟩ := h
  replace h := h (fit P') (fun C fs es r' => ∃ r0, le r' r0 ∧ XR C fs es r0) (fun d r q => fit.of q)
  match ks, hl, h with
  | [], _, h => exact fun _ => ⟨Nat.zero_le _, Nat.zero_le _, brT ⟨[d], [], rfl, rfl, Nat.zero_le _, h⟩⟩
  | [a], _, h => exact fun _ => ⟨Nat.zero_le _, Nat.zero_le _, brF fun _ => ⟨Nat.zero_le _, Nat.zero_le _, brT (ix_l at0 ⟨[d], [a], rfl, rfl, Nat.le_of_ble_eq_true rfl, h⟩)⟩⟩
  | [a, b], _, h => exact fun _ => ⟨Nat.zero_le _, Nat.zero_le _, brF fun _ => ⟨Nat.zero_le _, Nat.zero_le _, brF fun _ => ⟨Nat.zero_le _, Nat.zero_le _, brT (ix_l at0 (ix_l at1 ⟨[d], [a, b], rfl, rfl, Nat.le_of_ble_eq_true rfl, h⟩))⟩⟩⟩
  | [a, b, c], _, h => exact fun _ => ⟨Nat.zero_le _, Nat.zero_le _, brF fun _ => ⟨Nat.zero_le _, Nat.zero_le _, brF fun _ => ⟨Nat.zero_le _, Nat.zero_le _, brF fun _ => ⟨Nat.zero_le _, Nat.zero_le _, brT (ix_l at0 (ix_l at1 (ix_l at2 ⟨[d], [a, b, c], rfl, rfl, Nat.le_of_ble_eq_true rfl, h⟩)))⟩⟩⟩⟩
  | [a, b, c, e], _, h => exact fun _ => ⟨Nat.zero_le _, Nat.zero_le _, brF fun _ => ⟨Nat.zero_le _, Nat.zero_le _, brF fun _ => ⟨Nat.zero_le _, Nat.zero_le _, brF fun _ => ⟨Nat.zero_le _, Nat.zero_le _, brF (ix_l at0 (ix_l at1 (ix_l at2 (ix_l (L2.atI_nat (j := 3) rfl) ⟨[d], [a, b, c, e], rfl, rfl, Nat.le_of_ble_eq_true rfl, h⟩))))⟩⟩⟩⟩

theorem same_of {a b : D} (e : a = b) (h : G.plain b = true) : (!G.same a b) = false := by
  rw [e, same_refl _ h]
  rfl
def seven : List Str := ["table", "feed", "dice", "source", "field", "flag", "slot"]
/-- a thing beside its line -/
def Ln (CT : Addr) (d : D) : Prop := ∃ (k n : Str) (ps : List Str), d = .tup [.ins CT thF [.str k, .str n, .tup (ps.map .str)], .str (tJoin " " (k :: n :: ps))] ∧ isNm k = true ∧ isNm n = true ∧ (∀ x ∈ ps, isNm x = true) ∧ ps.length ≤ 4
theorem twice_snoc {d : D} : ∀ {xs s : List D}, twice s xs = none → memD d (s ++ xs) = false → twice s (xs ++ [d]) = none
  | [], s, _, h => by
    rw [List.append_nil] at h
    show (if memD d s = true then some d else twice (s ++ [d]) []) = none
    rw [if_neg (by rw [h]; decide)]
    rfl
  | x :: xs, s, h, h2 => by
    have h : (if memD x s = true then some x else twice (s ++ [x]) xs) = none := h
    show (if memD x s = true then some x else twice (s ++ [x]) (xs ++ [d])) = none
    by_cases q : memD x s = true
    · rw [if_pos q] at h
      cases h
    · rw [if_neg q] at h ⊢
      exact twice_snoc h (by rw [List.append_assoc]; exact h2)
theorem isTh_mk {CT : Addr} {k n p' : D} (h1 : dep k ≤ 64) (h2 : dep n ≤ 64) (h3 : dep p' ≤ 64) : isTh CT (.ins CT thF [k, n, p']) = true := by
  show (CT == CT && (thF == thF && (decide (dep k ≤ 64) && (decide (dep n ≤ 64) && decide (dep p' ≤ 64))))) = true
  rw [beq_self_eq_true, beq_self_eq_true, decide_eq_true h1, decide_eq_true h2, decide_eq_true h3]
  rfl
theorem eqD_strs : ∀ {ps ps' : List Str}, eqD (.tup (ps.map .str)) (.tup (ps'.map .str)) = (ps == ps')
  | [], [] => rfl
  | [], _ :: _ => rfl
  | _ :: _, [] => rfl
  | a :: ps, b :: ps' => by
    have ih := eqD_strs (ps := ps) (ps' := ps')
    show (PyData.eqv (py (.str a)) (py (.str b)) && PyData.eqvAll (pys (ps.map .str)) (pys (ps'.map .str))) = (a == b && ps == ps')
    have e : PyData.eqvAll (pys (ps.map .str)) (pys (ps'.map .str)) = eqD (.tup (ps.map .str)) (.tup (ps'.map .str)) := by
      simp [eqD, py, PyData.eqv]
    rw [e, ih]
    simp [py, PyData.eqv]
theorem splitJ {ws : List Str} (h : ws ≠ []) (h32 : ∀ z ∈ ws, 32 ∉ tl z) : Txt.split (tJoin " " ws) " " = ws := by
  have e := split_tl (a := tJoin " " ws) (b := " ") (by decide +kernel)
  rw [tl_tJoin] at e
  have t : tl (" " : Str) = [32] := by decide
  rw [t, TL.spl_join (by simpa using h) (fun p m => by
    obtain ⟨z, hz, rfl⟩ := List.mem_map.mp m
    exact h32 z hz)] at e
  exact TL.map_tl_inj e
theorem ln_eq {CT : Addr} {k n k' n' : Str} {ps ps' : List Str} (hk : isNm k = true) (hn : isNm n = true) (hps : ∀ x ∈ ps, isNm x = true) (hk' : isNm k' = true) (hn' : isNm n' = true) (hps' : ∀ x ∈ ps', isNm x = true) :
    thEq CT (.ins CT thF [.str k, .str n, .tup (ps.map .str)]) (.ins CT thF [.str k', .str n', .tup (ps'.map .str)]) = eqD (.str (tJoin " " (k :: n :: ps))) (.str (tJoin " " (k' :: n' :: ps'))) := by
  have no32 : ∀ {z : Str}, isNm z = true → 32 ∉ tl z := fun {z} h m => by
    unfold isNm at h
    simp only [Bool.and_eq_true, List.all_eq_true] at h
    have := h.2 32 m
    revert this
    decide
  have sp : ∀ {k n : Str} {ps : List Str}, isNm k = true → isNm n = true → (∀ x ∈ ps, isNm x = true) → Txt.split (tJoin " " (k :: n :: ps)) " " = k :: n :: ps := fun h1 h2 h3 => splitJ (by simp) fun z hz => by
    rcases List.mem_cons.mp hz with rfl | hz
    · exact no32 h1
    · rcases List.mem_cons.mp hz with rfl | hz
      · exact no32 h2
      · exact no32 (h3 z hz)
  have e1 : thEq CT (.ins CT thF [.str k, .str n, .tup (ps.map .str)]) (.ins CT thF [.str k', .str n', .tup (ps'.map .str)]) = ((k == k') && ((n == n') && (ps == ps'))) := by
    show (CT == CT && (eqD (.str k) (.str k') && (eqD (.str n) (.str n') && eqD (.tup (ps.map .str)) (.tup (ps'.map .str))))) = _
    rw [beq_self_eq_true, Bool.true_and, eqD_strs]
    rfl
  rw [e1]
  show _ = (tJoin " " (k :: n :: ps) == tJoin " " (k' :: n' :: ps'))
  by_cases h : k :: n :: ps = k' :: n' :: ps'
  · cases h
    simp
  · have h2 : tJoin " " (k :: n :: ps) ≠ tJoin " " (k' :: n' :: ps') := fun q => h (by rw [← sp hk hn hps, q, sp hk' hn' hps'])
    rw [beq_eq_false_iff_ne.mpr h2]
    cases q1 : k == k' with
    | false => rfl
    | true =>
      cases q2 : n == n' with
      | false => rfl
      | true =>
        cases q3 : ps == ps' with
        | false => rfl
        | true => exact absurd (by rw [beq_iff_eq.mp q1, beq_iff_eq.mp q2, beq_iff_eq.mp q3]) h
abbrev N_law : List Str := ["_law_script", "_law_pool_here", "_law_made", "_law_names", "_law_turn", "_law_kind", "_law_name", "_law_parts", "_law_k", "_law_thing_here", "_law_key", "_law_line", "_law_other", "_law_heard"]
theorem sc_law : FnScope N_law ["_law_script"] (defScope s_law) := ⟨rfl, rfl, rfl, by decide +kernel, rfl, by decide +kernel, by decide +kernel⟩

set_option maxHeartbeats 2000000 in
theorem ok_law {CT CB CT2 CTM : Addr} {fl fp : Addr} {fd fdp : FuncData} (F : Fun K "law" "law" s_law fl fd) (GP : FnOk P w K mg base CX0 1 fp fdp ["_law_script"] (spPool K)) (gP : mg "_law_pool" = some (.ref fp)) (kP : PySem.W.keepIn K (.ref fp) = true) (bP : Binds K fdp ["_law_script"] [])
    (C__law_draw : Cl P w K mg base 1 "_law_draw" ["_law_pool_here", "_law_many"] spDraw) (C__law_word : Cl P w K mg base 2 "_law_word" ["_law_pool_here"] spWord) (C__law_same : Cl P w K mg base 9 "_law_same" ["_law_actual", "_law_due"] (spSame 9))
    (C__law_thing : Cl P w K mg base 8 "_law_thing" ["_law_thing_here"] (spLThing CT CB (starP 1 (spTable CT CB CT2 CTM)))) (C__law_table : Cl P w K mg base 8 "_law_table" ["_law_name", "_law_keys"] (spCall4 (spTable CT CB CT2 CTM))) (E_Thing : ClE P w K mg base 1 CT (spThEq CT)) (T_Thing : ClT P w K mg base 1 CT (spThStr CT)) (B : Bl mg) :
    FnOk P w K mg base CX0 11 fl fd ["_law_script"] (spLaw K) := by
  have sc := sc_law
  refine F.ok sc (fun vs H Q E h => ?_) (fun cdv A outer s H vs Q E hr h => ?_)
  · obtain ⟨a, ns, rfl, _⟩ := h
    rfl
  obtain ⟨a, ns, rfl, hS, hl, hQ⟩ := h
  have hu := hr.units
  have hi := u65 hr
  refine ⟨_, pss_cons (ps_set (i := 1) sc.nd rfl (.inl rfl) (pe_call GP (hr.mono (by decide)) (by rfl) gP kP bP .nil pass0 (pa_cons (pv 0) pa_nil))) ((ss_cons (s_set (i := 2) sc.nd (d_lstO dl_nil))
  (ss_cons (s_set (i := 3) sc.nd (d_lstO (dl_cons d_str dl_nil)))
  (ss_cons (s_for (i_r1 (by rfl) B.range (dl_cons d_int dl_nil)) (g_name (i := 4) sc.nd)
  (ss_cons (s_set (i := 5) sc.nd (d_ix (d_lst (dl_cons d_str (dl_cons d_str (dl_cons d_str (dl_cons d_str (dl_cons d_str (dl_cons d_str (dl_cons d_str dl_nil)))))))) (d_fn C__law_draw takes0 hr (dl_cons (dv 1) (dl_cons d_int dl_nil)))))
  (ss_cons (s_set (i := 6) sc.nd (d_fn C__law_word takes0 hr (dl_cons (dv 1) dl_nil)))
  (ss_cons (s_cut (s_if (b_cmp (p_eq hu) (d_fn C__law_draw takes0 hr (dl_cons (dv 1) (dl_cons d_int dl_nil))) d_int)
  (ss_one (s_set (i := 6) sc.nd (d_ixO (dv 3) (d_fn C__law_draw takes0 hr (dl_cons (dv 1) (dl_cons (d_blt2 c_lenO (by rfl) B.len (dl_cons (dv 3) dl_nil)) dl_nil))))))
  ss_nil))
  (ss_cons (s_expr (d_app (dv 3) (dl_cons (dv 6) dl_nil)))
  (ss_cons (s_set (i := 7) sc.nd (d_lstO dl_nil))
  (ss_cons (s_cut (s_if (b_cmp (p_eq hu) (dv 5) d_str)
  (ss_cons (s_for (i_r1 (by rfl) B.range (dl_cons (d_fn C__law_draw takes0 hr (dl_cons (dv 1) (dl_cons d_int dl_nil))) dl_nil)) (g_name (i := 8) sc.nd)
  (ss_cons (s_set (i := 10) sc.nd (d_cut (d_if (b_cmp (p_eq hu) (d_fn C__law_draw takes0 hr (dl_cons (dv 1) (dl_cons d_int dl_nil))) d_int) (d_ixO (dv 3) (d_fn C__law_draw takes0 hr (dl_cons (dv 1) (dl_cons (d_blt2 c_lenO (by rfl) B.len (dl_cons (dv 3) dl_nil)) dl_nil)))) (d_fn C__law_word takes0 hr (dl_cons (dv 1) dl_nil)))))
  (ss_one (s_if (b_cmpO (p_notInO hi) (dv 10) (dv 7))
  (ss_one (s_expr (d_app (dv 7) (dl_cons (dv 10) dl_nil))))
  ss_nil))) PassesOwn.never)
  (ss_one (s_melt 7 (s_set (i := 9) sc.nd (d_fn C__law_table takes0 hr (dl_cons (dv 6) (dl_cons (dv 7) dl_nil)))))))
  (ss_cons (s_melt 7 (s_if (b_cmp (p_eq hu) (dv 5) d_str)
  (ss_one (s_set (i := 7) sc.nd (d_lst (dl_cons (d_ixO (dv 3) (d_fn C__law_draw takes0 hr (dl_cons (dv 1) (dl_cons (d_blt2 c_lenO (by rfl) B.len (dl_cons (dv 3) dl_nil)) dl_nil)))) dl_nil))))
  ss_nil))
  (ss_one (s_set (i := 9) sc.nd (d_fn C__law_thing takes0 hr (dl_cons (d_tup (dl_cons (dv 5) (dl_cons (dv 6) (dl_cons (d_ty c_tuple (by rfl) B.tuple (dl_cons (dv 7) dl_nil)) dl_nil)))) dl_nil)))))))
  (ss_one (s_expr (d_app (dv 2) (dl_cons (d_tup (dl_cons (dv 9) (dl_cons (d_join d_str (d_bin p_add (d_lst (dl_cons (dv 5) (dl_cons (dv 6) dl_nil))) (dv 7))) dl_nil))) dl_nil)))))))))) PassesOwn.never)
  (ss_cons (s_melt 2 (s_for (i_list (dv 2)) (g_tup (is := [9, 11]) (pgs_n (i := 9) sc.nd (pgs_n (i := 11) sc.nd pgs_nil)))
  (ss_cons (s_if (b_not (b_tru (d_fn C__law_same takes0 hr (dl_cons (d_stri T_Thing hr (by rfl) B.str (dv 9)) (dl_cons (dv 11) dl_nil)))))
  (ss_one (s_ret d_bl))
  ss_nil)
  (ss_one (s_for (i_list (dv 2)) (g_tup (is := [12, 13]) (pgs_n (i := 12) sc.nd (pgs_n (i := 13) sc.nd pgs_nil)))
  (ss_one (s_if (b_not (b_tru (d_fn C__law_same takes0 hr (dl_cons (d_eqi E_Thing hr (dv 9) (dv 12)) (dl_cons (d_cmp (p_eq hu) (dv 11) (dv 13)) dl_nil)))))
  (ss_one (s_ret d_bl))
  ss_nil)) PassesOwn.never))) PassesOwn.never))
  (ss_one (s_ret d_bl)))))) : PBD _ W0 _ _), ?_⟩
  refine ⟨_, rfl, a, ns, rfl, hS, hl, fun p a' H' ro => law_go ro hQ ?_⟩
  refine ⟨Nat.le_of_ble_eq_true rfl, fun qm => ⟨Nat.le_of_ble_eq_true rfl, fun qn => ?_⟩⟩
  refine ⟨⟨by decide, by decide⟩, fun i δ r => (∃ d4 d5 d6 d7 d8 d9 d10 d11 d12 d13, δ = [none, some (.adr p), some (.adr qm), some (.adr qn), d4, d5, d6, d7, d8, d9, d10, d11, d12, d13]) ∧ ∃ m xs ns X, m ≤ i * 10000 ∧ r = poolA p a' m :: lstA qm xs :: lstA qn ns :: X ∧ xs.length ≤ i ∧ (∀ e ∈ xs, Ln CT e) ∧ 1 ≤ ns.length ∧ ns.length ≤ i + 1 ∧ ∀ x ∈ ns, ∃ z, x = .str z ∧ isNm z = true, ⟨⟨_, _, _, _, _, _, _, _, _, _, rfl⟩, 0, [], [.str "feed"], [], Nat.le_refl _, rfl, Nat.le_refl _, fun _ h => (by cases h), Nat.le_refl _, Nat.le_refl _, fun x h => ⟨_, List.mem_singleton.mp h, by decide +kernel⟩⟩, ?_, ?_⟩
  · rintro i d δ r hd ⟨⟨d4, d5, d6, d7, d8, d9, d10, d11, d12, d13, rfl⟩, m, xs, ns, X, hm0, rfl, hxl, hxs, hn1, hnl, hns⟩
    have hi10 : i < 10 := by
      have := (List.getElem?_eq_some_iff.mp hd).1
      simpa using this
    refine ⟨Nat.le_of_ble_eq_true rfl, p, a', 7, m, _, rfl, rfl, ⟨by decide, by decide⟩, by omega, fun k k0 k1 => ?_⟩
    obtain ⟨kd, hkd, ek⟩ := pick_in (l := seven.map D.str) k0 k1
    obtain ⟨kd, hk7, rfl⟩ := List.mem_map.mp hkd
    refine ix_l ek ⟨p, a', m + 1, _, rfl, rfl, by omega, fun nm hnm => ?_⟩
    refine ⟨fun δ' r' => ∃ nm m', isNm nm = true ∧ m' ≤ m + 20 ∧ δ' = [none, some (.adr p), some (.adr qm), some (.adr qn), some d, some (.str kd), some (.str nm), d7, d8, d9, d10, d11, d12, d13] ∧ r' = poolA p a' m' :: lstA qm xs :: lstA qn ns :: X, ⟨p, a', 3, _, _, rfl, rfl, ⟨by decide, by decide⟩, by omega, fun c c0 c3 => ⟨Nat.zero_le _, Nat.zero_le _, fun _ => ?_, fun _ => ⟨nm, _, hnm, by omega, rfl, rfl⟩⟩⟩, ?_⟩
    · refine ⟨qn, ns, rfl, ⟨[_, _], X, rfl⟩, fun _ => ⟨p, a', _, _, _, rfl, rfl, ⟨by omega, by omega⟩, by omega, fun t t0 t1 => ?_⟩⟩
      obtain ⟨x, mx, ex⟩ := pick_in t0 t1
      obtain ⟨z, rfl, hz⟩ := hns x mx
      exact ⟨qn, ns, _, _, rfl, rfl, ⟨[_, _], X, rfl⟩, ex, z, _, hz, by omega, rfl, rfl⟩
    · rintro _ _ ⟨nm, m', hnm, hm', rfl, rfl⟩
      refine ⟨qn, ns, rfl, ⟨[_, _], X, rfl⟩, ⟨[_, _], ns, X, _, rfl, rfl, by unfold small; omega, ?_⟩⟩
      refine ⟨Nat.le_of_ble_eq_true rfl, fun qp => ?_⟩
      have hns2 : ∀ x ∈ ns ++ [.str nm], ∃ z, x = .str z ∧ isNm z = true := fun x hx => (List.mem_append.mp hx).elim (hns x) fun h => ⟨nm, List.mem_singleton.mp h, hnm⟩
      have hl2 : (ns ++ [D.str nm]).length ≤ i + 2 ∧ 1 ≤ (ns ++ [D.str nm]).length := by
        rw [List.length_append, List.length_singleton]
        omega
      generalize ns ++ [D.str nm] = ns2 at *
      refine ⟨fun δ' r' => ∃ (ps : List Str) (m2 : Nat) (X2 : Rs), (∃ e8 e10 e11 e12 e13, δ' = [none, some (.adr p), some (.adr qm), some (.adr qn), some d, some (.str kd), some (.str nm), some (.lst (ps.map .str)), e8, some (.ins CT thF [.str kd, .str nm, .tup (ps.map .str)]), e10, e11, e12, e13]) ∧ m2 ≤ m + 200 ∧ (∀ x ∈ ps, isNm x = true) ∧ ps.length ≤ 4 ∧ r' = poolA p a' m2 :: lstA qm xs :: lstA qn ns2 :: X2, ⟨Nat.zero_le _, Nat.zero_le _, fun h => ?_, fun h => ?_⟩, ?_⟩
      · refine ⟨p, a', 5, m', _, rfl, rfl, ⟨by decide, by decide⟩, by omega, fun c c0 c5 => ⟨⟨by omega, by omega⟩, ?_⟩⟩
        refine ⟨fun j δ' r' => ∃ (ps : List Str) (m2 : Nat) (e8 e9 e10 : Option D), δ' = [none, some (.adr p), some (.adr qm), some (.adr qn), some d, some (.str kd), some (.str nm), some (.adr qp), e8, e9, e10, d11, d12, d13] ∧ m2 ≤ m' + 1 + 20 * j ∧ (∀ x ∈ ps, isNm x = true) ∧ ps.length ≤ j ∧ twice [] (ps.map .str) = none ∧ r' = poolA p a' m2 :: lstA qm xs :: lstA qn ns2 :: (X ++ [lstA qp (ps.map .str)]), ⟨[], m' + 1, _, _, _, rfl, by omega, fun _ h => (by cases h), Nat.le_refl _, rfl, rfl⟩, ?_, ?_⟩
        · rintro j dj _ _ hj ⟨ps, m2, e8, e9, e10, rfl, hm2, hps, hlp, htw, rfl⟩
          have hj5 : j < 5 := by
            have := (List.getElem?_eq_some_iff.mp hj).1
            rw [List.length_map, List.length_range] at this
            omega
          refine ⟨fun d r => ∃ z m3, d = .str z ∧ isNm z = true ∧ m3 ≤ m2 + 20 ∧ r = poolA p a' m3 :: lstA qm xs :: lstA qn ns2 :: (X ++ [lstA qp (ps.map .str)]), ⟨p, a', 2, _, _, rfl, rfl, ⟨by decide, by decide⟩, by omega, fun t t0 t2 => ⟨Nat.zero_le _, Nat.zero_le _, fun _ => ?_, fun _ => ?_⟩⟩, ?_⟩
          · refine ⟨qn, ns2, rfl, ⟨[_, _], _, rfl⟩, fun _ => ⟨p, a', _, _, _, rfl, rfl, ⟨by omega, by omega⟩, by omega, fun t t0 t1 => ?_⟩⟩
            obtain ⟨x, mx, ex⟩ := pick_in t0 t1
            obtain ⟨z, rfl, hz⟩ := hns2 x mx
            exact ⟨qn, ns2, _, _, rfl, rfl, ⟨[_, _], _, rfl⟩, ex, z, _, rfl, hz, by omega, rfl⟩
          · exact ⟨p, a', _, _, rfl, rfl, by omega, fun z hz => ⟨z, _, rfl, hz, by omega, rfl⟩⟩
          · rintro _ _ ⟨z, m3, rfl, hz, hm3, rfl⟩
            refine ⟨qp, ps.map .str, rfl, ⟨_ :: _ :: _ :: X, [], rfl⟩, ⟨Nat.zero_le _, ?_, _, rfl, ?_⟩⟩
            · have := deps_le (n := 0) (xs := ps.map D.str) fun x hx => by
                obtain ⟨y, _, rfl⟩ := List.mem_map.mp hx
                exact Nat.le_refl _
              omega
            · cases q : memD (.str z) (ps.map .str) with
              | true => exact brF ⟨ps, m3, _, _, _, rfl, by omega, hps, by omega, htw, rfl⟩
              | false =>
                refine brT ⟨qp, ps.map .str, rfl, ⟨_ :: _ :: _ :: X, [], rfl⟩, ⟨_ :: _ :: _ :: X, ps.map .str, [], .str z, rfl, rfl, by unfold small; rw [List.length_map]; omega, ?_⟩⟩
                refine ⟨ps ++ [z], m3, _, _, _, rfl, by omega, fun x hx => (List.mem_append.mp hx).elim (hps x) fun h => (List.mem_singleton.mp h) ▸ hz, by rw [List.length_append, List.length_singleton]; omega, ?_, by rw [List.map_append]; rfl⟩
                rw [List.map_append]
                exact twice_snoc htw q
        · rintro _ _ ⟨ps, m2, e8, e9, e10, rfl, hm2, hps, hlp, htw, rfl⟩
          have hl4 : ps.length ≤ 4 := by
            rw [List.length_map, List.length_range] at hlp
            omega
          have hc5 : m2 ≤ m' + 101 := by
            rw [List.length_map, List.length_range] at hm2
            omega
          have kt : kd = "table" := by
            have h : ((kd : Str) == "table") = true := h
            exact beq_iff_eq.mp h
          refine ⟨qp, ps.map .str, _ :: _ :: _ :: X, [], rfl, rfl, .str nm, ps.map .str, rfl, by rw [List.length_map]; exact hl4, fun P2 XR2 hP => ⟨.str nm, ps.map .str, rfl, by rw [List.length_map]; omega, rfl, fun x hx => ?_, fun x hx => ?_, fun _ => ⟨fun x hx => ?_, fun _ => ⟨fun z => ?_, fun _ => hP _ _ ?_⟩⟩⟩⟩
          · obtain ⟨y, _, rfl⟩ := List.mem_map.mp hx
            rfl
          · exfalso
            have e := List.find?_some hx
            have m := List.mem_of_find?_eq_some hx
            have : isNameD x = true := by
              rcases List.mem_cons.mp m with rfl | m
              · exact hnm
              · obtain ⟨y, my, rfl⟩ := List.mem_map.mp m
                exact hps y my
            rw [this] at e
            cases e
          · rw [htw] at hx
            cases hx
          · rw [List.length_map] at z
            omega
          · rw [← kt]
            exact ⟨ps, m2, X ++ [], ⟨_, _, _, _, _, rfl⟩, by omega, hps, hl4, rfl⟩
      · have kt : kd ≠ "table" := by
          have h : ((kd : Str) == "table") = false := h
          exact beq_eq_false_iff_ne.mp h
        refine ⟨qp, [], _ :: _ :: _ :: X, [], rfl, rfl, Nat.zero_le _, Nat.zero_le _, fun h2 => ?_, fun h2 => ?_⟩
        · have kf : kd = "field" := by
            have h : ((kd : Str) == "field") = true := h2
            exact beq_iff_eq.mp h
          refine ⟨qn, ns2, rfl, ⟨[_, _], _, rfl⟩, fun _ => ⟨p, a', _, _, _, rfl, rfl, ⟨by omega, by omega⟩, by omega, fun t t0 t1 => ?_⟩⟩
          obtain ⟨x, mx, ex⟩ := pick_in t0 t1
          obtain ⟨z, rfl, hz⟩ := hns2 x mx
          refine ⟨qn, ns2, _, _, rfl, rfl, ⟨[_, _], _, rfl⟩, ex, Nat.le_of_ble_eq_true rfl, Nat.le_of_ble_eq_true rfl, kd, .str nm, [.str z], rfl, rfl, .inr (.inl ⟨kf, .str z, rfl, rfl, fun _ _ => ?_, fun x hx => ?_⟩)⟩
          · rw [← kf]
            exact ⟨[z], _, X ++ [], ⟨_, _, _, _, _, rfl⟩, by omega, fun x hx => (List.mem_singleton.mp hx) ▸ hz, Nat.le_of_ble_eq_true rfl, rfl⟩
          · exfalso
            have e := List.find?_some hx
            have m := List.mem_of_find?_eq_some hx
            have : isNameD x = true := by
              rcases List.mem_cons.mp m with rfl | m
              · exact hnm
              · obtain rfl := List.mem_singleton.mp m
                exact hz
            rw [this] at e
            cases e
        · have kf : kd ≠ "field" := by
            have h : ((kd : Str) == "field") = false := h2
            exact beq_eq_false_iff_ne.mp h
          have k5 : kd ∈ five := by
            simp only [seven, List.mem_cons, List.not_mem_nil, or_false] at hk7
            rcases hk7 with rfl | rfl | rfl | rfl | rfl | rfl | rfl <;> first | exact absurd rfl kt | exact absurd rfl kf | decide
          refine ⟨Nat.le_of_ble_eq_true rfl, kd, .str nm, [], rfl, rfl, .inl ⟨k5, rfl, fun _ => ?_, fun q => ?_⟩⟩
          · exact ⟨[], _, X ++ [], ⟨_, _, _, _, _, rfl⟩, by omega, fun x hx => (by cases hx), Nat.zero_le _, rfl⟩
          · have : isNameD (.str nm) = true := hnm
            rw [this] at q
            cases q
      · rintro _ _ ⟨ps, m2, X2, ⟨e8, e10, e11, e12, e13, rfl⟩, hm2, hps, hl4, rfl⟩
        have len8 : ∀ {z : Str}, isNm z = true → z.length ≤ 8 := fun h => isNm_len h
        have s8 := sum8' (ps := ps) fun x hx => len8 (hps x hx)
        have kn : isNm kd = true := List.all_eq_true.mp (by decide +kernel : seven.all isNm = true) kd hk7
        have n8 := len8 hnm
        have k8 := len8 kn
        refine ⟨qm, xs, rfl, ⟨[_], _, rfl⟩, Nat.le_of_ble_eq_true rfl, ⟨by unfold small; rw [List.length_map]; simp only [List.length_cons, List.length_nil]; omega, join_l (ys := kd :: nm :: ps) (strL_map (kd :: nm :: ps)) ?_ ⟨Nat.le_of_ble_eq_true rfl, ⟨[_], xs, _, _, rfl, rfl, by unfold small; omega, ?_⟩⟩⟩⟩
        · show ((kd :: nm :: ps).map (·.length)).sum + (kd :: nm :: ps).length * 1 ≤ 1000000
          rw [List.map_cons, List.map_cons, List.sum_cons, List.sum_cons, List.length_cons, List.length_cons]
          omega
        · exact ⟨⟨_, _, _, _, _, _, _, _, _, _, rfl⟩, m2, _, ns2, X2, by omega, rfl, by rw [List.length_append, List.length_singleton]; omega, fun e he => (List.mem_append.mp he).elim (hxs e) fun h => ⟨kd, nm, ps, List.mem_singleton.mp h, kn, hnm, hps, hl4⟩, hl2.2, by omega, hns2⟩
  · rintro δ r ⟨⟨d4, d5, d6, d7, d8, d9, d10, d11, d12, d13, rfl⟩, m, xs, ns, X, hm0, rfl, hxl, hxs, hn1, hnl, hns⟩
    have len8 : ∀ {z : Str}, isNm z = true → z.length ≤ 8 := fun h => isNm_len h
    refine ⟨qm, xs, [_], _, rfl, rfl, ?_⟩
    refine ⟨fun i δ r => (∃ d9 d11 d12 d13, δ = [none, some (.adr p), some (.lst xs), some (.adr qn), d4, d5, d6, d7, d8, d9, d10, d11, d12, d13]) ∧ r = poolA p a' m :: lstA qn ns :: X, ⟨⟨_, _, _, _, rfl⟩, rfl⟩, ?_, fun δ r _ => rfl⟩
    rintro i d δ r hd ⟨⟨d9, d11, d12, d13, rfl⟩, rfl⟩
    obtain ⟨k, n, ps, rfl, hk, hn, hps, hl4⟩ := hxs d (List.mem_of_getElem? hd)
    have dt : ∀ ps : List Str, dep (.tup (ps.map .str)) ≤ 64 := fun ps => by
      have := deps_le (n := 0) (xs := ps.map D.str) fun x hx => by
        obtain ⟨y, _, rfl⟩ := List.mem_map.mp hx
        exact Nat.le_refl _
      show deps _ + 1 ≤ 64
      omega
    have hT : ∀ (k n : Str) (ps : List Str), isTh CT (.ins CT thF [.str k, .str n, .tup (ps.map .str)]) = true := fun k n ps => isTh_mk (Nat.zero_le _) (Nat.zero_le _) (dt ps)
    refine ⟨rfl, .fro, k, n, ps, rfl, len8 hk, len8 hn, hl4, fun x hx => len8 (hps x hx), _, rfl, _, _, rfl, rfl, rfl, Nat.zero_le _, Nat.zero_lt_succ _, brf (same_of rfl rfl) ?_⟩
    refine ⟨fun j δ r => (∃ d12 d13, δ = [none, some (.adr p), some (.lst xs), some (.adr qn), d4, d5, d6, d7, d8, some (.ins CT thF [.str k, .str n, .tup (ps.map .str)]), d10, some (.str (tJoin " " (k :: n :: ps))), d12, d13]) ∧ r = poolA p a' m :: lstA qn ns :: X, ⟨⟨_, _, rfl⟩, rfl⟩, ?_, ?_⟩
    · rintro j e δ r he ⟨⟨d12, d13, rfl⟩, rfl⟩
      obtain ⟨k', n', ps', rfl, hk', hn', hps', hl4'⟩ := hxs e (List.mem_of_getElem? he)
      refine ⟨rfl, .fro, .inr .fro, _, _, rfl, hT _ _ _, .inr (hT _ _ _), _, rfl, Nat.zero_le _, Nat.zero_le _, _, _, rfl, rfl, rfl, Nat.zero_le _, Nat.zero_lt_succ _, brf (same_of (congrArg D.bl (ln_eq hk hn hps hk' hn' hps')) rfl) ⟨⟨_, _, rfl⟩, rfl⟩⟩
    · rintro δ r ⟨⟨d12, d13, rfl⟩, rfl⟩
      exact ⟨⟨_, _, _, _, rfl⟩, rfl⟩

end
theorem all_mk {l : PySem.W.OpenLaw} {w : World} {K : PySem.W.Frag} {h : Heap} {mg : Str → Option Value} {fa : Addr} (X : K.In h) (G : h.Ns mainGlobals mg) (hfa : mg "law" = some (.ref fa))
    {f0 : Addr} {oc0 kV0 dc0 pm0 cd0 ct0 : Value} {od0 an0 : Option Addr} {sl0 : Array (Option Value)}
    {f1 : Addr} {oc1 kV1 dc1 pm1 cd1 ct1 : Value} {od1 an1 : Option Addr} {sl1 : Array (Option Value)}
    {f2 : Addr} {oc2 kV2 dc2 pm2 cd2 ct2 : Value} {od2 an2 : Option Addr} {sl2 : Array (Option Value)}
    {f3 : Addr} {oc3 kV3 dc3 pm3 cd3 ct3 : Value} {od3 an3 : Option Addr} {sl3 : Array (Option Value)}
    {f4 : Addr} {oc4 kV4 dc4 pm4 cd4 ct4 : Value} {od4 an4 : Option Addr} {sl4 : Array (Option Value)}
    {f5 : Addr} {oc5 kV5 dc5 pm5 cd5 ct5 : Value} {od5 an5 : Option Addr} {sl5 : Array (Option Value)}
    {f6 : Addr} {oc6 kV6 dc6 pm6 cd6 ct6 : Value} {od6 an6 : Option Addr} {sl6 : Array (Option Value)}
    {f7 : Addr} {oc7 kV7 dc7 pm7 cd7 ct7 : Value} {od7 an7 : Option Addr} {sl7 : Array (Option Value)}
    {f8 : Addr} {oc8 kV8 dc8 pm8 cd8 ct8 : Value} {od8 an8 : Option Addr} {sl8 : Array (Option Value)}
    {f9 : Addr} {oc9 kV9 dc9 pm9 cd9 ct9 : Value} {od9 an9 : Option Addr} {sl9 : Array (Option Value)}
    {st_LETTERS : Tok}
    {it_MOST_LETTERS : Tok}
    {it_MOST_KEYS : Tok}
    {C_BadName fI_BadName cc_BadName cda_BadName N_BadName : Addr} {kV_BadName dc_BadName pm_BadName ct_BadName oc_BadName ccl_BadName cl_BadName : Value} {an_BadName od_BadName cdd_BadName cld_BadName : Option Addr} {osl_BadName ccs_BadName csl_BadName : Array (Option Value)} {vs_BadName : Array Value} {file_BadName : Str} {tf_BadName : Tok} {nm_BadName q_BadName : Str} {bs_BadName bm_BadName : List Value} {sn_BadName : List Str} {sub_BadName : List Value} {ab_BadName : Bool} {col_BadName : Option Bool} {dd_BadName : Option Addr} {k0_BadName k1_BadName k2_BadName k3_BadName k5_BadName : Option Value}
    {C_Twice fI_Twice cc_Twice cda_Twice N_Twice : Addr} {kV_Twice dc_Twice pm_Twice ct_Twice oc_Twice ccl_Twice cl_Twice : Value} {an_Twice od_Twice cdd_Twice cld_Twice : Option Addr} {osl_Twice ccs_Twice csl_Twice : Array (Option Value)} {vs_Twice : Array Value} {file_Twice : Str} {tf_Twice : Tok} {nm_Twice q_Twice : Str} {bs_Twice bm_Twice : List Value} {sn_Twice : List Str} {sub_Twice : List Value} {ab_Twice : Bool} {col_Twice : Option Bool} {dd_Twice : Option Addr} {k0_Twice k1_Twice k2_Twice k3_Twice k5_Twice : Option Value}
    {C_TooMany fI_TooMany cc_TooMany cda_TooMany N_TooMany : Addr} {kV_TooMany dc_TooMany pm_TooMany ct_TooMany oc_TooMany ccl_TooMany cl_TooMany : Value} {an_TooMany od_TooMany cdd_TooMany cld_TooMany : Option Addr} {osl_TooMany ccs_TooMany csl_TooMany : Array (Option Value)} {vs_TooMany : Array Value} {file_TooMany : Str} {tf_TooMany : Tok} {nm_TooMany q_TooMany : Str} {bs_TooMany bm_TooMany : List Value} {sn_TooMany : List Str} {sub_TooMany : List Value} {ab_TooMany : Bool} {col_TooMany : Option Bool} {dd_TooMany : Option Addr} {k0_TooMany k1_TooMany k2_TooMany k3_TooMany k5_TooMany : Option Value}
    {C_Thing : Addr}
    {if_Thing : Addr} {ioc_Thing idV_Thing ikV_Thing idc_Thing ipm_Thing icd_Thing ict_Thing : Value} {iod_Thing ian_Thing : Option Addr} {isl_Thing : Array (Option Value)}
    {idT_Thing : Addr} {idto_Thing : Option Addr} {idti_Thing : Array Value} {idtn_Thing : Nat} {idsl_Thing : Array (Option Value)}
    {ide0_Thing : Addr} {ideo0_Thing : Option Addr} {idei0_Thing : Array Value} {iden0_Thing : Nat} {ides0_Thing : Array (Option Value)}
    {ef_Thing : Addr} {eoc_Thing ekV_Thing edc_Thing epm_Thing ecd_Thing ect_Thing : Value} {eod_Thing ean_Thing : Option Addr} {esl_Thing : Array (Option Value)}
    {tf_Thing : Addr} {toc_Thing tkV_Thing tdc_Thing tpm_Thing tcd_Thing tct_Thing : Value} {tod_Thing tan_Thing : Option Addr} {tsl_Thing : Array (Option Value)}
    {s0p_Thing : Addr} {s0r_Thing : List Value}
    {s0f_Thing : Addr} {s0oc_Thing s0kV_Thing s0dc_Thing s0pm_Thing s0cd_Thing s0ct_Thing : Value} {s0od_Thing s0an_Thing : Option Addr} {s0sl_Thing : Array (Option Value)}
    {s1p_Thing : Addr} {s1r_Thing : List Value}
    {s1f_Thing : Addr} {s1oc_Thing s1kV_Thing s1dc_Thing s1pm_Thing s1cd_Thing s1ct_Thing : Value} {s1od_Thing s1an_Thing : Option Addr} {s1sl_Thing : Array (Option Value)}
    {s2p_Thing : Addr} {s2r_Thing : List Value}
    {s2f_Thing : Addr} {s2oc_Thing s2kV_Thing s2dc_Thing s2pm_Thing s2cd_Thing s2ct_Thing : Value} {s2od_Thing s2an_Thing : Option Addr} {s2sl_Thing : Array (Option Value)}
    {s3p_Thing : Addr} {s3r_Thing : List Value}
    {s3f_Thing : Addr} {s3oc_Thing s3kV_Thing s3dc_Thing s3pm_Thing s3cd_Thing s3ct_Thing : Value} {s3od_Thing s3an_Thing : Option Addr} {s3sl_Thing : Array (Option Value)}
    {s4p_Thing : Addr} {s4r_Thing : List Value}
    {s4f_Thing : Addr} {s4oc_Thing s4kV_Thing s4dc_Thing s4pm_Thing s4cd_Thing s4ct_Thing : Value} {s4od_Thing s4an_Thing : Option Addr} {s4sl_Thing : Array (Option Value)}
    {s5p_Thing : Addr} {s5r_Thing : List Value}
    {s5f_Thing : Addr} {s5oc_Thing s5kV_Thing s5dc_Thing s5pm_Thing s5cd_Thing s5ct_Thing : Value} {s5od_Thing s5an_Thing : Option Addr} {s5sl_Thing : Array (Option Value)}
    {s6p_Thing : Addr} {s6r_Thing : List Value}
    {s6f_Thing : Addr} {s6oc_Thing s6kV_Thing s6dc_Thing s6pm_Thing s6cd_Thing s6ct_Thing : Value} {s6od_Thing s6an_Thing : Option Addr} {s6sl_Thing : Array (Option Value)}
    (a0 : PySem.W.nsIn K mainGlobals "is_name" = some (some (.ref f0))) (l0 : K.lookup f0 = some ⟨oc0, od0, .func (PySem.W.fnOf "is_name" "is_name" (defArgs s_is_name) (defBody s_is_name) (defScope s_is_name) .none kV0 dc0 pm0 an0 cd0 ct0), sl0⟩) (c0 : PySem.W.codeIn K cd0 "is_name" = true) (k0 : PySem.W.keepIn K (.ref f0) = true)
    (a1 : PySem.W.nsIn K mainGlobals "need_names" = some (some (.ref f1))) (l1 : K.lookup f1 = some ⟨oc1, od1, .func (PySem.W.fnOf "need_names" "need_names" (defArgs s_need_names) (defBody s_need_names) (defScope s_need_names) .none kV1 dc1 pm1 an1 cd1 ct1), sl1⟩) (c1 : PySem.W.codeIn K cd1 "need_names" = true) (k1 : PySem.W.keepIn K (.ref f1) = true)
    (a2 : PySem.W.nsIn K mainGlobals "need_unlike" = some (some (.ref f2))) (l2 : K.lookup f2 = some ⟨oc2, od2, .func (PySem.W.fnOf "need_unlike" "need_unlike" (defArgs s_need_unlike) (defBody s_need_unlike) (defScope s_need_unlike) .none kV2 dc2 pm2 an2 cd2 ct2), sl2⟩) (c2 : PySem.W.codeIn K cd2 "need_unlike" = true) (k2 : PySem.W.keepIn K (.ref f2) = true)
    (a3 : PySem.W.nsIn K mainGlobals "_law_pool" = some (some (.ref f3))) (l3 : K.lookup f3 = some ⟨oc3, od3, .func (PySem.W.fnOf "_law_pool" "_law_pool" (defArgs s__law_pool) (defBody s__law_pool) (defScope s__law_pool) .none kV3 dc3 pm3 an3 cd3 ct3), sl3⟩) (c3 : PySem.W.codeIn K cd3 "_law_pool" = true) (k3 : PySem.W.keepIn K (.ref f3) = true)
    (a4 : PySem.W.nsIn K mainGlobals "_law_draw" = some (some (.ref f4))) (l4 : K.lookup f4 = some ⟨oc4, od4, .func (PySem.W.fnOf "_law_draw" "_law_draw" (defArgs s__law_draw) (defBody s__law_draw) (defScope s__law_draw) .none kV4 dc4 pm4 an4 cd4 ct4), sl4⟩) (c4 : PySem.W.codeIn K cd4 "_law_draw" = true) (k4 : PySem.W.keepIn K (.ref f4) = true)
    (a5 : PySem.W.nsIn K mainGlobals "_law_word" = some (some (.ref f5))) (l5 : K.lookup f5 = some ⟨oc5, od5, .func (PySem.W.fnOf "_law_word" "_law_word" (defArgs s__law_word) (defBody s__law_word) (defScope s__law_word) .none kV5 dc5 pm5 an5 cd5 ct5), sl5⟩) (c5 : PySem.W.codeIn K cd5 "_law_word" = true) (k5 : PySem.W.keepIn K (.ref f5) = true)
    (a6 : PySem.W.nsIn K mainGlobals "_law_thing" = some (some (.ref f6))) (l6 : K.lookup f6 = some ⟨oc6, od6, .func (PySem.W.fnOf "_law_thing" "_law_thing" (defArgs s__law_thing) (defBody s__law_thing) (defScope s__law_thing) .none kV6 dc6 pm6 an6 cd6 ct6), sl6⟩) (c6 : PySem.W.codeIn K cd6 "_law_thing" = true) (k6 : PySem.W.keepIn K (.ref f6) = true)
    (a7 : PySem.W.nsIn K mainGlobals "_law_same" = some (some (.ref f7))) (l7 : K.lookup f7 = some ⟨oc7, od7, .func (PySem.W.fnOf "_law_same" "_law_same" (defArgs s__law_same) (defBody s__law_same) (defScope s__law_same) .none kV7 dc7 pm7 an7 cd7 ct7), sl7⟩) (c7 : PySem.W.codeIn K cd7 "_law_same" = true) (k7 : PySem.W.keepIn K (.ref f7) = true)
    (a8 : PySem.W.nsIn K mainGlobals "_law_table" = some (some (.ref f8))) (l8 : K.lookup f8 = some ⟨oc8, od8, .func (PySem.W.fnOf "_law_table" "_law_table" (defArgs s__law_table) (defBody s__law_table) (defScope s__law_table) .none kV8 dc8 pm8 an8 cd8 ct8), sl8⟩) (c8 : PySem.W.codeIn K cd8 "_law_table" = true) (k8 : PySem.W.keepIn K (.ref f8) = true)
    (a9 : PySem.W.nsIn K mainGlobals "law" = some (some (.ref f9))) (l9 : K.lookup f9 = some ⟨oc9, od9, .func (PySem.W.fnOf "law" "law" (defArgs s_law) (defBody s_law) (defScope s_law) .none kV9 dc9 pm9 an9 cd9 ct9), sl9⟩) (c9 : PySem.W.codeIn K cd9 "law" = true) (k9 : PySem.W.keepIn K (.ref f9) = true)
    (z_len : PySem.W.nsIn K mainGlobals "len" = some none)
    (z_int : PySem.W.nsIn K mainGlobals "int" = some none)
    (z_list : PySem.W.nsIn K mainGlobals "list" = some none)
    (z_tuple : PySem.W.nsIn K mainGlobals "tuple" = some none)
    (z_isi : PySem.W.nsIn K mainGlobals "isinstance" = some none)
    (z_range : PySem.W.nsIn K mainGlobals "range" = some none)
    (z_all : PySem.W.nsIn K mainGlobals "all" = some none)
    (z_any : PySem.W.nsIn K mainGlobals "any" = some none)
    (z_str : PySem.W.nsIn K mainGlobals "str" = some none)
    (z_bool : PySem.W.nsIn K mainGlobals "bool" = some none)
    (z_enum : PySem.W.nsIn K mainGlobals "enumerate" = some none)
    (z_zip : PySem.W.nsIn K mainGlobals "zip" = some none)
    (z_sum : PySem.W.nsIn K mainGlobals "sum" = some none)
    (z_max : PySem.W.nsIn K mainGlobals "max" = some none)
    (z_min : PySem.W.nsIn K mainGlobals "min" = some none)
    (z_sorted : PySem.W.nsIn K mainGlobals "sorted" = some none)
    (z_set : PySem.W.nsIn K mainGlobals "set" = some none)
    (z_dict : PySem.W.nsIn K mainGlobals "dict" = some none)
    (sa_LETTERS : PySem.W.nsIn K mainGlobals "LETTERS" = some (some (.str abc st_LETTERS)))
    (ia_MOST_LETTERS : PySem.W.nsIn K mainGlobals "MOST_LETTERS" = some (some (.int 8 it_MOST_LETTERS)))
    (ia_MOST_KEYS : PySem.W.nsIn K mainGlobals "MOST_KEYS" = some (some (.int 4 it_MOST_KEYS)))
    (oq : PySem.W.nsIn K cStatics "thirdparty.any" = some none) (z_super : PySem.W.nsIn K mainGlobals "super" = some none) (gtc : PySem.W.specialIn K (.builtin "object.__class__") "__get__" = some (some (.builtin "getset_descriptor.__get__"))) (tkc : PySem.W.takesIn K (.builtin "object.__class__") = some true) (tsup : (l.prog.main.scope.names.lookup ("super" : Str)).isSome = false)
    (ecg_BadName : PySem.W.nsIn K mainGlobals "BadName" = some (some (.ref C_BadName)))
    (exL_BadName : K.lookup C_BadName = some (excClassObj nm_BadName q_BadName C_BadName N_BadName bs_BadName bm_BadName true sn_BadName sub_BadName ab_BadName col_BadName dd_BadName k0_BadName k1_BadName k2_BadName k3_BadName k5_BadName "ValueError.__new__"))
    (esa_BadName : PySem.W.findIn K (.ref C_BadName) "__setattr__" = some (some (.builtin "object.__setattr__")))
    (eex_BadName : PySem.W.subIn K (.ref C_BadName) (.type "BaseException") = some true)
    (ety_BadName : PySem.W.typeIn K (.ref C_BadName) = some (.type "type"))
    (ekC_BadName : PySem.W.keepIn K (.ref C_BadName) = true)
    (ei1_BadName : PySem.W.findIn K (.ref C_BadName) "__init__" = some (some (.ref fI_BadName)))
    (ei2_BadName : PySem.W.typeIn K (.ref fI_BadName) = some (.type "function"))
    (emr_BadName : PySem.W.mroIn K C_BadName (.ref C_BadName) = some true)
    (esv_BadName : PySem.W.subIn K (.ref C_BadName) (.type "ValueError") = some true)
    (esu_BadName : PySem.W.ks_superIn K C_BadName C_BadName "__init__" = some (some (.builtin "ValueError.__init__")))
    (elk_BadName : K.lookup fI_BadName = some ⟨oc_BadName, od_BadName, .func (PySem.W.ksFn "__init__" "BadName.__init__" (defArgs s_BadName___init__) (defBody s_BadName___init__) (defScope s_BadName___init__) .none kV_BadName dc_BadName pm_BadName an_BadName (.ref cda_BadName) ct_BadName cc_BadName), osl_BadName⟩)
    (ehc_BadName : PySem.W.codeIn K (.ref cda_BadName) "BadName.__init__" = true)
    (eno_BadName : PySem.W.findIn K (.ref C_BadName) "name" = some none)
    (eco_BadName : K.lookup cda_BadName = some ⟨ccl_BadName, cdd_BadName, .fields vs_BadName, ccs_BadName⟩)
    (ece_BadName : K.lookup cc_BadName = some ⟨cl_BadName, cld_BadName, .cell (some (.ref C_BadName)), csl_BadName⟩)
    (ega_BadName : PySem.W.findIn K (.ref C_BadName) "__getattribute__" = some (some (.builtin "BaseException.__getattribute__")))
    (egg_BadName : PySem.W.findIn K (.ref C_BadName) "__getattr__" = some none)
    (ehd_BadName : PySem.W.hasDictIn K C_BadName = true)
    (ese_BadName : PySem.W.subIn K (.ref C_BadName) (.ref C_BadName) = some true)
    (ebm_BadName : PySem.HandSPX.refsVE bm_BadName = true)
    (evs_BadName : vs_BadName[2]? = some (.str file_BadName tf_BadName))
    (efl_BadName : ((l.prog.main.file : Str) == file_BadName) = true)
    (ecg_Twice : PySem.W.nsIn K mainGlobals "Twice" = some (some (.ref C_Twice)))
    (exL_Twice : K.lookup C_Twice = some (excClassObj nm_Twice q_Twice C_Twice N_Twice bs_Twice bm_Twice true sn_Twice sub_Twice ab_Twice col_Twice dd_Twice k0_Twice k1_Twice k2_Twice k3_Twice k5_Twice "ValueError.__new__"))
    (esa_Twice : PySem.W.findIn K (.ref C_Twice) "__setattr__" = some (some (.builtin "object.__setattr__")))
    (eex_Twice : PySem.W.subIn K (.ref C_Twice) (.type "BaseException") = some true)
    (ety_Twice : PySem.W.typeIn K (.ref C_Twice) = some (.type "type"))
    (ekC_Twice : PySem.W.keepIn K (.ref C_Twice) = true)
    (ei1_Twice : PySem.W.findIn K (.ref C_Twice) "__init__" = some (some (.ref fI_Twice)))
    (ei2_Twice : PySem.W.typeIn K (.ref fI_Twice) = some (.type "function"))
    (emr_Twice : PySem.W.mroIn K C_Twice (.ref C_Twice) = some true)
    (esv_Twice : PySem.W.subIn K (.ref C_Twice) (.type "ValueError") = some true)
    (esu_Twice : PySem.W.ks_superIn K C_Twice C_Twice "__init__" = some (some (.builtin "ValueError.__init__")))
    (elk_Twice : K.lookup fI_Twice = some ⟨oc_Twice, od_Twice, .func (PySem.W.ksFn "__init__" "Twice.__init__" (defArgs s_Twice___init__) (defBody s_Twice___init__) (defScope s_Twice___init__) .none kV_Twice dc_Twice pm_Twice an_Twice (.ref cda_Twice) ct_Twice cc_Twice), osl_Twice⟩)
    (ehc_Twice : PySem.W.codeIn K (.ref cda_Twice) "Twice.__init__" = true)
    (eno_Twice : PySem.W.findIn K (.ref C_Twice) "name" = some none)
    (eco_Twice : K.lookup cda_Twice = some ⟨ccl_Twice, cdd_Twice, .fields vs_Twice, ccs_Twice⟩)
    (ece_Twice : K.lookup cc_Twice = some ⟨cl_Twice, cld_Twice, .cell (some (.ref C_Twice)), csl_Twice⟩)
    (ega_Twice : PySem.W.findIn K (.ref C_Twice) "__getattribute__" = some (some (.builtin "BaseException.__getattribute__")))
    (egg_Twice : PySem.W.findIn K (.ref C_Twice) "__getattr__" = some none)
    (ehd_Twice : PySem.W.hasDictIn K C_Twice = true)
    (ese_Twice : PySem.W.subIn K (.ref C_Twice) (.ref C_Twice) = some true)
    (ebm_Twice : PySem.HandSPX.refsVE bm_Twice = true)
    (evs_Twice : vs_Twice[2]? = some (.str file_Twice tf_Twice))
    (efl_Twice : ((l.prog.main.file : Str) == file_Twice) = true)
    (ecg_TooMany : PySem.W.nsIn K mainGlobals "TooMany" = some (some (.ref C_TooMany)))
    (exL_TooMany : K.lookup C_TooMany = some (excClassObj nm_TooMany q_TooMany C_TooMany N_TooMany bs_TooMany bm_TooMany true sn_TooMany sub_TooMany ab_TooMany col_TooMany dd_TooMany k0_TooMany k1_TooMany k2_TooMany k3_TooMany k5_TooMany "ValueError.__new__"))
    (esa_TooMany : PySem.W.findIn K (.ref C_TooMany) "__setattr__" = some (some (.builtin "object.__setattr__")))
    (eex_TooMany : PySem.W.subIn K (.ref C_TooMany) (.type "BaseException") = some true)
    (ety_TooMany : PySem.W.typeIn K (.ref C_TooMany) = some (.type "type"))
    (ekC_TooMany : PySem.W.keepIn K (.ref C_TooMany) = true)
    (ei1_TooMany : PySem.W.findIn K (.ref C_TooMany) "__init__" = some (some (.ref fI_TooMany)))
    (ei2_TooMany : PySem.W.typeIn K (.ref fI_TooMany) = some (.type "function"))
    (emr_TooMany : PySem.W.mroIn K C_TooMany (.ref C_TooMany) = some true)
    (esv_TooMany : PySem.W.subIn K (.ref C_TooMany) (.type "ValueError") = some true)
    (esu_TooMany : PySem.W.ks_superIn K C_TooMany C_TooMany "__init__" = some (some (.builtin "ValueError.__init__")))
    (elk_TooMany : K.lookup fI_TooMany = some ⟨oc_TooMany, od_TooMany, .func (PySem.W.ksFn "__init__" "TooMany.__init__" (defArgs s_TooMany___init__) (defBody s_TooMany___init__) (defScope s_TooMany___init__) .none kV_TooMany dc_TooMany pm_TooMany an_TooMany (.ref cda_TooMany) ct_TooMany cc_TooMany), osl_TooMany⟩)
    (ehc_TooMany : PySem.W.codeIn K (.ref cda_TooMany) "TooMany.__init__" = true)
    (eno_TooMany : PySem.W.findIn K (.ref C_TooMany) "limit" = some none)
    (eco_TooMany : K.lookup cda_TooMany = some ⟨ccl_TooMany, cdd_TooMany, .fields vs_TooMany, ccs_TooMany⟩)
    (ece_TooMany : K.lookup cc_TooMany = some ⟨cl_TooMany, cld_TooMany, .cell (some (.ref C_TooMany)), csl_TooMany⟩)
    (ega_TooMany : PySem.W.findIn K (.ref C_TooMany) "__getattribute__" = some (some (.builtin "BaseException.__getattribute__")))
    (egg_TooMany : PySem.W.findIn K (.ref C_TooMany) "__getattr__" = some none)
    (ehd_TooMany : PySem.W.hasDictIn K C_TooMany = true)
    (ese_TooMany : PySem.W.subIn K (.ref C_TooMany) (.ref C_TooMany) = some true)
    (ebm_TooMany : PySem.HandSPX.refsVE bm_TooMany = true)
    (evs_TooMany : vs_TooMany[2]? = some (.str file_TooMany tf_TooMany))
    (efl_TooMany : ((l.prog.main.file : Str) == file_TooMany) = true)
    (ccg_Thing : PySem.W.nsIn K mainGlobals "Thing" = some (some (.ref C_Thing)))
    (cpg_Thing : PySem.W.plainGet K C_Thing Str.empty = true)
    (chd_Thing : PySem.W.hasDictIn K C_Thing = true)
    (cpo_Thing : PySem.W.plainOver K C_Thing = true)
    (csa_Thing : PySem.W.findIn K (.ref C_Thing) "__setattr__" = some (some (.builtin "object.__setattr__")))
    (ckl_Thing : PySem.W.findIn K (.ref C_Thing) "__class__" = some (some (.builtin "object.__class__")))
    (cmr_Thing : PySem.W.mroIn K C_Thing (.type "object") = some true)
    (cic_Thing : PySem.W.isClsIn K C_Thing = true)
    (cty_Thing : PySem.W.typeIn K (.ref C_Thing) = some (.type "type"))
    (csstr_Thing : PySem.W.subIn K (.ref C_Thing) (.type "str") = some false)
    (csint_Thing : PySem.W.subIn K (.ref C_Thing) (.type "int") = some false)
    (csbool_Thing : PySem.W.subIn K (.ref C_Thing) (.type "bool") = some false)
    (cslist_Thing : PySem.W.subIn K (.ref C_Thing) (.type "list") = some false)
    (cstuple_Thing : PySem.W.subIn K (.ref C_Thing) (.type "tuple") = some false)
    (ctNoneType_Thing : PySem.W.subIn K (.type "NoneType") (.ref C_Thing) = some false)
    (ctbool_Thing : PySem.W.subIn K (.type "bool") (.ref C_Thing) = some false)
    (ctint_Thing : PySem.W.subIn K (.type "int") (.ref C_Thing) = some false)
    (ctstr_Thing : PySem.W.subIn K (.type "str") (.ref C_Thing) = some false)
    (ctlist_Thing : PySem.W.subIn K (.type "list") (.ref C_Thing) = some false)
    (cttuple_Thing : PySem.W.subIn K (.type "tuple") (.ref C_Thing) = some false)
    (ctdict_Thing : PySem.W.subIn K (.type "dict") (.ref C_Thing) = some false)
    (cn0_Thing : PySem.W.findIn K (.ref C_Thing) "kind" = some none)
    (cn1_Thing : PySem.W.findIn K (.ref C_Thing) "name" = some none)
    (cn2_Thing : PySem.W.findIn K (.ref C_Thing) "parts" = some none)
    (cmk_Thing : PySem.W.makesIn K C_Thing = true)
    (cii_Thing : PySem.W.findIn K (.ref C_Thing) "__init__" = some (some (.ref if_Thing)))
    (cifn_Thing : PySem.W.isFn K (.ref if_Thing) = true)
    (cikc_Thing : PySem.W.keepIn K (.ref C_Thing) = true)
    (cilk_Thing : K.lookup if_Thing = some ⟨ioc_Thing, iod_Thing, .func (PySem.W.fnOf "__init__" "Thing.__init__" (defArgs s_Thing___init__) (defBody s_Thing___init__) (defScope s_Thing___init__) idV_Thing ikV_Thing idc_Thing ipm_Thing ian_Thing icd_Thing ict_Thing), isl_Thing⟩)
    (cici_Thing : PySem.W.codeIn K icd_Thing "Thing.__init__" = true)
    (cikp_Thing : PySem.W.keepIn K (.ref if_Thing) = true)
    (cidv_Thing : idV_Thing = .ref idT_Thing)
    (cidl_Thing : K.lookup idT_Thing = some ⟨.type "tuple", idto_Thing, .seq idti_Thing idtn_Thing, idsl_Thing⟩)
    (cidi_Thing : idti_Thing.toList = [.ref ide0_Thing])
    (cidel0_Thing : K.lookup ide0_Thing = some ⟨.type "tuple", ideo0_Thing, .seq idei0_Thing iden0_Thing, ides0_Thing⟩)
    (cidev0_Thing : strVs idei0_Thing.toList = some [])
    (cea_Thing : PySem.W.findIn K (.ref C_Thing) "__eq__" = some (some (.ref ef_Thing)))
    (cefn_Thing : PySem.W.isFn K (.ref ef_Thing) = true)
    (cene_Thing : PySem.W.findIn K (.ref C_Thing) "__ne__" = some (some (.builtin "object.__ne__")))
    (celk_Thing : K.lookup ef_Thing = some ⟨eoc_Thing, eod_Thing, .func (PySem.W.fnOf "__eq__" "Thing.__eq__" (defArgs s_Thing___eq__) (defBody s_Thing___eq__) (defScope s_Thing___eq__) .none ekV_Thing edc_Thing epm_Thing ean_Thing ecd_Thing ect_Thing), esl_Thing⟩)
    (ceci_Thing : PySem.W.codeIn K ecd_Thing "Thing.__eq__" = true)
    (cekp_Thing : PySem.W.keepIn K (.ref ef_Thing) = true)
    (cta_Thing : PySem.W.findIn K (.ref C_Thing) "__str__" = some (some (.ref tf_Thing)))
    (ctfn_Thing : PySem.W.isFn K (.ref tf_Thing) = true)
    (ctlk_Thing : K.lookup tf_Thing = some ⟨toc_Thing, tod_Thing, .func (PySem.W.fnOf "__str__" "Thing.__str__" (defArgs s_Thing___str__) (defBody s_Thing___str__) (defScope s_Thing___str__) .none tkV_Thing tdc_Thing tpm_Thing tan_Thing tcd_Thing tct_Thing), tsl_Thing⟩)
    (ctci_Thing : PySem.W.codeIn K tcd_Thing "Thing.__str__" = true)
    (ctkp_Thing : PySem.W.keepIn K (.ref tf_Thing) = true)
    (crd_Thing : PySem.W.readsIn K C_Thing (.type "type") = true)
    (cga_Thing : PySem.W.specialIn K (.ref C_Thing) "__getattribute__" = some (some (.builtin "type.__getattribute__")))
    (cs0a_Thing : PySem.W.findCls K (.ref C_Thing) (.type "type") "feed" = some (.get (.builtin "staticmethod.__get__") (.ref s0p_Thing) .none (.ref C_Thing)))
    (cs0c_Thing : PySem.W.recIn K s0p_Thing "staticmethod" = some (.ref s0f_Thing :: s0r_Thing))
    (cs0lk_Thing : K.lookup s0f_Thing = some ⟨s0oc_Thing, s0od_Thing, .func (PySem.W.fnOf "feed" "Thing.feed" (defArgs s_Thing_feed) (defBody s_Thing_feed) (defScope s_Thing_feed) .none s0kV_Thing s0dc_Thing s0pm_Thing s0an_Thing s0cd_Thing s0ct_Thing), s0sl_Thing⟩)
    (cs0ci_Thing : PySem.W.codeIn K s0cd_Thing "Thing.feed" = true)
    (cs0kp_Thing : PySem.W.keepIn K (.ref s0f_Thing) = true)
    (cs1a_Thing : PySem.W.findCls K (.ref C_Thing) (.type "type") "dice" = some (.get (.builtin "staticmethod.__get__") (.ref s1p_Thing) .none (.ref C_Thing)))
    (cs1c_Thing : PySem.W.recIn K s1p_Thing "staticmethod" = some (.ref s1f_Thing :: s1r_Thing))
    (cs1lk_Thing : K.lookup s1f_Thing = some ⟨s1oc_Thing, s1od_Thing, .func (PySem.W.fnOf "dice" "Thing.dice" (defArgs s_Thing_dice) (defBody s_Thing_dice) (defScope s_Thing_dice) .none s1kV_Thing s1dc_Thing s1pm_Thing s1an_Thing s1cd_Thing s1ct_Thing), s1sl_Thing⟩)
    (cs1ci_Thing : PySem.W.codeIn K s1cd_Thing "Thing.dice" = true)
    (cs1kp_Thing : PySem.W.keepIn K (.ref s1f_Thing) = true)
    (cs2a_Thing : PySem.W.findCls K (.ref C_Thing) (.type "type") "source" = some (.get (.builtin "staticmethod.__get__") (.ref s2p_Thing) .none (.ref C_Thing)))
    (cs2c_Thing : PySem.W.recIn K s2p_Thing "staticmethod" = some (.ref s2f_Thing :: s2r_Thing))
    (cs2lk_Thing : K.lookup s2f_Thing = some ⟨s2oc_Thing, s2od_Thing, .func (PySem.W.fnOf "source" "Thing.source" (defArgs s_Thing_source) (defBody s_Thing_source) (defScope s_Thing_source) .none s2kV_Thing s2dc_Thing s2pm_Thing s2an_Thing s2cd_Thing s2ct_Thing), s2sl_Thing⟩)
    (cs2ci_Thing : PySem.W.codeIn K s2cd_Thing "Thing.source" = true)
    (cs2kp_Thing : PySem.W.keepIn K (.ref s2f_Thing) = true)
    (cs3a_Thing : PySem.W.findCls K (.ref C_Thing) (.type "type") "flag" = some (.get (.builtin "staticmethod.__get__") (.ref s3p_Thing) .none (.ref C_Thing)))
    (cs3c_Thing : PySem.W.recIn K s3p_Thing "staticmethod" = some (.ref s3f_Thing :: s3r_Thing))
    (cs3lk_Thing : K.lookup s3f_Thing = some ⟨s3oc_Thing, s3od_Thing, .func (PySem.W.fnOf "flag" "Thing.flag" (defArgs s_Thing_flag) (defBody s_Thing_flag) (defScope s_Thing_flag) .none s3kV_Thing s3dc_Thing s3pm_Thing s3an_Thing s3cd_Thing s3ct_Thing), s3sl_Thing⟩)
    (cs3ci_Thing : PySem.W.codeIn K s3cd_Thing "Thing.flag" = true)
    (cs3kp_Thing : PySem.W.keepIn K (.ref s3f_Thing) = true)
    (cs4a_Thing : PySem.W.findCls K (.ref C_Thing) (.type "type") "slot" = some (.get (.builtin "staticmethod.__get__") (.ref s4p_Thing) .none (.ref C_Thing)))
    (cs4c_Thing : PySem.W.recIn K s4p_Thing "staticmethod" = some (.ref s4f_Thing :: s4r_Thing))
    (cs4lk_Thing : K.lookup s4f_Thing = some ⟨s4oc_Thing, s4od_Thing, .func (PySem.W.fnOf "slot" "Thing.slot" (defArgs s_Thing_slot) (defBody s_Thing_slot) (defScope s_Thing_slot) .none s4kV_Thing s4dc_Thing s4pm_Thing s4an_Thing s4cd_Thing s4ct_Thing), s4sl_Thing⟩)
    (cs4ci_Thing : PySem.W.codeIn K s4cd_Thing "Thing.slot" = true)
    (cs4kp_Thing : PySem.W.keepIn K (.ref s4f_Thing) = true)
    (cs5a_Thing : PySem.W.findCls K (.ref C_Thing) (.type "type") "field" = some (.get (.builtin "staticmethod.__get__") (.ref s5p_Thing) .none (.ref C_Thing)))
    (cs5c_Thing : PySem.W.recIn K s5p_Thing "staticmethod" = some (.ref s5f_Thing :: s5r_Thing))
    (cs5lk_Thing : K.lookup s5f_Thing = some ⟨s5oc_Thing, s5od_Thing, .func (PySem.W.fnOf "field" "Thing.field" (defArgs s_Thing_field) (defBody s_Thing_field) (defScope s_Thing_field) .none s5kV_Thing s5dc_Thing s5pm_Thing s5an_Thing s5cd_Thing s5ct_Thing), s5sl_Thing⟩)
    (cs5ci_Thing : PySem.W.codeIn K s5cd_Thing "Thing.field" = true)
    (cs5kp_Thing : PySem.W.keepIn K (.ref s5f_Thing) = true)
    (cs6a_Thing : PySem.W.findCls K (.ref C_Thing) (.type "type") "table" = some (.get (.builtin "staticmethod.__get__") (.ref s6p_Thing) .none (.ref C_Thing)))
    (cs6c_Thing : PySem.W.recIn K s6p_Thing "staticmethod" = some (.ref s6f_Thing :: s6r_Thing))
    (cs6lk_Thing : K.lookup s6f_Thing = some ⟨s6oc_Thing, s6od_Thing, .func (PySem.W.fnOf "table" "Thing.table" (defArgs s_Thing_table) (defBody s_Thing_table) (defScope s_Thing_table) .none s6kV_Thing s6dc_Thing s6pm_Thing s6an_Thing s6cd_Thing s6ct_Thing), s6sl_Thing⟩)
    (cs6ci_Thing : PySem.W.codeIn K s6cd_Thing "Thing.table" = true)
    (cs6kp_Thing : PySem.W.keepIn K (.ref s6f_Thing) = true) :
    ∃ fd : FuncData, (∀ (s : Shared) (v : Value), BindsTo s fd ⟨[v], []⟩ [("_law_script", v)]) ∧ ∀ base : Heap, K.In base → base.Ns mainGlobals mg → FnOk l.prog w K mg base CX0 11 fa fd ["_law_script"] (spLaw K) := by
  have D_is_name : Dfn K mg "is_name" s_is_name ["value"] := dfn_mk X G a0 l0 c0 k0 fun _ _ _ _ _ _ us hl => match us, hl with | [_], _ => rfl
  have D_need_names : Dfn K mg "need_names" s_need_names ["values"] := dfn_mk X G a1 l1 c1 k1 fun _ _ _ _ _ _ us hl => match us, hl with | [_], _ => rfl
  have D_need_unlike : Dfn K mg "need_unlike" s_need_unlike ["names"] := dfn_mk X G a2 l2 c2 k2 fun _ _ _ _ _ _ us hl => match us, hl with | [_], _ => rfl
  have D__law_pool : Dfn K mg "_law_pool" s__law_pool ["_law_script"] := dfn_mk X G a3 l3 c3 k3 fun _ _ _ _ _ _ us hl => match us, hl with | [_], _ => rfl
  have D__law_draw : Dfn K mg "_law_draw" s__law_draw ["_law_pool_here", "_law_many"] := dfn_mk X G a4 l4 c4 k4 fun _ _ _ _ _ _ us hl => match us, hl with | [_, _], _ => rfl
  have D__law_word : Dfn K mg "_law_word" s__law_word ["_law_pool_here"] := dfn_mk X G a5 l5 c5 k5 fun _ _ _ _ _ _ us hl => match us, hl with | [_], _ => rfl
  have D__law_thing : Dfn K mg "_law_thing" s__law_thing ["_law_thing_here"] := dfn_mk X G a6 l6 c6 k6 fun _ _ _ _ _ _ us hl => match us, hl with | [_], _ => rfl
  have D__law_same : Dfn K mg "_law_same" s__law_same ["_law_actual", "_law_due"] := dfn_mk X G a7 l7 c7 k7 fun _ _ _ _ _ _ us hl => match us, hl with | [_, _], _ => rfl
  have D__law_table : Dfn K mg "_law_table" s__law_table ["_law_name", "_law_keys"] := dfn_mk X G a8 l8 c8 k8 fun _ _ _ _ _ _ us hl => match us, hl with | [_, _], _ => rfl
  have B : Bl mg := ⟨PySem.W.mg_none_of X G z_len, PySem.W.mg_none_of X G z_int, PySem.W.mg_none_of X G z_list, PySem.W.mg_none_of X G z_tuple, PySem.W.mg_none_of X G z_isi, PySem.W.mg_none_of X G z_range, PySem.W.mg_none_of X G z_all, PySem.W.mg_none_of X G z_any, PySem.W.mg_none_of X G z_str, PySem.W.mg_none_of X G z_bool, PySem.W.mg_none_of X G z_enum, PySem.W.mg_none_of X G z_zip, PySem.W.mg_none_of X G z_sum, PySem.W.mg_none_of X G z_max, PySem.W.mg_none_of X G z_min, PySem.W.mg_none_of X G z_sorted, PySem.W.mg_none_of X G z_set, PySem.W.mg_none_of X G z_dict⟩
  have G_LETTERS : GS mg "LETTERS" abc := ⟨_, PySem.W.mg_of X G sa_LETTERS⟩
  have G_MOST_LETTERS : GI mg "MOST_LETTERS" 8 := ⟨_, PySem.W.mg_of X G ia_MOST_LETTERS⟩
  have G_MOST_KEYS : GI mg "MOST_KEYS" 4 := ⟨_, PySem.W.mg_of X G ia_MOST_KEYS⟩
  have X_BadName : ∀ base, ErrX l.prog w K mg base "BadName" C_BadName "name" := fun base => errX_mk (st := s_BadName___init__) X G ecg_BadName exL_BadName esa_BadName eex_BadName ety_BadName ekC_BadName ei1_BadName ei2_BadName emr_BadName esv_BadName esu_BadName oq z_super elk_BadName ehc_BadName eno_BadName eco_BadName ece_BadName ega_BadName egg_BadName ehd_BadName ese_BadName ebm_BadName evs_BadName efl_BadName tsup rfl ⟨_, rfl, rfl⟩ ⟨rfl, rfl, rfl, rfl⟩ (by decide +kernel) ⟨rfl, rfl, rfl⟩ (by decide) ⟨by decide, by decide⟩ (fun L => rfl) (fun L => rfl) (fun L => ⟨_, rfl⟩) (fun L => rfl) (fun us hl => match us, hl with | [_, _], _ => rfl)
  have X_Twice : ∀ base, ErrX l.prog w K mg base "Twice" C_Twice "name" := fun base => errX_mk (st := s_Twice___init__) X G ecg_Twice exL_Twice esa_Twice eex_Twice ety_Twice ekC_Twice ei1_Twice ei2_Twice emr_Twice esv_Twice esu_Twice oq z_super elk_Twice ehc_Twice eno_Twice eco_Twice ece_Twice ega_Twice egg_Twice ehd_Twice ese_Twice ebm_Twice evs_Twice efl_Twice tsup rfl ⟨_, rfl, rfl⟩ ⟨rfl, rfl, rfl, rfl⟩ (by decide +kernel) ⟨rfl, rfl, rfl⟩ (by decide) ⟨by decide, by decide⟩ (fun L => rfl) (fun L => rfl) (fun L => ⟨_, rfl⟩) (fun L => rfl) (fun us hl => match us, hl with | [_, _], _ => rfl)
  have X_TooMany : ∀ base, ErrX l.prog w K mg base "TooMany" C_TooMany "limit" := fun base => errX_mk (st := s_TooMany___init__) X G ecg_TooMany exL_TooMany esa_TooMany eex_TooMany ety_TooMany ekC_TooMany ei1_TooMany ei2_TooMany emr_TooMany esv_TooMany esu_TooMany oq z_super elk_TooMany ehc_TooMany eno_TooMany eco_TooMany ece_TooMany ega_TooMany egg_TooMany ehd_TooMany ese_TooMany ebm_TooMany evs_TooMany efl_TooMany tsup rfl ⟨_, rfl, rfl⟩ ⟨rfl, rfl, rfl, rfl⟩ (by decide +kernel) ⟨rfl, rfl, rfl⟩ (by decide) ⟨by decide, by decide⟩ (fun L => rfl) (fun L => rfl) (fun L => ⟨_, rfl⟩) (fun L => rfl) (fun us hl => match us, hl with | [_, _], _ => rfl)
  have K_Thing : KCls K mg "Thing" C_Thing ["kind", "name", "parts"] := ⟨PySem.W.mg_of X G ccg_Thing, ⟨⟨cpg_Thing, chd_Thing, cpo_Thing, csa_Thing⟩, ckl_Thing, gtc, tkc, cmr_Thing, ((fm_cons csstr_Thing (fm_cons csint_Thing (fm_cons csbool_Thing (fm_cons cslist_Thing (fm_cons cstuple_Thing fm_nil))))))⟩, ((fm_cons cn0_Thing (fm_cons cn1_Thing (fm_cons cn2_Thing fm_nil)))), ⟨cic_Thing, cty_Thing, ((fm_cons ctNoneType_Thing (fm_cons ctbool_Thing (fm_cons ctint_Thing (fm_cons ctstr_Thing (fm_cons ctlist_Thing (fm_cons cttuple_Thing (fm_cons ctdict_Thing fm_nil))))))))⟩⟩
  subst cidv_Thing
  have D_Thing___init__ : DfN K C_Thing "Thing.__init__" s_Thing___init__ ["self", "kind", "name", "parts"] [.tup []] := ⟨_, _, ⟨⟨_, _, _, _, _, _, _, _, _, _, rfl, cilk_Thing, cici_Thing⟩⟩, ⟨cmk_Thing, cii_Thing, cifn_Thing, cikc_Thing⟩, fun j hj => match j, hj with | 0, _ => by exact dflt_one (dvs := [.ref ide0_Thing]) cidl_Thing cidi_Thing (.cons rfl (.nil)) (fun M H => .cons (isK_tup cidel0_Thing cidev0_Thing (by decide +kernel) (by decide) _ _) (.nil)) 0 (fun us its h1 h2 => match us, its, h1, h2 with | [_, _, _], [_], _, _ => ⟨_, rfl, rfl⟩) | 1, _ => by exact dflt_one (dvs := [.ref ide0_Thing]) cidl_Thing cidi_Thing (.cons rfl (.nil)) (fun M H => .cons (isK_tup cidel0_Thing cidev0_Thing (by decide +kernel) (by decide) _ _) (.nil)) 1 (fun us its h1 h2 => match us, its, h1, h2 with | [_, _, _, _], [_], _, _ => ⟨_, rfl, rfl⟩)⟩
  have D_Thing___eq__ : DfE K C_Thing "Thing.__eq__" s_Thing___eq__ ["self", "other"] := ⟨_, _, ⟨⟨_, _, _, _, _, _, _, _, _, _, rfl, celk_Thing, ceci_Thing⟩⟩, ⟨cea_Thing, cefn_Thing, K_Thing.isk.nf, cene_Thing⟩, (.all fun us hl => match us, hl with | [_, _], _ => rfl)⟩
  have D_Thing___str__ : DfT K C_Thing "Thing.__str__" s_Thing___str__ ["self"] := ⟨_, _, ⟨⟨_, _, _, _, _, _, _, _, _, _, rfl, ctlk_Thing, ctci_Thing⟩⟩, ⟨cta_Thing, ctfn_Thing⟩, (.all fun us hl => match us, hl with | [_], _ => rfl)⟩
  have D_Thing_feed : DfS K C_Thing "feed" "Thing.feed" s_Thing_feed ["name"] := ⟨_, _, _, _, ⟨⟨_, _, _, _, _, _, _, _, _, _, rfl, cs0lk_Thing, cs0ci_Thing⟩⟩, ⟨⟨crd_Thing, cga_Thing⟩, cs0a_Thing, ⟨_, cs0c_Thing⟩, cs0kp_Thing⟩, (.all fun us hl => match us, hl with | [_], _ => rfl)⟩
  have D_Thing_dice : DfS K C_Thing "dice" "Thing.dice" s_Thing_dice ["name"] := ⟨_, _, _, _, ⟨⟨_, _, _, _, _, _, _, _, _, _, rfl, cs1lk_Thing, cs1ci_Thing⟩⟩, ⟨⟨crd_Thing, cga_Thing⟩, cs1a_Thing, ⟨_, cs1c_Thing⟩, cs1kp_Thing⟩, (.all fun us hl => match us, hl with | [_], _ => rfl)⟩
  have D_Thing_source : DfS K C_Thing "source" "Thing.source" s_Thing_source ["name"] := ⟨_, _, _, _, ⟨⟨_, _, _, _, _, _, _, _, _, _, rfl, cs2lk_Thing, cs2ci_Thing⟩⟩, ⟨⟨crd_Thing, cga_Thing⟩, cs2a_Thing, ⟨_, cs2c_Thing⟩, cs2kp_Thing⟩, (.all fun us hl => match us, hl with | [_], _ => rfl)⟩
  have D_Thing_flag : DfS K C_Thing "flag" "Thing.flag" s_Thing_flag ["name"] := ⟨_, _, _, _, ⟨⟨_, _, _, _, _, _, _, _, _, _, rfl, cs3lk_Thing, cs3ci_Thing⟩⟩, ⟨⟨crd_Thing, cga_Thing⟩, cs3a_Thing, ⟨_, cs3c_Thing⟩, cs3kp_Thing⟩, (.all fun us hl => match us, hl with | [_], _ => rfl)⟩
  have D_Thing_slot : DfS K C_Thing "slot" "Thing.slot" s_Thing_slot ["name"] := ⟨_, _, _, _, ⟨⟨_, _, _, _, _, _, _, _, _, _, rfl, cs4lk_Thing, cs4ci_Thing⟩⟩, ⟨⟨crd_Thing, cga_Thing⟩, cs4a_Thing, ⟨_, cs4c_Thing⟩, cs4kp_Thing⟩, (.all fun us hl => match us, hl with | [_], _ => rfl)⟩
  have D_Thing_field : DfS K C_Thing "field" "Thing.field" s_Thing_field ["name", "over"] := ⟨_, _, _, _, ⟨⟨_, _, _, _, _, _, _, _, _, _, rfl, cs5lk_Thing, cs5ci_Thing⟩⟩, ⟨⟨crd_Thing, cga_Thing⟩, cs5a_Thing, ⟨_, cs5c_Thing⟩, cs5kp_Thing⟩, (.all fun us hl => match us, hl with | [_, _], _ => rfl)⟩
  have D_Thing_table : DfSS K C_Thing "table" "Thing.table" s_Thing_table ["name"] "keys" := ⟨_, _, _, _, ⟨⟨_, _, _, _, _, _, _, _, _, _, rfl, cs6lk_Thing, cs6ci_Thing⟩⟩, ⟨⟨crd_Thing, cga_Thing⟩, cs6a_Thing, ⟨_, cs6c_Thing⟩, cs6kp_Thing⟩, fun us rest hl => match us, hl, rest with | [_], _, [] => rfl | [_], _, _ :: _ => rfl⟩
  refine law_end (st := s_law) X G hfa a9 l9 c9 k9 (fun _ => rfl) (fun base fd F => ?_)
  have c_draw := c__law_draw (P := l.prog) (w := w) (base := base) B D__law_draw
  obtain ⟨fp, fdp, GP, gP, kP, bP⟩ := c__law_pool (P := l.prog) (w := w) (base := base) B D__law_pool
  have c_word := c__law_word B c_draw D__law_word
  have c_isname := c_is_name (P := l.prog) (w := w) (base := base) B G_LETTERS G_MOST_LETTERS D_is_name
  have xB := X_BadName base
  have x2 := X_Twice base
  have xM := X_TooMany base
  have c_need := c_need_names xB c_isname D_need_names
  have n_thing := c_Thing_init (P := l.prog) (w := w) (mg := mg) (base := base) K_Thing D_Thing___init__
  have e_thing := c_Thing_eq (P := l.prog) (w := w) (base := base) B K_Thing D_Thing___eq__
  have t_thing := c_Thing_str (P := l.prog) (w := w) (base := base) K_Thing D_Thing___str__
  have s_table := c_Thing_table B G_MOST_KEYS xM K_Thing c_need (c_need_unlike x2 D_need_unlike) n_thing D_Thing_table
  have s_field := c_Thing_field K_Thing c_need n_thing D_Thing_field
  have c_thing := c__law_thing B K_Thing (c_Thing_feed K_Thing c_need n_thing D_Thing_feed) (c_Thing_dice K_Thing c_need n_thing D_Thing_dice) (c_Thing_source K_Thing c_need n_thing D_Thing_source) (c_Thing_flag K_Thing c_need n_thing D_Thing_flag) (c_Thing_slot K_Thing c_need n_thing D_Thing_slot) s_field s_table D__law_thing
  have c_table := c__law_table B K_Thing s_table D__law_table
  exact ok_law F GP gP kP bP c_draw c_word (c__law_same B D__law_same 9) c_thing c_table e_thing t_thing B
theorem walk {l : PySem.W.OpenLaw} {q : Program} {loose : List Str} {XP : (Str → Option Value) → Heap → Prop} {YP : World → Heap → Prop} {d : DefRec} {K : Params → PySem.W.Frag} (hn : l.most = some 63) (hdf : d.params.defaults = [])
    (hY : ∀ (w : World) (h : Heap), YP w h → (K w.params).In h)
    (F : ∀ (w : World) (mg : Str → Option Value) (fa : Addr) (h : Heap), (K w.params).In h → h.Ns mainGlobals mg → mg d.name = some (.ref fa) →
      ∃ fd : FuncData, (∀ (s : Shared) (u : Value), BindsTo s fd ⟨[u], []⟩ [("_law_script", u)]) ∧ ∀ base : Heap, (K w.params).In base → base.Ns mainGlobals mg → FnOk l.prog w (K w.params) mg base CX0 11 fa fd ["_law_script"] (spLaw (K w.params))) :
    PySem.W.WalkO q loose XP YP l.row.toRowW d [] (fun f vs => PySem.call f vs) :=
  L2.walk_of (n := 63) (k := 11) (x := "_law_script") (CX := fun _ => CX0) (sp := fun w => spLaw (K w.params)) hn (by decide) hdf ⟨rfl, by decide, by decide⟩ hY F (fun _ _ a ns hl _ hS => ⟨a, ns, rfl, hS, hl, fun _ => rfl⟩) fun _ _ _ _ _ z => z
end Q
open PySem PySem.W PyProof.Rows
set_option maxRecDepth 100000 in
set_option maxHeartbeats 0 in
theorem PySem.Challenge.cw_quietprobes_k03_lines_of_things_holds : PySem.Challenge.rw_quietprobes_k03_lines_of_things.Holds := by
  w_on; o_law; k_head; (case hw => w_witness2)
  k_fill
  refine Q.walk (l := PySem.Challenge.rw_quietprobes_k03_lines_of_things) rfl rfl (fun w h Y => PySem.W.kIn_of Y) ?F
  case F =>
    intro w mg fa h KX G hmg
    refine' Q.all_mk KX G hmg ?a0 ?l0 ?c0 ?k0 ?a1 ?l1 ?c1 ?k1 ?a2 ?l2 ?c2 ?k2 ?a3 ?l3 ?c3 ?k3 ?a4 ?l4 ?c4 ?k4 ?a5 ?l5 ?c5 ?k5 ?a6 ?l6 ?c6 ?k6 ?a7 ?l7 ?c7 ?k7 ?a8 ?l8 ?c8 ?k8 ?a9 ?l9 ?c9 ?k9 ?z_len ?z_int ?z_list ?z_tuple ?z_isi ?z_range ?z_all ?z_any ?z_str ?z_bool ?z_enum ?z_zip ?z_sum ?z_max ?z_min ?z_sorted ?z_set ?z_dict ?sa_LETTERS ?ia_MOST_LETTERS ?ia_MOST_KEYS ?oq ?z_super ?gtc ?tkc ?tsup ?ecg_BadName ?exL_BadName ?esa_BadName ?eex_BadName ?ety_BadName ?ekC_BadName ?ei1_BadName ?ei2_BadName ?emr_BadName ?esv_BadName ?esu_BadName ?elk_BadName ?ehc_BadName ?eno_BadName ?eco_BadName ?ece_BadName ?ega_BadName ?egg_BadName ?ehd_BadName ?ese_BadName ?ebm_BadName ?evs_BadName ?efl_BadName ?ecg_Twice ?exL_Twice ?esa_Twice ?eex_Twice ?ety_Twice ?ekC_Twice ?ei1_Twice ?ei2_Twice ?emr_Twice ?esv_Twice ?esu_Twice ?elk_Twice ?ehc_Twice ?eno_Twice ?eco_Twice ?ece_Twice ?ega_Twice ?egg_Twice ?ehd_Twice ?ese_Twice ?ebm_Twice ?evs_Twice ?efl_Twice ?ecg_TooMany ?exL_TooMany ?esa_TooMany ?eex_TooMany ?ety_TooMany ?ekC_TooMany ?ei1_TooMany ?ei2_TooMany ?emr_TooMany ?esv_TooMany ?esu_TooMany ?elk_TooMany ?ehc_TooMany ?eno_TooMany ?eco_TooMany ?ece_TooMany ?ega_TooMany ?egg_TooMany ?ehd_TooMany ?ese_TooMany ?ebm_TooMany ?evs_TooMany ?efl_TooMany ?ccg_Thing ?cpg_Thing ?chd_Thing ?cpo_Thing ?csa_Thing ?ckl_Thing ?cmr_Thing ?cic_Thing ?cty_Thing ?csstr_Thing ?csint_Thing ?csbool_Thing ?cslist_Thing ?cstuple_Thing ?ctNoneType_Thing ?ctbool_Thing ?ctint_Thing ?ctstr_Thing ?ctlist_Thing ?cttuple_Thing ?ctdict_Thing ?cn0_Thing ?cn1_Thing ?cn2_Thing ?cmk_Thing ?cii_Thing ?cifn_Thing ?cikc_Thing ?cilk_Thing ?cici_Thing ?cikp_Thing ?cidv_Thing ?cidl_Thing ?cidi_Thing ?cidel0_Thing ?cidev0_Thing ?cea_Thing ?cefn_Thing ?cene_Thing ?celk_Thing ?ceci_Thing ?cekp_Thing ?cta_Thing ?ctfn_Thing ?ctlk_Thing ?ctci_Thing ?ctkp_Thing ?crd_Thing ?cga_Thing ?cs0a_Thing ?cs0c_Thing ?cs0lk_Thing ?cs0ci_Thing ?cs0kp_Thing ?cs1a_Thing ?cs1c_Thing ?cs1lk_Thing ?cs1ci_Thing ?cs1kp_Thing ?cs2a_Thing ?cs2c_Thing ?cs2lk_Thing ?cs2ci_Thing ?cs2kp_Thing ?cs3a_Thing ?cs3c_Thing ?cs3lk_Thing ?cs3ci_Thing ?cs3kp_Thing ?cs4a_Thing ?cs4c_Thing ?cs4lk_Thing ?cs4ci_Thing ?cs4kp_Thing ?cs5a_Thing ?cs5c_Thing ?cs5lk_Thing ?cs5ci_Thing ?cs5kp_Thing ?cs6a_Thing ?cs6c_Thing ?cs6lk_Thing ?cs6ci_Thing ?cs6kp_Thing
    case a0 => k_is
    case l0 => k_is
    case c0 => k_is
    case k0 => k_is
    case a1 => k_is
    case l1 => k_is
    case c1 => k_is
    case k1 => k_is
    case a2 => k_is
    case l2 => k_is
    case c2 => k_is
    case k2 => k_is
    case a3 => k_is
    case l3 => k_is
    case c3 => k_is
    case k3 => k_is
    case a4 => k_is
    case l4 => k_is
    case c4 => k_is
    case k4 => k_is
    case a5 => k_is
    case l5 => k_is
    case c5 => k_is
    case k5 => k_is
    case a6 => k_is
    case l6 => k_is
    case c6 => k_is
    case k6 => k_is
    case a7 => k_is
    case l7 => k_is
    case c7 => k_is
    case k7 => k_is
    case a8 => k_is
    case l8 => k_is
    case c8 => k_is
    case k8 => k_is
    case a9 => k_is
    case l9 => k_is
    case c9 => k_is
    case k9 => k_is
    case z_len => k_is
    case z_int => k_is
    case z_list => k_is
    case z_tuple => k_is
    case z_isi => k_is
    case z_range => k_is
    case z_all => k_is
    case z_any => k_is
    case z_str => k_is
    case z_bool => k_is
    case z_enum => k_is
    case z_zip => k_is
    case z_sum => k_is
    case z_max => k_is
    case z_min => k_is
    case z_sorted => k_is
    case z_set => k_is
    case z_dict => k_is
    case sa_LETTERS => k_is
    case ia_MOST_LETTERS => k_is
    case ia_MOST_KEYS => k_is
    case oq => k_is
    case z_super => k_is
    case gtc => k_is
    case tkc => k_is
    case tsup => first | rfl | decide +kernel
    case ecg_BadName => k_is
    case exL_BadName => k_is
    case esa_BadName => k_is
    case eex_BadName => k_is
    case ety_BadName => k_is
    case ekC_BadName => k_is
    case ei1_BadName => k_is
    case ei2_BadName => k_is
    case emr_BadName => k_is
    case esv_BadName => k_is
    case esu_BadName => ks_is
    case elk_BadName => k_is
    case ehc_BadName => k_is
    case eno_BadName => k_is
    case eco_BadName => k_is
    case ece_BadName => k_is
    case ega_BadName => k_is
    case egg_BadName => k_is
    case ehd_BadName => k_is
    case ese_BadName => k_is
    case ebm_BadName => first | rfl | decide +kernel
    case evs_BadName => rfl
    case efl_BadName => first | rfl | decide +kernel
    case ecg_Twice => k_is
    case exL_Twice => k_is
    case esa_Twice => k_is
    case eex_Twice => k_is
    case ety_Twice => k_is
    case ekC_Twice => k_is
    case ei1_Twice => k_is
    case ei2_Twice => k_is
    case emr_Twice => k_is
    case esv_Twice => k_is
    case esu_Twice => ks_is
    case elk_Twice => k_is
    case ehc_Twice => k_is
    case eno_Twice => k_is
    case eco_Twice => k_is
    case ece_Twice => k_is
    case ega_Twice => k_is
    case egg_Twice => k_is
    case ehd_Twice => k_is
    case ese_Twice => k_is
    case ebm_Twice => first | rfl | decide +kernel
    case evs_Twice => rfl
    case efl_Twice => first | rfl | decide +kernel
    case ecg_TooMany => k_is
    case exL_TooMany => k_is
    case esa_TooMany => k_is
    case eex_TooMany => k_is
    case ety_TooMany => k_is
    case ekC_TooMany => k_is
    case ei1_TooMany => k_is
    case ei2_TooMany => k_is
    case emr_TooMany => k_is
    case esv_TooMany => k_is
    case esu_TooMany => ks_is
    case elk_TooMany => k_is
    case ehc_TooMany => k_is
    case eno_TooMany => k_is
    case eco_TooMany => k_is
    case ece_TooMany => k_is
    case ega_TooMany => k_is
    case egg_TooMany => k_is
    case ehd_TooMany => k_is
    case ese_TooMany => k_is
    case ebm_TooMany => first | rfl | decide +kernel
    case evs_TooMany => rfl
    case efl_TooMany => first | rfl | decide +kernel
    case ccg_Thing => k_is
    case cpg_Thing => k_is
    case chd_Thing => k_is
    case cpo_Thing => k_is
    case csa_Thing => k_is
    case ckl_Thing => k_is
    case cmr_Thing => k_is
    case cic_Thing => k_is
    case cty_Thing => k_is
    case csstr_Thing => k_is
    case csint_Thing => k_is
    case csbool_Thing => k_is
    case cslist_Thing => k_is
    case cstuple_Thing => k_is
    case ctNoneType_Thing => k_is
    case ctbool_Thing => k_is
    case ctint_Thing => k_is
    case ctstr_Thing => k_is
    case ctlist_Thing => k_is
    case cttuple_Thing => k_is
    case ctdict_Thing => k_is
    case cn0_Thing => k_is
    case cn1_Thing => k_is
    case cn2_Thing => k_is
    case cmk_Thing => k_is
    case cii_Thing => k_is
    case cifn_Thing => k_is
    case cikc_Thing => k_is
    case cilk_Thing => k_is
    case cici_Thing => k_is
    case cikp_Thing => k_is
    case cidv_Thing => rfl
    case cidl_Thing => k_is
    case cidi_Thing => rfl
    case cidel0_Thing => k_is
    case cidev0_Thing => rfl
    case cea_Thing => k_is
    case cefn_Thing => k_is
    case cene_Thing => k_is
    case celk_Thing => k_is
    case ceci_Thing => k_is
    case cekp_Thing => k_is
    case cta_Thing => k_is
    case ctfn_Thing => k_is
    case ctlk_Thing => k_is
    case ctci_Thing => k_is
    case ctkp_Thing => k_is
    case crd_Thing => k_is
    case cga_Thing => k_is
    case cs0a_Thing => k_is
    case cs0c_Thing => k_is
    case cs0lk_Thing => k_is
    case cs0ci_Thing => k_is
    case cs0kp_Thing => k_is
    case cs1a_Thing => k_is
    case cs1c_Thing => k_is
    case cs1lk_Thing => k_is
    case cs1ci_Thing => k_is
    case cs1kp_Thing => k_is
    case cs2a_Thing => k_is
    case cs2c_Thing => k_is
    case cs2lk_Thing => k_is
    case cs2ci_Thing => k_is
    case cs2kp_Thing => k_is
    case cs3a_Thing => k_is
    case cs3c_Thing => k_is
    case cs3lk_Thing => k_is
    case cs3ci_Thing => k_is
    case cs3kp_Thing => k_is
    case cs4a_Thing => k_is
    case cs4c_Thing => k_is
    case cs4lk_Thing => k_is
    case cs4ci_Thing => k_is
    case cs4kp_Thing => k_is
    case cs5a_Thing => k_is
    case cs5c_Thing => k_is
    case cs5lk_Thing => k_is
    case cs5ci_Thing => k_is
    case cs5kp_Thing => k_is
    case cs6a_Thing => k_is
    case cs6c_Thing => k_is
    case cs6lk_Thing => k_is
    case cs6ci_Thing => k_is
    case cs6kp_Thing => k_is
