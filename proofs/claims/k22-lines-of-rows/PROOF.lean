import PyProof.Rows.All
import Wide.All
import OpenK.AllK
import Wide.FinOn
import HandS.Base
import HandS.Call
import HandS.List
import HandS.Comp
import HandS.Ends
import HandS.Dict
import HandS.Iter
import HandS.Text
import HandS.Deep
import HandS.IsInst
import HandS.Star
import HandS.Words
import HandS.Wide
import HandS.TupAny
import KE.KUnpackStar
import HandS.ForMost
import HandS.Zip
import HandS.More
import PyProof.RulesMatch
import HandS.Evl
import PySem.Challenge.RW_quietprobes_k22_lines_of_rows
set_option Elab.async false
set_option linter.all false
set_option maxRecDepth 100000
set_option autoImplicit false
/-! A layer of our own over the hand layer: readings over data (D), slots of data, and one assertion of the heap (Rs). -/
namespace G
open PySem PySem.Spec L2

/-- a value told as data; adr: an address of which the assertion speaks -/
inductive D where
  | non | bl (b : Bool) | int (i : Int) | str (x : Str) | adr (a : Addr) | lst (ds : List D) | tup (ds : List D)

/-- a text whose signs are signs, and that isn't long -/
def sok (x : Str) : Prop := PyData.strOk x = true ∧ x.length ≤ 1000000
mutual
/-- v is d in the heap H; no list of it is among M -/
inductive Is (K : PySem.W.Frag) (M : Addr → Prop) (H : Hp) : V → D → Prop
  | non : Is K M H .non .non
  | bl (b : Bool) : Is K M H (.bl b) (.bl b)
  | int (i : Int) : Is K M H (.int i) (.int i)
  | str {x : Str} : sok x → Is K M H (.str x) (.str x)
  | adr (a : Addr) : Is K M H (.ref a) (.adr a)
  | lst {a : Addr} {xs : List V} {ds : List D} : ¬ M a → H a = some (.lst xs) → IsAll K M H xs ds → Is K M H (.ref a) (.lst ds)
  | tup {a : Addr} {xs : List V} {ds : List D} : SqT K H a xs → IsAll K M H xs ds → Is K M H (.ref a) (.tup ds)
inductive IsAll (K : PySem.W.Frag) (M : Addr → Prop) (H : Hp) : List V → List D → Prop
  | nil : IsAll K M H [] []
  | cons {v : V} {vs : List V} {d : D} {ds : List D} : Is K M H v d → IsAll K M H vs ds → IsAll K M H (v :: vs) (d :: ds)
end
section
variable {K : PySem.W.Frag} {M M' : Addr → Prop} {H H' : Hp}
mutual
theorem Is.go (hl : ∀ a xs, ¬ M a → H a = some (.lst xs) → ¬ M' a ∧ H' a = some (.lst xs)) (ht : ∀ a xs, SqT K H a xs → SqT K H' a xs) : ∀ (d : D) (v : V), Is K M H v d → Is K M' H' v d
  | .non, _, h => by cases h; exact .non
  | .bl b, _, h => by cases h; exact .bl b
  | .int i, _, h => by cases h; exact .int i
  | .str x, _, h => by cases h with | str o => exact .str o
  | .adr a, _, h => by cases h; exact .adr a
  | .lst ds, _, h => by
    cases h with
    | lst n s h => exact .lst (hl _ _ n s).1 (hl _ _ n s).2 (IsAll.go hl ht ds _ h)
  | .tup ds, _, h => by
    cases h with
    | tup s h => exact .tup (ht _ _ s) (IsAll.go hl ht ds _ h)
theorem IsAll.go (hl : ∀ a xs, ¬ M a → H a = some (.lst xs) → ¬ M' a ∧ H' a = some (.lst xs)) (ht : ∀ a xs, SqT K H a xs → SqT K H' a xs) : ∀ (ds : List D) (vs : List V), IsAll K M H vs ds → IsAll K M' H' vs ds
  | [], _, h => by cases h; exact .nil
  | d :: ds, _, h => by
    cases h with
    | cons h1 h2 => exact .cons (Is.go hl ht d _ h1) (IsAll.go hl ht ds _ h2)
end
theorem IsAll.length : ∀ {vs : List V} {ds : List D}, IsAll K M H vs ds → vs.length = ds.length
  | _, _, .nil => rfl
  | _, _, .cons _ h => by rw [List.length_cons, List.length_cons, IsAll.length h]
theorem IsAll.get : ∀ {vs : List V} {ds : List D} {i : Nat} {v : V}, IsAll K M H vs ds → vs[i]? = some v → ∃ d, ds[i]? = some d ∧ Is K M H v d
  | _, _, i, v, .nil, e => by simp at e
  | _, _, 0, v, .cons h _, e => by simp at e; subst e; exact ⟨_, rfl, h⟩
  | _, _, i + 1, v, .cons _ t, e => by
    obtain ⟨d, h1, h2⟩ := IsAll.get (i := i) (v := v) t (by simpa using e)
    exact ⟨d, by simpa using h1, h2⟩
theorem IsAll.getD : ∀ {vs : List V} {ds : List D} {i : Nat} {d : D}, IsAll K M H vs ds → ds[i]? = some d → ∃ v, vs[i]? = some v ∧ Is K M H v d
  | _, _, i, v, .nil, e => by simp at e
  | _, _, 0, v, .cons h _, e => by simp at e; subst e; exact ⟨_, rfl, h⟩
  | _, _, i + 1, d, .cons _ t, e => by
    obtain ⟨v, h1, h2⟩ := IsAll.getD (i := i) (d := d) t (by simpa using e)
    exact ⟨v, by simpa using h1, h2⟩
theorem IsAll.append : ∀ {vs ws : List V} {ds es : List D}, IsAll K M H vs ds → IsAll K M H ws es → IsAll K M H (vs ++ ws) (ds ++ es)
  | _, _, _, _, .nil, s => s
  | _, _, _, _, .cons r t, s => .cons r (IsAll.append t s)
theorem IsAll.take : ∀ {vs : List V} {ds : List D} (n : Nat), IsAll K M H vs ds → IsAll K M H (vs.take n) (ds.take n)
  | _, _, 0, _ => .nil
  | _, _, _ + 1, .nil => .nil
  | _, _, n + 1, .cons r t => .cons r (IsAll.take n t)
theorem IsAll.drop : ∀ {vs : List V} {ds : List D} (n : Nat), IsAll K M H vs ds → IsAll K M H (vs.drop n) (ds.drop n)
  | _, _, 0, r => r
  | _, _, _ + 1, .nil => .nil
  | _, _, n + 1, .cons r t => IsAll.drop n t
theorem IsAll.rev : ∀ {vs : List V} {ds : List D}, IsAll K M H vs ds → IsAll K M H vs.reverse ds.reverse
  | _, _, .nil => .nil
  | _, _, .cons r t => by rw [List.reverse_cons, List.reverse_cons]; exact (IsAll.rev t).append (.cons r .nil)
theorem IsAll.of_map {α : Type} {f : α → V} {g : α → D} : ∀ {l : List α}, (∀ x ∈ l, Is K M H (f x) (g x)) → IsAll K M H (l.map f) (l.map g)
  | [], _ => .nil
  | x :: l, h => .cons (h x List.mem_cons_self) (IsAll.of_map fun y hy => h y (List.mem_cons_of_mem _ hy))
end

def Ext (H H' : Hp) : Prop := ∀ b o, H b = some o → H' b = some o
theorem Ext.refl (H : Hp) : Ext H H := fun _ _ h => h
theorem Ext.new {H : Hp} {p : Addr} {o : HO} (h : H p = none) : Ext H (upd H p o) := fun a u e => by
  rw [upd_ne (ne_of_none e h)]
  exact e
theorem Ext.sql {K : PySem.W.Frag} {H H' : Hp} (e : Ext H H') {a : Addr} {xs : List V} (h : SqL K H a xs) : SqL K H' a xs := by
  rcases h with (h | ⟨o, h⟩) | h
  · exact .inl (.inl (e _ _ h))
  · exact .inl (.inr ⟨o, e _ _ h⟩)
  · exact .inr h
theorem Ext.sqt {K : PySem.W.Frag} {H H' : Hp} (e : Ext H H') {a : Addr} {xs : List V} (h : SqT K H a xs) : SqT K H' a xs := by
  rcases h with (h | ⟨o, h⟩) | h
  · exact .inl (.inl (e _ _ h))
  · exact .inl (.inr ⟨o, e _ _ h⟩)
  · exact .inr h


theorem is_ext {K : PySem.W.Frag} {N : Addr → Prop} {H H' : Hp} (e : Ext H H') (v : V) (d : D) (h : Is K N H v d) : Is K N H' v d := Is.go (fun a xs n s => ⟨n, e _ _ s⟩) (fun a xs s => e.sqt s) d v h
theorem is_anti {K : PySem.W.Frag} {N N' : Addr → Prop} {H : Hp} (e : ∀ a, N' a → N a) {v : V} {d : D} (h : Is K N H v d) : Is K N' H v d := Is.go (fun a xs n s => ⟨fun z => n (e a z), s⟩) (fun a xs s => s) d v h
theorem is_grow {K : PySem.W.Frag} {N : Addr → Prop} {H : Hp} {p : Addr} (hp : H p = none) {v : V} {d : D} (h : Is K N H v d) : Is K (fun a => N a ∨ a = p) H v d :=
  Is.go (fun a xs n s => ⟨fun z => z.elim n fun e => (by rw [e, hp] at s; cases s), s⟩) (fun a xs s => s) d v h
theorem all_of {K : PySem.W.Frag} {N N' : Addr → Prop} {H H' : Hp} (f : ∀ v d, Is K N H v d → Is K N' H' v d) : ∀ {vs : List V} {ds : List D}, IsAll K N H vs ds → IsAll K N' H' vs ds
  | _, _, .nil => .nil
  | _, _, .cons h t => .cons (f _ _ h) (all_of f t)
/-- a piece of what the heap is known to hold: it owns the objects at M, and speaks besides of data alone -/
structure At where
  M : Addr → Prop
  R : PySem.W.Frag → (Addr → Prop) → Hp → Prop
  loc : ∀ {K : PySem.W.Frag} {N : Addr → Prop} {H H' : Hp}, (∀ b o, M b → H b = some o → H' b = some o) → (∀ v d, Is K N H v d → Is K N H' v d) → R K N H → R K N H'
  anti : ∀ {K : PySem.W.Frag} {N N' : Addr → Prop} {H : Hp}, (∀ a, N' a → N a) → R K N H → R K N' H
  grow : ∀ {K : PySem.W.Frag} {N : Addr → Prop} {H : Hp} {p : Addr}, H p = none → R K N H → R K (fun a => N a ∨ a = p) H
  al : ∀ {K : PySem.W.Frag} {N : Addr → Prop} {H : Hp}, R K N H → ∀ a, M a → ∃ o, H a = some o
abbrev Rs := List (At)
section
variable {K : PySem.W.Frag}
def mem : Rs → Addr → Prop
  | [], _ => False
  | t :: r, a => t.M a ∨ mem r a
def hold (K : PySem.W.Frag) (N : Addr → Prop) : Rs → Hp → Prop
  | [], _ => True
  | t :: r, H => t.R K N H ∧ (∀ a, t.M a → ¬ mem r a) ∧ hold K N r H
theorem hold_ext {N : Addr → Prop} {H H' : Hp} (e : Ext H H') : ∀ {r : Rs}, hold K N r H → hold K N r H'
  | [], _ => True.intro
  | t :: r, h => ⟨t.loc (fun b o _ q => e b o q) (is_ext e) h.1, h.2.1, hold_ext e h.2.2⟩
theorem hold_loc {N : Addr → Prop} {H H' : Hp} : ∀ {r : Rs}, (∀ b o, mem r b → H b = some o → H' b = some o) → (∀ v d, Is K N H v d → Is K N H' v d) → hold K N r H → hold K N r H'
  | [], _, _, _ => True.intro
  | t :: r, f, g, h => ⟨t.loc (fun b o z q => f b o (.inl z) q) g h.1, h.2.1, hold_loc (fun b o z q => f b o (.inr z) q) g h.2.2⟩
theorem hold_anti {N N' : Addr → Prop} {H : Hp} (e : ∀ a, N' a → N a) : ∀ {r : Rs}, hold K N r H → hold K N' r H
  | [], _ => True.intro
  | t :: r, h => ⟨t.anti e h.1, h.2.1, hold_anti e h.2.2⟩
theorem hold_grow {N : Addr → Prop} {H : Hp} {p : Addr} (hp : H p = none) : ∀ {r : Rs}, hold K N r H → hold K (fun a => N a ∨ a = p) r H
  | [], _ => True.intro
  | t :: r, h => ⟨t.grow hp h.1, h.2.1, hold_grow hp h.2.2⟩
theorem hold_al {N : Addr → Prop} {H : Hp} : ∀ {r : Rs}, hold K N r H → ∀ a, mem r a → ∃ o, H a = some o
  | [], _, _, z => z.elim
  | t :: r, h, a, .inl z => t.al h.1 a z
  | t :: r, h, a, .inr z => hold_al h.2.2 a z
theorem mem_append {r r' : Rs} {a : Addr} : mem (r ++ r') a ↔ mem r a ∨ mem r' a := by
  induction r with
  | nil => exact ⟨.inr, fun z => z.elim False.elim id⟩
  | cons t r ih =>
    show (t.M a ∨ mem (r ++ r') a) ↔ ((t.M a ∨ mem r a) ∨ mem r' a)
    rw [ih, or_assoc]
theorem hold_append {N : Addr → Prop} {r r' : Rs} {H : Hp} : hold K N (r ++ r') H ↔ hold K N r H ∧ hold K N r' H ∧ ∀ a, mem r a → ¬ mem r' a := by
  induction r with
  | nil => exact ⟨fun h => ⟨True.intro, h, fun _ z => z.elim⟩, fun h => h.2.1⟩
  | cons t r ih =>
    constructor
    · rintro ⟨h1, h2, h3⟩
      obtain ⟨i1, i2, i3⟩ := ih.mp h3
      exact ⟨⟨h1, fun a z y => h2 a z (mem_append.mpr (.inl y)), i1⟩, i2, fun a z => z.elim (fun z y => h2 a z (mem_append.mpr (.inr y))) (i3 a)⟩
    · rintro ⟨⟨h1, h2, h3⟩, h4, h5⟩
      exact ⟨h1, fun a z y => (mem_append.mp y).elim (h2 a z) (h5 a (.inl z)), ih.mpr ⟨h3, h4, fun a z => h5 a (.inr z)⟩⟩
def At.id : At := ⟨fun _ => False, fun _ _ _ => True, fun _ _ _ => True.intro, fun _ _ => True.intro, fun _ _ => True.intro, fun _ _ z => z.elim⟩
/-- a list of our own at l that is being filled -/
def lstA (l : Addr) (ds : List D) : At where
  M := fun a => a = l
  R := fun K N H => ∃ vs, H l = some (.lst vs) ∧ IsAll K N H vs ds
  loc := fun f g ⟨vs, h, i⟩ => ⟨vs, f _ _ rfl h, all_of g i⟩
  anti := fun e ⟨vs, h, i⟩ => ⟨vs, h, all_of (fun _ _ => is_anti e) i⟩
  grow := fun hp ⟨vs, h, i⟩ => ⟨vs, h, all_of (fun _ _ => is_grow hp) i⟩
  al := fun ⟨vs, h, _⟩ a z => ⟨_, z.symm ▸ h⟩
end
/-- what r tells is so -/
def Rok (K : PySem.W.Frag) (r : Rs) (H : Hp) : Prop := hold K (mem r) r H
theorem Rok.ext {K : PySem.W.Frag} {r : Rs} {H H' : Hp} (h : Rok K r H) (e : Ext H H') : Rok K r H' := hold_ext e h
/-- all data stand as they stood -/
def Kp (K : PySem.W.Frag) (r : Rs) (H : Hp) (r' : Rs) (H' : Hp) : Prop := ∀ v d, Is K (mem r) H v d → Is K (mem r') H' v d
section
variable {K : PySem.W.Frag} {r r' r1 r2 : Rs} {H H' H1 H2 : Hp}
theorem Kp.refl : Kp K r H r H := fun _ _ h => h
theorem Kp.trans (a : Kp K r H r1 H1) (b : Kp K r1 H1 r2 H2) : Kp K r H r2 H2 := fun v d h => b v d (a v d h)
theorem Kp.ext (e : Ext H H') : Kp K r H r H' := is_ext e
theorem Kp.all (k : Kp K r H r' H') {vs : List V} {ds : List D} (h : IsAll K (mem r) H vs ds) : IsAll K (mem r') H' vs ds := all_of k h
/-- r knows more than r' -/
structure le (r r' : Rs) : Prop where
  m : ∀ a, mem r' a → mem r a
  r : ∀ K H, Rok K r H → Rok K r' H
theorem le.refl : le r r := ⟨fun _ h => h, fun _ _ h => h⟩
theorem le.trans (a : le r r1) (b : le r1 r2) : le r r2 := ⟨fun x h => a.m x (b.m x h), fun K H h => b.r K H (a.r K H h)⟩
theorem le.kp (l : le r r') : Kp K r H r' H := fun _ _ h => is_anti l.m h
theorem le.drop {t : Rs} : le (r ++ t) r := ⟨fun a h => mem_append.mpr (.inl h), fun K H h => hold_anti (fun a z => mem_append.mpr (.inl z)) (hold_append.mp h).1⟩
end

abbrev Dl := List (Option D)
def lk : Dl → Nat → Option D
  | [], _ => none
  | x :: _, 0 => x
  | _ :: l, n + 1 => lk l n
theorem lk_get : ∀ {δ : Dl} {i : Nat} {d : D}, lk δ i = some d → δ[i]? = some (some d)
  | [], i, d, h => by simp [lk] at h
  | x :: l, 0, d, h => by simp only [lk] at h; simp [h]
  | x :: l, n + 1, d, h => by
    simp only [lk] at h
    have := lk_get h
    simpa using this
/-- the names' slots hold the data -/
structure Ok (K : PySem.W.Frag) (r : Rs) (δ : Dl) (σ : St) (H : Hp) : Prop where
  env : ∀ (i : Nat) (d : D), δ[i]? = some (some d) → ∃ v, σ[i]? = some (some v) ∧ Is K (mem r) H v d
  r : Rok K r H
  len : δ.length = σ.length
theorem Ok.step {K : PySem.W.Frag} {r r' : Rs} {δ : Dl} {σ : St} {H H' : Hp} (o : Ok K r δ σ H) (k : Kp K r H r' H') (hr : Rok K r' H') : Ok K r' δ σ H' :=
  ⟨fun i d e => let ⟨v, h1, h2⟩ := o.env i d e; ⟨v, h1, k v d h2⟩, hr, o.len⟩
theorem Ok.set {K : PySem.W.Frag} {r : Rs} {δ : Dl} {σ : St} {H : Hp} (o : Ok K r δ σ H) {i : Nat} {v : V} {d : D} (h : Is K (mem r) H v d) : Ok K r (δ.set i (some d)) (σ.set i (some v)) H := by
  refine ⟨fun j e he => ?_, o.r, by rw [List.length_set, List.length_set]; exact o.len⟩
  by_cases hj : j = i
  · subst hj
    have hl : j < δ.length := by
      have := (List.getElem?_eq_some_iff.mp he).1
      rwa [List.length_set] at this
    rw [List.getElem?_set_self hl] at he
    cases he
    exact ⟨v, List.getElem?_set_self (o.len ▸ hl), h⟩
  · rw [List.getElem?_set_ne (Ne.symm hj)] at he ⊢
    exact o.env j e he
theorem Ok.drop {K : PySem.W.Frag} {r : Rs} {δ : Dl} {σ : St} {H : Hp} (o : Ok K r δ σ H) {i : Nat} : Ok K r (δ.set i none) (σ.set i none) H := by
  refine ⟨fun j e he => ?_, o.r, by rw [List.length_set, List.length_set]; exact o.len⟩
  by_cases hj : j = i
  · subst hj
    have hl : j < δ.length := by
      have := (List.getElem?_eq_some_iff.mp he).1
      rwa [List.length_set] at this
    rw [List.getElem?_set_self hl] at he
    cases he
  · rw [List.getElem?_set_ne (Ne.symm hj)] at he ⊢
    exact o.env j e he

abbrev PK1 := D → Rs → Prop
/-- readings over data: of an expression, of arguments, of a test -/
abbrev AT := Dl → Rs → PK1 → Prop
abbrev AL := Dl → Rs → (List D → Rs → Prop) → Prop
abbrev AB := Dl → Rs → (Bool → Rs → Prop) → Prop
def TD (K : PySem.W.Frag) (t : AT) : TE := fun σ H Q => ∃ δ r P, Ok K r δ σ H ∧ t δ r P ∧ ∀ d r' v H', P d r' → Ok K r' δ σ H' → Kp K r H r' H' → Is K (mem r') H' v d → Q v H'
def TDL (K : PySem.W.Frag) (t : AL) : TA := fun σ H Q => ∃ δ r P, Ok K r δ σ H ∧ t δ r P ∧ ∀ ds r' vs H', P ds r' → Ok K r' δ σ H' → Kp K r H r' H' → IsAll K (mem r') H' vs ds → Q vs H'
def TDB (K : PySem.W.Frag) (t : AB) : TT := fun σ H Q => ∃ δ r P, Ok K r δ σ H ∧ t δ r P ∧ ∀ b r' H', P b r' → Ok K r' δ σ H' → Kp K r H r' H' → Q b H'
def PD (X : Cx) (e : Expr) (t : AT) : Prop := PE X e (TD X.K t)
def PDL (X : Cx) (es : List Expr) (t : AL) : Prop := PA X es (TDL X.K t)
def PDB (X : Cx) (e : Expr) (t : AB) : Prop := PT X e (TDB X.K t)
def PDW (X : Cx) (e : Expr) (t : AB) : Prop := PW X e (TDB X.K t)
theorem imE {X : Cx} {e : Expr} {t t' : TE} (h : PE X e t) (i : ∀ σ H Q, t' σ H Q → t σ H Q) : PE X e t' := ⟨fun pins s σ H Q I q => h.run pins s σ H Q I (i σ H Q q)⟩
theorem imA {X : Cx} {e : List Expr} {t t' : TA} (h : PA X e t) (i : ∀ σ H Q, t' σ H Q → t σ H Q) : PA X e t' := ⟨fun pos pins s σ H Q I q => h.run pos pins s σ H Q I (i σ H Q q)⟩
theorem imT {X : Cx} {e : Expr} {t t' : TT} (h : PT X e t) (i : ∀ σ H Q, t' σ H Q → t σ H Q) : PT X e t' := ⟨fun pins s σ H Q I q => h.run pins s σ H Q I (i σ H Q q)⟩
theorem imW {X : Cx} {e : Expr} {t t' : TT} (h : PW X e t) (i : ∀ σ H Q, t' σ H Q → t σ H Q) : PW X e t' := ⟨fun wh pins s σ H Q I q => h.run wh pins s σ H Q I (i σ H Q q)⟩
theorem imS {X : Cx} {e : Stmt} {t t' : TS} (h : PS X e t) (i : ∀ D σ H, t' D σ H → t D σ H) : PS X e t' := ⟨fun pins s σ H D I q => h.run pins s σ H D I (i D σ H q)⟩
theorem imSs {X : Cx} {e : List Stmt} {t t' : TS} (h : PSs X e t) (i : ∀ D σ H, t' D σ H → t D σ H) : PSs X e t' := ⟨fun pins s σ H D I q => h.run pins s σ H D I (i D σ H q)⟩

/-! ### expressions -/
def aVar (i : Nat) : AT := fun δ r P => match lk δ i with | some d => P d r | none => False
def aC (d : D) : AT := fun _ r P => P d r
section
variable {X : Cx}
theorem td_var {K : PySem.W.Frag} {i : Nat} {σ : St} {H : Hp} {Q : VK} (q : TD K (aVar i) σ H Q) : tVar i σ H Q := by
  obtain ⟨δ, r, P, o, h, k⟩ := q
  unfold aVar at h
  split at h
  · rename_i d hd
    obtain ⟨v, h1, h2⟩ := o.env i d (lk_get hd)
    exact ⟨v, h1, k d r v H h o Kp.refl h2⟩
  · exact h.elim
theorem dv (i : Nat) {x : Str} {pos : Pos} (hN : X.N[i]? = some x := by rfl) (hv : Vis X.env.scope x := by first | exact Or.inl rfl | exact Or.inr (Or.inl rfl) | exact Or.inr (Or.inr rfl)) (hd : (x == ("__debug__" : Str)) = false := by decide)
    (hcd : (x == ("__classdict__" : Str)) = false := by decide) : PD X (.Name x pos) (aVar i) := imE (pe_var hN hv hd hcd) fun _ _ _ q => td_var q
theorem td_c {K : PySem.W.Frag} {d : D} {v : V} {σ : St} {H : Hp} {Q : VK} (hv : ∀ M H, Is K M H v d) (q : TD K (aC d) σ H Q) : tC v σ H Q := by
  obtain ⟨δ, r, P, o, h, k⟩ := q
  exact k d r v H h o Kp.refl (hv _ _)
theorem d_int {i j pos} : PD X (.Constant (.int i) j pos) (aC (.int i)) := imE pe_int fun _ _ _ q => td_c (fun _ _ => .int i) q
theorem d_bl {i j pos} : PD X (.Constant (.bool i) j pos) (aC (.bl i)) := imE pe_bl fun _ _ _ q => td_c (fun _ _ => .bl i) q
theorem d_non {j pos} : PD X (.Constant .none j pos) (aC .non) := imE pe_non fun _ _ _ q => td_c (fun _ _ => .non) q
def sokB (x : Str) : Bool := PyData.strOk x && decide (x.length ≤ 1000000)
theorem sok_of {x : Str} (h : sokB x = true) : sok x := by
  unfold sokB at h
  rw [Bool.and_eq_true, decide_eq_true_eq] at h
  exact h
theorem d_str {x j pos} (h : sokB x = true := by decide +kernel) : PD X (.Constant (.str x) j pos) (aC (.str x)) := imE pe_str fun _ _ _ q => td_c (fun _ _ => .str (sok_of h)) q
/-- a constant of the module: a text, a number -/
theorem d_glob {x : Str} {v : V} {d : D} {u : Value} {pos : Pos} (hg : Gl X x) (hm : X.mg x = some u) (r : RelV v u) (hd : ∀ M H, Is X.K M H v d) (hdb : (x == ("__debug__" : Str)) = false := by decide) : PD X (.Name x pos) (aC d) :=
  imE (pe_glob hg hm r hdb) fun _ _ _ q => td_c hd q

/-! ### argument lists, displays -/
def aNil : AL := fun _ r P => P [] r
def aCons (t : AT) (l : AL) : AL := fun δ r P => t δ r fun d r1 => l δ r1 fun ds r2 => P (d :: ds) r2
theorem dl_nil : PDL X [] aNil := imA pa_nil fun σ H Q q => by
  obtain ⟨δ, r, P, o, h, k⟩ := q
  exact k [] r [] H h o Kp.refl .nil
theorem td_bind {K : PySem.W.Frag} {σ : St} {H : Hp} {δ : Dl} {r : Rs} {t : AT} {P : PK1} {Q : VK} (o : Ok K r δ σ H) (h : t δ r P) (k : ∀ d r' v H', P d r' → Ok K r' δ σ H' → Kp K r H r' H' → Is K (mem r') H' v d → Q v H') : TD K t σ H Q := ⟨δ, r, P, o, h, k⟩
theorem tdl_bind {K : PySem.W.Frag} {σ : St} {H : Hp} {δ : Dl} {r : Rs} {t : AL} {P : List D → Rs → Prop} {Q : List V → Hp → Prop} (o : Ok K r δ σ H) (h : t δ r P) (k : ∀ d r' v H', P d r' → Ok K r' δ σ H' → Kp K r H r' H' → IsAll K (mem r') H' v d → Q v H') : TDL K t σ H Q := ⟨δ, r, P, o, h, k⟩
theorem dl_cons {e : Expr} {es : List Expr} {t : AT} {l : AL} (ha : PD X e t) (hr : PDL X es l) (hs : starEach (e :: es) X.env = (false, eval e X.env) :: starEach es X.env := by rfl) : PDL X (e :: es) (aCons t l) := imA (pa_cons ha hr hs) fun σ H Q q => by
  obtain ⟨δ, r, P, o, h, k⟩ := q
  refine td_bind o h fun d r1 v H1 h1 o1 k1 i1 => tdl_bind o1 h1 fun ds r2 vs H2 h2 o2 k2 i2 => ?_
  exact k (d :: ds) r2 _ H2 h2 o2 (k1.trans k2) (.cons (k2 _ _ i1) i2)
/-- *e in an argument list -/
def aStar (t : AT) (l : AL) : AL := fun δ r P => t δ r fun d r1 => match d with
  | .lst xs => l δ r1 fun ds r2 => P (xs ++ ds) r2
  | .tup xs => l δ r1 fun ds r2 => P (xs ++ ds) r2
  | _ => False
theorem dl_star {e : Expr} {es : List Expr} {p : Pos} {t : AT} {l : AL} (ha : PD X e t) (hr : PDL X es l) (hs : starEach (.Starred e p :: es) X.env = (true, eval e X.env) :: starEach es X.env := by rfl) : PDL X (.Starred e p :: es) (aStar t l) := imA (StX.pa_star ha hr hs) fun σ H Q q => by
  obtain ⟨δ, r, P, o, h, k⟩ := q
  refine td_bind o h fun d r1 v H1 h1 o1 k1 i1 => ?_
  cases i1 with
  | lst n s a => exact ⟨_, _, rfl, .inr (SqL.of s), tdl_bind o1 h1 fun ds r2 vs H2 h2 o2 k2 i2 => k _ r2 _ H2 h2 o2 (k1.trans k2) ((k2.all a).append i2)⟩
  | tup s a => exact ⟨_, _, rfl, .inl s, tdl_bind o1 h1 fun ds r2 vs H2 h2 o2 k2 i2 => k _ r2 _ H2 h2 o2 (k1.trans k2) ((k2.all a).append i2)⟩
  | _ => exact h1.elim
def small (n : Nat) : Prop := n ≤ 1000000
theorem small.sz {n : Nat} (h : small n) : n ≤ sizeLine := Nat.le_trans h (by decide)
theorem not_al {K : PySem.W.Frag} {r : Rs} {H : Hp} {p : Addr} (h : Rok K r H) (hp : H p = none) : ¬ mem r p := fun z => by
  obtain ⟨o, e⟩ := hold_al h p z
  rw [hp] at e
  cases e
def aTup (l : AL) : AT := fun δ r P => l δ r fun ds r1 => small ds.length ∧ P (.tup ds) r1
def aLst (l : AL) : AT := fun δ r P => l δ r fun ds r1 => small ds.length ∧ P (.lst ds) r1
theorem new_tup {K : PySem.W.Frag} {r : Rs} {H : Hp} {p : Addr} {vs : List V} {ds : List D} (hp : H p = none) (i : IsAll K (mem r) H vs ds) : Is K (mem r) (upd H p (.tup vs)) (.ref p) (.tup ds) :=
  .tup (SqT.of upd_same) (Kp.all (r := r) (r' := r) (Kp.ext (Ext.new hp)) i)
theorem new_lst {K : PySem.W.Frag} {r : Rs} {H : Hp} {p : Addr} {vs : List V} {ds : List D} (hr : Rok K r H) (hp : H p = none) (i : IsAll K (mem r) H vs ds) : Is K (mem r) (upd H p (.lst vs)) (.ref p) (.lst ds) :=
  .lst (not_al hr hp) upd_same (Kp.all (r := r) (r' := r) (Kp.ext (Ext.new hp)) i)
theorem Ok.new {K : PySem.W.Frag} {r : Rs} {δ : Dl} {σ : St} {H : Hp} {p : Addr} {u : HO} (o : Ok K r δ σ H) (hp : H p = none) : Ok K r δ σ (upd H p u) := o.step (Kp.ext (Ext.new hp)) (o.r.ext (Ext.new hp))
theorem d_tup {es : List Expr} {x1} {pos : Pos} {l : AL} (ha : PDL X es l) : PD X (.Tuple es x1 pos) (aTup l) := imE (pe_tup ha) fun σ H Q q => by
  obtain ⟨δ, r, P, o, h, k⟩ := q
  refine tdl_bind o h fun ds r1 vs H1 h1 o1 k1 i1 => ⟨by rw [i1.length]; exact h1.1.sz, fun p hp => ?_⟩
  exact k _ r1 _ _ h1.2 (o1.new hp) (k1.trans (Kp.ext (Ext.new hp))) (new_tup hp i1)
theorem d_lst {es : List Expr} {pos : Pos} {l : AL} (ha : PDL X es l) : PD X (.List es pos) (aLst l) := imE (pe_lst ha) fun σ H Q q => by
  obtain ⟨δ, r, P, o, h, k⟩ := q
  refine tdl_bind o h fun ds r1 vs H1 h1 o1 k1 i1 => ⟨by rw [i1.length]; exact h1.1.sz, fun p hp => ?_⟩
  exact k _ r1 _ _ h1.2 (o1.new hp) (k1.trans (Kp.ext (Ext.new hp))) (new_lst o1.r hp i1)
end
end G

namespace G
open PySem PySem.Spec L2

/-! ### operations on two data -/
abbrev O2 := D → D → (D → Prop) → Prop
def rD (K : PySem.W.Frag) (o : O2) : R2 := fun x y H Q => ∃ (r : Rs) (d1 d2 : D) (P : D → Prop), Rok K r H ∧ Is K (mem r) H x d1 ∧ Is K (mem r) H y d2 ∧ o d1 d2 P ∧ ∀ d v H', P d → Ext H H' → Is K (mem r) H' v d → Q v H'
def aOp (o : O2) (ta tb : AT) : AT := fun δ r P => ta δ r fun d1 r1 => tb δ r1 fun d2 r2 => o d1 d2 fun d => P d r2
section
variable {X : Cx} {a b c : Expr} {ta tb tc : AT} {pos : Pos}
theorem Ok.ext {K : PySem.W.Frag} {r : Rs} {δ : Dl} {σ : L2.St} {H H' : Hp} (o : Ok K r δ σ H) (e : Ext H H') : Ok K r δ σ H' := o.step (Kp.ext e) (o.r.ext e)
theorem td_op {K : PySem.W.Frag} {o : O2} {ta tb : AT} {σ : L2.St} {H : Hp} {Q : VK} (q : TD K (aOp o ta tb) σ H Q) : tOp (rD K o) (TD K ta) (TD K tb) σ H Q := by
  obtain ⟨δ, r, P, ok, h, k⟩ := q
  refine td_bind ok h fun d1 r1 v1 H1 h1 o1 k1 i1 => td_bind o1 h1 fun d2 r2 v2 H2 h2 o2 k2 i2 => ?_
  exact ⟨r2, d1, d2, fun d => P d r2, o2.r, k2 _ _ i1, i2, h2, fun d v H' p e i => k d r2 v H' p (o2.ext e) ((k1.trans k2).trans (Kp.ext e)) i⟩
theorem d_bin {op : Operator} {o : O2} (ho : OpR X (binaryOp op) (rD X.K o)) (ha : PD X a ta) (hb : PD X b tb) : PD X (.BinOp a op b pos) (aOp o ta tb) := imE (pe_op ho ha hb) fun _ _ _ q => td_op q
theorem d_cmp {op : CmpOp} {o : O2} (ho : OpR X (compareOp op) (rD X.K o)) (ha : PD X a ta) (hb : PD X b tb) (hm : behindInMarks op b = false := by first | exact nomark _ | with_unfolding_all rfl) : PD X (.Compare a [op] [b] pos) (aOp o ta tb) :=
  imE (pe_cmpR ho ha hb hm) fun _ _ _ q => td_op q
/-- a value as a test: True or False -/
def aTest (t : AT) : AB := fun δ r P => t δ r fun d r1 => match d with | .bl b => P b r1 | _ => False
theorem tdb_test {K : PySem.W.Frag} {t : AT} {t0 : TE} {σ : L2.St} {H : Hp} {Q : Bool → Hp → Prop} (im : ∀ Q, TD K t σ H Q → t0 σ H Q) (q : TDB K (aTest t) σ H Q) : t0 σ H fun x H' => ∃ k, x = .bl k ∧ Q k H' := by
  obtain ⟨δ, r, P, ok, h, k⟩ := q
  refine im _ (td_bind ok h fun d r1 v H1 h1 o1 k1 i1 => ?_)
  cases i1 with
  | bl b => exact ⟨b, rfl, k b r1 H1 h1 o1 k1⟩
  | _ => exact h1.elim
theorem b_cmp {op : CmpOp} {o : O2} (ho : OpR X (compareOp op) (rD X.K o)) (ha : PD X a ta) (hb : PD X b tb) (hm : behindInMarks op b = false := by first | exact nomark _ | with_unfolding_all rfl) : PDB X (.Compare a [op] [b] pos) (aTest (aOp o ta tb)) :=
  imT (pt_cmpR ho ha hb hm) fun _ _ _ q => tdb_test (fun _ q => td_op q) q
theorem b_val (ha : PD X a ta) (he : ∀ whole, isTrue a X.env whole = (do let v ← whole; standAt a.pos; holding [v] (truthy v)) := by intro _; rfl) : PDB X a (aTest ta) :=
  imT (pt_val ha he) fun _ _ _ q => tdb_test (fun _ q => q) q
/-- a value as a test: its truth -/
def truD : D → Option Bool
  | .non => some false | .bl b => some b | .int i => some (i != 0) | .str x => some ((x.length : Int) != 0) | .lst xs => some (!xs.isEmpty) | .tup xs => some (!xs.isEmpty) | .adr _ => none
def aTru (t : AT) : AB := fun δ r P => t δ r fun d r1 => match truD d with | some b => P b r1 | none => False
theorem isEmpty_all {K : PySem.W.Frag} {N : Addr → Prop} {H : Hp} {xs : List V} {ds : List D} (h : IsAll K N H xs ds) : xs.isEmpty = ds.isEmpty := by cases h <;> rfl
theorem b_tru (ha : PD X a ta) (he : ∀ whole, isTrue a X.env whole = (do let v ← whole; standAt a.pos; holding [v] (truthy v)) := by intro _; rfl) : PDB X a (aTru ta) :=
  imT (pt_truth ha he) fun σ H Q q => by
    obtain ⟨δ, r, P, ok, h, k⟩ := q
    refine td_bind ok h fun d r1 v H1 h1 o1 k1 i1 => ?_
    cases i1 with
    | non => exact ⟨false, rfl, k _ r1 H1 h1 o1 k1⟩
    | bl b => exact ⟨b, rfl, k _ r1 H1 h1 o1 k1⟩
    | int i => exact ⟨i != 0, rfl, k _ r1 H1 h1 o1 k1⟩
    | str s => exact ⟨_, ⟨Nat.le_trans s.2 (by decide), rfl⟩, k _ r1 H1 h1 o1 k1⟩
    | adr a => exact h1.elim
    | lst n s i => exact ⟨_, Or.inl ⟨_, SqL.of s, rfl⟩, k _ r1 H1 (by rw [isEmpty_all i]; exact h1) o1 k1⟩
    | tup s i => exact ⟨_, Or.inr (Or.inl ⟨_, s, rfl⟩), k _ r1 H1 (by rw [isEmpty_all i]; exact h1) o1 k1⟩

/-! ### the operations -/
def oAdd : O2 := fun x y k => match x, y with
  | .int i, .int j => k (.int (i + j))
  | .str i, .str j => small (i.length + j.length) ∧ k (.str (i ++ j))
  | .lst i, .lst j => small (i.length + j.length) ∧ k (.lst (i ++ j))
  | .tup i, .tup j => small (i.length + j.length) ∧ k (.tup (i ++ j))
  | _, _ => False
theorem sok_append {i j : Str} (hi : sok i) (hj : sok j) (h : small (i.length + j.length)) : sok (i ++ j) := by
  obtain ⟨a, b⟩ := hi
  obtain ⟨c, d⟩ := hj
  refine ⟨?_, ?_⟩
  · show (i.cps ++ j.cps).all _ = true
    rw [Array.all_append]
    exact Bool.and_eq_true_iff.mpr ⟨a, c⟩
  · show (i.cps ++ j.cps).size ≤ _
    rw [Array.size_append]
    exact h
theorem all_nil {K : PySem.W.Frag} {N : Addr → Prop} {H : Hp} {xs : List V} {ds : List D} (h : IsAll K N H xs ds) : xs = [] ↔ ds = [] := by cases h <;> simp
theorem p_add : OpR X (binaryOp .Add) (rD X.K oAdd) := by
  rintro pins s σ H x y v u Q I rx ry ⟨r, d1, d2, P, hr, i1, i2, ho, k⟩
  cases i1 <;> cases i2 <;> try exact ho.elim
  · exact op_add pins s σ H _ _ v u Q I rx ry ⟨_, _, rfl, rfl, k _ _ H ho (Ext.refl H) (.int _)⟩
  · rename_i s1 _ s2
    exact op_add_str pins s σ H _ _ v u Q I rx ry ⟨_, _, rfl, rfl, ho.1.sz, k _ _ H ho.2 (Ext.refl H) (.str (sok_append s1 s2 ho.1))⟩
  · rename_i n1 h1 a1 _ _ _ n2 h2 a2
    exact op_cat pins s σ H _ _ v u Q I rx ry ⟨_, _, _, _, rfl, rfl, h1, h2, by rw [a1.length, a2.length]; exact ho.1.sz, fun p hp => k _ _ _ ho.2 (Ext.new hp) (new_lst hr hp (a1.append a2))⟩
  · rename_i h1 a1 _ _ _ h2 a2
    refine op_catA pins s σ H _ _ v u Q I rx ry ⟨_, _, _, _, rfl, rfl, h1, h2, by rw [a1.length, a2.length]; exact ho.1.sz, fun z => ?_, fun _ z => ?_, fun _ z p hp => k _ _ _ ho.2 (Ext.new hp) (new_tup hp (a1.append a2))⟩
    · have e := (all_nil a1).mp z
      subst e
      exact k _ _ H ho.2 (Ext.refl H) (.tup h2 a2)
    · have e := (all_nil a2).mp z
      subst e
      have q := ho.2
      rw [List.append_nil] at q
      exact k _ _ H q (Ext.refl H) (.tup h1 a1)
def oSub : O2 := fun x y k => match x, y with | .int i, .int j => k (.int (i - j)) | _, _ => False
theorem p_sub : OpR X (binaryOp .Sub) (rD X.K oSub) := by
  rintro pins s σ H x y v u Q I rx ry ⟨r, d1, d2, P, hr, i1, i2, ho, k⟩
  cases i1 <;> cases i2 <;> try exact ho.elim
  exact op_sub pins s σ H _ _ v u Q I rx ry ⟨_, _, rfl, rfl, k _ _ H ho (Ext.refl H) (.int _)⟩
def oMul : O2 := fun x y k => match x, y with | .int i, .int j => CMul i j ∧ k (.int (i * j)) | _, _ => False
theorem p_mul : OpR X (binaryOp .Mult) (rD X.K oMul) := by
  rintro pins s σ H x y v u Q I rx ry ⟨r, d1, d2, P, hr, i1, i2, ho, k⟩
  cases i1 <;> cases i2 <;> try exact ho.elim
  exact op_mul pins s σ H _ _ v u Q I rx ry ⟨_, _, rfl, rfl, ho.1, k _ _ H ho.2 (Ext.refl H) (.int _)⟩
def oMod : O2 := fun x y k => match x, y with | .int i, .int j => 0 < j ∧ k (.int (i % j)) | _, _ => False
theorem p_mod : OpR X (binaryOp .Mod) (rD X.K oMod) := by
  rintro pins s σ H x y v u Q I rx ry ⟨r, d1, d2, P, hr, i1, i2, ho, k⟩
  cases i1 <;> cases i2 <;> try exact ho.elim
  exact op_mod pins s σ H _ _ v u Q I rx ry ⟨_, _, rfl, rfl, ho.1, k _ _ H ho.2 (Ext.refl H) (.int _)⟩
def oDiv : O2 := fun x y k => match x, y with | .int i, .int j => CDivW i j ∧ k (.int (i / j)) | _, _ => False
theorem p_div : OpR X (binaryOp .FloorDiv) (rD X.K oDiv) := by
  rintro pins s σ H x y v u Q I rx ry ⟨r, d1, d2, P, hr, i1, i2, ho, k⟩
  cases i1 <;> cases i2 <;> try exact ho.elim
  exact op_fdivW pins s σ H _ _ v u Q I rx ry ⟨_, _, rfl, rfl, ho.1, k _ _ H ho.2 (Ext.refl H) (.int _)⟩
def oPow : O2 := fun x y k => match x, y with | .int i, .int j => CPow i j ∧ k (.int (i ^ j.toNat)) | _, _ => False
theorem p_pow : OpR X (binaryOp .Pow) (rD X.K oPow) := by
  rintro pins s σ H x y v u Q I rx ry ⟨r, d1, d2, P, hr, i1, i2, ho, k⟩
  cases i1 <;> cases i2 <;> try exact ho.elim
  exact op_pow pins s σ H _ _ v u Q I rx ry ⟨_, _, rfl, rfl, ho.1, k _ _ H ho.2 (Ext.refl H) (.int _)⟩
def oCmp (f : Int → Int → Bool) (g : Str → Str → Bool) : O2 := fun x y k => match x, y with | .int i, .int j => k (.bl (f i j)) | .str i, .str j => k (.bl (g i j)) | _, _ => False
abbrev oLt : O2 := oCmp (fun i j => decide (i < j)) (fun i j => decide (i.cps.toList < j.cps.toList))
abbrev oLe : O2 := oCmp (fun i j => decide (i ≤ j)) (fun i j => !decide (j.cps.toList < i.cps.toList))
abbrev oGt : O2 := oCmp (fun i j => decide (j < i)) (fun i j => decide (j.cps.toList < i.cps.toList))
abbrev oGe : O2 := oCmp (fun i j => decide (j ≤ i)) (fun i j => !decide (i.cps.toList < j.cps.toList))
theorem p_lt : OpR X (compareOp .Lt) (rD X.K oLt) := by
  rintro pins s σ H x y v u Q I rx ry ⟨r, d1, d2, P, hr, i1, i2, ho, k⟩
  cases i1 <;> cases i2 <;> try exact ho.elim
  · exact op_lt pins s σ H _ _ v u Q I rx ry ⟨_, _, rfl, rfl, k _ _ H ho (Ext.refl H) (.bl _)⟩
  · exact op_lt_str pins s σ H _ _ v u Q I rx ry ⟨_, _, rfl, rfl, k _ _ H ho (Ext.refl H) (.bl _)⟩
theorem p_le : OpR X (compareOp .LtE) (rD X.K oLe) := by
  rintro pins s σ H x y v u Q I rx ry ⟨r, d1, d2, P, hr, i1, i2, ho, k⟩
  cases i1 <;> cases i2 <;> try exact ho.elim
  · exact op_le pins s σ H _ _ v u Q I rx ry ⟨_, _, rfl, rfl, k _ _ H ho (Ext.refl H) (.bl _)⟩
  · exact op_le_str pins s σ H _ _ v u Q I rx ry ⟨_, _, rfl, rfl, k _ _ H ho (Ext.refl H) (.bl _)⟩
theorem p_gt : OpR X (compareOp .Gt) (rD X.K oGt) := by
  rintro pins s σ H x y v u Q I rx ry ⟨r, d1, d2, P, hr, i1, i2, ho, k⟩
  cases i1 <;> cases i2 <;> try exact ho.elim
  · exact op_gt pins s σ H _ _ v u Q I rx ry ⟨_, _, rfl, rfl, k _ _ H ho (Ext.refl H) (.bl _)⟩
  · exact op_gt_str pins s σ H _ _ v u Q I rx ry ⟨_, _, rfl, rfl, k _ _ H ho (Ext.refl H) (.bl _)⟩
theorem p_ge : OpR X (compareOp .GtE) (rD X.K oGe) := by
  rintro pins s σ H x y v u Q I rx ry ⟨r, d1, d2, P, hr, i1, i2, ho, k⟩
  cases i1 <;> cases i2 <;> try exact ho.elim
  · exact op_ge pins s σ H _ _ v u Q I rx ry ⟨_, _, rfl, rfl, k _ _ H ho (Ext.refl H) (.bl _)⟩
  · exact op_ge_str pins s σ H _ _ v u Q I rx ry ⟨_, _, rfl, rfl, k _ _ H ho (Ext.refl H) (.bl _)⟩
def isNonD : D → Bool | .non => true | _ => false
def oIs : O2 := fun x y k => match y with | .non => k (.bl (isNonD x)) | _ => False
def oNs : O2 := fun x y k => match y with | .non => k (.bl (!isNonD x)) | _ => False
theorem dec_non {K : PySem.W.Frag} {N : Addr → Prop} {H : Hp} {v : V} {d : D} (h : Is K N H v d) : decide (v = V.non) = isNonD d := by cases h <;> rfl
theorem p_is : OpR X (compareOp .Is) (rD X.K oIs) := by
  rintro pins s σ H x y v u Q I rx ry ⟨r, d1, d2, P, hr, i1, i2, ho, k⟩
  cases i2 <;> try exact ho.elim
  exact op_isN pins s σ H _ _ v u Q I rx ry ⟨rfl, by rw [dec_non i1]; exact k _ _ H ho (Ext.refl H) (.bl _)⟩
theorem p_ns : OpR X (compareOp .IsNot) (rD X.K oNs) := by
  rintro pins s σ H x y v u Q I rx ry ⟨r, d1, d2, P, hr, i1, i2, ho, k⟩
  cases i2 <;> try exact ho.elim
  exact op_notN pins s σ H _ _ v u Q I rx ry ⟨rfl, by rw [dec_non i1]; exact k _ _ H ho (Ext.refl H) (.bl _)⟩

/-! ### == of data -/
mutual
def py : D → PyData
  | .non => .none | .bl b => .bool b | .int i => .int i | .str x => .str x | .adr _ => .dict [] | .lst ds => .list (pys ds) | .tup ds => .tuple (pys ds)
def pys : List D → List PyData
  | [] => []
  | d :: ds => py d :: pys ds
end
mutual
def dep : D → Nat
  | .adr _ => 1000 | .lst ds => deps ds + 1 | .tup ds => deps ds + 1 | _ => 0
def deps : List D → Nat
  | [] => 0
  | d :: ds => max (dep d) (deps ds)
end
mutual
theorem dep_py {K : PySem.W.Frag} {N : Addr → Prop} {H : Hp} : ∀ (d : D) (v : V), Is K N H v d → dep d ≤ 64 → Dp K H v (py d) ∧ (py d).canLay0 = true ∧ (py d).depth ≤ dep d
  | .non, _, h, _ => by cases h; exact ⟨.non, rfl, by simp [py, PyData.depth]⟩
  | .bl b, _, h, _ => by cases h; exact ⟨.bl b, rfl, by simp [py, PyData.depth]⟩
  | .int i, _, h, _ => by cases h; exact ⟨.int i, rfl, by simp [py, PyData.depth]⟩
  | .str x, _, h, _ => by cases h with | str o => exact ⟨.str x, by simp only [py, PyData.canLay0]; exact o.1, by simp [py, PyData.depth]⟩
  | .adr a, _, h, l => by simp [dep] at l
  | .lst ds, _, h, l => by
    cases h with
    | lst n s i =>
      have l' : deps ds ≤ 64 := by simp only [dep] at l; omega
      obtain ⟨a, b, c⟩ := deps_py ds _ i l'
      exact ⟨by simp only [py]; exact .lst (SqL.of s) a, by simp only [py, PyData.canLay0]; exact b, by simp only [py, PyData.depth, dep]; omega⟩
  | .tup ds, _, h, l => by
    cases h with
    | tup s i =>
      have l' : deps ds ≤ 64 := by simp only [dep] at l; omega
      obtain ⟨a, b, c⟩ := deps_py ds _ i l'
      exact ⟨by simp only [py]; exact .tup s a, by simp only [py, PyData.canLay0]; exact b, by simp only [py, PyData.depth, dep]; omega⟩
theorem deps_py {K : PySem.W.Frag} {N : Addr → Prop} {H : Hp} : ∀ (ds : List D) (vs : List V), IsAll K N H vs ds → deps ds ≤ 64 → DpAll K H vs (pys ds) ∧ PyData.canLayAll0 (pys ds) = true ∧ PyData.depthAll (pys ds) ≤ deps ds
  | [], _, h, _ => by cases h; exact ⟨by simp only [pys]; exact .nil, rfl, by simp [pys, PyData.depthAll]⟩
  | d :: ds, _, h, l => by
    cases h with
    | cons h1 h2 =>
      have l1 : dep d ≤ 64 := by simp only [deps] at l; omega
      have l2 : deps ds ≤ 64 := by simp only [deps] at l; omega
      obtain ⟨a, b, c⟩ := dep_py d _ h1 l1
      obtain ⟨a', b', c'⟩ := deps_py ds _ h2 l2
      exact ⟨by simp only [pys]; exact .cons a a', by simp only [pys, PyData.canLayAll0]; rw [b, b']; rfl, by simp only [pys, PyData.depthAll, deps]; omega⟩
end
theorem shaped_py {K : PySem.W.Frag} {N : Addr → Prop} {H : Hp} {d : D} {v : V} (h : Is K N H v d) (l : dep d ≤ 64) : Dp K H v (py d) ∧ SeqAt.shaped (py d) = true := by
  obtain ⟨a, b, c⟩ := dep_py d v h l
  exact ⟨a, by unfold SeqAt.shaped; rw [b]; exact decide_eq_true (by omega)⟩
def eqD (a b : D) : Bool := PyData.eqv (py a) (py b)
def oEq : O2 := fun x y k => dep x ≤ 64 ∧ dep y ≤ 64 ∧ k (.bl (eqD x y))
def oNe : O2 := fun x y k => dep x ≤ 64 ∧ dep y ≤ 64 ∧ k (.bl (!eqD x y))
theorem p_eq (hu : X.A.units + 64 < cLine) : OpR X (compareOp .Eq) (rD X.K oEq) := by
  rintro pins s σ H x y v u Q I rx ry ⟨r, d1, d2, P, hr, i1, i2, ho, k⟩
  obtain ⟨a1, b1⟩ := shaped_py i1 ho.1
  obtain ⟨a2, b2⟩ := shaped_py i2 ho.2.1
  exact op_eqD hu pins s σ H _ _ v u Q I rx ry ⟨_, _, a1, a2, b1, b2, k _ _ H ho.2.2 (Ext.refl H) (.bl _)⟩
theorem p_ne (hu : X.A.units + 64 < cLine) : OpR X (compareOp .NotEq) (rD X.K oNe) := by
  rintro pins s σ H x y v u Q I rx ry ⟨r, d1, d2, P, hr, i1, i2, ho, k⟩
  obtain ⟨a1, b1⟩ := shaped_py i1 ho.1
  obtain ⟨a2, b2⟩ := shaped_py i2 ho.2.1
  exact op_neD hu pins s σ H _ _ v u Q I rx ry ⟨_, _, a1, a2, b1, b2, k _ _ H ho.2.2 (Ext.refl H) (.bl _)⟩
/-! ### in -/
def flat : D → Bool | .non => true | .bl _ => true | .int _ => true | .str _ => true | _ => false
theorem flat_V {K : PySem.W.Frag} {N : Addr → Prop} {H : Hp} {v : V} {d : D} (h : Is K N H v d) (f : flat d = true) : flatV v = true := by cases h <;> first | rfl | cases f
theorem flat_all {K : PySem.W.Frag} {N : Addr → Prop} {H : Hp} : ∀ {vs : List V} {ds : List D}, IsAll K N H vs ds → ds.all flat = true → vs.all flatV = true
  | _, _, .nil, _ => rfl
  | _, _, .cons h t, f => by
    rw [List.all_cons, Bool.and_eq_true] at f ⊢
    exact ⟨flat_V h f.1, flat_all t f.2⟩
theorem eqV_D {K : PySem.W.Frag} {N : Addr → Prop} {H : Hp} {v w : V} {d e : D} (h : Is K N H v d) (g : Is K N H w e) (f : flat d = true) (f' : flat e = true) : eqV v w = eqD d e := by
  cases h <;> cases g <;> first | rfl | cases f | cases f' | (simp [eqV, eqD, py, PyData.eqv])
theorem any_D {K : PySem.W.Frag} {N : Addr → Prop} {H : Hp} {v : V} {d : D} (h : Is K N H v d) (f : flat d = true) : ∀ {vs : List V} {ds : List D}, IsAll K N H vs ds → ds.all flat = true → inV v vs = ds.any fun z => eqD z d
  | _, _, .nil, _ => rfl
  | _, _, .cons g t, q => by
    rw [List.all_cons, Bool.and_eq_true] at q
    have ih := any_D h f t q.2
    unfold inV at ih ⊢
    rw [List.any_cons, List.any_cons, ih, eqV_D g h q.1 f]
theorem any_pys (d : D) : ∀ ds : List D, ((pys ds).any fun z => PyData.eqv z (py d)) = ds.any fun z => eqD z d
  | [] => rfl
  | e :: ds => by simp only [pys, List.any_cons]; rw [any_pys d ds]; rfl
def memD (d : D) (ds : List D) : Bool := ds.any fun z => eqD z d
def sub1 : Str → Option Nat | ⟨⟨[c]⟩⟩ => some c | _ => none
/-- in: flat things in a tuple or list; anything in a list; one sign in a text -/
def oInP (neg : Bool) : O2 := fun x y k => match y with
  | .lst ds => dep x ≤ 64 ∧ deps ds ≤ 63 ∧ k (.bl (cond neg (!memD x ds) (memD x ds)))
  | .tup ds => flat x = true ∧ ds.all flat = true ∧ k (.bl (cond neg (!memD x ds) (memD x ds)))
  | .str z => match x with
    | .str w => match sub1 w with
      | some c => k (.bl (cond neg (!decide (c ∈ z.cps.toList)) (decide (c ∈ z.cps.toList))))
      | none => k (.bl (cond neg (!(!(Builtin.Str.occurrences z w 0 z.length 1).isEmpty)) (!(Builtin.Str.occurrences z w 0 z.length 1).isEmpty)))
    | _ => False
  | _ => False
structure oIn (neg : Bool) (x y : D) (k : D → Prop) : Prop where
  ex : oInP neg x y k
theorem sub1_some {w : Str} {c : Nat} (h : sub1 w = some c) : w = ⟨#[c]⟩ := by
  obtain ⟨⟨l⟩⟩ := w
  match l, h with
  | [x], h => simp only [sub1] at h; cases h; rfl
theorem p_in (hu : X.A.units + 65 < cLine) : OpR X (compareOp .In) (rD X.K (oIn false)) := by
  rintro pins s σ H x y v u Q I rx ry ⟨r, d1, d2, P, hr, i1, i2, ho, k⟩
  obtain ⟨ho⟩ := ho
  cases i2 <;> try exact ho.elim
  · rename_i z hz
    cases i1 <;> try exact ho.elim
    rename_i w hw
    simp only [oInP] at ho
    split at ho
    · rename_i c hc
      have e := sub1_some hc
      subst e
      exact op_in_sign pins s σ H _ _ v u Q I rx ry ⟨_, _, rfl, rfl, k _ _ H ho (Ext.refl H) (.bl _)⟩
    · exact op_in_str pins s σ H _ _ v u Q I rx ry ⟨_, _, rfl, rfl, k _ _ H ho (Ext.refl H) (.bl _)⟩
  · rename_i n h a
    obtain ⟨a1, b1⟩ := shaped_py i1 ho.1
    obtain ⟨a2, b2⟩ := shaped_py (N := mem r) (.lst n h a) (by simp only [dep]; have := ho.2.1; omega)
    simp only [py] at a2 b2
    refine op_inD hu pins s σ H _ _ v u Q I rx ry ⟨_, _, a1, a2, b1, b2, ?_⟩
    rw [any_pys]
    exact k _ _ H ho.2.2 (Ext.refl H) (.bl _)
  · rename_i h a
    refine op_in_seq pins s σ H _ _ v u Q I rx ry ⟨_, _, rfl, .inr h, flat_V i1 ho.1, flat_all a ho.2.1, ?_⟩
    rw [if_neg Bool.false_ne_true, any_D i1 ho.1 a ho.2.1]
    exact k _ _ H ho.2.2 (Ext.refl H) (.bl _)
theorem p_notIn (hu : X.A.units + 65 < cLine) : OpR X (compareOp .NotIn) (rD X.K (oIn true)) := by
  rintro pins s σ H x y v u Q I rx ry ⟨r, d1, d2, P, hr, i1, i2, ho, k⟩
  obtain ⟨ho⟩ := ho
  cases i2 <;> try exact ho.elim
  · rename_i z hz
    cases i1 <;> try exact ho.elim
    rename_i w hw
    simp only [oInP] at ho
    split at ho
    · rename_i c hc
      have e := sub1_some hc
      subst e
      exact op_notIn_sign pins s σ H _ _ v u Q I rx ry ⟨_, _, rfl, rfl, k _ _ H ho (Ext.refl H) (.bl _)⟩
    · exact op_notin_str pins s σ H _ _ v u Q I rx ry ⟨_, _, rfl, rfl, k _ _ H ho (Ext.refl H) (.bl _)⟩
  · rename_i n h a
    obtain ⟨a1, b1⟩ := shaped_py i1 ho.1
    obtain ⟨a2, b2⟩ := shaped_py (N := mem r) (.lst n h a) (by simp only [dep]; have := ho.2.1; omega)
    simp only [py] at a2 b2
    refine op_notInD hu pins s σ H _ _ v u Q I rx ry ⟨_, _, a1, a2, b1, b2, ?_⟩
    rw [any_pys]
    exact k _ _ H ho.2.2 (Ext.refl H) (.bl _)
  · rename_i h a
    refine op_notIn_seq pins s σ H _ _ v u Q I rx ry ⟨_, _, rfl, .inr h, flat_V i1 ho.1, flat_all a ho.2.1, ?_⟩
    rw [if_pos rfl, any_D i1 ho.1 a ho.2.1]
    exact k _ _ H ho.2.2 (Ext.refl H) (.bl _)
end
end G

namespace G
open PySem PySem.Spec L2
section
variable {X : Cx} {a b c : Expr} {ta tb tc : AT} {pos : Pos}
theorem tdb_bind {K : PySem.W.Frag} {σ : L2.St} {H : Hp} {δ : Dl} {r : Rs} {t : AB} {P : Bool → Rs → Prop} {Q : Bool → Hp → Prop} (o : Ok K r δ σ H) (h : t δ r P) (k : ∀ d r' H', P d r' → Ok K r' δ σ H' → Kp K r H r' H' → Q d H') : TDB K t σ H Q := ⟨δ, r, P, o, h, k⟩

/-! ### and, or, not, if -/
section
variable {K : PySem.W.Frag}
def bAnd (t u : AB) : AB := fun δ r P => t δ r fun b r1 => (b = true → u δ r1 P) ∧ (b = false → P false r1)
def bOr (t u : AB) : AB := fun δ r P => t δ r fun b r1 => (b = true → P true r1) ∧ (b = false → u δ r1 P)
def bNot (t : AB) : AB := fun δ r P => t δ r fun b r1 => P (!b) r1
def aAnd (t u : AT) : AT := fun δ r P => t δ r fun d r1 => match d with | .bl b => (b = true → u δ r1 P) ∧ (b = false → P (.bl false) r1) | _ => False
def aOr (t u : AT) : AT := fun δ r P => t δ r fun d r1 => match d with | .bl b => (b = true → P (.bl true) r1) ∧ (b = false → u δ r1 P) | _ => False
def aNot (t : AT) : AT := fun δ r P => t δ r fun d r1 => match d with | .bl b => P (.bl (!b)) r1 | _ => False
def aIf (t : AB) (u w : AT) : AT := fun δ r P => t δ r fun b r1 => (b = true → u δ r1 P) ∧ (b = false → w δ r1 P)
end
variable {bA bB : AB} {rest : List Expr}
theorem w_and1 (ha : PDB X a bA) : PDW X (.BoolOp .And [a] pos) bA := pw_and1 ha
theorem w_or1 (ha : PDB X a bA) : PDW X (.BoolOp .Or [a] pos) bA := pw_or1 ha
theorem w_and (ha : PDB X a bA) (hb : PDW X (.BoolOp .And (b :: rest) pos) bB) : PDW X (.BoolOp .And (a :: b :: rest) pos) (bAnd bA bB) := imW (pw_and ha hb) fun σ H Q q => by
  obtain ⟨δ, r, P, ok, h, k⟩ := q
  refine tdb_bind ok h fun d r1 H1 h1 o1 k1 => ?_
  cases d with
  | true => exact tdb_bind o1 (h1.1 rfl) fun d r2 H2 h2 o2 k2 => k d r2 H2 h2 o2 (k1.trans k2)
  | false => exact k _ r1 H1 (h1.2 rfl) o1 k1
theorem w_or (ha : PDB X a bA) (hb : PDW X (.BoolOp .Or (b :: rest) pos) bB) : PDW X (.BoolOp .Or (a :: b :: rest) pos) (bOr bA bB) := imW (pw_or ha hb) fun σ H Q q => by
  obtain ⟨δ, r, P, ok, h, k⟩ := q
  refine tdb_bind ok h fun d r1 H1 h1 o1 k1 => ?_
  cases d with
  | false => exact tdb_bind o1 (h1.2 rfl) fun d r2 H2 h2 o2 k2 => k d r2 H2 h2 o2 (k1.trans k2)
  | true => exact k _ r1 H1 (h1.1 rfl) o1 k1
theorem b_w (h : PDW X a bA) : PDB X a bA := PW.pt h
theorem b_not (ha : PDB X a bA) : PDB X (.UnaryOp .Not a pos) (bNot bA) := imT (pt_not ha) fun σ H Q q => by
  obtain ⟨δ, r, P, ok, h, k⟩ := q
  exact tdb_bind ok h fun d r1 H1 h1 o1 k1 => k _ r1 H1 h1 o1 k1
theorem d_one {op} (h : PD X a ta) : PD X (.BoolOp op [a] pos) ta := pe_one h
theorem d_and (ha : PD X a ta) (hb : PD X (.BoolOp .And (b :: rest) pos) tb) : PD X (.BoolOp .And (a :: b :: rest) pos) (aAnd ta tb) := imE (pe_and ha hb) fun σ H Q q => by
  obtain ⟨δ, r, P, ok, h, k⟩ := q
  refine td_bind ok h fun d r1 v H1 h1 o1 k1 i1 => ?_
  cases i1 <;> try exact h1.elim
  rename_i d
  refine ⟨d, rfl, ?_⟩
  cases d with
  | true => exact td_bind o1 (h1.1 rfl) fun d r2 v H2 h2 o2 k2 i2 => k d r2 v H2 h2 o2 (k1.trans k2) i2
  | false => exact k _ r1 _ H1 (h1.2 rfl) o1 k1 (.bl _)
theorem d_or (ha : PD X a ta) (hb : PD X (.BoolOp .Or (b :: rest) pos) tb) : PD X (.BoolOp .Or (a :: b :: rest) pos) (aOr ta tb) := imE (pe_or ha hb) fun σ H Q q => by
  obtain ⟨δ, r, P, ok, h, k⟩ := q
  refine td_bind ok h fun d r1 v H1 h1 o1 k1 i1 => ?_
  cases i1 <;> try exact h1.elim
  rename_i d
  refine ⟨d, rfl, ?_⟩
  cases d with
  | false => exact td_bind o1 (h1.2 rfl) fun d r2 v H2 h2 o2 k2 i2 => k d r2 v H2 h2 o2 (k1.trans k2) i2
  | true => exact k _ r1 _ H1 (h1.1 rfl) o1 k1 (.bl _)
theorem d_not (ha : PD X a ta) : PD X (.UnaryOp .Not a pos) (aNot ta) := imE (pe_not ha) fun σ H Q q => by
  obtain ⟨δ, r, P, ok, h, k⟩ := q
  refine td_bind ok h fun d r1 v H1 h1 o1 k1 i1 => ?_
  cases i1 <;> try exact h1.elim
  exact ⟨_, rfl, k _ r1 _ H1 h1 o1 k1 (.bl _)⟩
theorem d_if (hc : PDB X c bA) (ha : PD X a ta) (hb : PD X b tb) : PD X (.IfExp c a b pos) (aIf bA ta tb) := imE (pe_ifExp hc ha hb) fun σ H Q q => by
  obtain ⟨δ, r, P, ok, h, k⟩ := q
  refine tdb_bind ok h fun d r1 H1 h1 o1 k1 => ?_
  cases d with
  | true => exact td_bind o1 (h1.1 rfl) fun d r2 v H2 h2 o2 k2 i2 => k d r2 v H2 h2 o2 (k1.trans k2) i2
  | false => exact td_bind o1 (h1.2 rfl) fun d r2 v H2 h2 o2 k2 i2 => k d r2 v H2 h2 o2 (k1.trans k2) i2
def oNeg (x : D) (k : D → Prop) : Prop := match x with | .int i => k (.int (-i)) | _ => False
def aNeg (t : AT) : AT := fun δ r P => t δ r fun d r1 => oNeg d fun d => P d r1
theorem d_neg (ha : PD X a ta) : PD X (.UnaryOp .USub a pos) (aNeg ta) := imE (pe_un un_neg ha) fun σ H Q q => by
  obtain ⟨δ, r, P, ok, h, k⟩ := q
  refine td_bind ok h fun d r1 v H1 h1 o1 k1 i1 => ?_
  cases i1 <;> try exact h1.elim
  exact ⟨_, rfl, k _ r1 _ H1 h1 o1 k1 (.int _)⟩
/-- a < b <= c -/
def aChain (o o' : O2) (ta tb tc : AT) : AT := fun δ r P => ta δ r fun d1 r1 => tb δ r1 fun d2 r2 => o d1 d2 fun d => match d with
  | .bl b => (b = true → tc δ r2 fun d3 r3 => o' d2 d3 fun d => P d r3) ∧ (b = false → P (.bl false) r2)
  | _ => False
theorem td_chain {K : PySem.W.Frag} {o o' : O2} {ta tb tc : AT} {σ : L2.St} {H : Hp} {Q : VK} (q : TD K (aChain o o' ta tb tc) σ H Q) : tChain (rD K o) (rD K o') (TD K ta) (TD K tb) (TD K tc) σ H Q := by
  obtain ⟨δ, r, P, ok, h, k⟩ := q
  refine td_bind ok h fun d1 r1 v1 H1 h1 o1 k1 i1 => td_bind o1 h1 fun d2 r2 v2 H2 h2 o2 k2 i2 => ?_
  refine ⟨r2, d1, d2, _, o2.r, k2 _ _ i1, i2, h2, fun d v H' p e i => ?_⟩
  cases i <;> try exact p.elim
  rename_i d
  refine ⟨d, rfl, ?_⟩
  cases d with
  | true =>
    show TD K tc σ H' _
    refine td_bind (o2.ext e) (p.1 rfl) fun d3 r3 v3 H3 h3 o3 k3 i3 => ?_
    exact ⟨r3, d2, d3, fun d => P d r3, o3.r, k3 _ _ (is_ext e _ _ i2), i3, h3, fun d v H' p e' i => k d r3 v H' p (o3.ext e') ((((k1.trans k2).trans (Kp.ext e)).trans k3).trans (Kp.ext e')) i⟩
  | false => exact k _ r2 _ H' (p.2 rfl) (o2.ext e) ((k1.trans k2).trans (Kp.ext e)) (.bl _)
theorem d_chain {op op' : CmpOp} {o o' : O2} (ho : OpR X (compareOp op) (rD X.K o)) (ho' : OpR X (compareOp op') (rD X.K o')) (ha : PD X a ta) (hb : PD X b tb) (hc : PD X c tc)
    (hm : lastMarks [op, op'] [b, c] = false := by with_unfolding_all rfl) : PD X (.Compare a [op, op'] [b, c] pos) (aChain o o' ta tb tc) := imE (pe_chain ho ho' ha hb hc hm) fun _ _ _ q => td_chain q
theorem b_chain {op op' : CmpOp} {o o' : O2} (ho : OpR X (compareOp op) (rD X.K o)) (ho' : OpR X (compareOp op') (rD X.K o')) (ha : PD X a ta) (hb : PD X b tb) (hc : PD X c tc)
    (hm : lastMarks [op, op'] [b, c] = false := by with_unfolding_all rfl) : PDB X (.Compare a [op, op'] [b, c] pos) (aTest (aChain o o' ta tb tc)) := imT (pt_chain ho ho' ha hb hc hm) fun _ _ _ q => tdb_test (fun _ q => td_chain q) q

/-! ### items, slices -/
def oIxP : O2 := fun x y k => match x, y with
  | .lst ds, .int i => match atI ds i with | some d => k d | none => False
  | .tup ds, .int i => match atI ds i with | some d => k d | none => False
  | .str z, .int i => match atI z.cps.toList i with | some c => k (.str ⟨#[c]⟩) | none => False
  | _, _ => False
structure oIx (x y : D) (k : D → Prop) : Prop where
  ex : oIxP x y k
theorem at_all {K : PySem.W.Frag} {N : Addr → Prop} {H : Hp} {vs : List V} {ds : List D} {i : Int} {d : D} (h : IsAll K N H vs ds) (e : atI ds i = some d) : ∃ v, atI vs i = some v ∧ Is K N H v d := by
  unfold atI at e ⊢
  rw [h.length]
  cases q : ixN ds.length i with
  | none => rw [q] at e; cases e
  | some j =>
    rw [q] at e
    exact h.getD e
theorem sok_sign {z : Str} {i : Int} {c : Nat} (h : sok z) (e : atI z.cps.toList i = some c) : sok ⟨#[c]⟩ := by
  refine ⟨?_, by show 1 ≤ 1000000; decide⟩
  unfold atI at e
  cases q : ixN z.cps.toList.length i with
  | none => rw [q] at e; cases e
  | some j =>
    rw [q] at e
    have hm := List.mem_of_getElem? e
    have h1 : z.cps.all (fun c => decide (c < 0x110000)) = true := h.1
    rw [← Array.all_toList, List.all_eq_true] at h1
    show (#[c] : Array Nat).all _ = true
    simpa using h1 c hm
theorem p_ix : IxR X (rD X.K oIx) := by
  rintro value slice pins s σ H x y v u Q I rx ry ⟨r, d1, d2, P, hr, i1, i2, ho, k⟩ hs
  obtain ⟨ho⟩ := ho
  cases i1 <;> cases i2 <;> try exact ho.elim
  · rename_i z hz i
    simp only [oIxP] at ho
    split at ho
    · rename_i c hc
      exact ix_str value slice pins s σ H _ _ v u Q I rx ry ⟨_, _, _, rfl, rfl, Nat.le_trans hz.2 (by decide), hc, k _ _ H ho (Ext.refl H) (.str (sok_sign hz hc))⟩ hs
    · exact ho.elim
  · rename_i n h a i
    simp only [oIxP] at ho
    split at ho
    · rename_i d hd
      obtain ⟨w, hw, iw⟩ := at_all a hd
      exact ix_list value slice pins s σ H _ _ v u Q I rx ry ⟨_, _, _, _, rfl, rfl, SqL.of h, hw, k _ _ H ho (Ext.refl H) iw⟩ hs
    · exact ho.elim
  · rename_i h a i
    simp only [oIxP] at ho
    split at ho
    · rename_i d hd
      obtain ⟨w, hw, iw⟩ := at_all a hd
      exact ix_tup value slice pins s σ H _ _ v u Q I rx ry ⟨_, _, _, _, rfl, rfl, h, hw, k _ _ H ho (Ext.refl H) iw⟩ hs
    · exact ho.elim
theorem d_ix (ha : PD X a ta) (hb : PD X b tb) (hs : PlainIx b := by exact fun _ _ => rfl) : PD X (.Subscript a b pos) (aOp oIx ta tb) := imE (pe_ix p_ix ha hb hs) fun _ _ _ q => td_op q
abbrev AO := Dl → Rs → (Option Int → Rs → Prop) → Prop
section
variable {K : PySem.W.Frag}
def aNo : AO := fun _ r P => P none r
def aPart (t : AT) : AO := fun δ r P => t δ r fun d r1 => match d with | .int i => P (some i) r1 | _ => False
def TDO (K : PySem.W.Frag) (t : AO) : TO := fun σ H Q => ∃ δ r P, Ok K r δ σ H ∧ t δ r P ∧ ∀ o r' H', P o r' → Ok K r' δ σ H' → Kp K r H r' H' → Q o H'
end
def PDO (X : Cx) (e : Option Expr) (t : AO) : Prop := PO X e (TDO X.K t)
theorem imO {X : Cx} {e : Option Expr} {t t' : TO} (h : PO X e t) (i : ∀ σ H Q, t' σ H Q → t σ H Q) : PO X e t' := ⟨fun pins s σ H Q I q => h.run pins s σ H Q I (i σ H Q q)⟩
theorem o_no : PDO X none aNo := imO po_none fun σ H Q q => by
  obtain ⟨δ, r, P, ok, h, k⟩ := q
  exact k _ r H h ok Kp.refl
theorem o_some (h : PD X a ta) : PDO X (some a) (aPart ta) := imO (po_some h) fun σ H Q q => by
  obtain ⟨δ, r, P, ok, h, k⟩ := q
  refine td_bind ok h fun d r1 v H1 h1 o1 k1 i1 => ?_
  cases i1 <;> try exact h1.elim
  exact ⟨_, rfl, k _ r1 H1 h1 o1 k1⟩
def cutD (xs : List D) (lo hi : Option Int) : List D := (xs.drop (HT.sIx xs.length 0 lo)).take (HT.sIx xs.length xs.length hi - HT.sIx xs.length 0 lo)
/-- x[lo:hi] -/
def oSlP (x : D) (lo hi : Option Int) (k : D → Prop) : Prop := match x with
  | .lst ds => k (.lst (cutD ds lo hi))
  | .tup ds => k (.tup (cutD ds lo hi))
  | .str z => k (.str (cutS z lo hi))
  | _ => False
structure oSl (x : D) (lo hi : Option Int) (k : D → Prop) : Prop where
  ex : oSlP x lo hi k
def aSl (t : AT) (lo hi : AO) : AT := fun δ r P => t δ r fun d r1 => lo δ r1 fun l r2 => hi δ r2 fun u r3 => oSl d l u fun d => P d r3
def rSlD (K : PySem.W.Frag) : V → Option Int → Option Int → Hp → VK → Prop := fun x lo hi H Q => ∃ (r : Rs) (d : D) (P : D → Prop), Rok K r H ∧ Is K (mem r) H x d ∧ oSl d lo hi P ∧ ∀ d v H', P d → Ext H H' → Is K (mem r) H' v d → Q v H'
theorem cut_all {K : PySem.W.Frag} {N : Addr → Prop} {H : Hp} {vs : List V} {ds : List D} (lo hi : Option Int) (h : IsAll K N H vs ds) : IsAll K N H (cutV vs lo hi) (cutD ds lo hi) := by
  unfold cutV cutD
  rw [h.length]
  exact (h.drop _).take _
theorem sok_cut {z : Str} (h : sok z) (lo hi : Option Int) : sok (cutS z lo hi) := by
  refine ⟨?_, ?_⟩
  · have h1 : z.cps.all (fun c => decide (c < 0x110000)) = true := h.1
    rw [← Array.all_toList, List.all_eq_true] at h1
    show (cutS z lo hi).cps.all (fun c => decide (c < 0x110000)) = true
    rw [← Array.all_toList, List.all_eq_true]
    intro c hc
    unfold cutS at hc
    exact h1 c (List.mem_of_mem_drop (List.mem_of_mem_take (by simpa using hc)))
  · have := h.2
    unfold cutS Str.length at *
    simp only [List.size_toArray, List.length_take, List.length_drop, Array.length_toList]
    omega
theorem p_sl : SlR X (rSlD X.K) := by
  rintro pins s σ H x v vl vu lo hi sl Q I rx hs pl pu ⟨r, d, P, hr, i, ho, k⟩
  obtain ⟨ho⟩ := ho
  cases i <;> try exact ho.elim
  · rename_i hz
    exact sl_str pins s σ H _ v vl vu lo hi sl Q I rx hs pl pu ⟨_, rfl, Nat.le_trans hz.2 (by decide), k _ _ H ho (Ext.refl H) (.str (sok_cut hz lo hi))⟩
  · rename_i n h a
    exact sl_list pins s σ H _ v vl vu lo hi sl Q I rx hs pl pu ⟨_, _, rfl, SqL.of h, fun p hp => k _ _ _ ho (Ext.new hp) (new_lst hr hp (cut_all lo hi a))⟩
  · rename_i h a
    refine sl_tupA pins s σ H _ v vl vu lo hi sl Q I rx hs pl pu ⟨_, _, rfl, h, fun z => ?_, fun _ p hp => k _ _ _ ho (Ext.new hp) (new_tup hp (cut_all lo hi a))⟩
    have e : ∀ ds : List D, HT.sIx ds.length 0 lo = 0 ∧ HT.sIx ds.length ds.length hi = ds.length → cutD ds lo hi = ds := fun ds ⟨z1, z2⟩ => by
      unfold cutD
      rw [z1, z2]
      simp
    rw [a.length] at z
    have ho : P (.tup (cutD _ lo hi)) := ho
    rw [e _ z] at ho
    exact k _ _ H ho (Ext.refl H) (.tup h a)
theorem d_sl {lo hi : Option Expr} {tl th : AO} {p2 : Pos} (ha : PD X a ta) (hl : PDO X lo tl) (hh : PDO X hi th) : PD X (.Subscript a (.Slice lo hi none p2) pos) (aSl ta tl th) := imE (pe_slice p_sl ha hl hh) fun σ H Q q => by
  obtain ⟨δ, r, P, ok, h, k⟩ := q
  refine td_bind ok h fun d r1 v H1 h1 o1 k1 i1 => ⟨δ, r1, _, o1, h1, fun l r2 H2 h2 o2 k2 => ⟨δ, r2, _, o2, h2, fun u r3 H3 h3 o3 k3 => ?_⟩⟩
  exact ⟨r3, d, fun d => P d r3, o3.r, k3 _ _ (k2 _ _ i1), h3, fun d v H' p e i => k d r3 v H' p (o3.ext e) (((k1.trans k2).trans k3).trans (Kp.ext e)) i⟩

/-! ### calls of builtins by values -/
abbrev OC := List D → (D → Prop) → Prop
def rC (K : PySem.W.Frag) (o : OC) : List V → Hp → VK → Prop := fun vs H Q => ∃ (r : Rs) (ds : List D) (P : D → Prop), Rok K r H ∧ IsAll K (mem r) H vs ds ∧ o ds P ∧ ∀ d v H', P d → Ext H H' → Is K (mem r) H' v d → Q v H'
def aBlt (o : OC) (l : AL) : AT := fun δ r P => l δ r fun ds r1 => o ds fun d => P d r1
variable {e : Expr} {es : List Expr} {x : Str} {p : Pos} {l : AL} {o : OC} {bid T : String}
theorem tcb {K : PySem.W.Frag} {o : OC} {l : AL} {σ : L2.St} {H : Hp} {Q : VK} (q : TD K (aBlt o l) σ H Q) : tCB (rC K o) (TDL K l) σ H Q := by
  obtain ⟨δ, r, P, ok, h, k⟩ := q
  refine tdl_bind ok h fun ds r1 vs H1 h1 o1 k1 i1 => ⟨r1, ds, fun d => P d r1, o1.r, i1, h1, fun d v H' p e i => k d r1 v H' p (o1.ext e) (k1.trans (Kp.ext e)) i⟩
theorem d_blt (hc : CallR X (.builtin bid) (rC X.K o)) (hg : Gl X x) (hm : X.mg x = none) (ha : PDL X (e :: es) l) (hv : bootBuiltins x = some (.builtin bid) := by decide +kernel) (hn : x ≠ "__name__" := by decide) (hdb : (x == ("__debug__" : Str)) = false := by decide)
    (he : starEach (e :: es) X.env = (false, eval e X.env) :: starEach es X.env := by rfl) (hpl : (backTo pos (starEach es X.env)).any (·.1) = false := by rfl) : PD X (.Call (.Name x p) (e :: es) [] pos) (aBlt o l) :=
  imE (pe_callB hc hg hm hv ha hn hdb he hpl) fun _ _ _ q => tcb q
theorem d_ty (hc : CallR X (.type T) (rC X.K o)) (hg : Gl X x) (hm : X.mg x = none) (ha : PDL X (e :: es) l) (hv : bootBuiltins x = some (.type T) := by decide +kernel) (hn : x ≠ "__name__" := by decide) (hdb : (x == ("__debug__" : Str)) = false := by decide)
    (he : starEach (e :: es) X.env = (false, eval e X.env) :: starEach es X.env := by rfl) (hpl : (backTo pos (starEach es X.env)).any (·.1) = false := by rfl) : PD X (.Call (.Name x p) (e :: es) [] pos) (aBlt o l) :=
  imE (pe_callTy hc hg hm hv ha hn hdb he hpl) fun _ _ _ q => tcb q
def oLen : OC := fun ds k => match ds with
  | [.lst xs] => xs.length ≤ sizeLine → k (.int xs.length) | [.tup xs] => xs.length ≤ sizeLine → k (.int xs.length) | [.str z] => k (.int z.length) | _ => False
theorem c_len : CallR X (.builtin "len") (rC X.K oLen) := by
  rintro pins s σ H vs us Q I rv ⟨r, ds, P, hr, i, ho, k⟩
  cases i with
  | nil => exact ho.elim
  | cons i t =>
    cases t with
    | cons _ _ => cases i <;> exact ho.elim
    | nil =>
      cases i <;> try exact ho.elim
      · rename_i hz
        exact call_len pins s σ H _ us Q I rv ⟨_, _, rfl, ⟨Nat.le_trans hz.2 (by decide), rfl⟩, k _ _ H ho (Ext.refl H) (.int _)⟩
      · rename_i n h a
        obtain ⟨_, _, _, hz⟩ := I.list (SqL.of h)
        exact call_len pins s σ H _ us Q I rv ⟨_, _, rfl, .inl ⟨_, SqL.of h, rfl⟩, by rw [a.length] at hz ⊢; exact k _ _ H (ho hz) (Ext.refl H) (.int _)⟩
      · rename_i h a
        obtain ⟨_, _, _, hz⟩ := I.tuple h
        exact call_len pins s σ H _ us Q I rv ⟨_, _, rfl, .inr ⟨_, h, rfl⟩, by rw [a.length] at hz ⊢; exact k _ _ H (ho hz) (Ext.refl H) (.int _)⟩
def oInt : OC := fun ds k => match ds with | [.int i] => k (.int i) | [.bl b] => k (.int (if b then 1 else 0)) | _ => False
theorem c_int : CallR X (.type "int") (rC X.K oInt) := by
  rintro pins s σ H vs us Q I rv ⟨r, ds, P, hr, i, ho, k⟩
  cases i with
  | nil => exact ho.elim
  | cons i t =>
    cases t with
    | cons _ _ => cases i <;> exact ho.elim
    | nil =>
      cases i <;> try exact ho.elim
      · exact call_int1 pins s σ H _ us Q I rv (.inr ⟨_, rfl, k _ _ H ho (Ext.refl H) (.int _)⟩)
      · exact call_int1 pins s σ H _ us Q I rv (.inl ⟨_, rfl, k _ _ H ho (Ext.refl H) (.int _)⟩)
def oList : OC := fun ds k => match ds with | [.lst xs] => k (.lst xs) | [.tup xs] => k (.lst xs) | _ => False
theorem c_list : CallR X (.type "list") (rC X.K oList) := by
  rintro pins s σ H vs us Q I rv ⟨r, ds, P, hr, i, ho, k⟩
  cases i with
  | nil => exact ho.elim
  | cons i t =>
    cases t with
    | cons _ _ => cases i <;> exact ho.elim
    | nil =>
      cases i <;> try exact ho.elim
      · rename_i n h a
        exact call_list_of pins s σ H _ us Q I rv ⟨_, _, rfl, .inl (SqL.of h), fun p hp => k _ _ _ ho (Ext.new hp) (new_lst hr hp a)⟩
      · rename_i h a
        exact call_list_of pins s σ H _ us Q I rv ⟨_, _, rfl, .inr h, fun p hp => k _ _ _ ho (Ext.new hp) (new_lst hr hp a)⟩
def oTuple : OC := fun ds k => match ds with | [.lst xs] => k (.tup xs) | [.tup xs] => k (.tup xs) | _ => False
theorem c_tuple : CallR X (.type "tuple") (rC X.K oTuple) := by
  rintro pins s σ H vs us Q I rv ⟨r, ds, P, hr, i, ho, k⟩
  cases i with
  | nil => exact ho.elim
  | cons i t =>
    cases t with
    | cons _ _ => cases i <;> exact ho.elim
    | nil =>
      cases i <;> try exact ho.elim
      · rename_i n h a
        exact call_tuple_of pins s σ H _ us Q I rv ⟨_, _, rfl, .inl ⟨SqL.of h, fun p hp => k _ _ _ ho (Ext.new hp) (new_tup hp a)⟩⟩
      · rename_i h a
        exact call_tuple_of pins s σ H _ us Q I rv ⟨_, _, rfl, .inr ⟨h, k _ _ H ho (Ext.refl H) (.tup h a)⟩⟩
def bls : List D → Option (List Bool)
  | [] => some []
  | .bl b :: r => (bls r).map (b :: ·)
  | _ :: _ => none
theorem bls_map : ∀ (bs : List Bool), bls (bs.map .bl) = some bs
  | [] => rfl
  | b :: bs => by simp [bls, bls_map bs]
theorem bls_all {K : PySem.W.Frag} {N : Addr → Prop} {H : Hp} : ∀ {vs : List V} {ds : List D} {bs : List Bool}, IsAll K N H vs ds → bls ds = some bs → vs = bs.map V.bl
  | _, _, _, .nil, e => by cases e; rfl
  | _, d :: ds, bs, .cons i t, e => by
    cases i <;> try (simp [bls] at e; done)
    simp only [bls] at e
    cases q : bls ds with
    | none => rw [q] at e; cases e
    | some cs =>
      rw [q] at e
      cases e
      rw [bls_all t q]
      rfl
def oAllP (f : List Bool → Bool) : OC := fun ds k => match ds with | [.lst xs] => (match bls xs with | some bs => k (.bl (f bs)) | none => False) | _ => False
structure oAll (f : List Bool → Bool) (ds : List D) (k : D → Prop) : Prop where
  ex : oAllP f ds k
theorem c_all (hc : X.calm = true := by rfl) : CallR X (.builtin "all") (rC X.K (oAll fun bs => bs.all id)) := by
  rintro pins s σ H vs us Q I rv ⟨r, ds, P, hr, i, ho, k⟩
  obtain ⟨ho⟩ := ho
  cases i with
  | nil => exact ho.elim
  | cons i t =>
    cases t with
    | cons _ _ => cases i <;> exact ho.elim
    | nil =>
      cases i <;> try exact ho.elim
      rename_i n h a
      simp only [oAllP] at ho
      split at ho
      · rename_i bs hb
        have e := bls_all a hb
        subst e
        exact cr_all hc pins s σ H _ us Q I rv ⟨_, _, rfl, SqL.of h, k _ _ H ho (Ext.refl H) (.bl _)⟩
      · exact ho.elim
theorem c_any (hc : X.calm = true := by rfl) : CallR X (.builtin "any") (rC X.K (oAll fun bs => bs.any id)) := by
  rintro pins s σ H vs us Q I rv ⟨r, ds, P, hr, i, ho, k⟩
  obtain ⟨ho⟩ := ho
  cases i with
  | nil => exact ho.elim
  | cons i t =>
    cases t with
    | cons _ _ => cases i <;> exact ho.elim
    | nil =>
      cases i <;> try exact ho.elim
      rename_i n h a
      simp only [oAllP] at ho
      split at ho
      · rename_i bs hb
        have e := bls_all a hb
        subst e
        exact cr_any hc pins s σ H _ us Q I rv ⟨_, _, rfl, SqL.of h, k _ _ H ho (Ext.refl H) (.bl _)⟩
      · exact ho.elim
/-! ### isinstance -/
def tyD : D → String
  | .non => "NoneType" | .bl _ => "bool" | .int _ => "int" | .str _ => "str" | .lst _ => "list" | .tup _ => "tuple" | .adr _ => ""
def nad : D → Bool | .adr _ => false | _ => true
theorem tyX {K : PySem.W.Frag} {N : Addr → Prop} {H : Hp} {v : V} {d : D} (h : Is K N H v d) (n : nad d = true) : TyX K H v (.type (tyD d)) := by
  cases h with
  | non => exact .base .non
  | bl b => exact .base (.bl b)
  | int i => exact .base (.int i)
  | str _ => exact .base (.str _)
  | adr a => cases n
  | lst _ h _ => exact .base (.lst h)
  | tup h _ =>
    rcases h with (h | ⟨o, h⟩) | ⟨o, its, k, h1, h2, _⟩
    · exact .base (.tup h)
    · exact .fTuple h
    · exact .kTuple h1 h2
inductive Ty5 : String → Prop | str : Ty5 "str" | int : Ty5 "int" | bool : Ty5 "bool" | list : Ty5 "list" | tuple : Ty5 "tuple"
def tyB (T n : String) : Bool := T == n || (T == "int" && n == "bool")
def isTy (T : String) (d : D) : Bool := tyB T (tyD d)
def ks6 : List String := ["NoneType", "bool", "int", "str", "list", "tuple"]
def ks5 : List String := ["str", "int", "bool", "list", "tuple"]
theorem kk6 : (ks6.all fun n => ks5.all fun T => decide (kitB n T = some (tyB T n))) = true := by decide +kernel
theorem kk {n T : String} (h : n ∈ ks6) (g : T ∈ ks5) : kitB n T = some (tyB T n) := by
  have q := List.all_eq_true.mp (List.all_eq_true.mp kk6 n h) T g
  exact of_decide_eq_true q
theorem kit5 {K : PySem.W.Frag} {T : String} (t : Ty5 T) (d : D) (n : nad d = true) : PySem.W.kitOne K (.type (tyD d)) (.type T) = some (isTy T d) := by
  refine kit_ty (kk ?_ ?_)
  · cases d <;> first | (cases n; done) | simp [tyD, ks6]
  · cases t <;> simp [ks5]
/-- isinstance(x, T) -/
def aIsi (T : String) (t : AT) : AT := fun δ r P => t δ r fun d r1 => match d with | .adr _ => False | d => P (.bl (isTy T d)) r1
theorem d_isi {q : Pos} {y : Str} (ht : Ty5 T) (hg : Gl X "isinstance") (hm : X.mg "isinstance" = none) (ha : PD X a ta) (gy : Gl X y) (my : X.mg y = none) (by_ : bootBuiltins y = some (.type T) := by decide +kernel) (hny : y ≠ "__name__" := by decide) (hdy : (y == ("__debug__" : Str)) = false := by decide)
    (he : starEach [a, .Name y q] X.env = (false, eval a X.env) :: starEach [.Name y q] X.env := by rfl) (hpl : (backTo pos (starEach [.Name y q] X.env)).any (·.1) = false := by rfl) (he2 : starEach [.Name y q] X.env = (false, eval (.Name y q) X.env) :: starEach [] X.env := by rfl) :
    PD X (.Call (.Name "isinstance" p) [a, .Name y q] [] pos) (aIsi T ta) := imE (pe_callB call_isi hg hm (by decide +kernel) (pa_cons ha (pa_cons (pe_bltn (v := .ty T) gy my by_ rfl hny hdy) pa_nil he2) he) (by decide) (by decide) he hpl) fun σ H Q q => by
  obtain ⟨δ, r, P, ok, h, k⟩ := q
  refine td_bind ok h fun d r1 v H1 h1 o1 k1 i1 => ?_
  have n : nad d = true := by cases d <;> first | exact h1.elim | rfl
  have h2 : P (.bl (isTy T d)) r1 := by cases d <;> first | exact h1.elim | exact h1
  exact ⟨v, .ty T, _, _, _, rfl, .ty T, tyX i1 n, kit5 ht d n, k _ r1 _ H1 h2 o1 k1 (.bl _)⟩
/-- isinstance(x, (T, U)) -/
def aIsi2 (T U : String) (t : AT) : AT := fun δ r P => t δ r fun d r1 => match d with | .adr _ => False | d => P (.bl (isTy T d || isTy U d)) r1
theorem d_isi2 {U : String} {q q2 q3 : Pos} {kk} {y z : Str} (ht : Ty5 T) (hu : Ty5 U) (hg : Gl X "isinstance") (hm : X.mg "isinstance" = none) (ha : PD X a ta) (gy : Gl X y) (my : X.mg y = none) (gz : Gl X z) (mz : X.mg z = none) (by_ : bootBuiltins y = some (.type T) := by decide +kernel) (bz : bootBuiltins z = some (.type U) := by decide +kernel)
    (hny : y ≠ "__name__" := by decide) (hdy : (y == ("__debug__" : Str)) = false := by decide) (hnz : z ≠ "__name__" := by decide) (hdz : (z == ("__debug__" : Str)) = false := by decide)
    (he : starEach [a, .Tuple [.Name y q, .Name z q2] kk q3] X.env = (false, eval a X.env) :: starEach [.Tuple [.Name y q, .Name z q2] kk q3] X.env := by rfl) (hpl : (backTo pos (starEach [.Tuple [.Name y q, .Name z q2] kk q3] X.env)).any (·.1) = false := by rfl)
    (he2 : starEach [.Tuple [.Name y q, .Name z q2] kk q3] X.env = (false, eval (.Tuple [.Name y q, .Name z q2] kk q3) X.env) :: starEach [] X.env := by rfl)
    (he3 : starEach [.Name y q, .Name z q2] X.env = (false, eval (.Name y q) X.env) :: starEach [.Name z q2] X.env := by rfl) (he4 : starEach [.Name z q2] X.env = (false, eval (.Name z q2) X.env) :: starEach [] X.env := by rfl) :
    PD X (.Call (.Name "isinstance" p) [a, .Tuple [.Name y q, .Name z q2] kk q3] [] pos) (aIsi2 T U ta) :=
  imE (pe_callB call_isiT hg hm (by decide +kernel) (pa_cons ha (pa_cons (pe_tup (pa_cons (pe_bltn (v := .ty T) gy my by_ rfl hny hdy) (pa_cons (pe_bltn (v := .ty U) gz mz bz rfl hnz hdz) pa_nil he4) he3)) pa_nil he2) he) (by decide) (by decide) he hpl) fun σ H Q q => by
  obtain ⟨δ, r, P, ok, h, k⟩ := q
  refine td_bind ok h fun d r1 v H1 h1 o1 k1 i1 => ⟨(by decide : 2 ≤ sizeLine), fun tp htp => ?_⟩
  have n : nad d = true := by cases d <;> first | exact h1.elim | rfl
  have h2 : P (.bl (isTy T d || isTy U d)) r1 := by cases d <;> first | exact h1.elim | exact h1
  refine ⟨v, tp, _, _, [.type T, .type U], isTy T d || isTy U d, rfl, upd_same, .cons (.ty T) (.cons (.ty U) .nil), tyX (is_ext (Ext.new htp) _ _ i1) n, ?_, k _ r1 _ _ h2 (o1.new htp) (k1.trans (Kp.ext (Ext.new htp))) (.bl _)⟩
  exact kitAny_cons (kit5 ht d n) (fun e => by rw [e, Bool.false_or]; exact kitAny_cons (kit5 hu d n) (fun e => by rw [e]; exact kitAny_nil) (fun e => e)) (fun e => by rw [e]; rfl)
end
end G

namespace G
open PySem PySem.Spec L2

/-- what follows a statement -/
structure An where
  nx : Dl → Rs → Prop
  rt : D → Rs → Prop := fun _ _ => False
  bk : Dl → Rs → Prop := fun _ _ => False
  ct : Dl → Rs → Prop := fun _ _ => False
  xr : Addr → Str → D → Rs → Prop := fun _ _ _ _ => False
abbrev AS := An → Dl → Rs → Prop
structure Fin (K : PySem.W.Frag) (E : XK) (A : An) (r : Rs) (H : Hp) (D : Ends) : Prop where
  nx : ∀ δ' r' σ' H', A.nx δ' r' → Ok K r' δ' σ' H' → Kp K r H r' H' → D.nx σ' H'
  rt : ∀ d r' v H', A.rt d r' → Rok K r' H' → Kp K r H r' H' → Is K (mem r') H' v d → D.rt v H'
  bk : ∀ δ' r' σ' H', A.bk δ' r' → Ok K r' δ' σ' H' → Kp K r H r' H' → D.bk σ' H'
  ct : ∀ δ' r' σ' H', A.ct δ' r' → Ok K r' δ' σ' H' → Kp K r H r' H' → D.ct σ' H'
  xr : ∀ C f d r' a v H', A.xr C f d r' → Rok K r' H' → Kp K r H r' H' → H' a = some (.xd [(f, v)]) → Is K (mem r') H' v d → E (.ref C) (some a) H'
theorem Fin.step {K : PySem.W.Frag} {E : XK} {A : An} {r r1 : Rs} {H H1 : Hp} {D : Ends} (f : Fin K E A r H D) (k : Kp K r H r1 H1) : Fin K E A r1 H1 D :=
  ⟨fun δ r' σ H' a o q => f.nx δ r' σ H' a o (k.trans q), fun d r' v H' a o q i => f.rt d r' v H' a o (k.trans q) i, fun δ r' σ H' a o q => f.bk δ r' σ H' a o (k.trans q), fun δ r' σ H' a o q => f.ct δ r' σ H' a o (k.trans q),
    fun C g d r' a v H' x o q e i => f.xr C g d r' a v H' x o (k.trans q) e i⟩
def TSD (K : PySem.W.Frag) (E : XK) (t : AS) : TS := fun D σ H => ∃ δ r A, Ok K r δ σ H ∧ t A δ r ∧ Fin K E A r H D
def PSD (X : Cx) (E : XK) (st : Stmt) (t : AS) : Prop := PS X st (TSD X.K E t)
def PBD (X : Cx) (E : XK) (st : List Stmt) (t : AS) : Prop := PSs X st (TSD X.K E t)
section
variable {K : PySem.W.Frag}
def sNext : AS := fun A δ r => A.nx δ r
def sSeq (t u : AS) : AS := fun A δ r => t { A with nx := fun δ' r' => u A δ' r' } δ r
def sExpr (t : AT) : AS := fun A δ r => t δ r fun _ r1 => A.nx δ r1
def sRet (t : AT) : AS := fun A δ r => t δ r A.rt
def sRetN : AS := fun A _ r => A.rt .non r
def sBreak : AS := fun A δ r => A.bk δ r
def sCont : AS := fun A δ r => A.ct δ r
def sIf (c : AB) (t u : AS) : AS := fun A δ r => c δ r fun b r1 => (b = true → t A δ r1) ∧ (b = false → u A δ r1)
def sAsg (i : Nat) (t : AT) : AS := fun A δ r => t δ r fun d r1 => A.nx (δ.set i (some d)) r1
def setAll : Dl → List Nat → List D → Dl
  | δ, i :: is, d :: ds => setAll (δ.set i (some d)) is ds
  | δ, _, _ => δ
def sTup (is : List Nat) (t : AT) : AS := fun A δ r => t δ r fun d r1 => match d with | .tup ds => ds.length = is.length ∧ A.nx (setAll δ is ds) r1 | _ => False
def sAug (i : Nat) (o : O2) (t : AT) : AS := fun A δ r => match lk δ i with | some d0 => t δ r fun d r1 => o d0 d fun d2 => A.nx (δ.set i (some d2)) r1 | none => False
end
section
variable {X : Cx} {E : XK} {st : Stmt} {rest : List Stmt} {t u : AS} {e c : Expr} {te : AT} {tc : AB} {pos : Pos}
theorem ss_nil : PBD X E [] sNext := imSs pss_nil fun D σ H ⟨δ, r, A, o, h, f⟩ => f.nx _ _ _ _ h o Kp.refl
theorem ss_one (h : PSD X E st t) : PBD X E [st] t := pss_one h
theorem ss_cons (h1 : PSD X E st t) (h2 : PBD X E rest u) : PBD X E (st :: rest) (sSeq t u) := imSs (pss_cons h1 h2) fun D σ H ⟨δ, r, A, o, h, f⟩ =>
  ⟨δ, r, _, o, h, ⟨fun δ' r' σ' H' a o' k => ⟨δ', r', A, o', a, f.step k⟩, f.rt, f.bk, f.ct, f.xr⟩⟩
theorem s_pass : PSD X E (.Pass pos) sNext := imS ps_pass fun D σ H ⟨δ, r, A, o, h, f⟩ => f.nx _ _ _ _ h o Kp.refl
theorem s_break : PSD X E (.Break pos) sBreak := imS ps_break fun D σ H ⟨δ, r, A, o, h, f⟩ => f.bk _ _ _ _ h o Kp.refl
theorem s_cont : PSD X E (.Continue pos) sCont := imS ps_continue fun D σ H ⟨δ, r, A, o, h, f⟩ => f.ct _ _ _ _ h o Kp.refl
theorem s_doc {x j pos'} : PSD X E (.Expr (.Constant (.str x) j pos) pos') sNext := imS ps_doc fun D σ H ⟨δ, r, A, o, h, f⟩ => f.nx _ _ _ _ h o Kp.refl
theorem s_expr (he : PD X e te) (hs : swapsWith e none pos.line X.env = pure false := by rfl) : PSD X E (.Expr e pos) (sExpr te) := imS (ps_expr he hs) fun D σ H ⟨δ, r, A, o, h, f⟩ =>
  td_bind o h fun d r1 v H1 h1 o1 k1 i1 => f.nx _ _ _ _ h1 o1 k1
theorem s_ret (he : PD X e te) : PSD X E (.Return (some e) pos) (sRet te) := imS (ps_ret he) fun D σ H ⟨δ, r, A, o, h, f⟩ =>
  td_bind o h fun d r1 v H1 h1 o1 k1 i1 => f.rt _ _ _ _ h1 o1.r k1 i1
theorem s_retN : PSD X E (.Return none pos) sRetN := imS ps_retN fun D σ H ⟨δ, r, A, o, h, f⟩ => f.rt _ _ _ _ h o.r Kp.refl .non
theorem s_if {a b : List Stmt} (hc : PDB X c tc) (ha : PBD X E a t) (hb : PBD X E b u) : PSD X E (.If c a b pos) (sIf tc t u) := imS (ps_if hc ha hb) fun D σ H ⟨δ, r, A, o, h, f⟩ =>
  tdb_bind o h fun d r1 H1 h1 o1 k1 => by
    cases d with
    | true => exact ⟨δ, r1, A, o1, h1.1 rfl, f.step k1⟩
    | false => exact ⟨δ, r1, A, o1, h1.2 rfl, f.step k1⟩
theorem s_set {i : Nat} {x : Str} {pos' : Pos} (hN : X.N.Nodup) (he : PD X e te) (hi : X.N[i]? = some x := by rfl) (hx : Loc X.env.scope x := by first | exact Or.inl rfl | exact Or.inr rfl) (hs : swapsWith e (some (.Name x pos')) pos.line X.env = pure false := by rfl)
    (hf : X.fn x = true ∨ X.env.scope.names.lookup x = some .local := by first | exact .inl rfl | exact .inr rfl | assumption) : PSD X E (.Assign [.Name x pos'] e pos) (sAsg i te) := imS (ps_set hN hi hx he hs hf) fun D σ H ⟨δ, r, A, o, h, f⟩ =>
  td_bind o h fun d r1 v H1 h1 o1 k1 i1 => f.nx _ _ _ _ h1 (o1.set i1) k1
def gNames : List Nat → TGs
  | [] => gNil
  | i :: is => gCons (gName i) (gNames is)
theorem names_all {K : PySem.W.Frag} {r : Rs} {H : Hp} {Q : L2.St → Hp → Prop} : ∀ {is : List Nat} {vs : List V} {ds : List D} {δ : Dl} {σ : L2.St}, Ok K r δ σ H → IsAll K (mem r) H vs ds → ds.length = is.length → (∀ σ', Ok K r (setAll δ is ds) σ' H → Q σ' H) → gNames is vs σ H Q
  | [], _, _, δ, σ, o, .nil, _, k => ⟨rfl, k σ o⟩
  | [], _, _, δ, σ, o, .cons _ _, l, k => by cases l
  | i :: is, _, _, δ, σ, o, .nil, l, k => by cases l
  | i :: is, _, _, δ, σ, o, .cons h t, l, k => ⟨_, _, rfl, names_all (is := is) (o.set h) t (by simpa using l) k⟩
theorem s_tup {is : List Nat} {ts : List Expr} {kk : Nat} {p2 : Pos} (he : PD X e te) (hg : PGs X ts (gNames is)) (hc : X.calm = true := by rfl) (hn : (assignEach ts X.env).length = is.length := by rfl) (hst : (assignEach ts X.env).findIdx? (·.1) = none := by rfl)
    (hs : swapsWithSole [.Tuple ts kk p2] e pos.line X.env = pure false := by rfl) (hw : swappedStores [.Tuple ts kk p2] e X.env = pure none := by rfl)
    (h1 : (assignEach [.Tuple ts kk p2] X.env).map (·.2) = [assign (.Tuple ts kk p2) X.env] := by rfl) : PSD X E (.Assign [.Tuple ts kk p2] e pos) (sTup is te) :=
  imS (ps_asg he (pg_tup hc hg hn hst) hs hw h1) fun D σ H ⟨δ, r, A, o, h, f⟩ => td_bind o h fun d r1 v H1 h1 o1 k1 i1 => by
    cases i1 with
    | tup s a => exact ⟨_, _, rfl, s, by rw [a.length]; exact h1.1, names_all o1 a h1.1 fun σ' o' => f.nx _ _ _ _ h1.2 o' k1⟩
    | _ => exact h1.elim
theorem pip_of {op : Operator} {o : O2} (h : OpR X (inplaceOp op) (rD X.K o)) : PIp X op (rD X.K o) := fun pins s σ H x y v u Q I rx ry q => h pins s σ H x y v u Q I rx ry q
theorem s_aug {i : Nat} {x : Str} {op : Operator} {o : O2} {pos' : Pos} (hN : X.N.Nodup) (ho : OpR X (inplaceOp op) (rD X.K o)) (he : PD X e te) (hi : X.N[i]? = some x := by rfl) (hx : Loc X.env.scope x := by first | exact Or.inl rfl | exact Or.inr rfl)
    (hf : X.fn x = true ∨ X.env.scope.names.lookup x = some .local := by first | exact .inl rfl | exact .inr rfl | assumption) : PSD X E (.AugAssign (.Name x pos') op e pos) (sAug i o te) := imS (ps_aug hN hi hx he (pip_of ho) hf) fun D σ H ⟨δ, r, A, ok, h, f⟩ => by
  unfold sAug at h
  split at h
  · rename_i d0 hd
    obtain ⟨v, h1, h2⟩ := ok.env i d0 (lk_get hd)
    refine ⟨v, h1, td_bind ok h fun d r1 w H1 h1 o1 k1 i1 => ?_⟩
    exact ⟨r1, d0, d, _, o1.r, k1 _ _ h2, i1, h1, fun d2 v2 H' p e i => f.nx _ _ _ _ p ((o1.ext e).set i) (k1.trans (Kp.ext e))⟩
  · exact h.elim
def oIAdd : O2 := fun x y k => match x, y with | .int i, .int j => k (.int (i + j)) | _, _ => False
theorem p_iadd : OpR X (inplaceOp .Add) (rD X.K oIAdd) := by
  rintro pins s σ H x y v u Q I rx ry ⟨r, d1, d2, P, hr, i1, i2, ho, k⟩
  cases i1 <;> cases i2 <;> try exact ho.elim
  exact iop_add pins s σ H _ _ v u Q I rx ry ⟨_, _, rfl, rfl, k _ _ H ho (Ext.refl H) (.int _)⟩
def oISub : O2 := fun x y k => match x, y with | .int i, .int j => k (.int (i - j)) | _, _ => False
theorem p_isub : OpR X (inplaceOp .Sub) (rD X.K oISub) := by
  rintro pins s σ H x y v u Q I rx ry ⟨r, d1, d2, P, hr, i1, i2, ho, k⟩
  cases i1 <;> cases i2 <;> try exact ho.elim
  exact iop_sub pins s σ H _ _ v u Q I rx ry ⟨_, _, rfl, rfl, k _ _ H ho (Ext.refl H) (.int _)⟩
end

/-! ### what is walked -/
/-- the turns of J yield the data ds, whatever else happens -/
def Walks (K : PySem.W.Frag) (J : It) (ds : List D) (r : Rs) (H : Hp) : Prop := ∀ i r1 H1, Kp K r H r1 H1 → Rok K r1 H1 →
  (i < ds.length → J.go i H1 ∧ ∀ x H2, J.yld i H1 x H2 → Ext H1 H2 ∧ ∃ d, ds[i]? = some d ∧ Is K (mem r1) H2 x d) ∧ (i = ds.length → J.stop i H1)
abbrev AI := Dl → Rs → (List D → Rs → Prop) → Prop
def TDI (K : PySem.W.Frag) (t : AI) : TI := fun σ H R => ∃ δ r P, Ok K r δ σ H ∧ t δ r P ∧ ∀ ds r' J H', P ds r' → Ok K r' δ σ H' → Kp K r H r' H' → Walks K J ds r' H' → R J H'
def PDI (X : Cx) (tg iter : Expr) (t : AI) : Prop := PI X tg iter (TDI X.K t)
theorem imI {X : Cx} {tg e : Expr} {t t' : TI} (h : PI X tg e t) (i : ∀ σ H Q, t' σ H Q → t σ H Q) : PI X tg e t' := ⟨fun pins s σ H Q I q => h.run pins s σ H Q I (i σ H Q q)⟩
section
variable {X : Cx} {tg e : Expr} {te : AT} {pos : Pos}
def iSeqL (t : AT) : AI := fun δ r P => t δ r fun d r1 => match d with | .lst ds => P ds r1 | _ => False
def iSeqT (t : AT) : AI := fun δ r P => t δ r fun d r1 => match d with | .tup ds => P ds r1 | _ => False
theorem walks_l {K : PySem.W.Frag} {r : Rs} {H : Hp} {a : Addr} {ds : List D} (h : Is K (mem r) H (.ref a) (.lst ds)) : Walks K (Itl K a) ds r H := by
  intro i r1 H1 k _
  cases k _ _ h with
  | lst n s al =>
    rename_i xs
    refine ⟨fun hi => ⟨⟨xs, xs[i]'(by rw [al.length]; exact hi), SqL.of s, by simp⟩, ?_⟩, fun hi => ⟨xs, SqL.of s, by rw [al.length, hi] <;> exact Nat.le_refl _⟩⟩
    rintro x H2 ⟨rfl, hx⟩
    obtain ⟨d, h1, h2⟩ := al.get (hx xs (SqL.of s))
    exact ⟨Ext.refl _, d, h1, h2⟩
theorem walks_t {K : PySem.W.Frag} {r : Rs} {H : Hp} {a : Addr} {ds : List D} (h : Is K (mem r) H (.ref a) (.tup ds)) : Walks K (Itt K a) ds r H := by
  intro i r1 H1 k _
  cases k _ _ h with
  | tup s al =>
    rename_i xs
    refine ⟨fun hi => ⟨⟨xs, xs[i]'(by rw [al.length]; exact hi), s, by simp⟩, ?_⟩, fun hi => ⟨xs, s, by rw [al.length, hi] <;> exact Nat.le_refl _⟩⟩
    rintro x H2 ⟨rfl, hx⟩
    obtain ⟨d, h1, h2⟩ := al.get (hx xs s)
    exact ⟨Ext.refl _, d, h1, h2⟩
theorem i_list (h : PD X e te) : PDI X tg e (iSeqL te) := imI (pi_list h) fun σ H Q ⟨δ, r, P, o, q, k⟩ => td_bind o q fun d r1 v H1 h1 o1 k1 i1 => by
  cases i1 with
  | lst n s al => exact ⟨_, rfl, ⟨_, SqL.of s⟩, k _ _ _ _ h1 o1 k1 (walks_l (.lst n s al))⟩
  | _ => exact h1.elim
theorem i_tup (h : PD X e te) : PDI X tg e (iSeqT te) := imI (pi_tup h) fun σ H Q ⟨δ, r, P, o, q, k⟩ => td_bind o q fun d r1 v H1 h1 o1 k1 i1 => by
  cases i1 with
  | tup s al => exact ⟨_, rfl, ⟨_, s⟩, k _ _ _ _ h1 o1 k1 (walks_t (.tup s al))⟩
  | _ => exact h1.elim
def iStrD (t : AT) : AI := fun δ r P => t δ r fun d r1 => match d with | .str z => P (z.cps.toList.map fun c => .str ⟨#[c]⟩) r1 | _ => False
theorem sok_mem {z : Str} {c : Nat} (h : sok z) (e : c ∈ z.cps.toList) : sok ⟨#[c]⟩ := by
  refine ⟨?_, by show 1 ≤ 1000000; decide⟩
  have h1 : z.cps.all (fun c => decide (c < 0x110000)) = true := h.1
  rw [← Array.all_toList, List.all_eq_true] at h1
  show (#[c] : Array Nat).all _ = true
  simpa using h1 c e
theorem i_str (h : PD X e te) : PDI X tg e (iStrD te) := imI (pi_str h) fun σ H Q ⟨δ, r, P, o, q, k⟩ => td_bind o q fun d r1 v H1 h1 o1 k1 i1 => by
  cases i1 with
  | str s =>
    rename_i z
    refine ⟨_, rfl, k _ _ _ _ h1 o1 k1 ?_⟩
    intro i r2 H2 _ _
    refine ⟨fun hi => ⟨(show i < z.cps.size by simpa using hi), ?_⟩, fun hi => ?_⟩
    · rintro x H3 ⟨rfl, c, hc, rfl⟩
      have hm : c ∈ z.cps.toList := by
        have := Array.mem_of_getElem? hc
        simpa using this
      refine ⟨Ext.refl _, .str ⟨#[c]⟩, ?_, .str (sok_mem s hm)⟩
      rw [List.getElem?_map, Array.getElem?_toList, hc]
      rfl
    · show z.cps.size ≤ i
      rw [hi]
      simp
  | _ => exact h1.elim
def iR1 (l : AL) : AI := fun δ r P => l δ r fun ds r1 => match ds with | [.int n] => (-(2 ^ 62) ≤ n ∧ n < 2 ^ 62) ∧ P ((List.range n.toNat).map fun i => .int (i : Nat)) r1 | _ => False
def iR2 (l : AL) : AI := fun δ r P => l δ r fun ds r1 => match ds with | [.int m, .int n] => (-(2 ^ 62) ≤ m ∧ m < 2 ^ 62 ∧ -(2 ^ 62) ≤ n ∧ n < 2 ^ 62) ∧ P ((List.range (n - m).toNat).map fun i => .int (m + (i : Nat))) r1 | _ => False
theorem walks_r {K : PySem.W.Frag} {r : Rs} {H : Hp} {lo : Int} {n : Nat} : Walks K (Itr lo n) ((List.range n).map fun i => .int (lo + (i : Nat))) r H := by
  intro i r1 H1 _ _
  refine ⟨fun hi => ⟨(show i < n by simpa using hi), ?_⟩, fun hi => ?_⟩
  · rintro x H2 ⟨rfl, rfl⟩
    have hi' : i < n := by simpa using hi
    refine ⟨Ext.refl _, .int (lo + i), ?_, .int _⟩
    rw [List.getElem?_map, List.getElem?_range hi']
    rfl
  · show n ≤ i
    rw [hi]
    simp
theorem i_r1 {p : Pos} {l : AL} (hg : Gl X "range") (hm : X.mg "range" = none) (ha : PDL X [e] l) (hs : starEach [e] X.env = [(false, eval e X.env)] := by rfl) : PDI X tg (.Call (.Name "range" p) [e] [] pos) (iR1 l) :=
  imI (pi_range1 hg hm ha hs) fun σ H Q ⟨δ, r, P, o, q, k⟩ => tdl_bind o q fun ds r1 vs H1 h1 o1 k1 i1 => by
    match ds, h1, i1 with
    | [.int n], h1, .cons (.int _) .nil =>
      refine ⟨_, rfl, h1.1.1, h1.1.2, k _ _ _ _ h1.2 o1 k1 ?_⟩
      have w := walks_r (K := X.K) (r := r1) (H := H1) (lo := 0) (n := n.toNat)
      simp only [Int.zero_add] at w
      exact w
theorem i_r2 {e2 : Expr} {p : Pos} {l : AL} (hg : Gl X "range") (hm : X.mg "range" = none) (ha : PDL X [e, e2] l) (hs : starEach [e, e2] X.env = [(false, eval e X.env), (false, eval e2 X.env)] := by rfl) (hs2 : starEach [e2] X.env = [(false, eval e2 X.env)] := by rfl) :
    PDI X tg (.Call (.Name "range" p) [e, e2] [] pos) (iR2 l) :=
  imI (pi_range2 hg hm ha hs hs2) fun σ H Q ⟨δ, r, P, o, q, k⟩ => tdl_bind o q fun ds r1 vs H1 h1 o1 k1 i1 => by
    match ds, h1, i1 with
    | [.int m, .int n], h1, .cons (.int _) (.cons (.int _) .nil) => exact ⟨_, _, rfl, h1.1, k _ _ _ _ h1.2 o1 k1 walks_r⟩
/-! enumerate, zip: of lists -/
def iEn (l : AL) : AI := fun δ r P => l δ r fun ds r1 => match ds with | [.lst xs] => P ((List.range xs.length).map fun i => .tup [.int (i : Nat), xs.getD i .non]) r1 | _ => False
theorem walks_e {K : PySem.W.Frag} {r : Rs} {H : Hp} {a : Addr} {ds : List D} (h : Is K (mem r) H (.ref a) (.lst ds)) : Walks K (Ite K a) ((List.range ds.length).map fun i => .tup [.int (i : Nat), ds.getD i .non]) r H := by
  intro i r1 H1 k _
  cases k _ _ h with
  | lst n s al =>
    rename_i xs
    refine ⟨fun hi => ?_, fun hi => ⟨xs, SqL.of s, by rw [al.length, hi]; simp⟩⟩
    have hi' : i < ds.length := by simpa using hi
    refine ⟨⟨xs, xs[i]'(by rw [al.length]; exact hi'), SqL.of s, by simp⟩, ?_⟩
    rintro x H2 ⟨T, y, rfl, hT, rfl, hy⟩
    obtain ⟨d, h1, h2⟩ := al.get (hy xs (SqL.of s))
    refine ⟨Ext.new hT, .tup [.int (i : Nat), ds.getD i .non], ?_, new_tup hT (.cons (.int _) (.cons ?_ .nil))⟩
    · rw [List.getElem?_map, List.getElem?_range hi']
      rfl
    · rw [List.getD_eq_getElem?_getD, h1]
      exact h2
theorem i_enum {elts : List Expr} {kk : Nat} {p tpos : Pos} {l : AL} (hg : Gl X "enumerate") (hm : X.mg "enumerate" = none) (ha : PDL X [e] l) (hs : starEach [e] X.env = [(false, eval e X.env)] := by rfl) : PDI X (.Tuple elts kk tpos) (.Call (.Name "enumerate" p) [e] [] pos) (iEn l) :=
  imI (pi_enum hg hm ha hs) fun σ H Q ⟨δ, r, P, o, q, k⟩ => tdl_bind o q fun ds r1 vs H1 h1 o1 k1 i1 => by
    match ds, h1, i1 with
    | [.lst xs], h1, .cons (.lst n s al) .nil => exact ⟨_, _, rfl, SqL.of s, k _ _ _ _ h1 o1 k1 (walks_e (.lst n s al))⟩

/-! ### for -/
abbrev AG := D → Dl → (Dl → Prop) → Prop
def gN (i : Nat) : AG := fun d δ Q => Q (δ.set i (some d))
def gT (is : List Nat) : AG := fun d δ Q => match d with | .tup ds => ds.length = is.length ∧ Q (setAll δ is ds) | _ => False
def Agree (js : List Nat) (σ σ' : L2.St) : Prop := σ'.length = σ.length ∧ ∀ k : Nat, k ∉ js → σ'[k]? = σ[k]?
theorem Agree.refl {js : List Nat} {σ : L2.St} : Agree js σ σ := ⟨rfl, fun _ _ => rfl⟩
theorem Agree.trans {js : List Nat} {σ σ1 σ2 : L2.St} (a : Agree js σ σ1) (b : Agree js σ1 σ2) : Agree js σ σ2 := ⟨b.1.trans a.1, fun k h => (b.2 k h).trans (a.2 k h)⟩
theorem Agree.set {js : List Nat} {σ : L2.St} {i : Nat} {x : Option V} (h : i ∈ js) : Agree js σ (σ.set i x) := ⟨List.length_set, fun k hk => List.getElem?_set_ne (fun (e : i = k) => hk (e ▸ h))⟩
theorem names_agree {K : PySem.W.Frag} {r : Rs} {H : Hp} {Q : L2.St → Hp → Prop} {js : List Nat} : ∀ {is : List Nat} {vs : List V} {ds : List D} {δ : Dl} {σ : L2.St}, (∀ i ∈ is, i ∈ js) → Ok K r δ σ H → IsAll K (mem r) H vs ds → ds.length = is.length → (∀ σ', Ok K r (setAll δ is ds) σ' H → Agree js σ σ' → Q σ' H) → gNames is vs σ H Q
  | [], _, _, δ, σ, _, o, .nil, _, k => ⟨rfl, k σ o Agree.refl⟩
  | [], _, _, δ, σ, _, o, .cons _ _, l, k => by cases l
  | i :: is, _, _, δ, σ, _, o, .nil, l, k => by cases l
  | i :: is, _, _, δ, σ, hj, o, .cons h t, l, k => ⟨_, _, rfl, names_agree (is := is) (fun i h => hj i (List.mem_cons_of_mem _ h)) (o.set h) t (by simpa using l) fun σ' o' a => k σ' o' ((Agree.set (hj i List.mem_cons_self)).trans a)⟩
def TDG (K : PySem.W.Frag) (js : List Nat) (g : AG) : TG := fun v σ H Q => ∃ δ r d P, Ok K r δ σ H ∧ Is K (mem r) H v d ∧ g d δ P ∧ ∀ δ' σ', P δ' → Ok K r δ' σ' H → Agree js σ σ' → Q σ' H
def PDG (X : Cx) (target : Expr) (js : List Nat) (g : AG) : Prop := PG X target (TDG X.K js g)
theorem imG {X : Cx} {e : Expr} {t t' : TG} (h : PG X e t) (i : ∀ v σ H Q, t' v σ H Q → t v σ H Q) : PG X e t' := ⟨fun pins s σ H v u Q I rv q => h.run pins s σ H v u Q I rv (i v σ H Q q)⟩
theorem g_name {i : Nat} {x : Str} (hN : X.N.Nodup) (hi : X.N[i]? = some x := by rfl) (hx : Loc X.env.scope x := by first | exact Or.inl rfl | exact Or.inr rfl) (hf : X.fn x = true ∨ X.env.scope.names.lookup x = some .local := by first | exact .inl rfl | exact .inr rfl | assumption) : PDG X (.Name x pos) [i] (gN i) :=
  imG (pg_name hN hi hx hf) fun v σ H Q ⟨δ, r, d, P, o, i, g, k⟩ => k _ _ g (o.set i) (Agree.set List.mem_cons_self)
theorem g_tup {is : List Nat} {ts : List Expr} {kk : Nat} (hg : PGs X ts (gNames is)) (hc : X.calm = true := by rfl) (hn : (assignEach ts X.env).length = is.length := by rfl) (hst : (assignEach ts X.env).findIdx? (·.1) = none := by rfl) : PDG X (.Tuple ts kk pos) is (gT is) :=
  imG (pg_tup hc hg hn hst) fun v σ H Q ⟨δ, r, d, P, o, i, g, k⟩ => by
    cases i with
    | tup s al => exact ⟨_, _, rfl, s, by rw [al.length]; exact g.1, names_agree (fun _ h => h) o al g.1 fun σ' o' a => k _ _ g.2 o' a⟩
    | _ => exact g.elim
theorem pgs_n {i : Nat} {is : List Nat} {x : Str} {ts : List Expr} (hN : X.N.Nodup) (hr : PGs X ts (gNames is)) (hi : X.N[i]? = some x := by rfl) (hx : Loc X.env.scope x := by first | exact Or.inl rfl | exact Or.inr rfl) (hf : X.fn x = true ∨ X.env.scope.names.lookup x = some .local := by first | exact .inl rfl | exact .inr rfl | assumption)
    (hs : (assignEach (.Name x pos :: ts) X.env).map (·.2) = assign (.Name x pos) X.env :: (assignEach ts X.env).map (·.2) := by rfl) : PGs X (.Name x pos :: ts) (gNames (i :: is)) := pgs_cons (pg_name hN hi hx hf) hr hs
def sForK (g : AG) (tb : AS) (A : An) (ds : List D) (δ : Dl) (r1 : Rs) : Prop := ∃ I : Nat → Dl → Rs → Prop, I 0 δ r1 ∧
  (∀ i d δ' r', ds[i]? = some d → I i δ' r' → g d δ' fun δ2 => tb { A with nx := I (i + 1), ct := I (i + 1), bk := A.nx } δ2 r') ∧ ∀ δ' r', I ds.length δ' r' → A.nx δ' r'
def sFor (ti : AI) (g : AG) (tb : AS) : AS := fun A δ r => ti δ r fun ds r1 => sForK g tb A ds δ r1
theorem s_for {E : XK} {body : List Stmt} {js : List Nat} {wi : AI} {g : AG} {tb : AS} (hi : PDI X tg e wi) (hg : PDG X tg js g) (hb : PBD X E body tb) (hp : PassesOwn (model X.prog X.w) X.A X.env X.xe) (hc : X.calm = true := by rfl)
    (hs : ∀ x, foldedSetIterable e X.env x = pure x := by intro _; rfl) : PSD X E (.For tg e body [] pos) (sFor wi g tb) := imS (ps_for hp hc hi hg hb hs) fun D σ H ⟨δ, r, A, o, h, f⟩ =>
  ⟨δ, r, _, o, h, fun ds r1 J H1 ⟨I, h0, hst, hd⟩ o1 k1 w => by
    refine ⟨fun i m σ' H' => m = ds.length - i ∧ i ≤ ds.length ∧ ∃ δ' r', I i δ' r' ∧ Ok X.K r' δ' σ' H' ∧ Kp X.K r1 H1 r' H', ⟨ds.length, by simp, Nat.zero_le _, δ, r1, h0, o1, Kp.refl⟩, ?_⟩
    rintro i m σ' H' ⟨rfl, hi, δ', r', hI, o', k'⟩
    by_cases hlt : i < ds.length
    · obtain ⟨hgo, hy⟩ := (w i r' H' k' o'.r).1 hlt
      refine .inr ⟨hgo, fun σ2 H2 => ∃ δ2 r2, I (i + 1) δ2 r2 ∧ Ok X.K r2 δ2 σ2 H2 ∧ Kp X.K r1 H1 r2 H2, fun σ2 H2 ⟨δ2, r2, q1, q2, q3⟩ => ⟨ds.length - (i + 1), by omega, rfl, hlt, δ2, r2, q1, q2, q3⟩, fun x H2 y => ?_⟩
      obtain ⟨ex, d, hd', ix⟩ := hy x H2 y
      refine ⟨δ', r', d, _, o'.ext ex, ix, hst i d δ' r' hd' hI, fun δ2 σ2 q o2 _ => ⟨δ2, r', _, o2, q, ?_⟩⟩
      have kk := k'.trans (Kp.ext ex)
      have fk := f.step (k1.trans kk)
      exact ⟨fun δ3 r3 σ3 H3 a o3 k3 => ⟨δ3, r3, a, o3, kk.trans k3⟩, fk.rt, fun δ3 r3 σ3 H3 a o3 k3 => fk.nx δ3 r3 σ3 H3 a o3 k3, fun δ3 r3 σ3 H3 a o3 k3 => ⟨δ3, r3, a, o3, kk.trans k3⟩, fk.xr⟩
    · have e : i = ds.length := by omega
      exact .inl ⟨(w i r' H' k' o'.r).2 e, f.nx _ _ _ _ (hd δ' r' (e ▸ hI)) o' (k1.trans k')⟩⟩
/-! ### while -/
def sWhile (tc : AB) (tb : AS) : AS := fun A δ r => ∃ I : Nat → Dl → Rs → Prop, (∃ m, I m δ r) ∧ ∀ m δ' r', I m δ' r' → tc δ' r' fun c r1 =>
  (c = true → tb { A with nx := fun δ2 r2 => ∃ m', m' < m ∧ I m' δ2 r2, ct := fun δ2 r2 => ∃ m', m' < m ∧ I m' δ2 r2, bk := A.nx } δ' r1) ∧ (c = false → A.nx δ' r1)
theorem s_while {E : XK} {c : Expr} {body : List Stmt} {tc : AB} {tb : AS} (hc : PDB X c tc) (hb : PBD X E body tb) (hp : PassesOwn (model X.prog X.w) X.A X.env X.xe) : PSD X E (.While c body [] pos) (sWhile tc tb) := imS (ps_while hp hc hb) fun D σ H ⟨δ, r, A, o, h, f⟩ => by
  obtain ⟨I, ⟨m0, h0⟩, hst⟩ := h
  refine ⟨fun m σ' H' => ∃ δ' r', I m δ' r' ∧ Ok X.K r' δ' σ' H' ∧ Kp X.K r H r' H', ⟨m0, δ, r, h0, o, Kp.refl⟩, ?_⟩
  rintro m σ' H' ⟨δ', r', hI, o', k'⟩
  refine tdb_bind o' (hst m δ' r' hI) fun c r1 H1 h1 o1 k1 => ?_
  have fk := f.step (k'.trans k1)
  cases c with
  | true =>
    refine ⟨fun σ2 H2 => ∃ m', m' < m ∧ ∃ δ2 r2, I m' δ2 r2 ∧ Ok X.K r2 δ2 σ2 H2 ∧ Kp X.K r H r2 H2, fun σ2 H2 ⟨m', l, q⟩ => ⟨m', l, q⟩, δ', r1, _, o1, h1.1 rfl, ?_⟩
    exact ⟨fun δ3 r3 σ3 H3 ⟨m', l, a⟩ o3 k3 => ⟨m', l, δ3, r3, a, o3, (k'.trans k1).trans k3⟩, fk.rt, fun δ3 r3 σ3 H3 a o3 k3 => fk.nx δ3 r3 σ3 H3 a o3 k3, fun δ3 r3 σ3 H3 ⟨m', l, a⟩ o3 k3 => ⟨m', l, δ3, r3, a, o3, (k'.trans k1).trans k3⟩, fk.xr⟩
  | false => exact fk.nx _ _ _ _ (h1.2 rfl) o1 Kp.refl
end
end G

namespace G
open PySem PySem.Spec L2

/-! ### list comprehensions -/
def wipeD (δ : Dl) : List Nat → Dl
  | [] => δ
  | v :: vs => (wipeD δ vs).set v none
theorem Ok.wipe {K : PySem.W.Frag} {r : Rs} {δ : Dl} {σ : L2.St} {H : Hp} (o : Ok K r δ σ H) : ∀ vs : List Nat, Ok K r (wipeD δ vs) (wipe σ vs) H
  | [] => o
  | v :: vs => (Ok.wipe o vs).drop
theorem wipe_get (σ : L2.St) : ∀ (vs : List Nat) (k : Nat), (wipe σ vs)[k]? = if k ∈ vs ∧ k < σ.length then some none else σ[k]?
  | [], k => by simp [wipe]
  | v :: vs, k => by
    unfold wipe
    rw [List.getElem?_set]
    by_cases e : v = k
    · subst e
      rw [if_pos rfl, wipe_length]
      by_cases h : v < σ.length
      · rw [if_pos h, if_pos ⟨List.mem_cons_self, h⟩]
      · rw [if_neg h, if_neg (fun z => h z.2), List.getElem?_eq_none (by omega)]
    · rw [if_neg e, wipe_get σ vs k]
      have : (k ∈ v :: vs) ↔ k ∈ vs := ⟨fun z => (List.mem_cons.mp z).elim (fun q => absurd q.symm e) id, List.mem_cons_of_mem _⟩
      simp only [this]
theorem wipe_agree {σ σ' : L2.St} {js vs : List Nat} (a : Agree js (wipe σ vs) σ') (h : ∀ j ∈ js, j ∈ vs) : wipe σ' vs = wipe σ vs := by
  apply List.ext_getElem?
  intro k
  rw [wipe_get, wipe_get]
  have hl : σ'.length = σ.length := by rw [a.1, wipe_length]
  rw [hl]
  by_cases c : k ∈ vs ∧ k < σ.length
  · rw [if_pos c, if_pos c]
  · rw [if_neg c, if_neg c]
    by_cases hk : k ∈ vs
    · have h1 : σ.length ≤ k := Nat.le_of_not_lt fun z => c ⟨hk, z⟩
      rw [List.getElem?_eq_none (by omega), List.getElem?_eq_none h1]
    · rw [a.2 k (fun z => hk (h k z)), wipe_get, if_neg c]
section
variable {K : PySem.W.Frag}
theorem rok_plus {r : Rs} {H : Hp} {p : Addr} (h : Rok K r H) (hp : H p = none) : Rok K (r ++ [lstA p []]) (upd H p (.lst [])) ∧ Kp K r H (r ++ [lstA p []]) (upd H p (.lst [])) := by
  have e : ∀ a, mem (r ++ [lstA p []]) a → mem r a ∨ a = p := fun a z => (mem_append.mp z).elim .inl fun z => z.elim .inr False.elim
  refine ⟨hold_append.mpr ⟨hold_anti e (hold_ext (Ext.new hp) (hold_grow hp h)), ⟨⟨[], upd_same, .nil⟩, fun _ _ z => z, True.intro⟩, fun a m z => ?_⟩, fun v d i => is_anti e (is_ext (Ext.new hp) _ _ (is_grow hp i))⟩
  have : a = p := z.elim (fun z => z) False.elim
  subst this
  exact not_al h hp m
theorem is_other {N : Addr → Prop} {H : Hp} {q : Addr} {ys : List V} (hN : N q) {xs : List V} (hD : H q = some (.lst xs)) {v : V} {d : D} (h : Is K N H v d) : Is K N (upd H q (.lst ys)) v d := by
  refine Is.go (fun a xs n s => ⟨n, ?_⟩) (fun a xs s => ?_) _ _ h
  · rw [upd_ne (fun (e : a = q) => n (e ▸ hN))]
    exact s
  · rcases s with (s | ⟨o, s⟩) | s
    · exact .inl (.inl (by rw [upd_ne (fun e => by rw [e, hD] at s; cases s)]; exact s))
    · exact .inl (.inr ⟨o, by rw [upd_ne (fun e => by rw [e, hD] at s; cases s)]; exact s⟩)
    · exact .inr s
/-- our own list gets one more -/
theorem rok_more {r : Rs} {H : Hp} {p : Addr} {acc : List D} {v : V} {d : D} (h : Rok K (r ++ [lstA p acc]) H) (i : Is K (mem (r ++ [lstA p acc])) H v d) : ∃ vs, H p = some (.lst vs) ∧ vs.length = acc.length ∧
    Rok K (r ++ [lstA p (acc ++ [d])]) (upd H p (.lst (vs ++ [v]))) ∧ ∀ w e, Is K (mem (r ++ [lstA p acc])) H w e → Is K (mem (r ++ [lstA p (acc ++ [d])])) (upd H p (.lst (vs ++ [v]))) w e := by
  obtain ⟨h1, ⟨⟨vs, h2, h3⟩, _, _⟩, h5⟩ := hold_append.mp h
  have me : mem (r ++ [lstA p acc]) = mem (r ++ [lstA p (acc ++ [d])]) := by
    funext a
    exact propext ((mem_append).trans (mem_append (r := r) (r' := [lstA p (acc ++ [d])])).symm)
  have hN : mem (r ++ [lstA p acc]) p := mem_append.mpr (.inr (.inl rfl))
  have go : ∀ w e, Is K (mem (r ++ [lstA p acc])) H w e → Is K (mem (r ++ [lstA p acc])) (upd H p (.lst (vs ++ [v]))) w e := fun w e q => is_other hN h2 q
  refine ⟨vs, h2, h3.length, ?_, fun w e q => me ▸ go w e q⟩
  refine hold_append.mpr ⟨?_, ⟨⟨vs ++ [v], upd_same, ?_⟩, fun _ _ z => z, True.intro⟩, h5⟩
  · rw [← me]
    refine hold_loc (fun b o m q => ?_) go h1
    rw [upd_ne (fun e => h5 b m (.inl e))]
    exact q
  · rw [← me]
    exact (all_of go h3).append (.cons (go _ _ i) .nil)
theorem le_rok {r r' : Rs} (l : le r r') {H : Hp} (h : Rok K r H) : Rok K r' H := l.r _ H h
/-- our own list is a list like others -/
theorem rok_done {r : Rs} {H : Hp} {p : Addr} {acc : List D} (h : Rok K (r ++ [lstA p acc]) H) : Rok K r H ∧ Is K (mem r) H (.ref p) (.lst acc) ∧ Kp K (r ++ [lstA p acc]) H r H := by
  obtain ⟨h1, ⟨⟨vs, h2, h3⟩, _, _⟩, h5⟩ := hold_append.mp h
  have an : ∀ a, mem r a → mem (r ++ [lstA p acc]) a := fun a z => mem_append.mpr (.inl z)
  exact ⟨hold_anti an h1, .lst (fun z => h5 p z (.inl rfl)) h2 (all_of (fun _ _ => is_anti an) h3), fun _ _ => is_anti an⟩
def bYes : AB := fun _ r P => P true r
structure aLcK (g : AG) (tt : AB) (te : AT) (δw : Dl) (ds : List D) (r1 : Rs) (P : PK1) : Prop where
  ex : ∃ I : Nat → List D → Rs → Prop, I 0 [] r1 ∧
  (∀ (p : Addr) i d acc r', ds[i]? = some d → I i acc r' → g d δw fun δ2 => tt δ2 (r' ++ [lstA p acc]) fun b r2 =>
    (b = true → te δ2 r2 fun y r3 => small (acc.length + 1) ∧ ∃ r4, le r3 (r4 ++ [lstA p acc]) ∧ I (i + 1) (acc ++ [y]) r4) ∧ (b = false → ∃ r4, le r2 (r4 ++ [lstA p acc]) ∧ I (i + 1) acc r4)) ∧
  ∀ acc r', I ds.length acc r' → P (.lst acc) r'
def aLc (ti : AI) (g : AG) (tt : AB) (te : AT) (vs : List Nat) : AT := fun δ r P => ti δ r fun ds r1 => aLcK g tt te (wipeD δ vs) ds r1 P
theorem td_lc {ti : AI} {g : AG} {tt : AB} {te : AT} {vs js : List Nat} (hj : ∀ j ∈ js, j ∈ vs) {σ : L2.St} {H : Hp} {Q : VK} (q : TD K (aLc ti g tt te vs) σ H Q) : tLc (TDI K ti) (TDG K js g) (TDB K tt) (TD K te) vs σ H Q := by
  obtain ⟨δ, r, P, o, h, k⟩ := q
  refine ⟨δ, r, _, o, h, fun ds r1 J H1 ⟨⟨I, h0, hst, hd⟩⟩ o1 k1 w p hp => ?_⟩
  obtain ⟨s1, s2⟩ := rok_plus o1.r hp
  refine ⟨fun i m H' => m = ds.length - i ∧ i ≤ ds.length ∧ ∃ acc r', I i acc r' ∧ Rok K (r' ++ [lstA p acc]) H' ∧ Kp K r1 H1 (r' ++ [lstA p acc]) H', ⟨ds.length, by simp, Nat.zero_le _, [], r1, h0, s1, s2⟩, ?_⟩
  rintro i m H' ⟨rfl, hi, acc, r', hI, ro, kp⟩
  by_cases hlt : i < ds.length
  · obtain ⟨hgo, hy⟩ := (w i _ H' kp ro).1 hlt
    refine .inr ⟨hgo, fun H2 => ∃ acc r2, I (i + 1) acc r2 ∧ Rok K (r2 ++ [lstA p acc]) H2 ∧ Kp K r1 H1 (r2 ++ [lstA p acc]) H2, fun H2 ⟨acc, r2, q1, q2, q3⟩ => ⟨ds.length - (i + 1), by omega, rfl, hlt, acc, r2, q1, q2, q3⟩, fun x H2 y => ?_⟩
    obtain ⟨ex, d, hd', ix⟩ := hy x H2 y
    have k2 := kp.trans (Kp.ext ex)
    have o2 : Ok K (r' ++ [lstA p acc]) (wipeD δ vs) (wipe σ vs) H2 := (o1.step k2 (ro.ext ex)).wipe vs
    refine ⟨wipeD δ vs, _, d, _, o2, ix, hst p i d acc r' hd' hI, fun δ2 σ2 q o3 ag => ⟨wipe_agree ag hj, δ2, _, _, o3, q, fun b r3 H3 q3 o4 k4 => ?_⟩⟩
    cases b with
    | true =>
      show TD K te σ2 H3 _
      refine td_bind o4 (q3.1 rfl) fun y r5 v H5 ⟨sz, r6, l6, h5⟩ o5 k5 i5 => ?_
      obtain ⟨ws, e1, e2, e3, e4⟩ := rok_more (le_rok l6 o5.r) (is_anti l6.m i5)
      refine ⟨ws, e1, by rw [e2]; exact Nat.lt_of_lt_of_le (Nat.lt_succ_self _) sz.sz, acc ++ [y], r6, h5, e3, fun v' d' z => e4 _ _ (is_anti l6.m (k5 _ _ (k4 _ _ (k2 _ _ z))))⟩
    | false =>
      show ∃ acc r2, _
      obtain ⟨r6, l6, h5⟩ := q3.2 rfl
      exact ⟨acc, r6, h5, le_rok l6 o4.r, fun v' d' z => is_anti l6.m (k4 _ _ (k2 _ _ z))⟩
  · have e : i = ds.length := by omega
    obtain ⟨d1, d2, d3⟩ := rok_done ro
    exact .inl ⟨(w i _ H' kp ro).2 e, k _ r' _ H' (hd acc r' (e ▸ hI)) (o1.step (kp.trans d3) d1) ((k1.trans kp).trans d3) d2⟩
end
section
variable {X : Cx}
theorem pts_no : PTs X [] (TDB X.K bYes) := ⟨fun pins s σ H Q I ⟨δ, r, P, o, h, k⟩ => pts_nil.run pins s σ H Q I (k true r H h o Kp.refl)⟩
theorem pts_1 {c : Expr} {t : AB} (h : PDB X c t) : PTs X [c] (TDB X.K t) := pts_one h
theorem d_lc {elt tg iter : Expr} {ifs : List Expr} {scope : Scope} {own : List (Str × Nat)} {pos : Pos} {js : List Nat} {wi : AI} {g : AG} {tt : AB} {te : AT} (hN : X.N.Nodup) (hi : PDI X tg iter wi) (ok : BlkOk X.N X.env.scope scope own)
    (hg : ∀ (s : Shared) (H : Hp) (C : Addr) (cl : List (Str × Addr)) (fp : List Addr), PDG (X.blk s H scope (compEnvC scope cl C X.env) fp) tg js g) (ht : ∀ (s : Shared) (H : Hp) (C : Addr) (cl : List (Str × Addr)) (fp : List Addr), PTs (X.blk s H scope (compEnvC scope cl C X.env) fp) ifs (TDB X.K tt))
    (he : ∀ (s : Shared) (H : Hp) (C : Addr) (cl : List (Str × Addr)) (fp : List Addr), PD (X.blk s H scope (compEnvC scope cl C X.env) fp) elt te) (hj : ∀ j ∈ js, j ∈ own.map (·.2) := by decide) (hc : X.calm = true := by rfl) (hs : ∀ x, foldedSetIterable iter X.env x = pure x := by intro _; rfl) :
    PD X (.ListComp elt [⟨tg, iter, ifs, 0⟩] scope pos) (aLc wi g tt te (own.map (·.2))) :=
  imE (pe_lc (g := TDG X.K js g) (tt := TDB X.K tt) (te := TD X.K te) hc hN hi ok hg ht he hs) fun _ _ _ q => td_lc hj q
theorem s_setLc {E : XK} {i : Nat} {y : Str} {py : Pos} {elt tg iter : Expr} {ifs : List Expr} {scope : Scope} {own : List (Str × Nat)} {pos spos : Pos} {js : List Nat} {wi : AI} {g : AG} {tt : AB} {te : AT} (hN : X.N.Nodup) (hi : PDI X tg iter wi) (ok : BlkOk X.N X.env.scope scope own)
    (hg : ∀ (s : Shared) (H : Hp) (C : Addr) (cl : List (Str × Addr)) (fp : List Addr), PDG (X.blk s H scope (compEnvC scope cl C X.env) fp) tg js g) (ht : ∀ (s : Shared) (H : Hp) (C : Addr) (cl : List (Str × Addr)) (fp : List Addr), PTs (X.blk s H scope (compEnvC scope cl C X.env) fp) ifs (TDB X.K tt))
    (he : ∀ (s : Shared) (H : Hp) (C : Addr) (cl : List (Str × Addr)) (fp : List Addr), PD (X.blk s H scope (compEnvC scope cl C X.env) fp) elt te) (hsw : swapsWith (.ListComp elt [⟨tg, iter, ifs, 0⟩] scope pos) (some (.Name y py)) spos.line X.env = pure true) (hj : ∀ j ∈ js, j ∈ own.map (·.2) := by decide)
    (hc : X.calm = true := by rfl) (hy : X.N[i]? = some y := by rfl) (hyl : X.env.scope.names.lookup y = some .local := by rfl) (hs : ∀ x, foldedSetIterable iter X.env x = pure x := by intro _; rfl) :
    PSD X E (.Assign [.Name y py] (.ListComp elt [⟨tg, iter, ifs, 0⟩] scope pos) spos) (sAsg i (aLc wi g tt te (own.map (·.2)))) :=
  imS (ps_setLc (g := TDG X.K js g) (tt := TDB X.K tt) (te := TD X.K te) hc hN hy hyl hsw hi ok hg ht he hs) fun D σ H ⟨δ, r, A, o, h, f⟩ => td_lc hj (td_bind o h fun d r1 v H1 h1 o1 k1 i1 => f.nx _ _ _ _ h1 (o1.set i1) k1)
end
/-! the plain comprehensions -/
section
variable {K : PySem.W.Frag} {g : AG} {te : AT} {tt : AB} {δw : Dl} {ds : List D} {r1 : Rs} {P : PK1}
theorem lc_map (f : D → D) (hz : small ds.length) (he : ∀ d ∈ ds, ∀ (r' : Rs) (P' : PK1), P' (f d) r' → g d δw fun δ2 => te δ2 r' P') (hP : P (.lst (ds.map f)) r1) : aLcK g bYes te δw ds r1 P := by
  refine ⟨fun i acc r' => acc = (ds.take i).map f ∧ r' = r1, ⟨rfl, rfl⟩, ?_, ?_⟩
  · rintro p i d acc r' hd ⟨rfl, rfl⟩
    have hi := (List.getElem?_eq_some_iff.mp hd).1
    refine Eq.mp ?_ (he d (List.mem_of_getElem? hd) (r' ++ [lstA p ((ds.take i).map f)]) (fun y r3 => small (((ds.take i).map f).length + 1) ∧ ∃ r4, le r3 (r4 ++ [lstA p ((ds.take i).map f)]) ∧ ((ds.take i).map f ++ [y] = (ds.take (i + 1)).map f ∧ r4 = r')) ?_)
    · congr 1
      funext δ2
      unfold bYes
      simp
    · refine ⟨?_, r', le.refl, ?_, rfl⟩
      · rw [List.length_map, List.length_take]
        have : small ds.length := hz
        unfold small at *
        omega
      · rw [List.take_add_one, hd, List.map_append]
        rfl
  · rintro acc r' ⟨rfl, rfl⟩
    rw [List.take_length]
    exact hP
end
end G

namespace G
open PySem PySem.Spec L2
open PyProof.Rows (envOfC)

/-! ### calls of defs of the text -/
abbrev SpX := List D → Rs → PK1 → (Addr → Str → D → Rs → Prop) → Prop
/-- a promise over data as a promise of the hand layer -/
def lift (K : PySem.W.Frag) (sd : SpX) : Sp := fun vs H Q E => ∃ (r : Rs) (ds : List D) (P : PK1) (XR : Addr → Str → D → Rs → Prop), Rok K r H ∧ IsAll K (mem r) H vs ds ∧ sd ds r P XR ∧
  (∀ d r' v H', P d r' → Rok K r' H' → Kp K r H r' H' → Is K (mem r') H' v d → Q v H') ∧
  (∀ C f d r' a v H', XR C f d r' → Rok K r' H' → Kp K r H r' H' → H' a = some (.xd [(f, v)]) → Is K (mem r') H' v d → E (.ref C) (some a) H')
def noX : Addr → Str → D → Rs → Prop := fun _ _ _ _ => False
def aCall (sd : SpX) (dd : List D) (l : AL) : AT := fun δ r P => l δ r fun ds r1 => sd (ds ++ dd) r1 P noX
section
variable {X : Cx} {CX : CXT} {k : Nat} {f : Addr} {fd : FuncData} {ps : List Str} {sd : SpX} {dd : List D} {dvs : List V} {dus : List Value} {x : Str} {p pos : Pos} {e : Expr} {es : List Expr} {l : AL}
theorem d_call (F : FnOk X.prog X.w X.K X.mg X.base CX k f fd ps (lift X.K sd)) (hr : Room k X.A) (hm : X.mg x = some (.ref f)) (hk : PySem.W.keepIn X.K (.ref f) = true) (hb : Binds X.K fd ps dus) (hd : Vals dvs dus) (hdd : ∀ M H, IsAll X.K M H dvs dd) (hx : Passes CX X E0)
    (ha : PDL X (e :: es) l) (hg : Gl X x := by rfl) (hdb : (x == ("__debug__" : Str)) = false := by decide) (he : starEach (e :: es) X.env = (false, eval e X.env) :: starEach es X.env := by rfl) (hpl : (backTo pos (starEach es X.env)).any (·.1) = false := by rfl) :
    PD X (.Call (.Name x p) (e :: es) [] pos) (aCall sd dd l) := imE (pe_call F hr hg hm hk hb hd hx ha hdb he hpl) fun σ H Q q => by
  obtain ⟨δ, r, P, ok, h, kk⟩ := q
  refine tdl_bind ok h fun ds r1 vs H1 h1 o1 k1 i1 => ?_
  exact ⟨r1, ds ++ dd, P, noX, o1.r, i1.append (hdd _ _), h1, fun d r' v H' a b c i => kk d r' v H' a (o1.step c b) (k1.trans c) i, fun C f d r' a v H' z => z.elim⟩
theorem d_call0 (F : FnOk X.prog X.w X.K X.mg X.base CX k f fd ps (lift X.K sd)) (hr : Room k X.A) (hm : X.mg x = some (.ref f)) (hk : PySem.W.keepIn X.K (.ref f) = true) (hb : Binds X.K fd ps dus) (hd : Vals dvs dus) (hdd : ∀ M H, IsAll X.K M H dvs dd) (hx : Passes CX X E0)
    (hg : Gl X x := by rfl) (hdb : (x == ("__debug__" : Str)) = false := by decide) : PD X (.Call (.Name x p) [] [] pos) (aCall sd dd aNil) := imE (pe_call0 F hr hg hm hk hb hd hx hdb) fun σ H Q q => by
  obtain ⟨δ, r, P, o1, h1, kk⟩ := q
  exact ⟨r, [] ++ dd, P, noX, o1.r, hdd _ _, h1, fun d r' v H' a b c i => kk d r' v H' a (o1.step c b) c i, fun C f d r' a v H' z => z.elim⟩
end
def startD (N : List Str) (ds : List D) : Dl := ds.map some ++ List.replicate (N.length - ds.length) none
/-- a promise that any heap is told by, kept -/
def fit (P : PK1) : PK1 := fun d r' => ∃ r0, le r' r0 ∧ P d r0
theorem fit.of {P : PK1} {d : D} {r : Rs} (h : P d r) : fit P d r := ⟨r, le.refl, h⟩
section
variable {P : Program} {w : World} {K : PySem.W.Frag} {mg : Str → Option Value} {base : Heap}
/-- THE RULE for a def that raises nothing -/
theorem fn_d {x qual : Str} {st : Stmt} {f : Addr} {fd : FuncData} {N ps : List Str} {k : Nat} {sd : SpX} (F : Fun K x qual st f fd) (S : FnScope N ps (defScope st)) (len : ∀ ds r P' XR, sd ds r P' XR → ds.length = ps.length)
    (hbody : ∀ (cdv : Value) (A : Around) (outer : List Env) (s : Shared) (H : Hp) (E : XK), Room k (A.deeper (envOfC qual (defScope st) s.heap.objs.size f cdv)) → ∃ t : AS, PBD (cxOf CX0 P w K mg base N qual (defScope st) f cdv A outer s H E).nox E0 (defBody st) t ∧
      ∀ ds r P' XR, sd ds r P' XR → t { nx := fun _ r' => fit P' .non r', rt := fit P' } (startD N ds) r) : FnOk P w K mg base CX0 (k + 1) f fd ps (lift K sd) := by
  refine F.ok S (fun vs H Q E h => ?_) (fun cdv A outer s H vs Q E hr h => ?_)
  · obtain ⟨r, ds, P', XR, hr, hi, hs, _, _⟩ := h
    rw [hi.length]
    exact len _ _ _ _ hs
  · obtain ⟨r, ds, P', XR, ro, hi, hs, hq, hx⟩ := h
    obtain ⟨t, ht, hread⟩ := hbody cdv A outer s H E hr
    refine ⟨_, ht, startD N ds, r, _, ⟨fun i d e => ?_, ro, ?_⟩, hread ds r P' XR hs, ⟨fun δ' r' σ' H' a o k => ?_, fun d r' v H' a o k i => ?_, fun _ _ _ _ z => z.elim, fun _ _ _ _ z => z.elim, fun _ _ _ _ _ _ _ z => z.elim⟩⟩
    · unfold startD at e
      unfold L2.start
      rcases Nat.lt_or_ge i ds.length with hlt | hge
      · rw [List.getElem?_append_left (by simpa using hlt), List.getElem?_map] at e
        cases q : ds[i]? with
        | none => rw [q] at e; cases e
        | some d0 =>
          rw [q] at e
          cases e
          obtain ⟨v, h1, h2⟩ := hi.getD q
          exact ⟨v, by rw [List.getElem?_append_left (by rw [List.length_map, hi.length]; exact hlt), List.getElem?_map, h1] <;> rfl, h2⟩
      · rw [List.getElem?_append_right (by simpa using hge), List.getElem?_replicate] at e
        split at e <;> cases e
    · unfold startD L2.start
      rw [List.length_append, List.length_append, List.length_map, List.length_map, List.length_replicate, List.length_replicate, hi.length]
    · obtain ⟨r0, l, a⟩ := a
      exact hq _ r0 _ H' a (l.r _ _ o.r) (k.trans l.kp) .non
    · obtain ⟨r0, l, a⟩ := a
      exact hq _ r0 _ H' a (l.r _ _ o) (k.trans l.kp) (is_anti l.m i)
end
/-- a pure promise -/
def pure1 (pre : List D → Prop) (fn : List D → D) : SpX := fun ds r P _ => pre ds ∧ P (fn ds) r

/-! ### a, *b = e -/
section
variable {prog : Program} {w : World} {A : Around} {E : Value → Shared → Prop} {s : Shared}
theorem unstar_T {l : Addr} {items : Array Value} {n i : Nat} {Q : List Value → Shared → Prop} (hl : PyProof.Rows.IsTup s.heap l items) (hh : A.handled = none) (hi : i < n) (hn : n ≤ items.size + 1) (hz : items.size ≤ 1000000)
    (h : ∀ (h2 : Heap) (tk : Nat), (∀ b o, s.heap.get? b = some o → h2.get? b = some o) → Q (items.toList.take i ++ [.ref h2.objs.size] ++ (items.toList.drop i).drop (items.size + 1 - n)) { s with heap := h2.push { cls := .type "list", data := .seq ((items.toList.drop i).take (items.size + 1 - n)).toArray }, toks := tk }) :
    wpAny (model prog w) A (unpackItems (.ref l) n (some i)) Q E s := by
  have hlt : l ≠ s.heap.objs.size := by obtain ⟨o, ho, _⟩ := hl; exact Nat.ne_of_lt (Heap.lt_size ho)
  unfold unpackItems
  refine wpAny_bind ?_
  unfold notIterableAtAll
  refine wpAny_bind (wpAny_specialOf hl.typeIs PyProof.Rows.slot_tuple_iter.lookup ?_)
  refine wpAny_pure ?_
  simp only [Bool.false_eq_true, if_false]
  refine wpAny_bind (wpAny_holding (PyProof.Rows.iter_tuple hl ?_))
  refine wpAny_bind (wpAny_holding (PyProof.Rows.draw_tuple hlt i 0 _ _ ⟨_, Heap.get?_push_size _ rfl, rfl, rfl⟩ (hl.push _) (by omega) fun h₁ hit₁ hs₁ => ?_))
  have hl₁ : PyProof.Rows.IsTup h₁ l items := (hl.push _).extBut hs₁.extBut hlt
  rw [Nat.zero_add] at hit₁
  have hit₁' := hit₁
  obtain ⟨oi, hoi, _⟩ := hit₁'
  have hl₁' := hl₁
  obtain ⟨ol, hol, _⟩ := hl₁'
  rw [List.drop_zero]
  have hfl : (items.toList.take i).length = i := by rw [List.length_take, Array.length_toList]; omega
  rw [if_neg (show ¬ ((items.toList.take i).length < i) by rw [hfl]; omega)]
  refine wpAny_bind (wpAny_holding (PySem.W.kun_collect (s := { s with heap := h₁ }) (T := "tuple_iterator") (.inr (.inr (.inr rfl))) (Walks.tuple (A := A.in1) hh s.heap.objs.size l hlt items) (fun j u st => st.1.typeIs) (k := i) (by omega) ⟨hit₁, hl₁⟩ (Heap.lt_size hoi) (Heap.lt_size hol) (fun h₂ tk hk => ?_) (by rw [sizeLine_eq]; omega)))
  have hrl : (items.toList.drop i).length = items.size - i := by rw [List.length_drop, Array.length_toList]
  have hmid : (items.toList.drop i).length - (n - 1 - i) = items.size + 1 - n := by rw [hrl]; omega
  show wpAny _ _ (if (items.toList.drop i).length < n - 1 - i then _ else _) _ _ _
  rw [if_neg (by rw [hrl]; omega)]
  show wpAny _ _ (newList ((items.toList.drop i).take ((items.toList.drop i).length - (n - 1 - i))) >>= fun d => pure (items.toList.take i ++ [d] ++ (items.toList.drop i).drop ((items.toList.drop i).length - (n - 1 - i)))) _ _ _
  rw [hmid]
  refine wpAny_bind (wpAny_newList (s := { s with heap := h₂, toks := tk }) (wpAny_pure (h h₂ tk fun b o e => ?_)) (by rw [List.length_take, hrl, sizeLine_eq]; omega))
  have hb : b ≠ s.heap.objs.size := Nat.ne_of_lt (Heap.lt_size e)
  exact hk b o hb (hs₁.extBut b o hb (Heap.get?_push_of_some _ e))
theorem unstar_L {l : Addr} {items : Array Value} {n i : Nat} {Q : List Value → Shared → Prop} (hl : s.heap.IsList l items) (hh : A.handled = none) (hi : i < n) (hn : n ≤ items.size + 1) (hz : items.size ≤ 1000000)
    (h : ∀ (h2 : Heap) (tk : Nat), (∀ b o, s.heap.get? b = some o → h2.get? b = some o) → Q (items.toList.take i ++ [.ref h2.objs.size] ++ (items.toList.drop i).drop (items.size + 1 - n)) { s with heap := h2.push { cls := .type "list", data := .seq ((items.toList.drop i).take (items.size + 1 - n)).toArray }, toks := tk }) :
    wpAny (model prog w) A (unpackItems (.ref l) n (some i)) Q E s := by
  have hlt : l ≠ s.heap.objs.size := by obtain ⟨o, ho, _⟩ := hl; exact Nat.ne_of_lt (Heap.lt_size ho)
  unfold unpackItems
  refine wpAny_bind ?_
  unfold notIterableAtAll
  refine wpAny_bind (wpAny_specialOf hl.typeIs PySem.F.slot_list_iter.lookup ?_)
  refine wpAny_pure ?_
  simp only [Bool.false_eq_true, if_false]
  refine wpAny_bind (wpAny_holding (wpAny_pyIter_list hl ?_))
  refine wpAny_bind (wpAny_holding (PySem.W.kun_draw hlt i 0 _ _ ⟨_, Heap.get?_push_size _ rfl, rfl, rfl⟩ (hl.push _) (by omega) fun h₁ hit₁ hs₁ => ?_))
  have hl₁ : h₁.IsList l items := (hl.push _).extBut hs₁.extBut hlt
  rw [Nat.zero_add] at hit₁
  have hit₁' := hit₁
  obtain ⟨oi, hoi, _⟩ := hit₁'
  have hl₁' := hl₁
  obtain ⟨ol, hol, _⟩ := hl₁'
  rw [List.drop_zero]
  have hfl : (items.toList.take i).length = i := by rw [List.length_take, Array.length_toList]; omega
  rw [if_neg (show ¬ ((items.toList.take i).length < i) by rw [hfl]; omega)]
  refine wpAny_bind (wpAny_holding (PySem.W.kun_collect (s := { s with heap := h₁ }) (T := "list_iterator") (.inr (.inr (.inl rfl))) (Walks.list (A := A.in1) hh s.heap.objs.size l hlt items) (fun j u st => st.1.typeIs) (k := i) (by omega) ⟨hit₁, hl₁⟩ (Heap.lt_size hoi) (Heap.lt_size hol) (fun h₂ tk hk => ?_) (by rw [sizeLine_eq]; omega)))
  have hrl : (items.toList.drop i).length = items.size - i := by rw [List.length_drop, Array.length_toList]
  have hmid : (items.toList.drop i).length - (n - 1 - i) = items.size + 1 - n := by rw [hrl]; omega
  show wpAny _ _ (if (items.toList.drop i).length < n - 1 - i then _ else _) _ _ _
  rw [if_neg (by rw [hrl]; omega)]
  show wpAny _ _ (newList ((items.toList.drop i).take ((items.toList.drop i).length - (n - 1 - i))) >>= fun d => pure (items.toList.take i ++ [d] ++ (items.toList.drop i).drop ((items.toList.drop i).length - (n - 1 - i)))) _ _ _
  rw [hmid]
  refine wpAny_bind (wpAny_newList (s := { s with heap := h₂, toks := tk }) (wpAny_pure (h h₂ tk fun b o e => ?_)) (by rw [List.length_take, hrl, sizeLine_eq]; omega))
  have hb : b ≠ s.heap.objs.size := Nat.ne_of_lt (Heap.lt_size e)
  exact hk b o hb (hs₁.extBut b o hb (Heap.get?_push_of_some _ e))
end
/-- a, .., *b (the star last, at place i) = a tuple, a list -/
def gStar (K : PySem.W.Frag) (i : Nat) (t : TGs) : TG := fun v σ H Q => ∃ a xs, v = .ref a ∧ (SqT K H a xs ∨ SqL K H a xs) ∧ i ≤ xs.length ∧ xs.length ≤ 1000000 ∧ ∀ p, H p = none → t (xs.take i ++ [.ref p]) σ (upd H p (.lst (xs.drop i))) Q
section
variable {X : Cx}
theorem pg_star {es : List Expr} {k i : Nat} {t : TGs} {pos : Pos} (h : PGs X es t) (hc : X.calm = true := by rfl) (hn : (assignEach es X.env).length = i + 1 := by rfl) (hst : (assignEach es X.env).findIdx? (·.1) = some i := by rfl) : PG X (.Tuple es k pos) (gStar X.K i t) := by
  refine ⟨fun pins s σ H v u Q I r hw => ?_⟩
  obtain ⟨a, xs, e1, hq, hl, hz, hw⟩ := hw
  subst e1
  cases r
  rw [PyProof.Rows.assign_Tuple]
  refine wpAny_bind (wpAny_standAt ?_)
  unfold unpack
  rw [hn, hst]
  have go : ∀ (its : List Value), Vals xs its → ∀ (h2 : Heap) (tk : Nat), (∀ b o, s.heap.get? b = some o → h2.get? b = some o) →
      wpAny (model X.prog X.w) X.A (assignInOrder ((assignEach es X.env).map (·.2)) (its.toArray.toList.take i ++ [.ref h2.objs.size] ++ (its.toArray.toList.drop i).drop (its.toArray.size + 1 - (i + 1)))) (fun _ s' => ∃ σ' H', Inv X pins σ' H' s' ∧ Q σ' H') X.xe
        { s with heap := h2.push { cls := .type "list", data := .seq ((its.toArray.toList.drop i).take (its.toArray.size + 1 - (i + 1))).toArray }, toks := tk } := by
    intro its rv h2 tk hk
    have hlen := rv.length
    have I2 : Inv X pins σ H { s with heap := h2, toks := tk } := I.kept (t' := tk) hk
    have hp : H h2.objs.size = none := I2.hok.fresh (Nat.le_refl _)
    have e0 : its.toArray.toList = its := by simp
    have e1 : (its.toArray.toList.drop i).take (its.toArray.size + 1 - (i + 1)) = its.drop i := by
      rw [e0, List.size_toArray]
      exact List.take_of_length_le (by rw [List.length_drop]; omega)
    have e2 : (its.toArray.toList.drop i).drop (its.toArray.size + 1 - (i + 1)) = [] := by
      rw [e0, List.size_toArray]
      exact List.drop_eq_nil_of_le (by rw [List.length_drop]; omega)
    rw [e1, e2, e0, List.append_nil]
    have I3 : Inv X pins σ (upd H h2.objs.size (.lst (xs.drop i))) { s with heap := h2.push { cls := .type "list", data := .seq (its.drop i).toArray }, toks := tk } :=
      I2.laid (t' := tk) (fun _ _ q => Heap.get?_push_of_some _ q) (Nat.le_refl _) ⟨by rw [List.length_drop, sizeLine_eq]; omega, its.drop i, 0, rv.drop i, Heap.get?_push_size _ rfl⟩
    exact h.run pins _ σ _ _ _ Q I3 ((rv.take i).append (.cons (show RelV (.ref h2.objs.size) _ from rfl) .nil)) (hw _ hp)
  rcases hq with hq | hq
  · obtain ⟨its, rv, ht, hz2⟩ := I.tuple hq
    have hlen := rv.length
    exact wpAny_bind (wpAny_holding (unstar_T ht (I.ok.hd hc) (Nat.lt_succ_self i) (by rw [List.size_toArray]; omega) (by rw [List.size_toArray]; omega) (go its rv)))
  · obtain ⟨its, rv, ht, hz2⟩ := I.list hq
    have hlen := rv.length
    exact wpAny_bind (wpAny_holding (unstar_L ht.isList (I.ok.hd hc) (Nat.lt_succ_self i) (by rw [List.size_toArray]; omega) (by rw [List.size_toArray]; omega) (go its rv)))
theorem pgs_star {e : Expr} {es : List Expr} {p : Pos} {t : TG} {u : TGs} (h1 : PG X e t) (h2 : PGs X es u) (hs : (assignEach (.Starred e p :: es) X.env).map (·.2) = assign e X.env :: (assignEach es X.env).map (·.2) := by rfl) : PGs X (.Starred e p :: es) (gCons t u) := by
  refine ⟨fun pins s σ H vs us Q I r h => ?_⟩
  obtain ⟨v, vr, e1, h⟩ := h
  subst e1
  cases r with
  | cons r rr =>
    rw [hs]
    refine PyProof.Rows.assignInOrder_cons (thn (h1.run pins s σ H _ _ _ I r h) fun _ s1 ⟨σ1, H1, I1, q1⟩ => ?_)
    exact h2.run pins s1 σ1 H1 _ _ Q I1 rr q1
/-- the last name of a starred target -/
theorem pgs_sn {i : Nat} {x : Str} {p pos : Pos} (hN : X.N.Nodup) (hi : X.N[i]? = some x := by rfl) (hx : Loc X.env.scope x := by first | exact Or.inl rfl | exact Or.inr rfl) (hf : X.fn x = true ∨ X.env.scope.names.lookup x = some .local := by first | exact .inl rfl | exact .inr rfl | assumption)
    (hs : (assignEach [.Starred (.Name x pos) p] X.env).map (·.2) = assign (.Name x pos) X.env :: (assignEach [] X.env).map (·.2) := by rfl) : PGs X [.Starred (.Name x pos) p] (gNames [i]) := pgs_star (pg_name hN hi hx hf) pgs_nil hs
def sStar (is : List Nat) (t : AT) : AS := fun A δ r => t δ r fun d r1 => match d with
  | .tup ds => (is.length ≤ ds.length + 1 ∧ small ds.length) ∧ A.nx (setAll δ is (ds.take (is.length - 1) ++ [.lst (ds.drop (is.length - 1))])) r1
  | .lst ds => (is.length ≤ ds.length + 1 ∧ small ds.length) ∧ A.nx (setAll δ is (ds.take (is.length - 1) ++ [.lst (ds.drop (is.length - 1))])) r1
  | _ => False
theorem star_go {K : PySem.W.Frag} {r : Rs} {δ : Dl} {σ : L2.St} {H : Hp} {is : List Nat} {i : Nat} {xs : List V} {ds : List D} {Q : L2.St → Hp → Prop} (he : is.length = i + 1) (o : Ok K r δ σ H) (a : IsAll K (mem r) H xs ds) (hl : is.length ≤ ds.length + 1) {p : Addr} (hp : H p = none)
    (k : ∀ σ', Ok K r (setAll δ is (ds.take (is.length - 1) ++ [.lst (ds.drop (is.length - 1))])) σ' (upd H p (.lst (xs.drop i))) → Q σ' (upd H p (.lst (xs.drop i)))) : gNames is (xs.take i ++ [.ref p]) σ (upd H p (.lst (xs.drop i))) Q := by
  have e : is.length - 1 = i := by omega
  rw [e] at k
  have kk : Kp K r H r (upd H p (.lst (xs.drop i))) := Kp.ext (Ext.new hp)
  refine names_all (o.new hp) ((kk.all (a.take i)).append (.cons (new_lst o.r hp (a.drop i)) .nil)) ?_ k
  rw [List.length_append, List.length_take]
  simp only [List.length_singleton]
  omega
theorem s_star {E : XK} {is : List Nat} {i : Nat} {ts : List Expr} {kk : Nat} {p2 pos : Pos} {e : Expr} {te : AT} (he : PD X e te) (hg : PGs X ts (gNames is)) (hi : is.length = i + 1 := by rfl) (hc : X.calm = true := by rfl) (hn : (assignEach ts X.env).length = i + 1 := by rfl) (hst : (assignEach ts X.env).findIdx? (·.1) = some i := by rfl)
    (hs : swapsWithSole [.Tuple ts kk p2] e pos.line X.env = pure false := by rfl) (hw : swappedStores [.Tuple ts kk p2] e X.env = pure none := by rfl)
    (h1 : (assignEach [.Tuple ts kk p2] X.env).map (·.2) = [assign (.Tuple ts kk p2) X.env] := by rfl) : PSD X E (.Assign [.Tuple ts kk p2] e pos) (sStar is te) :=
  imS (ps_asg he (pg_star hg hc hn hst) hs hw h1) fun Dd σ H ⟨δ, r, A, o, h, f⟩ => td_bind o h fun d r1 v H1 h1 o1 k1 i1 => by
    cases i1 with
    | tup s a =>
      obtain ⟨⟨hl, hz⟩, h1⟩ := h1
      have := a.length
      exact ⟨_, _, rfl, .inl s, by omega, by unfold small at hz; omega, fun p hp => star_go hi o1 a hl hp fun σ' o' => f.nx _ _ _ _ h1 o' (k1.trans (Kp.ext (Ext.new hp)))⟩
    | lst n s a =>
      obtain ⟨⟨hl, hz⟩, h1⟩ := h1
      have := a.length
      exact ⟨_, _, rfl, .inr (SqL.of s), by omega, by unfold small at hz; omega, fun p hp => star_go hi o1 a hl hp fun σ' o' => f.nx _ _ _ _ h1 o' (k1.trans (Kp.ext (Ext.new hp)))⟩
    | _ => exact h1.elim

/-! ### a dict of the module with text keys -/
structure KD (K : PySem.W.Frag) (w : World) (d : Addr) (tbl : List (Str × D)) : Prop where
  at_ : ∃ es n, K.lookup d = some ⟨.type "dict", none, .dict es n, #[]⟩ ∧ PySem.W.KeysLit w.params es.toList
  low : (d == sysModules) = false
  get : ∀ z : Str, match tbl.lookup z with
    | some dd => ∃ u v, PySem.W.nsIn K d z = some (some u) ∧ RelV v u ∧ ∀ M H, Is K M H v dd
    | none => PySem.W.nsIn K d z = some none
variable {dk : Addr} {tbl : List (Str × D)}
def oKin (d : Addr) (tbl : List (Str × D)) (neg : Bool) : O2 := fun x y k => match x with | .str z => y = .adr d ∧ k (.bl (cond neg (!(tbl.lookup z).isSome) (tbl.lookup z).isSome)) | _ => False
theorem p_kin (T : KD X.K X.w dk tbl) : OpR X (compareOp .In) (rD X.K (oKin dk tbl false)) := by
  rintro pins s σ H x y v u Q I rx ry ⟨r, d1, d2, P, hr, i1, i2, ho, k⟩
  cases i1 <;> try exact ho.elim
  rename_i z hz
  obtain ⟨rfl, ho⟩ := ho
  cases i2
  obtain ⟨es, n, hl, hk⟩ := T.at_
  have g := T.get z
  split at g
  · rename_i dd e
    obtain ⟨u0, v0, h1, h2, h3⟩ := g
    rw [e] at ho
    exact op_in_kd ⟨hl, hk, T.low⟩ pins s σ H _ _ v u Q I rx ry ⟨z, _, rfl, rfl, h1, k _ _ H ho (Ext.refl H) (.bl _)⟩
  · rename_i e
    rw [e] at ho
    exact op_in_kd ⟨hl, hk, T.low⟩ pins s σ H _ _ v u Q I rx ry ⟨z, _, rfl, rfl, g, k _ _ H ho (Ext.refl H) (.bl _)⟩
theorem p_knotin (T : KD X.K X.w dk tbl) : OpR X (compareOp .NotIn) (rD X.K (oKin dk tbl true)) := by
  rintro pins s σ H x y v u Q I rx ry ⟨r, d1, d2, P, hr, i1, i2, ho, k⟩
  cases i1 <;> try exact ho.elim
  rename_i z hz
  obtain ⟨rfl, ho⟩ := ho
  cases i2
  obtain ⟨es, n, hl, hk⟩ := T.at_
  have g := T.get z
  split at g
  · rename_i dd e
    obtain ⟨u0, v0, h1, h2, h3⟩ := g
    rw [e] at ho
    exact op_notIn_kd ⟨hl, hk, T.low⟩ pins s σ H _ _ v u Q I rx ry ⟨z, _, rfl, rfl, h1, k _ _ H ho (Ext.refl H) (.bl _)⟩
  · rename_i e
    rw [e] at ho
    exact op_notIn_kd ⟨hl, hk, T.low⟩ pins s σ H _ _ v u Q I rx ry ⟨z, _, rfl, rfl, g, k _ _ H ho (Ext.refl H) (.bl _)⟩
theorem d_adr {x : Str} {a : Addr} {pos : Pos} (hm : X.mg x = some (.ref a)) (hg : Gl X x := by rfl) (hdb : (x == ("__debug__" : Str)) = false := by decide) : PD X (.Name x pos) (aC (.adr a)) := d_glob (v := .ref a) hg hm rfl (fun _ _ => .adr a) hdb
def aKGet2 (tbl : List (Str × D)) (te tf : AT) : AT := fun δ r P => te δ r fun k r1 => tf δ r1 fun x r2 => match k with | .str z => P ((tbl.lookup z).getD x) r2 | _ => False
theorem kd_find {P : Program} {K : PySem.W.Frag} {w : World} {h : Heap} {d : Addr} {tbl : List (Str × D)} (T : KD K w d tbl) (X : K.In h) : ∃ f, h.MapOf (strKind P w) d f ∧ ∀ z, PySem.W.nsIn K d z = some (f z) := by
  obtain ⟨es, n, hl, hk⟩ := T.at_
  refine ⟨_, PySem.W.mapOf_K (prog := P) X hl hk, fun z => ?_⟩
  have g := T.get z
  split at g
  · obtain ⟨u, v, h1, _⟩ := g
    rw [h1, PySem.W.find_K hl h1]
  · rw [g, PySem.W.find_K hl g]
theorem kd_type' {pins : List (Addr × Obj)} {σ : L2.St} {H : Hp} {s : Shared} (T : KD X.K X.w dk tbl) (I : Inv X pins σ H s) : s.TypeIs (.ref dk) "dict" ∧ ∀ a, (Value.ref dk) = .ref a → ∃ ob, s.heap.get? a = some ob ∧ ob.dict = none := by
  obtain ⟨es, n, hl, hk⟩ := T.at_
  refine ⟨(PySem.W.mapOf_K (prog := X.prog) (w := X.w) I.kIn hl hk).typeIs, fun a e => ?_⟩
  cases e
  exact ⟨_, I.kIn _ _ hl, rfl⟩
theorem d_kget2 {x : Str} {p apos cpos : Pos} {e f : Expr} {te tf : AT} (T : KD X.K X.w dk tbl) (hm : X.mg x = some (.ref dk)) (he : PD X e te) (hf : PD X f tf) (m : M2 X (.Name x p) "get" apos e f cpos) (hg : Gl X x := by rfl) (hdb : (x == ("__debug__" : Str)) = false := by decide) :
    PD X (.Call (.Attribute (.Name x p) "get" apos) [e, f] [] cpos) (aKGet2 tbl te tf) := by
  refine ⟨fun pins s σ H Q I h => ?_⟩
  obtain ⟨δ, r, P, o, h, k⟩ := h
  refine wpAny_Call_method m.base m.few m.line PySem.F.plainAttrs_dict PySem.F.slot_dict_get PySem.F.type_dict_get (ld_glob I hg hm ?_ hdb)
  obtain ⟨t1, t2⟩ := kd_type' T I
  refine ⟨t1, t2, ?_⟩
  rw [m.trees]
  refine Calls.callWith_builtin rfl (Calls.evalArgs_plain (Calls.spliced_cons (thn (he.run pins s σ H _ I (td_bind o h fun kd r1 v H1 h1 o1 k1 i1 => td_bind (Q := fun z H3 => ∃ (w0 : V) (zz : Str), v = .str zz ∧ (∀ u, RelV z u → ∃ w1, RelV w0 w1 ∧ w1 = (match PySem.W.nsIn X.K dk zz with | some (some u0) => u0 | _ => u)) ∧ Q w0 H3) o1 h1 fun xd r2 z H3 h2 o2 k2 i2 => ?_)) fun iv s2 ⟨y, H2, I2, ry, q2⟩ =>
    Calls.spliced_cons (thn (hf.run pins s2 σ H2 _ I2 q2) fun fv s3 ⟨z, H3, I3, rz, ⟨w0, zz, ey, hw, q3⟩⟩ => Calls.spliced_nil ?_))))
  · cases i1 <;> try exact h2.elim
    rename_i zz hz
    have h2 : P ((tbl.lookup zz).getD xd) r2 := h2
    have g := T.get zz
    split at g
    · rename_i dd e
      obtain ⟨u0, v0, g1, g2, g3⟩ := g
      rw [e] at h2
      exact ⟨v0, zz, rfl, fun u _ => ⟨u0, g2, by rw [g1]⟩, k dd r2 v0 H3 h2 o2 (k1.trans k2) (g3 _ _)⟩
    · rename_i e
      rw [e] at h2
      exact ⟨z, zz, rfl, fun u hu => ⟨u, hu, by rw [g]⟩, k xd r2 z H3 h2 o2 (k1.trans k2) i2⟩
  · subst ey
    obtain ⟨t, rfl⟩ := ry
    obtain ⟨fm, hmap, hfm⟩ := kd_find (P := X.prog) T I3.kIn
    obtain ⟨w1, hw1, ew⟩ := hw fv rz
    refine call_meetsIn PySem.F.slot_dict_get hmap.typeIs PySem.F.entry_dict_get (PySem.F.args_dict_get_3 _ _ _) (meets_dict_get_default (strKind X.prog X.w) dk (PySem.strKind_is X.prog X.w zz t) T.low fv) ⟨_, hmap, ⟨w0, H3, I3.tok _, ?_, q3⟩⟩
    have : w1 = (fm zz).getD fv := by
      rw [ew, hfm zz]
      cases fm zz <;> rfl
    rw [← this]
    exact hw1
end
end G

namespace G
open PySem PySem.Spec L2
open PyProof.Rows (envOfC)

/-! ### defs by name -/
/-- the def st stands under the module's name x -/
def Dfn (K : PySem.W.Frag) (mg : Str → Option Value) (x : Str) (st : Stmt) (ps : List Str) : Prop := ∃ f fd, Fun K x x st f fd ∧ mg x = some (.ref f) ∧ Binds K fd ps []
/-- the module's name x may be called by the promise sd -/
def Cl (P : Program) (w : World) (K : PySem.W.Frag) (mg : Str → Option Value) (base : Heap) (k : Nat) (x : Str) (ps : List Str) (sd : SpX) : Prop :=
  ∃ f fd, FnOk P w K mg base CX0 k f fd ps (lift K sd) ∧ mg x = some (.ref f) ∧ PySem.W.keepIn K (.ref f) = true ∧ Binds K fd ps []
theorem cl_of {P : Program} {w : World} {K : PySem.W.Frag} {mg : Str → Option Value} {base : Heap} {x : Str} {st : Stmt} {N ps : List Str} {k : Nat} {sd : SpX} (Dx : Dfn K mg x st ps) (S : FnScope N ps (defScope st)) (len : ∀ ds r P' XR, sd ds r P' XR → ds.length = ps.length)
    (hbody : ∀ (f : Addr) (cdv : Value) (A : Around) (outer : List Env) (s : Shared) (H : Hp) (E : XK), Room k (A.deeper (envOfC x (defScope st) s.heap.objs.size f cdv)) → ∃ t : AS, PBD (cxOf CX0 P w K mg base N x (defScope st) f cdv A outer s H E).nox E0 (defBody st) t ∧
      ∀ ds r P' XR, sd ds r P' XR → t { nx := fun _ r' => fit P' .non r', rt := fit P' } (startD N ds) r) : Cl P w K mg base (k + 1) x ps sd := by
  obtain ⟨f, fd, F, g, b⟩ := Dx
  exact ⟨f, fd, fn_d F S len (hbody f), g, F.kp, b⟩
/-- a promise that is never asked -/
theorem cl_never {P : Program} {w : World} {K : PySem.W.Frag} {mg : Str → Option Value} {base : Heap} {x : Str} {st : Stmt} {ps : List Str} {k : Nat} {sd : SpX} (Dx : Dfn K mg x st ps) (h : ∀ ds r P' XR, ¬ sd ds r P' XR) : Cl P w K mg base k x ps sd := by
  obtain ⟨f, fd, F, g, b⟩ := Dx
  exact ⟨f, fd, ⟨fun vs H Q E ⟨r, ds, P', XR, _, _, z, _⟩ => (h _ _ _ _ z).elim, fun A outer s H args us vs Q E _ _ _ _ ⟨r, ds, P', XR, _, _, z, _⟩ => (h _ _ _ _ z).elim⟩, g, F.kp, b⟩
section
variable {X : Cx} {k j : Nat} {ps : List Str} {sd : SpX} {x : Str} {p pos : Pos} {e : Expr} {es : List Expr} {l : AL}
theorem d_fn (C : Cl X.prog X.w X.K X.mg X.base k x ps sd) (hr : Room j X.A) (ha : PDL X (e :: es) l) (hj : k ≤ j := by first | decide | exact Nat.le_refl _ | omega) (hg : Gl X x := by rfl) (hdb : (x == ("__debug__" : Str)) = false := by decide)
    (he : starEach (e :: es) X.env = (false, eval e X.env) :: starEach es X.env := by rfl) (hpl : (backTo pos (starEach es X.env)).any (·.1) = false := by rfl) : PD X (.Call (.Name x p) (e :: es) [] pos) (aCall sd [] l) := by
  obtain ⟨f, fd, F, g, kp, b⟩ := C
  exact d_call F (hr.mono hj) g kp b .nil (fun _ _ => .nil) pass0 ha hg hdb he hpl
theorem d_fn0 (C : Cl X.prog X.w X.K X.mg X.base k x ps sd) (hr : Room j X.A) (hj : k ≤ j := by first | decide | exact Nat.le_refl _ | omega) (hg : Gl X x := by rfl) (hdb : (x == ("__debug__" : Str)) = false := by decide) : PD X (.Call (.Name x p) [] [] pos) (aCall sd [] aNil) := by
  obtain ⟨f, fd, F, g, kp, b⟩ := C
  exact d_call0 F (hr.mono hj) g kp b .nil (fun _ _ => .nil) pass0 hg hdb
end
/-- names that the module does not bind -/
structure Bl (mg : Str → Option Value) : Prop where
  len : mg "len" = none
  int : mg "int" = none
  list : mg "list" = none
  tuple : mg "tuple" = none
  isi : mg "isinstance" = none
  range : mg "range" = none
  all : mg "all" = none
  any : mg "any" = none
  str : mg "str" = none
  bool : mg "bool" = none
  enum : mg "enumerate" = none
  zip : mg "zip" = none
  sum : mg "sum" = none
  max : mg "max" = none
  min : mg "min" = none
  sorted : mg "sorted" = none
  set : mg "set" = none
  dict : mg "dict" = none

/-! ### what a piece of the heap becomes -/
theorem own_step {K : PySem.W.Frag} {t t' : At} {X : Rs} {H H' : Hp} (h : Rok K (t :: X) H) (hm : t'.M = t.M) (hk : ∀ b o, ¬ t.M b → H b = some o → H' b = some o) (hT : ∀ b, t.M b → ∀ u, Rd H b u → ∀ xs, u ≠ .tup xs) (ht : t'.R K (mem (t' :: X)) H') : Rok K (t' :: X) H' ∧ Kp K (t :: X) H (t' :: X) H' := by
  have me : mem (t' :: X) = mem (t :: X) := by
    show (fun a => t'.M a ∨ mem X a) = (fun a => t.M a ∨ mem X a)
    rw [hm]
  have go : Kp K (t :: X) H (t' :: X) H' := fun v d q => by
    rw [me]
    refine Is.go (fun a xs n s => ⟨n, hk a _ (fun z => n (.inl z)) s⟩) (fun a xs s => ?_) _ _ q
    rcases s with s | s
    · have na : ¬ t.M a := fun z => hT a z _ s xs rfl
      rcases s with s | ⟨o, s⟩
      · exact .inl (.inl (hk a _ na s))
      · exact .inl (.inr ⟨o, hk a _ na s⟩)
    · exact .inr s
  obtain ⟨h1, h2, h3⟩ := h
  have go' : ∀ v d, Is K (mem (t :: X)) H v d → Is K (mem (t :: X)) H' v d := by
    have g := go
    unfold Kp at g
    rw [me] at g
    exact g
  refine ⟨⟨ht, by rw [hm]; exact h2, ?_⟩, go⟩
  rw [me]
  exact hold_loc (fun b o m q => hk b o (fun z => h2 b z m) q) go' h3
/-- the pool of draws at p, its script's rest at a; fewer than N draws so far -/
def poolA (p a : Addr) (N : Nat) : At where
  M := fun b => b = p ∨ b = a
  R := fun _ _ H => p ≠ a ∧ ∃ (ns : List Int) (c1 c2 c3 : Int), H p = some (.lst [.ref a, .int c1, .int c2, .int c3]) ∧ H a = some (.lst (ns.map V.int)) ∧ 0 ≤ c1 ∧ 0 ≤ c2 ∧ c2 ≤ N ∧ 0 ≤ c3 ∧ c3 < 2147483629 ∧ ns.length ≤ 63
  loc := fun f _ ⟨ne, ns, c1, c2, c3, h1, h2, h⟩ => ⟨ne, ns, c1, c2, c3, f _ _ (.inl rfl) h1, f _ _ (.inr rfl) h2, h⟩
  anti := fun _ h => h
  grow := fun _ h => h
  al := fun ⟨ne, ns, c1, c2, c3, h1, h2, h⟩ b z => z.elim (fun e => ⟨_, e.symm ▸ h1⟩) fun e => ⟨_, e.symm ▸ h2⟩
theorem pool_mono {p a : Addr} {N N' : Nat} (h : N ≤ N') {X : Rs} : le (poolA p a N :: X) (poolA p a N' :: X) :=
  ⟨fun b z => z, fun K H ⟨⟨ne, ns, c1, c2, c3, h1, h2, h3, h4, h5, h6⟩, q, q2⟩ => ⟨⟨ne, ns, c1, c2, c3, h1, h2, h3, h4, by omega, h6⟩, q, q2⟩⟩
/-- a draw below m -/
def spDraw : SpX := fun ds r P _ => ∃ p a m N X, ds = [.adr p, .int m] ∧ r = poolA p a N :: X ∧ (0 < m ∧ m ≤ 10000000000000000000000000000000000000000) ∧ N < 1000000000000 ∧ ∀ k, 0 ≤ k → k < m → P (.int k) (poolA p a (N + 1) :: X)
theorem pool_step {K : PySem.W.Frag} {p a : Addr} {N N' : Nat} {X : Rs} {H H' : Hp} (h : Rok K (poolA p a N :: X) H) (hk : ∀ b o, b ≠ p → b ≠ a → H b = some o → H' b = some o) (ht : (poolA p a N').R K (mem (poolA p a N' :: X)) H') : Rok K (poolA p a N' :: X) H' ∧ Kp K (poolA p a N :: X) H (poolA p a N' :: X) H' := by
  obtain ⟨⟨ne, ns, c1, c2, c3, h1, h2, _⟩, _, _⟩ := id h
  refine own_step h rfl (fun b o n q => hk b o (fun e => n (.inl e)) (fun e => n (.inr e)) q) (fun b z u q xs e => ?_) ht
  subst e
  rcases z with rfl | rfl
  · rcases q with q | ⟨o, q⟩
    · rw [h1] at q; cases q
    · rw [h1] at q; cases q
  · rcases q with q | ⟨o, q⟩
    · rw [h2] at q; cases q
    · rw [h2] at q; cases q
theorem pget_list {X : Cx} : PGet X (fun o i H Q => ∃ (p : Addr) (xs : List V) (j : Nat) (v : V), o = .ref p ∧ i = .int (j : Nat) ∧ j < 1000000 ∧ SqL X.K H p xs ∧ xs[j]? = some v ∧ Q v H) := by
  rintro pins s σ H o i ov iv Q I ro ri ⟨p, xs, j, v, rfl, rfl, hj, hq, hv, q⟩
  cases ro
  obtain ⟨t, rfl⟩ := ri
  obtain ⟨its, r, pl, hz⟩ := I.list hq
  obtain ⟨u, hu, ru⟩ := r.get hv
  exact wpAny_getItem_list pl.isList (by omega) (by omega) (by simpa using hu) ⟨v, H, I, ru, q⟩
theorem brT {A B : Prop} (h : A) : (true = true → A) ∧ (true = false → B) := ⟨fun _ => h, fun e => (by cases e)⟩
theorem brF {A B : Prop} (h : B) : (false = true → A) ∧ (false = false → B) := ⟨fun e => (by cases e), fun _ => h⟩
theorem brt {b : Bool} {A B : Prop} (e : b = true) (h : A) : (b = true → A) ∧ (b = false → B) := ⟨fun _ => h, fun q => by rw [e] at q; cases q⟩
theorem brf {b : Bool} {A B : Prop} (e : b = false) (h : B) : (b = true → A) ∧ (b = false → B) := ⟨fun q => (by rw [e] at q; cases q), fun _ => h⟩
end G

namespace G
open PySem PySem.Spec L2
open PyProof.Rows (envOfC)

/-! ### texts -/
abbrev tl (x : Str) : List Nat := x.cps.toList
def strL : List D → Option (List Str)
  | [] => some []
  | .str z :: r => (strL r).map (z :: ·)
  | _ :: _ => none
theorem strL_map : ∀ (l : List Str), strL (l.map .str) = some l
  | [] => rfl
  | b :: bs => by simp [strL, strL_map bs]
theorem strL_all {K : PySem.W.Frag} {N : Addr → Prop} {H : Hp} : ∀ {vs : List V} {ds : List D} {ys : List Str}, IsAll K N H vs ds → strL ds = some ys → vs = ys.map V.str ∧ ∀ y ∈ ys, sok y
  | _, _, _, .nil, e => by cases e; exact ⟨rfl, fun _ h => by cases h⟩
  | _, d :: ds, bs, .cons i t, e => by
    cases i <;> try (simp [strL] at e; done)
    rename_i z hz
    simp only [strL] at e
    cases q : strL ds with
    | none => rw [q] at e; cases e
    | some cs =>
      rw [q] at e
      cases e
      obtain ⟨h1, h2⟩ := strL_all t q
      rw [h1]
      exact ⟨rfl, fun y hy => (List.mem_cons.mp hy).elim (fun e => e ▸ hz) (h2 y)⟩
theorem sok_iff {z : Str} : sok z ↔ (∀ c ∈ tl z, c < 1114112) ∧ (tl z).length ≤ 1000000 := by
  unfold sok PyData.strOk Str.length
  rw [← Array.all_toList, List.all_eq_true, Array.length_toList]
  simp only [decide_eq_true_eq]
theorem joinL_mem {S : List Nat} {c : Nat} : ∀ {ps : List (List Nat)}, c ∈ TL.joinL S ps → c ∈ S ∨ ∃ p ∈ ps, c ∈ p
  | [], h => by cases h
  | [p], h => .inr ⟨p, List.mem_cons_self, h⟩
  | p :: q :: r, h => by
    rcases List.mem_append.mp h with h | h
    · exact .inr ⟨p, List.mem_cons_self, h⟩
    · rcases List.mem_append.mp h with h | h
      · exact .inl h
      · rcases joinL_mem (ps := q :: r) h with h | ⟨x, h1, h2⟩
        · exact .inl h
        · exact .inr ⟨x, List.mem_cons_of_mem _ h1, h2⟩
theorem joinL_len {S : List Nat} : ∀ {ps : List (List Nat)}, (TL.joinL S ps).length ≤ (ps.map List.length).sum + ps.length * S.length
  | [] => by simp [TL.joinL]
  | [p] => by simp [TL.joinL]
  | p :: q :: r => by
    have ih := joinL_len (S := S) (ps := q :: r)
    simp only [TL.joinL, List.length_append, List.map_cons, List.sum_cons, List.length_cons, Nat.add_mul, Nat.one_mul] at ih ⊢
    omega
def tJoin (a : Str) (ys : List Str) : Str := Txt.join a ys
theorem tl_tJoin (a : Str) (ys : List Str) : tl (tJoin a ys) = TL.joinL (tl a) (ys.map tl) := by
  unfold tJoin
  rw [TL.join_eq]
  exact TL.tl_join a ys
theorem tl_len (ys : List Str) : (ys.map tl).map List.length = ys.map (·.length) := by
  rw [List.map_map]
  rfl
def oJoinP (x y : D) (k : D → Prop) : Prop := match x with
  | .str a => match y with
    | .lst ds => (match strL ds with | some ys => (ys.map (·.length)).sum + ys.length * a.length ≤ 1000000 ∧ k (.str (tJoin a ys)) | none => False)
    | .tup ds => (match strL ds with | some ys => (ys.map (·.length)).sum + ys.length * a.length ≤ 1000000 ∧ k (.str (tJoin a ys)) | none => False)
    | _ => False
  | _ => False
structure oJoin (x y : D) (k : D → Prop) : Prop where
  ex : oJoinP x y k
def aM1 (o : O2) (ta tb : AT) : AT := fun δ r P => ta δ r fun d1 r1 => match d1 with | .str z => tb δ r1 fun d2 r2 => o (.str z) d2 fun d => P d r2 | _ => False
theorem sok_join {a : Str} {ys : List Str} (ha : sok a) (hy : ∀ y ∈ ys, sok y) (hz : (ys.map (·.length)).sum + ys.length * a.length ≤ 1000000) : sok (tJoin a ys) := by
  rw [sok_iff, tl_tJoin]
  refine ⟨fun c hc => ?_, ?_⟩
  · rcases joinL_mem hc with h | ⟨p, hp, h⟩
    · exact (sok_iff.mp ha).1 c h
    · obtain ⟨y, h1, rfl⟩ := List.mem_map.mp hp
      exact (sok_iff.mp (hy y h1)).1 c h
  · have := joinL_len (S := tl a) (ps := ys.map tl)
    rw [tl_len, List.length_map] at this
    exact Nat.le_trans this hz
section
variable {X : Cx} {o e : Expr} {ta tb : AT} {apos pos : Pos}
theorem d_join (ho : PD X o ta) (he : PD X e tb) (hs : starEach [e] X.env = [(false, eval e X.env)] := by rfl) (hbase : attributeBase o "join" X.env (eval o X.env) = eval o X.env := by rfl) (hline : (apos.endLine == pos.line) = true := by rfl) :
    PD X (.Call (.Attribute o "join" apos) [e] [] pos) (aM1 oJoin ta tb) := imE (pe_join ho he hs hbase hline) fun σ H Q q => by
  obtain ⟨δ, r, P, ok, h, k⟩ := q
  refine td_bind ok h fun d1 r1 v1 H1 h1 o1 k1 i1 => ?_
  cases i1 <;> try exact h1.elim
  rename_i z hz
  refine ⟨⟨z, rfl⟩, td_bind o1 h1 fun d2 r2 v2 H2 h2 o2 k2 i2 => ?_⟩
  obtain ⟨h2⟩ := h2
  cases i2 <;> try exact h2.elim
  · rename_i n hl al
    simp only [oJoinP] at h2
    split at h2
    · rename_i ys hys
      obtain ⟨e1, e2⟩ := strL_all al hys
      subst e1
      exact ⟨z, _, ys, rfl, rfl, .inl (SqL.of hl), Nat.le_trans h2.1 (by decide), k _ r2 _ H2 h2.2 o2 (k1.trans k2) (.str (sok_join hz e2 h2.1))⟩
    · exact h2.elim
  · rename_i hl al
    simp only [oJoinP] at h2
    split at h2
    · rename_i ys hys
      obtain ⟨e1, e2⟩ := strL_all al hys
      subst e1
      exact ⟨z, _, ys, rfl, rfl, .inr hl, Nat.le_trans h2.1 (by decide), k _ r2 _ H2 h2.2 o2 (k1.trans k2) (.str (sok_join hz e2 h2.1))⟩
    · exact h2.elim
end
/-! ### names -/
def isLet (c : Nat) : Bool := decide (97 ≤ c) && decide (c ≤ 122)
/-- 1 to 8 letters a to z -/
def isNm (z : Str) : Bool := decide (1 ≤ z.length) && decide (z.length ≤ 8) && (tl z).all isLet
theorem isNm_sok {z : Str} (h : isNm z = true) : sok z := by
  unfold isNm isLet at h
  simp only [Bool.and_eq_true, decide_eq_true_eq, List.all_eq_true] at h
  rw [sok_iff]
  refine ⟨fun c hc => ?_, ?_⟩
  · have := (h.2 c hc).2
    omega
  · have : z.length = (tl z).length := by unfold Str.length tl; simp
    omega
/-- a word is drawn -/
def spWord : SpX := fun ds r P _ => ∃ p a N X, ds = [.adr p] ∧ r = poolA p a N :: X ∧ N < 100000000000 ∧ ∀ z, isNm z = true → P (.str z) (poolA p a (N + 9) :: X)
/-- the pool is made of a script -/
def spPool (K : PySem.W.Frag) : Sp := fun vs H Q _ => ∃ (s : Addr) (ns : List Int), vs = [.ref s] ∧ SqL K H s (ns.map V.int) ∧ ns.length ≤ 63 ∧ ∀ p a H', Rok K [poolA p a 0] H' → Q (.ref p) H'
/-- a law: a list of at most 63 ints is handed in, True comes out -/
def spLaw (K : PySem.W.Frag) : Sp := fun vs H Q _ => ∃ (a : Addr) (ns : List Int), vs = [.ref a] ∧ SqL K H a (ns.map V.int) ∧ ns.length ≤ 63 ∧ ∀ H', Q (.bl true) H'
end G

namespace G
open PySem PySem.Spec L2
/-! ### small readings -/
theorem ix_s {z : Str} {i : Int} {c : Nat} {k : D → Prop} (h : atI (tl z) i = some c) (q : k (.str ⟨#[c]⟩)) : oIx (.str z) (.int i) k := by
  refine ⟨?_⟩
  show (match atI (tl z) i with | some c => k (.str ⟨#[c]⟩) | none => False)
  rw [h]
  exact q
theorem ix_l {z : List D} {i : Int} {c : D} {k : D → Prop} (h : atI z i = some c) (q : k c) : oIx (.lst z) (.int i) k := by
  refine ⟨?_⟩
  show (match atI z i with | some c => k c | none => False)
  rw [h]
  exact q
theorem ix_t {z : List D} {i : Int} {c : D} {k : D → Prop} (h : atI z i = some c) (q : k c) : oIx (.tup z) (.int i) k := by
  refine ⟨?_⟩
  show (match atI z i with | some c => k c | none => False)
  rw [h]
  exact q
theorem join_l {a : Str} {ds : List D} {ys : List Str} {k : D → Prop} (h : strL ds = some ys) (hz : (ys.map (·.length)).sum + ys.length * a.length ≤ 1000000) (q : k (.str (tJoin a ys))) : oJoin (.str a) (.lst ds) k := by
  refine ⟨?_⟩
  show (match strL ds with | some ys => (ys.map (·.length)).sum + ys.length * a.length ≤ 1000000 ∧ k (.str (tJoin a ys)) | none => False)
  rw [h]
  exact ⟨hz, q⟩
theorem join_t {a : Str} {ds : List D} {ys : List Str} {k : D → Prop} (h : strL ds = some ys) (hz : (ys.map (·.length)).sum + ys.length * a.length ≤ 1000000) (q : k (.str (tJoin a ys))) : oJoin (.str a) (.tup ds) k := by
  refine ⟨?_⟩
  show (match strL ds with | some ys => (ys.map (·.length)).sum + ys.length * a.length ≤ 1000000 ∧ k (.str (tJoin a ys)) | none => False)
  rw [h]
  exact ⟨hz, q⟩
def sg (c : Nat) : Str := ⟨#[c]⟩
theorem joinL_sg : ∀ cs : List Nat, TL.joinL [] (cs.map fun c => [c]) = cs
  | [] => rfl
  | [c] => rfl
  | c :: d :: r => by
    have ih := joinL_sg (d :: r)
    show [c] ++ ([] ++ TL.joinL [] ((d :: r).map fun c => [c])) = _
    rw [ih]
    rfl
theorem tl_signs (cs : List Nat) : tl (tJoin ⟨#[]⟩ (cs.map sg)) = cs := by
  rw [tl_tJoin, List.map_map]
  exact joinL_sg cs
theorem len_tl (z : Str) : z.length = (tl z).length := by unfold Str.length tl; simp
theorem sum_ones : ∀ cs : List Nat, ((cs.map sg).map (·.length)).sum = cs.length
  | [] => rfl
  | c :: cs => by
    rw [List.map_cons, List.map_cons, List.sum_cons, sum_ones cs, List.length_cons]
    show 1 + cs.length = _
    omega
theorem nm_signs {cs : List Nat} (h1 : 1 ≤ cs.length) (h8 : cs.length ≤ 8) (h : ∀ c ∈ cs, isLet c = true) : isNm (tJoin ⟨#[]⟩ (cs.map sg)) = true := by
  unfold isNm
  rw [len_tl, tl_signs]
  simp only [Bool.and_eq_true, decide_eq_true_eq, List.all_eq_true]
  exact ⟨⟨h1, h8⟩, h⟩
theorem strL_sg (cs : List Nat) : strL (cs.map fun c => D.str (sg c)) = some (cs.map sg) := by
  have h := strL_map (cs.map sg)
  rw [List.map_map] at h
  exact h
def abc : Str := "abcdefghijklmnopqrstuvwxyz"
theorem abc_all : ((List.range 26).all fun n => match atI (tl abc) ((n : Nat) : Int) with | some c => isLet c | none => false) = true := by decide +kernel
theorem abc_at {k : Int} (h0 : 0 ≤ k) (h1 : k < 26) : ∃ c, atI (tl abc) k = some c ∧ isLet c = true := by
  have h := List.all_eq_true.mp abc_all k.toNat (List.mem_range.mpr (by omega))
  rw [Int.toNat_of_nonneg h0] at h
  cases e : atI (tl abc) k with
  | none => rw [e] at h; cases h
  | some c => rw [e] at h; exact ⟨c, rfl, h⟩
/-! ### data alone -/
mutual
/-- no address in it, nothing long -/
def plain : D → Bool
  | .adr _ => false | .lst ds => decide (ds.length ≤ 1000000) && plains ds | .tup ds => decide (ds.length ≤ 1000000) && plains ds | _ => true
def plains : List D → Bool
  | [] => true
  | d :: ds => plain d && plains ds
end
mutual
/-- the same, True no 1 -/
def same : D → D → Bool
  | .non, .non => true
  | .bl a, .bl b => a == b
  | .int a, .int b => a == b
  | .str a, .str b => a == b
  | .lst a, .lst b => sames a b
  | .tup a, .tup b => sames a b
  | _, _ => false
def sames : List D → List D → Bool
  | [], [] => true
  | a :: as, b :: bs => same a b && sames as bs
  | _, _ => false
end
mutual
theorem same_refl : ∀ d : D, plain d = true → same d d = true
  | .non, _ => rfl
  | .bl b, _ => by simp [same]
  | .int b, _ => by simp [same]
  | .str b, _ => by simp [same]
  | .adr _, h => by cases h
  | .lst ds, h => by simp only [same]; exact sames_refl ds (by simp only [plain, Bool.and_eq_true] at h; exact h.2)
  | .tup ds, h => by simp only [same]; exact sames_refl ds (by simp only [plain, Bool.and_eq_true] at h; exact h.2)
theorem sames_refl : ∀ ds : List D, plains ds = true → sames ds ds = true
  | [], _ => rfl
  | d :: ds, h => by
    simp only [plains, Bool.and_eq_true] at h
    simp only [sames, same_refl d h.1, sames_refl ds h.2]
    rfl
end
theorem plain_tup {ds : List D} (h : plain (.tup ds) = true) : ds.length ≤ 1000000 ∧ plains ds = true := by
  simp only [plain, Bool.and_eq_true, decide_eq_true_eq] at h
  exact h
theorem plain_lst {ds : List D} (h : plain (.lst ds) = true) : ds.length ≤ 1000000 ∧ plains ds = true := by
  simp only [plain, Bool.and_eq_true, decide_eq_true_eq] at h
  exact h
theorem plain_of_tup {ds : List D} (h : ds.length ≤ 1000000) (g : plains ds = true) : plain (.tup ds) = true := by
  simp only [plain, Bool.and_eq_true, decide_eq_true_eq]
  exact ⟨h, g⟩
theorem plain_of_lst {ds : List D} (h : ds.length ≤ 1000000) (g : plains ds = true) : plain (.lst ds) = true := by
  simp only [plain, Bool.and_eq_true, decide_eq_true_eq]
  exact ⟨h, g⟩
theorem plains_mem : ∀ {ds : List D} {d : D}, plains ds = true → d ∈ ds → plain d = true
  | [], _, _, m => by cases m
  | a :: as, d, h, m => by
    simp only [plains, Bool.and_eq_true] at h
    rcases List.mem_cons.mp m with rfl | m
    · exact h.1
    · exact plains_mem h.2 m
theorem plains_of : ∀ {ds : List D}, (∀ d ∈ ds, plain d = true) → plains ds = true
  | [], _ => rfl
  | a :: as, h => by
    simp only [plains, Bool.and_eq_true]
    exact ⟨h a List.mem_cons_self, plains_of fun d m => h d (List.mem_cons_of_mem _ m)⟩
theorem sames_len : ∀ {a b : List D}, sames a b = true → a.length = b.length
  | [], [], _ => rfl
  | _ :: _, _ :: _, h => by
    simp only [sames, Bool.and_eq_true] at h
    rw [List.length_cons, List.length_cons, sames_len h.2]
  | [], _ :: _, h => by simp [sames] at h
  | _ :: _, [], h => by simp [sames] at h
mutual
theorem same_eq : ∀ a b : D, same a b = true → a = b
  | .non, b, h => by cases b <;> first | rfl | (simp [same] at h)
  | .bl x, b, h => by cases b <;> first | (simp [same] at h; rw [h]) | (simp [same] at h)
  | .int x, b, h => by cases b <;> first | (simp [same] at h; rw [h]) | (simp [same] at h)
  | .str x, b, h => by cases b <;> first | (simp [same] at h; rw [h]) | (simp [same] at h)
  | .adr x, b, h => by cases b <;> simp [same] at h
  | .lst xs, b, h => by cases b <;> first | (simp only [same] at h; rw [sames_eq xs _ h]) | (simp [same] at h)
  | .tup xs, b, h => by cases b <;> first | (simp only [same] at h; rw [sames_eq xs _ h]) | (simp [same] at h)
theorem sames_eq : ∀ a b : List D, sames a b = true → a = b
  | [], [], _ => rfl
  | x :: xs, y :: ys, h => by
    simp only [sames, Bool.and_eq_true] at h
    rw [same_eq x y h.1, sames_eq xs ys h.2]
  | [], _ :: _, h => by simp [sames] at h
  | _ :: _, [], h => by simp [sames] at h
end
theorem eqD_bl (a b : Bool) : eqD (.bl a) (.bl b) = (a == b) := by cases a <;> cases b <;> rfl
theorem eqD_int (a b : Int) : eqD (.int a) (.int b) = (a == b) := rfl
theorem eqD_str (a b : Str) : eqD (.str a) (.str b) = (a == b) := rfl
theorem oEq_bl {a b : Bool} {k : D → Prop} (h : k (.bl (a == b))) : oEq (.bl a) (.bl b) k := ⟨Nat.zero_le _, Nat.zero_le _, by rw [eqD_bl]; exact h⟩
theorem oNe_bl {a b : Bool} {k : D → Prop} (h : k (.bl (!(a == b)))) : oNe (.bl a) (.bl b) k := ⟨Nat.zero_le _, Nat.zero_le _, by rw [eqD_bl]; exact h⟩
theorem oEq_int {a b : Int} {k : D → Prop} (h : k (.bl (a == b))) : oEq (.int a) (.int b) k := ⟨Nat.zero_le _, Nat.zero_le _, by rw [eqD_int]; exact h⟩
theorem oNe_int {a b : Int} {k : D → Prop} (h : k (.bl (!(a == b)))) : oNe (.int a) (.int b) k := ⟨Nat.zero_le _, Nat.zero_le _, by rw [eqD_int]; exact h⟩
theorem oEq_str {a b : Str} {k : D → Prop} (h : k (.bl (a == b))) : oEq (.str a) (.str b) k := ⟨Nat.zero_le _, Nat.zero_le _, by rw [eqD_str]; exact h⟩
theorem oNe_str {a b : Str} {k : D → Prop} (h : k (.bl (!(a == b)))) : oNe (.str a) (.str b) k := ⟨Nat.zero_le _, Nat.zero_le _, by rw [eqD_str]; exact h⟩
theorem ne_len {m n : Nat} (h : m ≠ n) : (!eqD (.int m) (.int n)) = true := by
  rw [eqD_int]
  simp
  omega
theorem eq_len {m n : Nat} (h : m = n) : (!eqD (.int m) (.int n)) = false := by
  rw [eqD_int, h]
  simp
theorem sames_at : ∀ {xs ys : List D} {j : Nat} {x y : D}, sames xs ys = true → xs[j]? = some x → ys[j]? = some y → same x y = true
  | [], _, j, x, y, _, e, _ => by simp at e
  | _ :: _, [], j, x, y, h, _, _ => by simp [sames] at h
  | a :: as, b :: bs, 0, x, y, h, e, f => by
    simp only [sames, Bool.and_eq_true] at h
    simp at e f
    rw [← e, ← f]
    exact h.1
  | a :: as, b :: bs, j + 1, x, y, h, e, f => by
    simp only [sames, Bool.and_eq_true] at h
    exact sames_at (j := j) h.2 (by simpa using e) (by simpa using f)
theorem sames_of : ∀ {xs ys : List D}, xs.length = ys.length → (∀ (j : Nat) (x y : D), xs[j]? = some x → ys[j]? = some y → same x y = true) → sames xs ys = true
  | [], [], _, _ => rfl
  | [], _ :: _, h, _ => by cases h
  | _ :: _, [], h, _ => by cases h
  | a :: as, b :: bs, h, f => by
    simp only [sames, Bool.and_eq_true]
    exact ⟨f 0 a b rfl rfl, sames_of (by simpa using h) fun j x y e g => f (j + 1) x y (by simpa using e) (by simpa using g)⟩
theorem plains_at : ∀ {xs : List D} {j : Nat} {x : D}, plains xs = true → xs[j]? = some x → plain x = true
  | [], j, x, _, e => by simp at e
  | a :: as, 0, x, h, e => by
    simp only [plains, Bool.and_eq_true] at h
    simp at e
    rw [← e]
    exact h.1
  | a :: as, j + 1, x, h, e => by
    simp only [plains, Bool.and_eq_true] at h
    exact plains_at (j := j) h.2 (by simpa using e)
theorem deps_at : ∀ {xs : List D} {j : Nat} {x : D}, xs[j]? = some x → dep x ≤ deps xs
  | [], j, x, e => by simp at e
  | a :: as, 0, x, e => by
    simp at e
    rw [← e]
    simp only [deps]
    omega
  | a :: as, j + 1, x, e => by
    have := deps_at (xs := as) (j := j) (x := x) (by simpa using e)
    simp only [deps]
    omega
/-- the loop of _law_same -/
theorem same_sides {xs ys : List D} {j : Nat} {y : D} (hl : xs.length = ys.length) (e : ys[j]? = some y) : ∃ x, xs[j]? = some x := by
  have := (List.getElem?_eq_some_iff.mp e).1
  exact ⟨xs[j]'(by omega), by simp⟩
/-- _law_same: two data, depth below n -/
def spSame (n : Nat) : SpX := fun ds r P _ => ∃ a b, ds = [a, b] ∧ plain a = true ∧ plain b = true ∧ dep a ≤ 64 ∧ dep b < n ∧ P (.bl (same a b)) r
end G

namespace G
open PySem PySem.Spec L2
open PyProof.Rows (envOfC)
/-! ### written dicts -/
/-- the pairs of a written dict with text keys -/
def KdL (K : PySem.W.Frag) (P : Params) : List DictEntry → List (Str × D) → Prop
  | [], [] => True
  | e :: r, (x, d) :: t => (∃ tk, e.key = .str x tk ∧ e.hash = PyData.keyHash P x ∧ ∃ v, RelV v e.val ∧ ∀ M H, Is K M H v d) ∧ KdL K P r t
  | _, _ => False
theorem KdL.lit {K : PySem.W.Frag} {P : Params} : ∀ {es : List DictEntry} {tbl : List (Str × D)}, KdL K P es tbl → PySem.W.KeysLit P es
  | [], [], _ => trivial
  | e :: r, (x, d) :: t, ⟨⟨tk, h1, h2, _⟩, h⟩ => ⟨⟨x, tk, h1, h2⟩, h.lit⟩
  | [], _ :: _, h => h.elim
  | _ :: _, [], h => h.elim
theorem isStr_str (x z : Str) (t : Tok) : (Value.str x t).isStr z = (x == z) := by
  rw [PySem.W.isStr_of]
  rfl
theorem KdL.find {K : PySem.W.Frag} {P : Params} (z : Str) : ∀ {es : List DictEntry} {tbl : List (Str × D)}, KdL K P es tbl → match tbl.lookup z with
    | some d => ∃ e v, es.find? (·.key.isStr z) = some e ∧ RelV v e.val ∧ ∀ M H, Is K M H v d
    | none => es.find? (·.key.isStr z) = none ∧ es.any (·.refKey) = false
  | [], [], _ => ⟨rfl, rfl⟩
  | [], _ :: _, h => h.elim
  | _ :: _, [], h => h.elim
  | e :: r, (x, d) :: t, ⟨⟨tk, h1, h2, v, h3, h4⟩, h⟩ => by
    have ih := KdL.find z h
    rw [List.lookup_cons, List.find?_cons, h1, isStr_str]
    by_cases hz : x = z
    · subst hz
      have e1 : (x == x) = true := by simp
      rw [e1]
      exact ⟨e, v, rfl, h3, h4⟩
    · have e1 : (x == z) = false := by simpa using hz
      have e2 : (z == x) = false := by simpa using fun q => hz q.symm
      rw [e1, e2]
      dsimp only
      have e3 : e.refKey = false := by unfold DictEntry.refKey; rw [h1]
      cases q : t.lookup z with
      | some d0 => rw [q] at ih; exact ih
      | none =>
        rw [q] at ih
        refine ⟨ih.1, ?_⟩
        rw [List.any_cons, e3, ih.2]
        rfl
theorem kd_of {K : PySem.W.Frag} {w : World} {d : Addr} {es : Array DictEntry} {n : Nat} {tbl : List (Str × D)} (hl : K.lookup d = some ⟨.type "dict", none, .dict es n, #[]⟩) (low : (d == sysModules) = false) (ht : KdL K w.params es.toList tbl) : KD K w d tbl := by
  refine ⟨⟨es, n, hl, ht.lit⟩, low, fun z => ?_⟩
  have h := ht.find z
  unfold PySem.W.nsIn
  rw [hl]
  dsimp only
  cases q : tbl.lookup z with
  | some d0 =>
    rw [q] at h
    obtain ⟨e, v, h1, h2, h3⟩ := h
    rw [h1]
    exact ⟨e.val, v, rfl, h2, h3⟩
  | none =>
    rw [q] at h
    show (match es.toList.find? _ with | some e => _ | none => _) = _
    rw [h.1]
    dsimp only
    rw [h.2]
    rfl
/-! ### a law's first row -/
theorem law_go {K : PySem.W.Frag} {E : XK} {t : AS} {N : List Str} {Dd : Ends} {s p a : Addr} {H' : Hp} (ro : Rok K [poolA p a 0] H') (hD : ∀ H', Dd.rt (.bl true) H')
    (h : t { nx := fun _ _ => False, rt := fun d _ => d = .bl true } (none :: some (.adr p) :: List.replicate (N.length - 2) none) [poolA p a 0]) (hN : 2 ≤ N.length := by decide) : TSD K E t Dd ((L2.start N [.ref s]).set 1 (some (.ref p))) H' := by
  refine ⟨_, _, _, ⟨fun i d e => ?_, ro, ?_⟩, h, ⟨fun _ _ _ _ z => z.elim, fun d r' v H2 e _ _ i => ?_, fun _ _ _ _ z => z.elim, fun _ _ _ _ z => z.elim, fun _ _ _ _ _ _ _ z => z.elim⟩⟩
  · match i with
    | 0 => cases e
    | 1 =>
      cases e
      refine ⟨.ref p, ?_, .adr p⟩
      rw [List.getElem?_set_self]
      unfold L2.start
      simp
      omega
    | i + 2 =>
      have e : (List.replicate (N.length - 2) (none : Option D))[i]? = some (some d) := e
      rw [List.getElem?_replicate] at e
      split at e <;> cases e
  · unfold L2.start
    simp
    omega
  · subst e
    cases i
    exact hD _
/-! ### the top's facts -/
theorem dfn_mk {K : PySem.W.Frag} {h : Heap} {mg : Str → Option Value} (X : K.In h) (G : h.Ns mainGlobals mg) {x : Str} {st : Stmt} {ps : List Str} {f : Addr} {oc : Value} {od an : Option Addr} {osl : Array (Option Value)} {kV doc pm cdv ct : Value}
    (a : PySem.W.nsIn K mainGlobals x = some (some (.ref f))) (l : K.lookup f = some ⟨oc, od, .func (PySem.W.fnOf x x (defArgs st) (defBody st) (defScope st) .none kV doc pm an cdv ct), osl⟩) (c : PySem.W.codeIn K cdv x = true) (k : PySem.W.keepIn K (.ref f) = true)
    (b : ∀ (kV doc pm : Value) (an : Option Addr) (cdv ct : Value) (us : List Value), us.length = ps.length → bindArgs (PySem.W.fnOf x x (defArgs st) (defBody st) (defScope st) .none kV doc pm an cdv ct) ⟨us, []⟩ = pure (ps.zip us)) : Dfn K mg x st ps :=
  have F := fun_mk (st := st) l c k
  ⟨f, _, F, PySem.W.mg_of X G a, F.binds b⟩
theorem law_end {P : Program} {w : World} {K : PySem.W.Frag} {h : Heap} {mg : Str → Option Value} (X : K.In h) (G : h.Ns mainGlobals mg) {fa f : Addr} {st : Stmt} {n : Nat} (hfa : mg "law" = some (.ref fa)) {oc : Value} {od an : Option Addr} {osl : Array (Option Value)} {kV doc pm cdv ct : Value}
    (a : PySem.W.nsIn K mainGlobals "law" = some (some (.ref f))) (l : K.lookup f = some ⟨oc, od, .func (PySem.W.fnOf "law" "law" (defArgs st) (defBody st) (defScope st) .none kV doc pm an cdv ct), osl⟩) (c : PySem.W.codeIn K cdv "law" = true) (k : PySem.W.keepIn K (.ref f) = true)
    (b : ∀ v : Value, bindArgs (PySem.W.fnOf "law" "law" (defArgs st) (defBody st) (defScope st) .none kV doc pm an cdv ct) ⟨[v], []⟩ = pure [(("_law_script" : Str), v)])
    (ok : ∀ (base : Heap) (fd : FuncData), Fun K "law" "law" st f fd → FnOk P w K mg base CX0 n f fd ["_law_script"] (spLaw K)) :
    ∃ fd : FuncData, (∀ (s : Shared) (v : Value), BindsTo s fd ⟨[v], []⟩ [("_law_script", v)]) ∧ ∀ base : Heap, K.In base → base.Ns mainGlobals mg → FnOk P w K mg base CX0 n fa fd ["_law_script"] (spLaw K) := by
  have e := hfa.symm.trans (PySem.W.mg_of X G a)
  cases e
  exact ⟨_, fun s v => .of_eq (b v), fun base _ _ => ok base _ (fun_mk (st := st) l c k)⟩
/-! ### small -/
theorem at0 {α : Type} {z : α} {l : List α} : atI (z :: l) 0 = some z := L2.atI_nat (j := 0) rfl
theorem at1 {α : Type} {z y : α} {l : List α} : atI (z :: y :: l) 1 = some y := L2.atI_nat (j := 1) rfl
theorem at2 {α : Type} {z y x : α} {l : List α} : atI (z :: y :: x :: l) 2 = some x := L2.atI_nat (j := 2) rfl
theorem cut_mem {α : Type} {x : α} {xs : List α} {lo hi : Nat} (h : x ∈ (xs.drop lo).take hi) : x ∈ xs := List.mem_of_mem_drop (List.mem_of_mem_take h)
theorem cutD_mem {x : D} {xs : List D} {lo hi : Option Int} (h : x ∈ cutD xs lo hi) : x ∈ xs := cut_mem h
theorem cutD_len {xs : List D} {lo hi : Option Int} : (cutD xs lo hi).length ≤ xs.length := by
  unfold cutD
  rw [List.length_take, List.length_drop]
  omega
theorem sl_t {xs : List D} {lo hi : Option Int} {k : D → Prop} (h : k (.tup (cutD xs lo hi))) : oSl (.tup xs) lo hi k := ⟨h⟩
theorem sl_l {xs : List D} {lo hi : Option Int} {k : D → Prop} (h : k (.lst (cutD xs lo hi))) : oSl (.lst xs) lo hi k := ⟨h⟩
theorem sl_s {z : Str} {lo hi : Option Int} {k : D → Prop} (h : k (.str (cutS z lo hi))) : oSl (.str z) lo hi k := ⟨h⟩
theorem cutD_from (n : Nat) (xs : List D) : cutD xs (some (n : Int)) none = xs.drop n := by
  unfold cutD
  have e : HT.sIx xs.length 0 (some (n : Int)) = min n xs.length := HT.sIx_nat xs.length 0 n
  rw [e, HT.sIx_none]
  rcases Nat.le_total n xs.length with h | h
  · rw [Nat.min_eq_left h]
    exact List.take_of_length_le (by rw [List.length_drop]; exact Nat.le_refl _)
  · rw [Nat.min_eq_right h, List.drop_eq_nil_of_le h, List.drop_eq_nil_of_le (Nat.le_refl _)]
    exact List.take_nil
theorem oSl_n (n : Nat) {vs : List D} {k : D → Prop} (h : k (.tup (vs.drop n))) : oSl (.tup vs) (some (n : Int)) none k := sl_t (by rw [cutD_from]; exact h)
theorem oSl_1 {v : D} {vs : List D} {k : D → Prop} (h : k (.tup vs)) : oSl (.tup (v :: vs)) (some 1) none k := oSl_n 1 h
theorem eqv_str (a : Str) : PyData.eqv (.str a) (.str a) = true := by
  show (a == a) = true
  simp
end G

namespace G
open PySem PySem.Spec L2
open PyProof.Rows (envOfC)
/-! ### match of a text against texts -/
structure PMt (X : Cx) (p : Pattern) (f : Str → Bool) : Prop where
  run : ∀ (pins : List (Addr × Obj)) (s : Shared) (σ : L2.St) (H : Hp) (z : Str) (t : Tok) (Q : Option (List (Str × Value)) → Shared → Prop), Inv X pins σ H s → sok z →
    (∀ s', Inv X pins σ H s' → Q (cond (f z) (some []) none) s') → wpAny (model X.prog X.w) X.A (matchPattern p X.env (.str z t)) Q X.xe s
structure PMf (X : Cx) (ps : List Pattern) (f : Str → Bool) : Prop where
  run : ∀ (pins : List (Addr × Obj)) (s : Shared) (σ : L2.St) (H : Hp) (z : Str) (t : Tok) (Q : Option (List (Str × Value)) → Shared → Prop), Inv X pins σ H s → sok z →
    (∀ s', Inv X pins σ H s' → Q (cond (f z) (some []) none) s') → wpAny (model X.prog X.w) X.A (matchFirst ps X.env (.str z t)) Q X.xe s
section
variable {X : Cx}
theorem pm_v {c : Str} {j : Nat} {p1 pos : Pos} (hu : X.A.units + 64 < cLine) (h : sokB c = true := by decide +kernel) : PMt X (.MatchValue (.Constant (.str c) j p1) pos) (fun z => z == c) := by
  refine ⟨fun pins s σ H z t Q I hz k => wpAny_matchPattern_Value ?_⟩
  refine thn ((pe_str (X := X) (x := c) (j := j) (pos := p1)).run pins s σ H (fun v H' => v = .str c ∧ H' = H) I ⟨rfl, rfl⟩) fun x s1 ⟨v, H1, I1, r1, e1, e2⟩ => ?_
  subst e1
  subst e2
  have i1 : Is X.K (fun _ => False) H1 (.str z) (.str z) := .str hz
  have i2 : Is X.K (fun _ => False) H1 (.str c) (.str c) := .str (sok_of h)
  obtain ⟨a1, b1⟩ := shaped_py i1 (Nat.zero_le _)
  obtain ⟨a2, b2⟩ := shaped_py i2 (Nat.zero_le _)
  refine thn (op_eqD hu pins s1 σ H1 (.str z) (.str c) (.str z t) x (fun v H' => v = .bl (z == c) ∧ H' = H1) I1 ⟨t, rfl⟩ r1 ⟨_, _, a1, a2, b1, b2, rfl, rfl⟩) fun cc s2 ⟨v, H2, I2, r2, e1, e2⟩ => ?_
  subst e1
  subst e2
  cases r2
  refine wpAny_truthy_bool ?_
  have := k s2 I2
  cases q : (z == c) <;> rw [q] at this <;> exact this
theorem pm_any {pos : Pos} : PMt X (.MatchAs none none pos) (fun _ => true) := ⟨fun pins s σ H z t Q I hz k => wpAny_matchPattern_Capture (k s I)⟩
theorem pf_nil : PMf X [] (fun _ => false) := ⟨fun pins s σ H z t Q I hz k => wpAny_matchFirst_nil (k s I)⟩
theorem pf_cons {p : Pattern} {ps : List Pattern} {f g : Str → Bool} (h : PMt X p f) (h2 : PMf X ps g) : PMf X (p :: ps) (fun z => f z || g z) := by
  refine ⟨fun pins s σ H z t Q I hz k => wpAny_matchFirst_cons (h.run pins s σ H z t _ I hz fun s1 I1 => ?_)⟩
  cases q : f z with
  | true =>
    have := fun s' I' => k s' I'
    simp only [q, Bool.true_or, cond_true] at this
    exact this s1 I1
  | false =>
    refine h2.run pins s1 σ H z t Q I1 hz fun s2 I2 => ?_
    have := k s2 I2
    rw [q, Bool.false_or] at this
    exact this
theorem pm_or {ps : List Pattern} {pos : Pos} {f : Str → Bool} (h : PMf X ps f) : PMt X (.MatchOr ps pos) f := by
  refine ⟨fun pins s σ H z t Q I hz k => wpAny_matchPattern_Or (h.run pins s σ H z t _ I hz fun s1 I1 => ?_)⟩
  have := k s1 I1
  cases q : f z with
  | true =>
    rw [q] at this
    have e : ((namesOfAll (ps.take 1)).filterMap fun n => (([] : List (Str × Value)).lookup n).map (n, ·)) = [] := by
      induction namesOfAll (ps.take 1) with
      | nil => rfl
      | cons a l ih => exact ih
    show Q (some ((namesOfAll (ps.take 1)).filterMap fun n => (([] : List (Str × Value)).lookup n).map (n, ·))) s1
    rw [e]
    exact this
  | false =>
    rw [q] at this
    exact this
/-- the cases at a text -/
def PCs (X : Cx) (E : XK) (cs : List MatchCase) (t : Str → AS) : Prop := ∀ (first : Bool) (pins : List (Addr × Obj)) (s : Shared) (σ : L2.St) (H : Hp) (D : Ends) (z : Str) (tk : Tok), Inv X pins σ H s → sok z → TSD X.K E (t z) D σ H →
  wpAny (model X.prog X.w) X.A (matchCases cs X.env (.str z tk) first) (SP X pins D) X.xe s
def sMc (f : Str → Bool) (u : AS) (v : Str → AS) : Str → AS := fun z A δ r => (f z = true → u A δ r) ∧ (f z = false → v z A δ r)
theorem pc_nil {E : XK} : PCs X E [] (fun _ => sNext) := fun first pins s σ H D z tk I hz ⟨δ, r, A, o, h, f⟩ => wpAny_matchCases_nil ⟨σ, H, I, f.nx _ _ _ _ h o Kp.refl⟩
theorem pc_cons {E : XK} {p : Pattern} {body : List Stmt} {cs : List MatchCase} {f : Str → Bool} {u : AS} {v : Str → AS} (h : PMt X p f) (hb : PBD X E body u) (hc : PCs X E cs v) : PCs X E (⟨p, none, body⟩ :: cs) (sMc f u v) :=
  fun first pins s σ H D z tk I hz ⟨δ, r, A, o, q, fi⟩ => wpAny_matchCases_cons (h.run pins s σ H z tk _ I hz fun s1 I1 => by
    cases e : f z with
    | true => exact wpAny_assignInOrder_none (hb.run pins s1 σ H D I1 ⟨δ, r, A, o, q.1 e, fi⟩)
    | false => exact hc false pins s1 σ H D z tk I1 hz ⟨δ, r, A, o, q.2 e, fi⟩)
def sMatch (te : AT) (t : Str → AS) : AS := fun A δ r => te δ r fun d r1 => match d with | .str z => t z A δ r1 | _ => False
theorem s_match {E : XK} {e : Expr} {cs : List MatchCase} {pos : Pos} {te : AT} {t : Str → AS} (he : PD X e te) (hc : PCs X E cs t) : PSD X E (.Match e cs pos) (sMatch te t) := by
  refine ⟨fun pins s σ H D I ⟨δ, r, A, o, h, f⟩ => wpAny_Match ?_⟩
  refine thn (he.run pins s σ H (fun v H1 => ∃ z, v = .str z ∧ sok z ∧ TSD X.K E (t z) D σ H1) I (td_bind o h fun d r1 v H1 h1 o1 k1 i1 => ?_)) fun u s1 ⟨v, H1, I1, r1, z, e1, hz, q⟩ => ?_
  · cases i1 <;> try exact h1.elim
    rename_i z hz
    exact ⟨z, rfl, hz, δ, r1, A, o1, h1, f.step k1⟩
  · subst e1
    obtain ⟨tk, rfl⟩ := r1
    exact hc true pins s1 σ H1 D z tk I1 hz q
/-! ### zip of two lists, of two tuples -/
def zipD (xs ys : List D) : List D := (xs.zip ys).map fun e => .tup [e.1, e.2]
def iZp (l : AL) : AI := fun δ r P => l δ r fun ds r1 => match ds with
  | [.lst xs, .lst ys] => xs.length = ys.length ∧ P (zipD xs ys) r1
  | [.tup xs, .tup ys] => xs.length = ys.length ∧ P (zipD xs ys) r1
  | _ => False
theorem zipD_at {xs ys : List D} {i : Nat} {x y : D} (h1 : xs[i]? = some x) (h2 : ys[i]? = some y) : (zipD xs ys)[i]? = some (.tup [x, y]) := by
  unfold zipD
  rw [List.getElem?_map]
  have : (xs.zip ys)[i]? = some (x, y) := by
    rw [List.getElem?_zip_eq_some]
    exact ⟨h1, h2⟩
  rw [this]
  rfl
theorem zipD_len {xs ys : List D} (h : xs.length = ys.length) : (zipD xs ys).length = xs.length := by
  unfold zipD
  rw [List.length_map, List.length_zip, h, Nat.min_self]
theorem walks_zT {K : PySem.W.Frag} {r : Rs} {H : Hp} {a b : Addr} {ds es : List D} (hl : ds.length = es.length) (h : Is K (mem r) H (.ref a) (.tup ds)) (g : Is K (mem r) H (.ref b) (.tup es)) : Walks K (RZ.ItzT K a b) (zipD ds es) r H := by
  intro i r1 H1 k _
  cases k _ _ h with
  | tup s al =>
    cases k _ _ g with
    | tup s2 al2 =>
      rename_i xs ys
      refine ⟨fun hi => ?_, fun hi => ⟨xs, ys, s, s2, .inl (by rw [al.length, hi, zipD_len hl] <;> exact Nat.le_refl _)⟩⟩
      rw [zipD_len hl] at hi
      refine ⟨⟨xs, ys, xs[i]'(by rw [al.length]; exact hi), ys[i]'(by rw [al2.length, ← hl]; exact hi), s, s2, by simp, by simp⟩, ?_⟩
      rintro x H2 ⟨T, x1, y1, rfl, hT, rfl, hx, hy⟩
      obtain ⟨d1, h1, j1⟩ := al.get (hx xs s)
      obtain ⟨d2, h2, j2⟩ := al2.get (hy ys s2)
      exact ⟨Ext.new hT, .tup [d1, d2], zipD_at h1 h2, new_tup hT (.cons j1 (.cons j2 .nil))⟩
theorem walks_zL {K : PySem.W.Frag} {r : Rs} {H : Hp} {a b : Addr} {ds es : List D} (hl : ds.length = es.length) (h : Is K (mem r) H (.ref a) (.lst ds)) (g : Is K (mem r) H (.ref b) (.lst es)) : Walks K (Itz K a b) (zipD ds es) r H := by
  intro i r1 H1 k _
  cases k _ _ h with
  | lst n s al =>
    cases k _ _ g with
    | lst n2 s2 al2 =>
      rename_i xs ys
      refine ⟨fun hi => ?_, fun hi => ⟨xs, ys, SqL.of s, SqL.of s2, .inl (by rw [al.length, hi, zipD_len hl] <;> exact Nat.le_refl _)⟩⟩
      rw [zipD_len hl] at hi
      refine ⟨⟨xs, ys, xs[i]'(by rw [al.length]; exact hi), ys[i]'(by rw [al2.length, ← hl]; exact hi), SqL.of s, SqL.of s2, by simp, by simp⟩, ?_⟩
      rintro x H2 ⟨T, x1, y1, rfl, hT, rfl, hx, hy⟩
      obtain ⟨d1, h1, j1⟩ := al.get (hx xs (SqL.of s))
      obtain ⟨d2, h2, j2⟩ := al2.get (hy ys (SqL.of s2))
      exact ⟨Ext.new hT, .tup [d1, d2], zipD_at h1 h2, new_tup hT (.cons j1 (.cons j2 .nil))⟩
theorem i_zip {e e2 : Expr} {elts : List Expr} {kk : Nat} {p pos tpos : Pos} {l : AL} (hg : Gl X "zip") (hm : X.mg "zip" = none) (ha : PDL X [e, e2] l)
    (hs : starEach [e, e2] X.env = (false, eval e X.env) :: starEach [e2] X.env := by rfl) (hpl : (backTo pos (starEach [e2] X.env)).any (·.1) = false := by rfl) : PDI X (.Tuple elts kk tpos) (.Call (.Name "zip" p) [e, e2] [] pos) (iZp l) :=
  imI (RZ.pi_zipA hg hm ha hs hpl) fun σ H Q ⟨δ, r, P, o, q, k⟩ => tdl_bind o q fun ds r1 vs H1 h1 o1 k1 i1 => by
    match ds, h1, i1 with
    | [.lst xs, .lst ys], h1, .cons (.lst n s al) (.cons (.lst n2 s2 al2) .nil) => exact ⟨_, _, _, _, rfl, .inl ⟨SqL.of s, SqL.of s2, k _ _ _ _ h1.2 o1 k1 (walks_zL h1.1 (.lst n s al) (.lst n2 s2 al2))⟩⟩
    | [.tup xs, .tup ys], h1, .cons (.tup s al) (.cons (.tup s2 al2) .nil) => exact ⟨_, _, _, _, rfl, .inr ⟨s, s2, k _ _ _ _ h1.2 o1 k1 (walks_zT h1.1 (.tup s al) (.tup s2 al2))⟩⟩
/-! ### written dicts: d[k], d.get(k) -/
variable {dk : Addr} {tbl : List (Str × D)}
def oKix (d : Addr) (tbl : List (Str × D)) : O2 := fun x y k => x = .adr d ∧ match y with | .str z => (match tbl.lookup z with | some v => k v | none => False) | _ => False
theorem p_kix (T : KD X.K X.w dk tbl) : IxR X (rD X.K (oKix dk tbl)) := by
  rintro value slice pins s σ H x y v u Q I rx ry ⟨r, d1, d2, P, hr, i1, i2, ho, k⟩ hs
  obtain ⟨rfl, ho⟩ := ho
  cases i2 <;> try exact ho.elim
  rename_i z hz
  cases i1
  obtain ⟨es, n, hl, hk⟩ := T.at_
  have g := T.get z
  cases e : tbl.lookup z with
  | none => simp only [e] at ho
  | some d0 =>
    simp only [e] at ho g
    obtain ⟨u0, v0, h1, h2, h3⟩ := g
    exact ix_kdict value slice pins s σ H _ _ v u Q I rx ry ⟨dk, z, v0, rfl, rfl, ⟨es, n, u0, hl, hk, h1, h2⟩, k d0 v0 H ho (Ext.refl H) (h3 _ _)⟩ hs
theorem d_kix {a b : Expr} {ta tb : AT} {pos : Pos} (T : KD X.K X.w dk tbl) (ha : PD X a ta) (hb : PD X b tb) (hs : PlainIx b := by exact fun _ _ => rfl) : PD X (.Subscript a b pos) (aOp (oKix dk tbl) ta tb) := imE (pe_ix (p_kix T) ha hb hs) fun _ _ _ q => td_op q
def aKGet1 (tbl : List (Str × D)) (te : AT) : AT := fun δ r P => te δ r fun k r1 => match k with | .str z => P ((tbl.lookup z).getD .non) r1 | _ => False
theorem d_kget1 {x : Str} {p apos cpos : Pos} {e : Expr} {te : AT} (T : KD X.K X.w dk tbl) (hm : X.mg x = some (.ref dk)) (he : PD X e te) (m : M1 X (.Name x p) "get" apos e cpos) (hg : Gl X x := by rfl) (hdb : (x == ("__debug__" : Str)) = false := by decide) :
    PD X (.Call (.Attribute (.Name x p) "get" apos) [e] [] cpos) (aKGet1 tbl te) := by
  refine ⟨fun pins s σ H Q I h => ?_⟩
  obtain ⟨δ, r, P, o, h, k⟩ := h
  refine wpAny_Call_method m.base m.few m.line PySem.F.plainAttrs_dict PySem.F.slot_dict_get PySem.F.type_dict_get (ld_glob I hg hm ?_ hdb)
  obtain ⟨t1, t2⟩ := kd_type' T I
  refine ⟨t1, t2, ?_⟩
  rw [m.trees]
  refine Calls.callWith_builtin rfl (Calls.evalArgs_plain (Calls.spliced_cons (thn (he.run pins s σ H (fun v H3 => ∃ (w0 : V) (zz : Str), v = .str zz ∧ (∃ w1, RelV w0 w1 ∧ w1 = (match PySem.W.nsIn X.K dk zz with | some (some u0) => u0 | _ => Value.none)) ∧ Q w0 H3) I (td_bind o h fun kd r1 v H1 h1 o1 k1 i1 => ?_)) fun iv s2 ⟨y, H3, I3, ry, ⟨w0, zz, ey, hw, q3⟩⟩ => Calls.spliced_nil ?_)))
  · cases i1 <;> try exact h1.elim
    rename_i zz hz
    have h2 : P ((tbl.lookup zz).getD .non) r1 := h1
    have g := T.get zz
    split at g
    · rename_i dd e
      obtain ⟨u0, v0, g1, g2, g3⟩ := g
      rw [e] at h2
      exact ⟨v0, zz, rfl, ⟨u0, g2, by rw [g1]⟩, k dd r1 v0 H1 h2 o1 k1 (g3 _ _)⟩
    · rename_i e
      rw [e] at h2
      exact ⟨.non, zz, rfl, ⟨Value.none, rfl, by rw [g]⟩, k .non r1 .non H1 h2 o1 k1 .non⟩
  · subst ey
    obtain ⟨t, rfl⟩ := ry
    obtain ⟨fm, hmap, hfm⟩ := kd_find (P := X.prog) T I3.kIn
    obtain ⟨w1, hw1, ew⟩ := hw
    refine call_meetsIn PySem.F.slot_dict_get hmap.typeIs PySem.F.entry_dict_get (PySem.F.args_dict_get_2 _ _) (meets_dict_get (strKind X.prog X.w) dk (PySem.strKind_is X.prog X.w zz t) T.low) ⟨_, hmap, ⟨w0, H3, I3.tok _, ?_, q3⟩⟩
    have : w1 = (fm zz).getD Value.none := by
      rw [ew, hfm zz]
      cases fm zz <;> rfl
    rw [← this]
    exact hw1
/-- a text of the module -/
theorem d_tuS {x : Str} {a : Addr} {xs : List Str} {vs : List V} {pos : Pos} (hm : X.mg x = some (.ref a)) (ht : ∀ M H, Is X.K M H (.ref a) (.tup (xs.map .str))) (hg : Gl X x := by rfl) (hdb : (x == ("__debug__" : Str)) = false := by decide) : PD X (.Name x pos) (aC (.tup (xs.map .str))) := d_glob (v := .ref a) hg hm rfl ht hdb
end
end G
namespace G
open PySem PySem.Spec L2
/-! ### constants of the module -/
def GS (mg : Str → Option Value) (x z : Str) : Prop := ∃ t, mg x = some (.str z t)
def GI (mg : Str → Option Value) (x : Str) (n : Int) : Prop := ∃ t, mg x = some (.int n t)
def GT (K : PySem.W.Frag) (mg : Str → Option Value) (x : Str) (xs : List Str) : Prop := ∃ a, mg x = some (.ref a) ∧ ∀ M H, Is K M H (.ref a) (.tup (xs.map .str))
def GD (K : PySem.W.Frag) (w : World) (mg : Str → Option Value) (x : Str) (tbl : List (Str × D)) : Prop := ∃ d, mg x = some (.ref d) ∧ KD K w d tbl
section
variable {X : Cx} {x : Str} {pos : Pos}
theorem d_gS {z : Str} (h : GS X.mg x z) (hz : sokB z = true := by decide +kernel) (hg : Gl X x := by rfl) (hdb : (x == ("__debug__" : Str)) = false := by decide) : PD X (.Name x pos) (aC (.str z)) := by
  obtain ⟨t, h⟩ := h
  exact d_glob (v := .str z) hg h ⟨t, rfl⟩ (fun _ _ => .str (sok_of hz)) hdb
theorem d_gI {n : Int} (h : GI X.mg x n) (hg : Gl X x := by rfl) (hdb : (x == ("__debug__" : Str)) = false := by decide) : PD X (.Name x pos) (aC (.int n)) := by
  obtain ⟨t, h⟩ := h
  exact d_glob (v := .int n) hg h ⟨t, rfl⟩ (fun _ _ => .int n) hdb
theorem d_gT {xs : List Str} (h : GT X.K X.mg x xs) (hg : Gl X x := by rfl) (hdb : (x == ("__debug__" : Str)) = false := by decide) : PD X (.Name x pos) (aC (.tup (xs.map .str))) := by
  obtain ⟨a, h, i⟩ := h
  exact d_glob (v := .ref a) hg h rfl i hdb
end
/-- the texts of a written tuple -/
def strVs : List Value → Option (List Str)
  | [] => some []
  | .str x _ :: r => (strVs r).map (x :: ·)
  | _ :: _ => none
theorem strVs_vals : ∀ {l : List Value} {xs : List Str}, strVs l = some xs → Vals (xs.map V.str) l
  | [], _, e => by cases e; exact .nil
  | .str x t :: r, xs, e => by
    simp only [strVs] at e
    cases q : strVs r with
    | none => rw [q] at e; cases e
    | some ys =>
      rw [q] at e
      cases e
      exact .cons ⟨t, rfl⟩ (strVs_vals q)
theorem all_strs {K : PySem.W.Frag} {M : Addr → Prop} {H : Hp} : ∀ {xs : List Str}, xs.all sokB = true → IsAll K M H (xs.map V.str) (xs.map D.str)
  | [], _ => .nil
  | x :: xs, h => by
    rw [List.all_cons, Bool.and_eq_true] at h
    exact .cons (.str (sok_of h.1)) (all_strs h.2)
theorem isK_tup {K : PySem.W.Frag} {a : Addr} {od : Option Addr} {its : Array Value} {n : Nat} {sl : Array (Option Value)} {xs : List Str} (hl : K.lookup a = some ⟨.type "tuple", od, .seq its n, sl⟩) (h : strVs its.toList = some xs) (hs : xs.all sokB = true) (hn : xs.length ≤ 1000000) (M : Addr → Prop) (H : Hp) : Is K M H (.ref a) (.tup (xs.map .str)) := by
  have v := strVs_vals h
  refine .tup (xs := xs.map V.str) (.inr ⟨_, its, n, hl, rfl, rfl, ?_, v⟩) (all_strs hs)
  have e := v.length
  rw [List.length_map] at e
  have e2 : its.size = xs.length := by rw [← Array.length_toList]; exact e.symm
  rw [e2, sizeLine_eq]
  omega
theorem u65 {k : Nat} {A : Around} (r : Room k A) : A.units + 65 < cLine := by have := r.un; omega
/-! ### readings made short -/
theorem memD_str (z : Str) (xs : List Str) : memD (.str z) (xs.map .str) = xs.any fun y => y == z := by
  unfold memD
  rw [List.any_map]
  congr 1
theorem flat_strs (xs : List Str) : (xs.map D.str).all flat = true := by
  rw [List.all_map, List.all_eq_true]
  exact fun _ _ => rfl
theorem oIn_t {z : Str} {xs : List Str} {k : D → Prop} (h : k (.bl (xs.any fun y => y == z))) : oIn false (.str z) (.tup (xs.map .str)) k := ⟨⟨rfl, flat_strs xs, by rw [cond_false, memD_str]; exact h⟩⟩
theorem oNi_t {z : Str} {xs : List Str} {k : D → Prop} (h : k (.bl (!(xs.any fun y => y == z)))) : oIn true (.str z) (.tup (xs.map .str)) k := ⟨⟨rfl, flat_strs xs, by rw [cond_true, memD_str]; exact h⟩⟩
theorem oAll_of {f : List Bool → Bool} {xs : List D} {bs : List Bool} {k : D → Prop} (h : bls xs = some bs) (q : k (.bl (f bs))) : oAll f [.lst xs] k := by
  refine ⟨?_⟩
  show (match bls xs with | some bs => k (.bl (f bs)) | none => False)
  rw [h]
  exact q
theorem bls_of {α : Type} (f : α → Bool) (xs : List α) : bls (xs.map fun x => D.bl (f x)) = some (xs.map f) := by
  have := bls_map (xs.map f)
  rw [List.map_map] at this
  exact this
theorem abc_in : ((List.range 123).all fun c => isLet c == decide (c ∈ tl abc)) = true := by decide +kernel
theorem abc_max : ((tl abc).all fun c => decide (c < 123)) = true := by decide +kernel
theorem isLet_abc (c : Nat) : decide (c ∈ tl abc) = isLet c := by
  by_cases h : c < 123
  · exact (eq_of_beq (List.all_eq_true.mp abc_in c (List.mem_range.mpr h))).symm
  · have h1 : c ∉ tl abc := fun m => h (of_decide_eq_true (List.all_eq_true.mp abc_max c m))
    rw [decide_eq_false h1]
    unfold isLet
    have : ¬ c ≤ 122 := by omega
    simp [this]
def isNameD : D → Bool | .str z => isNm z | _ => false
def spIsName : SpX := fun ds r P _ => ∃ d, ds = [d] ∧ plain d = true ∧ P (.bl (isNameD d)) r
end G

namespace G
open PySem PySem.Spec L2
open PyProof.Rows (envOfC)
/-! ### lists of our own, at any place of the assertion -/
def Own (r : Rs) (l : Addr) (ds : List D) : Prop := ∃ pre post, r = pre ++ lstA l ds :: post
theorem Own.hd {r : Rs} {l : Addr} {ds : List D} : Own (lstA l ds :: r) l ds := ⟨[], r, rfl⟩
theorem Own.last {r : Rs} {l : Addr} {ds : List D} : Own (r ++ [lstA l ds]) l ds := ⟨r, [], rfl⟩
theorem Own.tl {r : Rs} {l : Addr} {ds : List D} {t : At} (h : Own r l ds) : Own (t :: r) l ds := by
  obtain ⟨pre, post, rfl⟩ := h
  exact ⟨t :: pre, post, rfl⟩
section
variable {K : PySem.W.Frag} {r pre post : Rs} {H : Hp} {l p : Addr} {ds es : List D} {vs ws : List V}
theorem mem_mid {x y : At} (h : x.M = y.M) : mem (pre ++ x :: post) = mem (pre ++ y :: post) := by
  funext a
  refine propext ((mem_append (r := pre) (r' := x :: post)).trans (Iff.trans ?_ (mem_append (r := pre) (r' := y :: post)).symm))
  show (mem pre a ∨ (x.M a ∨ mem post a)) ↔ (mem pre a ∨ (y.M a ∨ mem post a))
  rw [h]
theorem own_mid (h : Rok K (pre ++ lstA l ds :: post) H) : ∃ vs, H l = some (.lst vs) ∧ IsAll K (mem (pre ++ lstA l ds :: post)) H vs ds := by
  obtain ⟨_, ⟨h2, _⟩, _⟩ := hold_append.mp h
  exact h2
theorem own_get (h : Rok K r H) (o : Own r l ds) : ∃ vs, H l = some (.lst vs) ∧ IsAll K (mem r) H vs ds := by
  obtain ⟨pre, post, rfl⟩ := o
  exact own_mid h
theorem own_mem : mem (pre ++ lstA l ds :: post) l := mem_append.mpr (.inr (.inl rfl))
theorem own_put (h : Rok K (pre ++ lstA l ds :: post) H) (i : IsAll K (mem (pre ++ lstA l ds :: post)) H ws es) : Rok K (pre ++ lstA l es :: post) (upd H l (.lst ws)) ∧ Kp K (pre ++ lstA l ds :: post) H (pre ++ lstA l es :: post) (upd H l (.lst ws)) := by
  obtain ⟨vs, e1, _⟩ := own_mid h
  obtain ⟨h1, ⟨h2, h3, h4⟩, h5⟩ := hold_append.mp h
  have me : mem (pre ++ lstA l ds :: post) = mem (pre ++ lstA l es :: post) := mem_mid rfl
  have go : ∀ w e, Is K (mem (pre ++ lstA l ds :: post)) H w e → Is K (mem (pre ++ lstA l ds :: post)) (upd H l (.lst ws)) w e := fun w e q => is_other own_mem e1 q
  refine ⟨hold_append.mpr ⟨?_, ⟨⟨ws, upd_same, ?_⟩, h3, ?_⟩, h5⟩, fun w e q => me ▸ go w e q⟩
  · rw [← me]
    exact hold_loc (fun b o m q => by rw [upd_ne (fun e => h5 b m (.inl e))]; exact q) go h1
  · rw [← me]
    exact all_of go i
  · rw [← me]
    exact hold_loc (fun b o m q => by rw [upd_ne (fun e => h3 b e m)]; exact q) go h4
theorem own_drop (h : Rok K (pre ++ lstA l ds :: post) H) : Rok K (pre ++ post) H ∧ Is K (mem (pre ++ post)) H (.ref l) (.lst ds) ∧ Kp K (pre ++ lstA l ds :: post) H (pre ++ post) H := by
  obtain ⟨h1, ⟨h2, h3, h4⟩, h5⟩ := hold_append.mp h
  have an : ∀ a, mem (pre ++ post) a → mem (pre ++ lstA l ds :: post) a := fun a z => (mem_append.mp z).elim (fun z => mem_append.mpr (.inl z)) fun z => mem_append.mpr (.inr (.inr z))
  obtain ⟨vs, e1, e2⟩ := h2
  refine ⟨hold_append.mpr ⟨hold_anti an h1, hold_anti an h4, fun a m z => h5 a m (.inr z)⟩, .lst (fun z => ?_) e1 (all_of (fun _ _ => is_anti an) e2), fun _ _ => is_anti an⟩
  rcases mem_append.mp z with z | z
  · exact h5 l z (.inl rfl)
  · exact h3 l rfl z
theorem rok_new (h : Rok K r H) (hp : H p = none) (i : IsAll K (mem r) H vs ds) : Rok K (r ++ [lstA p ds]) (upd H p (.lst vs)) ∧ Kp K r H (r ++ [lstA p ds]) (upd H p (.lst vs)) := by
  have e : ∀ a, mem (r ++ [lstA p ds]) a → mem r a ∨ a = p := fun a z => (mem_append.mp z).elim .inl fun z => z.elim .inr False.elim
  have go : Kp K r H (r ++ [lstA p ds]) (upd H p (.lst vs)) := fun v d q => is_anti e (is_ext (Ext.new hp) _ _ (is_grow hp q))
  refine ⟨hold_append.mpr ⟨hold_anti e (hold_ext (Ext.new hp) (hold_grow hp h)), ⟨⟨vs, upd_same, all_of go i⟩, fun _ _ z => z, True.intro⟩, fun a m z => ?_⟩, go⟩
  have : a = p := z.elim (fun z => z) False.elim
  subst this
  exact not_al h hp m
end
/-! ### fresh lists that are our own -/
def aLstO (l : AL) : AT := fun δ r P => l δ r fun ds r1 => small ds.length ∧ ∀ p, P (.adr p) (r1 ++ [lstA p ds])
section
variable {X : Cx} {e : Expr} {es : List Expr} {pos : Pos} {l : AL} {te : AT}
theorem d_lstO (ha : PDL X es l) : PD X (.List es pos) (aLstO l) := imE (pe_lst ha) fun σ H Q q => by
  obtain ⟨δ, r, P, o, h, k⟩ := q
  refine tdl_bind o h fun ds r1 vs H1 h1 o1 k1 i1 => ⟨by rw [i1.length]; exact h1.1.sz, fun p hp => ?_⟩
  obtain ⟨q1, q2⟩ := rok_new o1.r hp i1
  exact k _ _ _ _ (h1.2 p) (o1.step q2 q1) (k1.trans q2) (.adr p)
/-- a name's own list handed on as data -/
def aMove (te : AT) : AT := fun δ r P => te δ r fun d r1 => ∃ l ds pre post, d = .adr l ∧ r1 = pre ++ lstA l ds :: post ∧ P (.lst ds) (pre ++ post)
theorem d_move (h : PD X e te) : PD X e (aMove te) := imE h fun σ H Q q => by
  obtain ⟨δ, r, P, o, h, k⟩ := q
  refine td_bind o h fun d r1 v H1 h1 o1 k1 i1 => ?_
  obtain ⟨l, ds, pre, post, rfl, rfl, h1⟩ := h1
  cases i1
  obtain ⟨q1, q2, q3⟩ := own_drop o1.r
  exact k _ _ _ _ h1 (o1.step q3 q1) (k1.trans q3) q2
/-! ### calls of builtins, operators that look at the assertion -/
def rC2 (K : PySem.W.Frag) (o : Rs → OC) : List V → Hp → VK → Prop := fun vs H Q => ∃ (r : Rs) (ds : List D) (P : D → Prop), Rok K r H ∧ IsAll K (mem r) H vs ds ∧ o r ds P ∧ ∀ d v H', P d → Ext H H' → Is K (mem r) H' v d → Q v H'
def aBlt2 (o : Rs → OC) (l : AL) : AT := fun δ r P => l δ r fun ds r1 => o r1 ds fun d => P d r1
theorem tcb2 {K : PySem.W.Frag} {o : Rs → OC} {l : AL} {σ : L2.St} {H : Hp} {Q : VK} (q : TD K (aBlt2 o l) σ H Q) : tCB (rC2 K o) (TDL K l) σ H Q := by
  obtain ⟨δ, r, P, ok, h, k⟩ := q
  refine tdl_bind ok h fun ds r1 vs H1 h1 o1 k1 i1 => ⟨r1, ds, fun d => P d r1, o1.r, i1, h1, fun d v H' p e i => k d r1 v H' p (o1.ext e) (k1.trans (Kp.ext e)) i⟩
theorem d_blt2 {bid : String} {o : Rs → OC} {x : Str} {p : Pos} (hc : CallR X (.builtin bid) (rC2 X.K o)) (hg : Gl X x) (hm : X.mg x = none) (ha : PDL X (e :: es) l) (hv : bootBuiltins x = some (.builtin bid) := by decide +kernel) (hn : x ≠ "__name__" := by decide) (hdb : (x == ("__debug__" : Str)) = false := by decide)
    (he : starEach (e :: es) X.env = (false, eval e X.env) :: starEach es X.env := by rfl) (hpl : (backTo pos (starEach es X.env)).any (·.1) = false := by rfl) : PD X (.Call (.Name x p) (e :: es) [] pos) (aBlt2 o l) :=
  imE (pe_callB hc hg hm hv ha hn hdb he hpl) fun _ _ _ q => tcb2 q
structure oLenO (r : Rs) (ds : List D) (k : D → Prop) : Prop where
  ex : ∃ l xs, ds = [.adr l] ∧ Own r l xs ∧ (xs.length ≤ sizeLine → k (.int xs.length))
theorem c_lenO : CallR X (.builtin "len") (rC2 X.K oLenO) := by
  rintro pins s σ H vs us Q I rv ⟨r, ds, P, hr, i, ⟨l, xs, rfl, ow, ho⟩, k⟩
  obtain ⟨ws, h1, h2⟩ := own_get hr ow
  cases i with
  | cons i t =>
    cases t
    cases i
    obtain ⟨_, _, _, hz⟩ := I.list (SqL.of h1)
    exact call_len pins s σ H _ us Q I rv ⟨_, _, rfl, .inl ⟨_, SqL.of h1, rfl⟩, by rw [h2.length] at hz ⊢; exact k _ _ H (ho hz) (Ext.refl H) (.int _)⟩
def rD2 (K : PySem.W.Frag) (o : Rs → O2) : R2 := fun x y H Q => ∃ (r : Rs) (d1 d2 : D) (P : D → Prop), Rok K r H ∧ Is K (mem r) H x d1 ∧ Is K (mem r) H y d2 ∧ o r d1 d2 P ∧ ∀ d v H', P d → Ext H H' → Is K (mem r) H' v d → Q v H'
def aOp2 (o : Rs → O2) (ta tb : AT) : AT := fun δ r P => ta δ r fun d1 r1 => tb δ r1 fun d2 r2 => o r2 d1 d2 fun d => P d r2
theorem td_op2 {K : PySem.W.Frag} {o : Rs → O2} {ta tb : AT} {σ : L2.St} {H : Hp} {Q : VK} (q : TD K (aOp2 o ta tb) σ H Q) : tOp (rD2 K o) (TD K ta) (TD K tb) σ H Q := by
  obtain ⟨δ, r, P, ok, h, k⟩ := q
  refine td_bind ok h fun d1 r1 v1 H1 h1 o1 k1 i1 => td_bind o1 h1 fun d2 r2 v2 H2 h2 o2 k2 i2 => ?_
  exact ⟨r2, d1, d2, fun d => P d r2, o2.r, k2 _ _ i1, i2, h2, fun d v H' p e i => k d r2 v H' p (o2.ext e) ((k1.trans k2).trans (Kp.ext e)) i⟩
structure oIxO (r : Rs) (x y : D) (k : D → Prop) : Prop where
  ex : ∃ l xs i d, x = .adr l ∧ y = .int i ∧ Own r l xs ∧ atI xs i = some d ∧ k d
theorem p_ixO : IxR X (rD2 X.K oIxO) := by
  rintro value slice pins s σ H x y v u Q I rx ry ⟨r, d1, d2, P, hr, i1, i2, ⟨l, xs, i, d, rfl, rfl, ow, hd, ho⟩, k⟩ hs
  cases i1
  cases i2
  obtain ⟨ws, h1, h2⟩ := own_get hr ow
  obtain ⟨w, hw, iw⟩ := at_all h2 hd
  exact ix_list value slice pins s σ H _ _ v u Q I rx ry ⟨_, _, _, _, rfl, rfl, SqL.of h1, hw, k _ _ H ho (Ext.refl H) iw⟩ hs
theorem d_ixO {a b : Expr} {ta tb : AT} (ha : PD X a ta) (hb : PD X b tb) (hs : PlainIx b := by exact fun _ _ => rfl) : PD X (.Subscript a b pos) (aOp2 oIxO ta tb) := imE (pe_ix p_ixO ha hb hs) fun _ _ _ q => td_op2 q
/-- a test of an own list -/
def aTruO (te : AT) : AB := fun δ r P => te δ r fun d r1 => ∃ l xs, d = .adr l ∧ Own r1 l xs ∧ P (!xs.isEmpty) r1
theorem b_truO {a : Expr} {ta : AT} (ha : PD X a ta) (he : ∀ whole, isTrue a X.env whole = (do let v ← whole; standAt a.pos; holding [v] (truthy v)) := by intro _; rfl) : PDB X a (aTruO ta) := imT (pt_truth ha he) fun σ H Q q => by
  obtain ⟨δ, r, P, ok, h, k⟩ := q
  refine td_bind ok h fun d r1 v H1 h1 o1 k1 i1 => ?_
  obtain ⟨l, xs, rfl, ow, h1⟩ := h1
  cases i1
  obtain ⟨ws, g1, g2⟩ := own_get o1.r ow
  refine ⟨!ws.isEmpty, ?_, ?_⟩
  · exact .inl ⟨ws, SqL.of g1, rfl⟩
  · rw [isEmpty_all g2]
    exact k _ r1 H1 h1 o1 k1
/-! ### methods that change an own list -/
abbrev OM := Rs → Addr → List D → (D → Rs → Prop) → Prop
def aMth (om : OM) (to : AT) (l : AL) : AT := fun δ r P => to δ r fun d r1 => ∃ a xs, d = .adr a ∧ Own r1 a xs ∧ l δ r1 fun ds r2 => om r2 a ds P
def OMok (K : PySem.W.Frag) (om : OM) (rr : V → List V → Hp → VK → Prop) : Prop := ∀ r a ds P H vs Q, Rok K r H → IsAll K (mem r) H vs ds → om r a ds P → (∀ d r' v H', P d r' → Rok K r' H' → Kp K r H r' H' → Is K (mem r') H' v d → Q v H') → rr (.ref a) vs H Q
theorem d_mth {om : OM} {rr : V → List V → Hp → VK → Prop} {o : Expr} {to : AT} {name : Str} {id : String} {apos cpos : Pos} (slot : Slot "list" name id) (hty : typeOf (.builtin id) = pure (.type "method_descriptor")) (hm : MtR X id rr) (hom : OMok X.K om rr) (ho : PD X o to) (ha : PDL X (e :: es) l)
    (hbase : attributeBase o name X.env (eval o X.env) = eval o X.env := by rfl)
    (hfew : ((backTo cpos (starEach (e :: es) X.env)).all (fun x => !x.1) && (backToKw cpos (keywordEach [] X.env)).all (fun x => x.1.isSome)
      && decide ((e :: es).length + ([] : List Keyword).length + (if ([] : List Keyword).isEmpty then 0 else 1) < 30)) = true := by rfl)
    (hline : (apos.endLine == cpos.line) = true := by rfl) (hs : starEach (e :: es) X.env = (false, eval e X.env) :: starEach es X.env := by rfl) (hplain : (backTo cpos (starEach es X.env)).any (·.1) = false := by rfl) :
    PD X (.Call (.Attribute o name apos) (e :: es) [] cpos) (aMth om to l) := imE (pe_bm PySem.F.plainAttrs_list slot hty hm ho ha hbase hfew hline hs hplain) fun σ H Q q => by
  obtain ⟨δ, r, P, ok, h, k⟩ := q
  refine td_bind ok h fun d r1 v H1 h1 o1 k1 i1 => ?_
  obtain ⟨a, xs, rfl, ow, h1⟩ := h1
  cases i1
  obtain ⟨ws, g1, g2⟩ := own_get o1.r ow
  refine ⟨.inl ⟨rfl, ws, SqL.of g1⟩, tdl_bind o1 h1 fun ds r2 vs H2 h2 o2 k2 i2 => ?_⟩
  exact hom r2 a ds P H2 vs Q o2.r i2 h2 fun d r' v H' p ro kk i => k d r' v H' p (o2.step kk ro) ((k1.trans k2).trans kk) i
structure oApp (r : Rs) (a : Addr) (ds : List D) (P : D → Rs → Prop) : Prop where
  ex : ∃ pre xs post y, ds = [y] ∧ r = pre ++ lstA a xs :: post ∧ small (xs.length + 1) ∧ P .non (pre ++ lstA a (xs ++ [y]) :: post)
theorem om_app {K : PySem.W.Frag} : OMok K oApp rAppend := by
  rintro r a ds P H vs Q ro i ⟨pre, xs, post, y, rfl, rfl, hz, hp⟩ k
  cases i with
  | cons i t =>
    cases t
    obtain ⟨ws, e1, e2⟩ := own_mid ro
    obtain ⟨q1, q2⟩ := own_put ro (e2.append (.cons i .nil))
    exact ⟨a, ws, _, rfl, rfl, e1, by rw [e2.length]; exact Nat.lt_of_lt_of_le (Nat.lt_succ_self _) hz.sz, k _ _ _ _ hp q1 q2 .non⟩
theorem d_app {o : Expr} {to : AT} {apos cpos : Pos} (ho : PD X o to) (ha : PDL X [e] l) (hbase : attributeBase o "append" X.env (eval o X.env) = eval o X.env := by rfl)
    (hfew : ((backTo cpos (starEach [e] X.env)).all (fun x => !x.1) && (backToKw cpos (keywordEach [] X.env)).all (fun x => x.1.isSome)
      && decide (([e] : List Expr).length + ([] : List Keyword).length + (if ([] : List Keyword).isEmpty then 0 else 1) < 30)) = true := by rfl)
    (hline : (apos.endLine == cpos.line) = true := by rfl) (hs : starEach [e] X.env = (false, eval e X.env) :: starEach [] X.env := by rfl) (hplain : (backTo cpos (starEach [] X.env)).any (·.1) = false := by rfl) : PD X (.Call (.Attribute o "append" apos) [e] [] cpos) (aMth oApp to l) :=
  d_mth PySem.F.slot_list_append PySem.F.type_list_append mt_append om_app ho ha hbase hfew hline hs hplain
structure oExt (r : Rs) (a : Addr) (ds : List D) (P : D → Rs → Prop) : Prop where
  ex : ∃ pre xs post ys, ds = [.lst ys] ∧ r = pre ++ lstA a xs :: post ∧ small (xs.length + ys.length) ∧ P .non (pre ++ lstA a (xs ++ ys) :: post)
theorem om_ext {K : PySem.W.Frag} : OMok K oExt rExtend := by
  rintro r a ds P H vs Q ro i ⟨pre, xs, post, ys, rfl, rfl, hz, hp⟩ k
  cases i with
  | cons i t =>
    cases t
    cases i with
    | lst n s al =>
      obtain ⟨ws, e1, e2⟩ := own_mid ro
      obtain ⟨q1, q2⟩ := own_put ro (e2.append al)
      exact ⟨a, _, ws, _, rfl, rfl, e1, s, by rw [e2.length, al.length]; exact hz.sz, k _ _ _ _ hp q1 q2 .non⟩
def rIns : V → List V → Hp → VK → Prop := fun x vs H Q => ∃ (l : Addr) (xs : List V) (i : Int) (y : V), x = .ref l ∧ vs = [.int i, y] ∧ H l = some (.lst xs) ∧ xs.length < sizeLine ∧ 0 ≤ i ∧ i < 2 ^ 63 ∧ Q .non (upd H l (.lst (xs.take i.toNat ++ [y] ++ xs.drop i.toNat)))
structure oIns (r : Rs) (a : Addr) (ds : List D) (P : D → Rs → Prop) : Prop where
  ex : ∃ pre xs post y, ∃ n : Nat, ds = [.int n, y] ∧ r = pre ++ lstA a xs :: post ∧ small (xs.length + 1) ∧ n ≤ 1000000 ∧ P .non (pre ++ lstA a (xs.take n ++ [y] ++ xs.drop n) :: post)
theorem om_ins {K : PySem.W.Frag} : OMok K oIns rIns := by
  rintro r a ds P H vs Q ro i ⟨pre, xs, post, y, n, rfl, rfl, hz, hn, hp⟩ k
  cases i with
  | cons i t =>
    cases i
    cases t with
    | cons i2 t =>
      cases t
      obtain ⟨ws, e1, e2⟩ := own_mid ro
      obtain ⟨q1, q2⟩ := own_put ro (((e2.take n).append (.cons i2 .nil)).append (e2.drop n))
      exact ⟨a, ws, n, _, rfl, rfl, e1, by rw [e2.length]; exact Nat.lt_of_lt_of_le (Nat.lt_succ_self _) hz.sz, by omega, by omega, k _ _ _ _ hp q1 q2 .non⟩
structure oPopAt (r : Rs) (a : Addr) (ds : List D) (P : D → Rs → Prop) : Prop where
  ex : ∃ pre xs post y, ∃ n : Nat, ds = [.int n] ∧ r = pre ++ lstA a xs :: post ∧ xs[n]? = some y ∧ n ≤ 1000000 ∧ P y (pre ++ lstA a (xs.eraseIdx n) :: post)
theorem erase_all {K : PySem.W.Frag} {N : Addr → Prop} {H : Hp} : ∀ {vs : List V} {ds : List D} (n : Nat), IsAll K N H vs ds → IsAll K N H (vs.eraseIdx n) (ds.eraseIdx n)
  | _, _, _, .nil => .nil
  | _, _, 0, .cons _ t => t
  | _, _, n + 1, .cons h t => .cons h (erase_all n t)
theorem set_all {K : PySem.W.Frag} {N : Addr → Prop} {H : Hp} {v : V} {d : D} (i : Is K N H v d) : ∀ {vs : List V} {ds : List D} (n : Nat), IsAll K N H vs ds → IsAll K N H (vs.set n v) (ds.set n d)
  | _, _, _, .nil => .nil
  | _, _, 0, .cons _ t => .cons i t
  | _, _, n + 1, .cons h t => .cons h (set_all i n t)
theorem om_popAt {K : PySem.W.Frag} : OMok K oPopAt rPopAt := by
  rintro r a ds P H vs Q ro i ⟨pre, xs, post, y, n, rfl, rfl, hy, hn, hp⟩ k
  cases i with
  | cons i t =>
    cases i
    cases t
    obtain ⟨ws, e1, e2⟩ := own_mid ro
    obtain ⟨v, hv, iv⟩ := e2.getD hy
    obtain ⟨q1, q2⟩ := own_put ro (erase_all n e2)
    have hl := (List.getElem?_eq_some_iff.mp hv).1
    exact ⟨a, ws, n, n, v, rfl, rfl, e1, by omega, by omega, PySem.StrLaws.seqIndex_nonneg (by omega) (by omega), hv, k _ _ _ _ hp q1 q2 (q2 _ _ iv)⟩
section
variable {X : Cx} {e : Expr} {es : List Expr} {l : AL} {o : Expr} {to : AT} {apos cpos : Pos}
theorem d_ext (ho : PD X o to) (ha : PDL X [e] l) (hbase : attributeBase o "extend" X.env (eval o X.env) = eval o X.env := by rfl)
    (hfew : ((backTo cpos (starEach [e] X.env)).all (fun x => !x.1) && (backToKw cpos (keywordEach [] X.env)).all (fun x => x.1.isSome)
      && decide (([e] : List Expr).length + ([] : List Keyword).length + (if ([] : List Keyword).isEmpty then 0 else 1) < 30)) = true := by rfl)
    (hline : (apos.endLine == cpos.line) = true := by rfl) (hs : starEach [e] X.env = (false, eval e X.env) :: starEach [] X.env := by rfl) (hplain : (backTo cpos (starEach [] X.env)).any (·.1) = false := by rfl) : PD X (.Call (.Attribute o "extend" apos) [e] [] cpos) (aMth oExt to l) :=
  d_mth PySem.F.slot_list_extend PySem.F.type_list_extend mt_extend om_ext ho ha hbase hfew hline hs hplain
theorem d_popAt (ho : PD X o to) (ha : PDL X [e] l) (hbase : attributeBase o "pop" X.env (eval o X.env) = eval o X.env := by rfl)
    (hfew : ((backTo cpos (starEach [e] X.env)).all (fun x => !x.1) && (backToKw cpos (keywordEach [] X.env)).all (fun x => x.1.isSome)
      && decide (([e] : List Expr).length + ([] : List Keyword).length + (if ([] : List Keyword).isEmpty then 0 else 1) < 30)) = true := by rfl)
    (hline : (apos.endLine == cpos.line) = true := by rfl) (hs : starEach [e] X.env = (false, eval e X.env) :: starEach [] X.env := by rfl) (hplain : (backTo cpos (starEach [] X.env)).any (·.1) = false := by rfl) : PD X (.Call (.Attribute o "pop" apos) [e] [] cpos) (aMth oPopAt to l) :=
  d_mth PySem.F.slot_list_pop PySem.F.type_list_pop mt_popAt om_popAt ho ha hbase hfew hline hs hplain
theorem d_ins {e2 : Expr} (ho : PD X o to) (ha : PDL X [e, e2] l) (hbase : attributeBase o "insert" X.env (eval o X.env) = eval o X.env := by rfl)
    (hfew : ((backTo cpos (starEach [e, e2] X.env)).all (fun x => !x.1) && (backToKw cpos (keywordEach [] X.env)).all (fun x => x.1.isSome)
      && decide (([e, e2] : List Expr).length + ([] : List Keyword).length + (if ([] : List Keyword).isEmpty then 0 else 1) < 30)) = true := by rfl)
    (hline : (apos.endLine == cpos.line) = true := by rfl) (hs : starEach [e, e2] X.env = (false, eval e X.env) :: starEach [e2] X.env := by rfl) (hplain : (backTo cpos (starEach [e2] X.env)).any (·.1) = false := by rfl) : PD X (.Call (.Attribute o "insert" apos) [e, e2] [] cpos) (aMth oIns to l) :=
  d_mth PySem.F.slot_list_insert PySem.F.type_list_insert mt_insert om_ins ho ha hbase hfew hline hs hplain
/-- x[i] = value, x an own list -/
def sSetO (te to ti : AT) : AS := fun A δ r => te δ r fun y r1 => to δ r1 fun d r2 => ti δ r2 fun di r3 => ∃ a pre xs post, ∃ n : Nat, d = .adr a ∧ di = .int n ∧ r3 = pre ++ lstA a xs :: post ∧ n < xs.length ∧ A.nx δ (pre ++ lstA a (xs.set n y) :: post)
theorem s_setO {E : XK} {i value : Expr} {te ti : AT} {p2 pos : Pos} (he : PD X value te) (ho : PD X o to) (hi : PD X i ti)
    (ha : ∀ v, assign (.Subscript o i p2) X.env v = (do
      let ov ← holding [v] (eval o X.env)
      let iv ← holding [v, ov] (eval i X.env)
      standAt p2
      holding [v, ov, iv] (setItem ov iv v)
      release [v, ov, iv] []) := by intro _; rfl)
    (hs : swapsWithSole [.Subscript o i p2] value pos.line X.env = pure false := by rfl) (hw : swappedStores [.Subscript o i p2] value X.env = pure none := by rfl)
    (h1 : (assignEach [.Subscript o i p2] X.env).map (·.2) = [assign (.Subscript o i p2) X.env] := by rfl) : PSD X E (.Assign [.Subscript o i p2] value pos) (sSetO te to ti) :=
  imS (ps_asg he (pg_sub ho hi set_list ha) hs hw h1) fun Dd σ H ⟨δ, r, A, ok, h, f⟩ => td_bind ok h fun y r1 v H1 h1 o1 k1 i1 => td_bind o1 h1 fun d r2 v2 H2 h2 o2 k2 i2 => td_bind o2 h2 fun di r3 v3 H3 h3 o3 k3 i3 => by
    obtain ⟨a, pre, xs, post, n, rfl, rfl, rfl, hn, h3⟩ := h3
    cases i2
    cases i3
    obtain ⟨ws, e1, e2⟩ := own_mid o3.r
    obtain ⟨q1, q2⟩ := own_put o3.r (set_all (k3 _ _ (k2 _ _ i1)) n e2)
    refine ⟨a, ws, n, n, rfl, rfl, e1, ?_, f.nx _ _ _ _ h3 (o3.step q2 q1) (((k1.trans k2).trans k3).trans q2)⟩
    unfold ixN
    rw [e2.length, if_pos (by omega), if_pos (by omega)]
    rfl
/-- list(e), our own -/
def aListO (l : AL) : AT := fun δ r P => l δ r fun ds r1 => match ds with | [.lst xs] => ∀ p, P (.adr p) (r1 ++ [lstA p xs]) | [.tup xs] => ∀ p, P (.adr p) (r1 ++ [lstA p xs]) | _ => False
theorem d_listO {p pos : Pos} (hg : Gl X "list") (hm : X.mg "list" = none) (ha : PDL X [e] l) (hv : bootBuiltins "list" = some (.type "list") := by decide +kernel)
    (he : starEach [e] X.env = (false, eval e X.env) :: starEach [] X.env := by rfl) (hpl : (backTo pos (starEach [] X.env)).any (·.1) = false := by rfl) : PD X (.Call (.Name "list" p) [e] [] pos) (aListO l) :=
  imE (pe_callTy call_list_of hg hm hv ha (by decide) (by decide) he hpl) fun σ H Q q => by
    obtain ⟨δ, r, P, o, h, k⟩ := q
    refine tdl_bind o h fun ds r1 vs H1 h1 o1 k1 i1 => ?_
    cases i1 with
    | nil => exact h1.elim
    | cons i t =>
      cases t with
      | cons _ _ => cases i <;> exact h1.elim
      | nil =>
        cases i <;> try exact h1.elim
        · rename_i n s al
          exact ⟨_, _, rfl, .inl (SqL.of s), fun p hp => let ⟨q1, q2⟩ := rok_new o1.r hp al; k _ _ _ _ (h1 p) (o1.step q2 q1) (k1.trans q2) (.adr p)⟩
        · rename_i s al
          exact ⟨_, _, rfl, .inr s, fun p hp => let ⟨q1, q2⟩ := rok_new o1.r hp al; k _ _ _ _ (h1 p) (o1.step q2 q1) (k1.trans q2) (.adr p)⟩
end
end
end G

namespace G
open PySem PySem.Spec L2
/-! ### data of bounded depth and length -/
def gd (n : Nat) : Nat → D → Bool
  | _, .adr _ => false
  | 0, .lst _ => false
  | 0, .tup _ => false
  | m + 1, .lst ds => decide (ds.length ≤ n) && ds.all (gd n m)
  | m + 1, .tup ds => decide (ds.length ≤ n) && ds.all (gd n m)
  | _, _ => true
theorem gd_lst {n m : Nat} {ds : List D} : gd n (m + 1) (.lst ds) = true ↔ ds.length ≤ n ∧ ∀ d ∈ ds, gd n m d = true := by
  simp only [gd, Bool.and_eq_true, decide_eq_true_eq, List.all_eq_true]
theorem gd_tup {n m : Nat} {ds : List D} : gd n (m + 1) (.tup ds) = true ↔ ds.length ≤ n ∧ ∀ d ∈ ds, gd n m d = true := by
  simp only [gd, Bool.and_eq_true, decide_eq_true_eq, List.all_eq_true]
theorem gd_str {n m : Nat} {z : Str} : gd n m (.str z) = true := by cases m <;> rfl
theorem gd_int {n m : Nat} {z : Int} : gd n m (.int z) = true := by cases m <;> rfl
theorem gd_bl {n m : Nat} {z : Bool} : gd n m (.bl z) = true := by cases m <;> rfl
theorem gd_non {n m : Nat} : gd n m .non = true := by cases m <;> rfl
theorem gd_mono {n n' : Nat} (hn : n ≤ n') : ∀ {m m' : Nat} {d : D}, m ≤ m' → gd n m d = true → gd n' m' d = true := by
  intro m
  induction m with
  | zero =>
    intro m' d _ h
    cases d with
    | lst _ => cases h
    | tup _ => cases h
    | adr _ => cases h
    | non => exact gd_non
    | bl _ => exact gd_bl
    | int _ => exact gd_int
    | str _ => exact gd_str
  | succ m ih =>
    intro m' d hm h
    obtain ⟨k, rfl⟩ : ∃ k, m' = k + 1 := ⟨m' - 1, by omega⟩
    cases d with
    | lst ds =>
      rw [gd_lst] at h ⊢
      exact ⟨by omega, fun d hd => ih (by omega) (h.2 d hd)⟩
    | tup ds =>
      rw [gd_tup] at h ⊢
      exact ⟨by omega, fun d hd => ih (by omega) (h.2 d hd)⟩
    | adr _ => cases h
    | non => exact gd_non
    | bl _ => exact gd_bl
    | int _ => exact gd_int
    | str _ => exact gd_str
theorem gd_plain {n : Nat} (hn : n ≤ 1000000) : ∀ {m : Nat} {d : D}, gd n m d = true → plain d = true := by
  intro m
  induction m with
  | zero =>
    intro d h
    cases d <;> first | rfl | cases h
  | succ m ih =>
    intro d h
    cases d with
    | lst ds =>
      rw [gd_lst] at h
      exact plain_of_lst (by omega) (plains_of fun d hd => ih (h.2 d hd))
    | tup ds =>
      rw [gd_tup] at h
      exact plain_of_tup (by omega) (plains_of fun d hd => ih (h.2 d hd))
    | adr _ => cases h
    | _ => rfl
theorem deps_le {k : Nat} : ∀ {ds : List D}, (∀ d ∈ ds, dep d ≤ k) → deps ds ≤ k
  | [], _ => Nat.zero_le _
  | d :: ds, h => by
    simp only [deps]
    have h1 := h d List.mem_cons_self
    have h2 := deps_le (ds := ds) fun d m => h d (List.mem_cons_of_mem _ m)
    omega
theorem gd_dep {n : Nat} : ∀ {m : Nat} {d : D}, gd n m d = true → dep d ≤ m := by
  intro m
  induction m with
  | zero =>
    intro d h
    cases d <;> first | exact Nat.zero_le _ | cases h
  | succ m ih =>
    intro d h
    cases d with
    | lst ds =>
      rw [gd_lst] at h
      have := deps_le fun d hd => ih (h.2 d hd)
      simp only [dep]
      omega
    | tup ds =>
      rw [gd_tup] at h
      have := deps_le fun d hd => ih (h.2 d hd)
      simp only [dep]
      omega
    | adr _ => cases h
    | _ => exact Nat.zero_le _
theorem isNm_len {z : Str} (h : isNm z = true) : z.length ≤ 8 := by
  unfold isNm at h
  simp only [Bool.and_eq_true, decide_eq_true_eq] at h
  exact h.1.2
theorem len_app (a b : Str) : (a ++ b).length = a.length + b.length := by
  show (a.cps ++ b.cps).size = _
  rw [Array.size_append]
  rfl
theorem oAdd_s {a b : Str} {k : D → Prop} (h : a.length + b.length ≤ 1000000) (q : k (.str (a ++ b))) : oAdd (.str a) (.str b) k := ⟨h, q⟩
theorem pick_at {l : List Str} {k : Int} (h0 : 0 ≤ k) (h1 : k < (l.length : Nat)) : ∃ n w, k = ((n : Nat) : Int) ∧ l[n]? = some w ∧ atI (l.map D.str) k = some (.str w) := by
  obtain ⟨n, rfl⟩ : ∃ n : Nat, k = n := ⟨k.toNat, by omega⟩
  have hn : n < l.length := by omega
  exact ⟨n, l[n], rfl, by simp, L2.atI_nat (by simp)⟩
/-- at a place of a written list of data -/
theorem pick_in {l : List D} {k : Int} (h0 : 0 ≤ k) (h1 : k < (l.length : Nat)) : ∃ d, d ∈ l ∧ atI l k = some d := by
  obtain ⟨n, rfl⟩ : ∃ n : Nat, k = n := ⟨k.toNat, by omega⟩
  have hn : n < l.length := by omega
  exact ⟨l[n], List.getElem_mem _, L2.atI_nat (by simp)⟩
/-- any object, depth left n -/
def objB : Nat → Nat
  | 0 => 60
  | n + 1 => 100 + 4 * objB n
def spObj (n : Nat) : SpX := fun ds r P _ => ∃ p a N X, ∃ dp : Int, ds = [.adr p, .int dp] ∧ r = poolA p a N :: X ∧ 0 ≤ dp ∧ 2 ≤ dp + n ∧ N + 10000 * n < 20000000000 ∧ n ≤ 2 ∧ ∀ d, gd 8 (n + 1) d = true → P d (poolA p a (N + objB n) :: X)
end G

namespace G
open PySem PySem.Spec L2
/-- [e(x) for x in ds if f(x)] -/
theorem lc_fm {g : AG} {te : AT} {tt : AB} {δw : Dl} {ds : List D} {r1 : Rs} {P : PK1} (f : D → Bool) (e : D → D) (hz : small ds.length)
    (he : ∀ d ∈ ds, ∀ (r' : Rs) (Q1 : PK1) (Q2 : Rs → Prop), (f d = true → Q1 (e d) r') → (f d = false → Q2 r') → g d δw fun δ2 => tt δ2 r' fun b r2 => (b = true → te δ2 r2 Q1) ∧ (b = false → Q2 r2)) (hP : P (.lst ((ds.filter f).map e)) r1) : aLcK g tt te δw ds r1 P := by
  refine ⟨fun i acc r' => acc = ((ds.take i).filter f).map e ∧ r' = r1, ⟨rfl, rfl⟩, ?_, ?_⟩
  · rintro p i d acc r' hd ⟨rfl, rfl⟩
    have hi := (List.getElem?_eq_some_iff.mp hd).1
    refine he d (List.mem_of_getElem? hd) _ _ _ (fun q => ⟨?_, r', le.refl, ?_, rfl⟩) (fun q => ⟨r', le.refl, ?_, rfl⟩)
    · rw [List.length_map]
      have h1 := List.length_filter_le f (ds.take i)
      rw [List.length_take] at h1
      have : small ds.length := hz
      unfold small at *
      omega
    · rw [List.take_add_one, hd, List.filter_append, List.map_append]
      show _ = _ ++ List.map e (List.filter f [d])
      rw [List.filter_cons, q]
      rfl
    · rw [List.take_add_one, hd, List.filter_append, List.map_append]
      show _ = _ ++ List.map e (List.filter f [d])
      rw [List.filter_cons, q]
      simp
  · rintro acc r' ⟨rfl, rfl⟩
    rw [List.take_length]
    exact hP
theorem eq_nil (xs : List D) : eqD (.lst xs) (.lst []) = xs.isEmpty := by
  cases xs <;> rfl
theorem filter_none {xs : List D} {f : D → Bool} : (xs.filter fun d => !f d).isEmpty = xs.all f := by
  induction xs with
  | nil => rfl
  | cons x xs ih =>
    rw [List.filter_cons, List.all_cons]
    cases f x with
    | true => exact ih
    | false => rfl
theorem deps_mem {k : Nat} : ∀ {ds : List D} {d : D}, deps ds ≤ k → d ∈ ds → dep d ≤ k
  | [], _, _, m => by cases m
  | a :: as, d, h, m => by
    simp only [deps] at h
    rcases List.mem_cons.mp m with rfl | m
    · omega
    · exact deps_mem (by omega) m
theorem deps_filter {k : Nat} {f : D → Bool} {ds : List D} (h : deps ds ≤ k) : deps (ds.filter f) ≤ k := deps_le fun d m => deps_mem h (List.mem_filter.mp m).1
theorem deps_chars {α : Type} (f : α → Str) (l : List α) : deps (l.map fun c => D.str (f c)) = 0 := by
  have : deps (l.map fun c => D.str (f c)) ≤ 0 := deps_le fun d m => by
    obtain ⟨c, _, rfl⟩ := List.mem_map.mp m
    exact Nat.le_refl _
  omega
theorem plains_drop {n : Nat} {ds : List D} (h : plains ds = true) : plains (ds.drop n) = true := plains_of fun d m => plains_mem h (List.mem_of_mem_drop m)
theorem deps_drop {n k : Nat} {ds : List D} (h : deps ds ≤ k) : deps (ds.drop n) ≤ k := deps_le fun d m => deps_mem h (List.mem_of_mem_drop m)
theorem nad_plain {d : D} (h : plain d = true) : ∀ a, d ≠ .adr a := fun a e => by rw [e] at h; cases h
end G
namespace G
open PySem PySem.Spec L2
/-! ### tests that change nothing -/
theorem bAnd_of {t u : AB} {δ : Dl} {r : Rs} {P : Bool → Rs → Prop} (b1 b2 : Bool) (h1 : ∀ P : Bool → Rs → Prop, P b1 r → t δ r P) (h2 : b1 = true → ∀ P : Bool → Rs → Prop, P b2 r → u δ r P) (h : P (b1 && b2) r) : bAnd t u δ r P := by
  refine h1 _ ⟨fun e => ?_, fun e => ?_⟩
  · rw [e] at h
    exact h2 e _ h
  · rw [e] at h
    exact h
theorem bOr_of {t u : AB} {δ : Dl} {r : Rs} {P : Bool → Rs → Prop} (b1 b2 : Bool) (h1 : ∀ P : Bool → Rs → Prop, P b1 r → t δ r P) (h2 : b1 = false → ∀ P : Bool → Rs → Prop, P b2 r → u δ r P) (h : P (b1 || b2) r) : bOr t u δ r P := by
  refine h1 _ ⟨fun e => ?_, fun e => ?_⟩
  · rw [e] at h
    exact h
  · rw [e] at h
    exact h2 e _ h
theorem sIf_of {c : AB} {t u : AS} {A : An} {δ : Dl} {r : Rs} (b : Bool) (h : ∀ P : Bool → Rs → Prop, P b r → c δ r P) (ht : b = true → t A δ r) (hf : b = false → u A δ r) : sIf c t u A δ r := h _ ⟨ht, hf⟩
end G
namespace G
open PySem PySem.Spec L2
theorem sSeqIf_of {c : AB} {t u v : AS} {A : An} {δ : Dl} {r : Rs} (b : Bool) (h : ∀ P : Bool → Rs → Prop, P b r → c δ r P) (ht : b = true → t { A with nx := fun δ' r' => v A δ' r' } δ r) (hf : b = false → u { A with nx := fun δ' r' => v A δ' r' } δ r) : sSeq (sIf c t u) v A δ r := h _ ⟨ht, hf⟩
end G

namespace G
open PySem PySem.Spec L2
/-! ### split -/
theorem spl_mem {S : List Nat} : ∀ {l : List Nat} {k : Nat} {acc p : List Nat}, p ∈ TL.spl S k acc l → (∀ c ∈ p, c ∈ acc ∨ c ∈ l) ∧ p.length ≤ acc.length + l.length
  | [], k, acc, p, h => by
    rw [TL.spl_nil] at h
    obtain rfl := List.mem_singleton.mp h
    exact ⟨fun c m => .inl m, Nat.le_add_right _ _⟩
  | c :: r, 0, acc, p, h => by
    cases q : TL.pre S (c :: r) with
    | true =>
      rw [TL.spl_hit q] at h
      rcases List.mem_cons.mp h with rfl | h
      · exact ⟨fun c m => .inl m, Nat.le_add_right _ _⟩
      · obtain ⟨h1, h2⟩ := spl_mem h
        refine ⟨fun x m => (h1 x m).elim (fun z => by cases z) fun z => .inr (List.mem_cons_of_mem _ z), ?_⟩
        rw [List.length_nil] at h2
        rw [List.length_cons]
        omega
    | false =>
      rw [TL.spl_miss q] at h
      obtain ⟨h1, h2⟩ := spl_mem h
      refine ⟨fun x m => (h1 x m).elim (fun z => (List.mem_append.mp z).elim .inl fun z => .inr ((List.mem_singleton.mp z) ▸ List.mem_cons_self)) fun z => .inr (List.mem_cons_of_mem _ z), ?_⟩
      rw [List.length_append, List.length_singleton] at h2
      rw [List.length_cons]
      omega
  | c :: r, k + 1, acc, p, h => by
    have h : p ∈ TL.spl S k acc r := h
    obtain ⟨h1, h2⟩ := spl_mem h
    refine ⟨fun x m => (h1 x m).elim .inl fun z => .inr (List.mem_cons_of_mem _ z), ?_⟩
    rw [List.length_cons]
    omega
def sepOk (b : Str) : Bool := !(tl b).isEmpty && b.cps.all (· < 256)
theorem sep_len {b : Str} (h : sepOk b = true) : (b.length == 0) = false := by
  unfold sepOk at h
  rw [Bool.and_eq_true] at h
  have : b.length ≠ 0 := fun e => by
    rw [len_tl] at e
    rw [List.eq_nil_of_length_eq_zero e] at h
    cases h.1
  simpa using this
theorem split_tl {a b : Str} (h : sepOk b = true) : (Txt.split a b).map tl = TL.spl (tl b) 0 [] (tl a) := by
  unfold sepOk at h
  rw [Bool.and_eq_true] at h
  refine TL.split_spl a b (fun e => ?_) (TL.kind_ok h.2)
  have e' : tl b = [] := e
  rw [e'] at h
  cases h.1
theorem split_sok {a b : Str} (h : sepOk b = true) (ha : sok a) : ∀ p ∈ Txt.split a b, sok p ∧ p.length ≤ a.length := fun p m => by
  have m2 : tl p ∈ TL.spl (tl b) 0 [] (tl a) := by rw [← split_tl h]; exact List.mem_map_of_mem m
  obtain ⟨h1, h2⟩ := spl_mem m2
  rw [List.length_nil, Nat.zero_add] at h2
  obtain ⟨g1, g2⟩ := sok_iff.mp ha
  exact ⟨sok_iff.mpr ⟨fun c hc => (h1 c hc).elim (fun z => by cases z) (g1 c), by omega⟩, by rw [len_tl, len_tl]; exact h2⟩
theorem all_soks {K : PySem.W.Frag} {M : Addr → Prop} {H : Hp} : ∀ {xs : List Str}, (∀ x ∈ xs, sok x) → IsAll K M H (xs.map V.str) (xs.map D.str)
  | [], _ => .nil
  | x :: xs, h => .cons (.str (h x List.mem_cons_self)) (all_soks fun y m => h y (List.mem_cons_of_mem _ m))
structure oSplit (x y : D) (k : D → Prop) : Prop where
  ex : ∃ a b, x = .str a ∧ y = .str b ∧ sepOk b = true ∧ a.length ≤ 1000 ∧ k (.lst ((Txt.split a b).map .str))
def aSplitO (ta tb : AT) : AT := fun δ r P => ta δ r fun d1 r1 => match d1 with | .str a => tb δ r1 fun d2 r2 => ∃ b, d2 = .str b ∧ sepOk b = true ∧ a.length ≤ 1000 ∧ ∀ p, P (.adr p) (r2 ++ [lstA p ((Txt.split a b).map .str)]) | _ => False
section
variable {X : Cx} {o e : Expr} {ta tb : AT} {apos pos : Pos}
theorem d_split (ho : PD X o ta) (he : PD X e tb) (hs : starEach [e] X.env = [(false, eval e X.env)] := by rfl) (hbase : attributeBase o "split" X.env (eval o X.env) = eval o X.env := by rfl) (hline : (apos.endLine == pos.line) = true := by rfl) :
    PD X (.Call (.Attribute o "split" apos) [e] [] pos) (aM1 oSplit ta tb) := imE (pe_split ho he hs hbase hline) fun σ H Q q => by
  obtain ⟨δ, r, P, ok, h, k⟩ := q
  refine td_bind ok h fun d1 r1 v1 H1 h1 o1 k1 i1 => ?_
  cases i1 <;> try exact h1.elim
  rename_i z hz
  refine ⟨⟨z, rfl⟩, td_bind o1 h1 fun d2 r2 v2 H2 h2 o2 k2 i2 => ?_⟩
  obtain ⟨a, b, e1, rfl, hb, hl, h2⟩ := h2
  cases e1
  cases i2
  refine ⟨z, b, rfl, rfl, sep_len hb, by rw [sizeLine_eq]; omega, fun p hp => ?_⟩
  exact k _ r2 _ _ h2 (o2.new hp) ((k1.trans k2).trans (Kp.ext (Ext.new hp))) (new_lst o2.r hp (all_soks fun x m => (split_sok hb hz x m).1))
theorem d_splitO (ho : PD X o ta) (he : PD X e tb) (hs : starEach [e] X.env = [(false, eval e X.env)] := by rfl) (hbase : attributeBase o "split" X.env (eval o X.env) = eval o X.env := by rfl) (hline : (apos.endLine == pos.line) = true := by rfl) :
    PD X (.Call (.Attribute o "split" apos) [e] [] pos) (aSplitO ta tb) := imE (pe_split ho he hs hbase hline) fun σ H Q q => by
  obtain ⟨δ, r, P, ok, h, k⟩ := q
  refine td_bind ok h fun d1 r1 v1 H1 h1 o1 k1 i1 => ?_
  cases i1 <;> try exact h1.elim
  rename_i z hz
  refine ⟨⟨z, rfl⟩, td_bind o1 h1 fun d2 r2 v2 H2 h2 o2 k2 i2 => ?_⟩
  obtain ⟨b, rfl, hb, hl, h2⟩ := h2
  cases i2
  refine ⟨z, b, rfl, rfl, sep_len hb, by rw [sizeLine_eq]; omega, fun p hp => ?_⟩
  obtain ⟨q1, q2⟩ := rok_new o2.r hp (all_soks (K := X.K) fun x m => (split_sok hb hz x m).1)
  exact k _ _ _ _ (h2 p) (o2.step q2 q1) ((k1.trans k2).trans q2) (.adr p)
/-! ### methods of data lists -/
def aLm (om : List D → OC) (to : AT) (l : AL) : AT := fun δ r P => to δ r fun d r1 => match d with | .lst xs => l δ r1 fun ds r2 => om xs ds fun d => P d r2 | _ => False
def LMok (K : PySem.W.Frag) (om : List D → OC) (rr : V → List V → Hp → VK → Prop) : Prop := ∀ (N : Addr → Prop) a xs ds (P : D → Prop) H vs Q, Is K N H (.ref a) (.lst xs) → IsAll K N H vs ds → om xs ds P → (∀ d v, P d → Is K N H v d → Q v H) → rr (.ref a) vs H Q
theorem d_lm {om : List D → OC} {rr : V → List V → Hp → VK → Prop} {es : List Expr} {to : AT} {l : AL} {name : Str} {id : String} {cpos : Pos} (slot : Slot "list" name id) (hty : typeOf (.builtin id) = pure (.type "method_descriptor")) (hm : MtR X id rr) (hom : LMok X.K om rr) (ho : PD X o to) (ha : PDL X (e :: es) l)
    (hbase : attributeBase o name X.env (eval o X.env) = eval o X.env := by rfl)
    (hfew : ((backTo cpos (starEach (e :: es) X.env)).all (fun x => !x.1) && (backToKw cpos (keywordEach [] X.env)).all (fun x => x.1.isSome)
      && decide ((e :: es).length + ([] : List Keyword).length + (if ([] : List Keyword).isEmpty then 0 else 1) < 30)) = true := by rfl)
    (hline : (apos.endLine == cpos.line) = true := by rfl) (hs : starEach (e :: es) X.env = (false, eval e X.env) :: starEach es X.env := by rfl) (hplain : (backTo cpos (starEach es X.env)).any (·.1) = false := by rfl) :
    PD X (.Call (.Attribute o name apos) (e :: es) [] cpos) (aLm om to l) := imE (pe_bm PySem.F.plainAttrs_list slot hty hm ho ha hbase hfew hline hs hplain) fun σ H Q q => by
  obtain ⟨δ, r, P, ok, h, k⟩ := q
  refine td_bind ok h fun d r1 v H1 h1 o1 k1 i1 => ?_
  cases i1 <;> try exact h1.elim
  rename_i n s al
  refine ⟨.inl ⟨rfl, _, SqL.of s⟩, tdl_bind o1 h1 fun ds r2 vs H2 h2 o2 k2 i2 => ?_⟩
  exact hom _ _ _ ds (fun d => P d r2) H2 vs Q (k2 _ _ (.lst n s al)) i2 h2 fun d v p i => k d r2 v H2 p o2 (k1.trans k2) i
def rCntF (K : PySem.W.Frag) : V → List V → Hp → VK → Prop := fun x xs H Q => ∃ (a : Addr) (ys : List V) (y : V), x = V.ref a ∧ xs = [y] ∧ SqL K H a ys ∧ flatV y = true ∧ ys.all flatV = true ∧ Q (.int (ys.countP (fun z => eqV z y) : Nat)) H
theorem cnt_vals {y : V} : ∀ {ys : List V} {us : List Value}, Vals ys us → ys.all flatV = true → us.countP (eqU y) = ys.countP (fun z => eqV z y)
  | _, _, .nil, _ => rfl
  | z :: ys, u :: us, .cons r t, f => by
    rw [List.all_cons, Bool.and_eq_true] at f
    rw [List.countP_cons, List.countP_cons, cnt_vals t f.2, eqU_of r f.1]
theorem mt_lcountF : MtR X "list.count" (rCntF X.K) := by
  intro pins s σ H x xs v us Q I rx rxs h
  obtain ⟨a, ys, y, rfl, rfl, hs, fy, fys, q⟩ := h
  cases rx
  obtain ⟨u, rfl, ru⟩ := rxs.one
  obtain ⟨its, rv, ⟨⟨cls, dd, data, sl⟩, n, ho, hc, hdn, hd⟩, hlen⟩ := I.list hs
  simp only at hc hd
  subst hc hd
  refine call_meets PySem.F.slot_list_count ⟨_, ho, rfl⟩ PySem.F.entry_list_count (PySem.F.args_list_count_2 _ _)
    (SeqAt.list_countAt a its.toArray n dd sl u (eqU y)) ⟨ho, fun z hz => mem_eqAt ru fy rv fys z (by simpa using hz), ?_⟩
  have ec : its.toArray.toList.countP (eqU y) = ys.countP (fun z => eqV z y) := cnt_vals rv fys
  refine ⟨.int (ys.countP (fun z => eqV z y) : Nat), H, I.tok _, ⟨s.toks, ?_⟩, q⟩
  show Value.int ((its.toArray.toList.countP (eqU y) : Nat) : Int) s.toks = Value.int ((ys.countP (fun z => eqV z y) : Nat) : Int) s.toks
  rw [ec]
structure oCnt (xs ds : List D) (k : D → Prop) : Prop where
  ex : ∃ (zs : List Str) (z : Str), xs = zs.map D.str ∧ ds = [.str z] ∧ k (.int (zs.countP (fun y => y == z) : Nat))
theorem strs_all {K : PySem.W.Frag} {N : Addr → Prop} {H : Hp} : ∀ {zs : List Str} {vs : List V}, IsAll K N H vs (zs.map D.str) → vs = zs.map V.str
  | [], _, h => by cases h; rfl
  | z :: zs, _, h => by
    cases h with
    | cons i t => cases i; rw [strs_all t]; rfl
theorem flat_strV (zs : List Str) : (zs.map V.str).all flatV = true := by
  rw [List.all_map, List.all_eq_true]
  exact fun _ _ => rfl
theorem lm_cnt {K : PySem.W.Frag} : LMok K oCnt (rCntF K) := by
  rintro N a xs ds P H vs Q i1 i2 ⟨zs, z, rfl, rfl, hp⟩ k
  cases i1 with
  | lst n s al =>
    have e := strs_all al
    subst e
    cases i2 with
    | cons i t =>
      cases t
      cases i
      refine ⟨a, _, _, rfl, rfl, SqL.of s, rfl, flat_strV zs, ?_⟩
      rw [List.countP_map]
      exact k _ _ hp (.int _)
structure oIdx (xs ds : List D) (k : D → Prop) : Prop where
  ex : ∃ (zs : List Str) (z : Str) (j : Nat), xs = zs.map D.str ∧ ds = [.str z] ∧ zs[j]? = some z ∧ z ∉ zs.take j ∧ k (.int (j : Nat))
theorem lm_idx {K : PySem.W.Frag} : LMok K oIdx (rIndex K) := by
  rintro N a xs ds P H vs Q i1 i2 ⟨zs, z, j, rfl, rfl, hj, hno, hp⟩ k
  cases i1 with
  | lst n s al =>
    have e := strs_all al
    subst e
    cases i2 with
    | cons i t =>
      cases t
      cases i
      refine ⟨a, _, _, j, .str z, rfl, rfl, SqL.of s, rfl, flat_strV zs, by rw [List.getElem?_map, hj]; rfl, by show (z == z) = true; simp, fun m z' hm hz' => ?_, k _ _ hp (.int _)⟩
      rw [List.getElem?_map] at hz'
      cases q : zs[m]? with
      | none => rw [q] at hz'; cases hz'
      | some y =>
        rw [q] at hz'
        cases hz'
        show (y == z) = false
        have : ¬ y = z := fun e => hno (e ▸ List.mem_take_iff_getElem.mpr ⟨m, by have := (List.getElem?_eq_some_iff.mp q).1; omega, (List.getElem?_eq_some_iff.mp q).2⟩)
        simpa using this
theorem d_count {to : AT} {l : AL} {cpos : Pos} (ho : PD X o to) (ha : PDL X [e] l) (hbase : attributeBase o "count" X.env (eval o X.env) = eval o X.env := by rfl)
    (hfew : ((backTo cpos (starEach [e] X.env)).all (fun x => !x.1) && (backToKw cpos (keywordEach [] X.env)).all (fun x => x.1.isSome)
      && decide (([e] : List Expr).length + ([] : List Keyword).length + (if ([] : List Keyword).isEmpty then 0 else 1) < 30)) = true := by rfl)
    (hline : (apos.endLine == cpos.line) = true := by rfl) (hs : starEach [e] X.env = (false, eval e X.env) :: starEach [] X.env := by rfl) (hplain : (backTo cpos (starEach [] X.env)).any (·.1) = false := by rfl) : PD X (.Call (.Attribute o "count" apos) [e] [] cpos) (aLm oCnt to l) :=
  d_lm PySem.F.slot_list_count PySem.F.type_list_count mt_lcountF lm_cnt ho ha hbase hfew hline hs hplain
theorem d_index {to : AT} {l : AL} {cpos : Pos} (ho : PD X o to) (ha : PDL X [e] l) (hbase : attributeBase o "index" X.env (eval o X.env) = eval o X.env := by rfl)
    (hfew : ((backTo cpos (starEach [e] X.env)).all (fun x => !x.1) && (backToKw cpos (keywordEach [] X.env)).all (fun x => x.1.isSome)
      && decide (([e] : List Expr).length + ([] : List Keyword).length + (if ([] : List Keyword).isEmpty then 0 else 1) < 30)) = true := by rfl)
    (hline : (apos.endLine == cpos.line) = true := by rfl) (hs : starEach [e] X.env = (false, eval e X.env) :: starEach [] X.env := by rfl) (hplain : (backTo cpos (starEach [] X.env)).any (·.1) = false := by rfl) : PD X (.Call (.Attribute o "index" apos) [e] [] cpos) (aLm oIdx to l) :=
  d_lm PySem.F.slot_list_index PySem.F.type_list_index mt_index lm_idx ho ha hbase hfew hline hs hplain
/-- tuple(an own list), the list kept -/
structure oTupO (r : Rs) (ds : List D) (k : D → Prop) : Prop where
  ex : ∃ l xs, ds = [.adr l] ∧ Own r l xs ∧ k (.tup xs)
theorem c_tupO : CallR X (.type "tuple") (rC2 X.K oTupO) := by
  rintro pins s σ H vs us Q I rv ⟨r, ds, P, hr, i, ⟨l, xs, rfl, ow, ho⟩, k⟩
  obtain ⟨ws, h1, h2⟩ := own_get hr ow
  cases i with
  | cons i t =>
    cases t
    cases i
    exact call_tuple_of pins s σ H _ us Q I rv ⟨_, _, rfl, .inl ⟨SqL.of h1, fun p hp => k _ _ _ ho (Ext.new hp) (new_tup hp h2)⟩⟩
theorem d_ty2 {T : String} {oo : Rs → OC} {es : List Expr} {l : AL} {x : Str} {p : Pos} (hc : CallR X (.type T) (rC2 X.K oo)) (hg : Gl X x) (hm : X.mg x = none) (ha : PDL X (e :: es) l) (hv : bootBuiltins x = some (.type T) := by decide +kernel) (hn : x ≠ "__name__" := by decide) (hdb : (x == ("__debug__" : Str)) = false := by decide)
    (he : starEach (e :: es) X.env = (false, eval e X.env) :: starEach es X.env := by rfl) (hpl : (backTo pos (starEach es X.env)).any (·.1) = false := by rfl) : PD X (.Call (.Name x p) (e :: es) [] pos) (aBlt2 oo l) :=
  imE (pe_callTy hc hg hm hv ha hn hdb he hpl) fun _ _ _ q => tcb2 q
/-- x[i], y[j] = a, b: own lists -/
structure setO (r : Rs) (d di y : D) (k : Rs → Prop) : Prop where
  ex : ∃ a pre xs post, ∃ n : Nat, d = .adr a ∧ di = .int n ∧ r = pre ++ lstA a xs :: post ∧ n < xs.length ∧ k (pre ++ lstA a (xs.set n y) :: post)
theorem setO_go {K : PySem.W.Frag} {r : Rs} {δ : Dl} {σ : L2.St} {H : Hp} {d di y : D} {v vi vy : V} {k : Rs → Prop} {Q : Hp → Prop} (o : Ok K r δ σ H) (i1 : Is K (mem r) H v d) (i2 : Is K (mem r) H vi di) (i3 : Is K (mem r) H vy y) (h : setO r d di y k)
    (q : ∀ r' H', k r' → Ok K r' δ σ H' → Kp K r H r' H' → Q H') : rSetL v vi vy H Q := by
  obtain ⟨a, pre, xs, post, n, rfl, rfl, rfl, hn, h3⟩ := h
  cases i1
  cases i2
  obtain ⟨ws, e1, e2⟩ := own_mid o.r
  obtain ⟨q1, q2⟩ := own_put o.r (set_all i3 n e2)
  refine ⟨a, ws, n, n, rfl, rfl, e1, ?_, q _ _ h3 (o.step q2 q1) q2⟩
  unfold ixN
  rw [e2.length, if_pos (by omega), if_pos (by omega)]
  rfl
def sSet2O (te to1 ti1 to2 ti2 : AT) : AS := fun A δ r => te δ r fun d r1 => ∃ y1 y2, d = .tup [y1, y2] ∧ to1 δ r1 fun d1 r2 => ti1 δ r2 fun e1 r3 => setO r3 d1 e1 y1 fun r4 => to2 δ r4 fun d2 r5 => ti2 δ r5 fun e2 r6 => setO r6 d2 e2 y2 fun r7 => A.nx δ r7
theorem s_set2O {E : XK} {o1 i1 o2 i2 value : Expr} {te to1 ti1 to2 ti2 : AT} {p1 p2 tp pos : Pos} {kk : Nat} (he : PD X value te) (h1 : PD X o1 to1) (h2 : PD X i1 ti1) (h3 : PD X o2 to2) (h4 : PD X i2 ti2) (hc : X.calm = true := by rfl)
    (ha : ∀ v, assign (.Subscript o1 i1 p1) X.env v = (do
      let ov ← holding [v] (eval o1 X.env)
      let iv ← holding [v, ov] (eval i1 X.env)
      standAt p1
      holding [v, ov, iv] (setItem ov iv v)
      release [v, ov, iv] []) := by intro _; rfl)
    (hb : ∀ v, assign (.Subscript o2 i2 p2) X.env v = (do
      let ov ← holding [v] (eval o2 X.env)
      let iv ← holding [v, ov] (eval i2 X.env)
      standAt p2
      holding [v, ov, iv] (setItem ov iv v)
      release [v, ov, iv] []) := by intro _; rfl)
    (hn : (assignEach [.Subscript o1 i1 p1, .Subscript o2 i2 p2] X.env).length = 2 := by rfl) (hst : (assignEach [.Subscript o1 i1 p1, .Subscript o2 i2 p2] X.env).findIdx? (·.1) = none := by rfl)
    (hq1 : (assignEach [.Subscript o1 i1 p1, .Subscript o2 i2 p2] X.env).map (·.2) = assign (.Subscript o1 i1 p1) X.env :: (assignEach [.Subscript o2 i2 p2] X.env).map (·.2) := by rfl)
    (hq2 : (assignEach [.Subscript o2 i2 p2] X.env).map (·.2) = assign (.Subscript o2 i2 p2) X.env :: (assignEach [] X.env).map (·.2) := by rfl)
    (hs : swapsWithSole [.Tuple [.Subscript o1 i1 p1, .Subscript o2 i2 p2] kk tp] value pos.line X.env = pure false := by rfl) (hw : swappedStores [.Tuple [.Subscript o1 i1 p1, .Subscript o2 i2 p2] kk tp] value X.env = pure none := by rfl)
    (h1' : (assignEach [.Tuple [.Subscript o1 i1 p1, .Subscript o2 i2 p2] kk tp] X.env).map (·.2) = [assign (.Tuple [.Subscript o1 i1 p1, .Subscript o2 i2 p2] kk tp) X.env] := by rfl) :
    PSD X E (.Assign [.Tuple [.Subscript o1 i1 p1, .Subscript o2 i2 p2] kk tp] value pos) (sSet2O te to1 ti1 to2 ti2) :=
  imS (ps_asg he (pg_tup hc (pgs_cons (pg_sub h1 h2 set_list ha) (pgs_cons (pg_sub h3 h4 set_list hb) pgs_nil hq2) hq1) hn hst) hs hw h1') fun Dd σ H ⟨δ, r, A, ok, h, f⟩ => td_bind ok h fun d r1 v H1 g1 w1 k1 j1 => by
    obtain ⟨y1, y2, rfl, g1⟩ := g1
    cases j1 with
    | tup s al =>
      cases al with
      | cons ja al =>
        cases al with
        | cons jb al =>
          cases al
          refine ⟨_, _, rfl, s, rfl, _, _, rfl, td_bind w1 g1 fun d1 r2 v1 H2 g2 w2 k2 j2 => td_bind w2 g2 fun e1 r3 v2 H3 g3 w3 k3 j3 => ?_⟩
          refine setO_go w3 (k3 _ _ j2) j3 (k3 _ _ (k2 _ _ ja)) g3 fun r4 H4 g4 w4 k4 => ?_
          refine ⟨_, _, rfl, td_bind w4 g4 fun d2 r5 v3 H5 g5 w5 k5 j5 => td_bind w5 g5 fun e2 r6 v4 H6 g6 w6 k6 j6 => ?_⟩
          refine setO_go w6 (k6 _ _ j5) j6 (k6 _ _ (k5 _ _ (k4 _ _ (k3 _ _ (k2 _ _ jb))))) g6 fun r7 H7 g7 w7 k7 => ?_
          exact ⟨rfl, f.nx _ _ _ _ g7 w7 ((((((k1.trans k2).trans k3).trans k4).trans k5).trans k6).trans k7)⟩
    | _ => cases j1
end
end G
namespace G
open PySem PySem.Spec L2
/-! ### a new list of our own -/
def aAddO (ta tb : AT) : AT := fun δ r P => ta δ r fun d1 r1 => tb δ r1 fun d2 r2 => ∃ xs ys, d1 = .lst xs ∧ d2 = .lst ys ∧ small (xs.length + ys.length) ∧ ∀ p, P (.adr p) (r2 ++ [lstA p (xs ++ ys)])
theorem d_addO {X : Cx} {a b : Expr} {ta tb : AT} {pos : Pos} (ha : PD X a ta) (hb : PD X b tb) : PD X (.BinOp a .Add b pos) (aAddO ta tb) := imE (pe_op op_cat ha hb) fun σ H Q q => by
  obtain ⟨δ, r, P, ok, h, k⟩ := q
  refine td_bind ok h fun d1 r1 v1 H1 h1 o1 k1 i1 => td_bind o1 h1 fun d2 r2 v2 H2 h2 o2 k2 i2 => ?_
  obtain ⟨xs, ys, rfl, rfl, hz, h3⟩ := h2
  have j1 := k2 _ _ i1
  cases j1 with
  | lst n1 s1 a1 =>
    cases i2 with
    | lst n2 s2 a2 =>
      refine ⟨_, _, _, _, rfl, rfl, s1, s2, by rw [a1.length, a2.length]; exact hz.sz, fun p hp => ?_⟩
      obtain ⟨q1, q2⟩ := rok_new o2.r hp (a1.append a2)
      exact k _ _ _ _ (h3 p) (o2.step q2 q1) ((k1.trans k2).trans q2) (.adr p)
end G

namespace Q
open PySem PySem.Spec L2 G
open PyProof.Rows (envOfC)
def top (i : Nat) : Stmt := PySem.Challenge.pw_quietprobes_k22_lines_of_rows.main.body.getD i (.Pass ⟨0, 0, 0, 0⟩)
abbrev s_is_name : Stmt := top 3
abbrev s_look_codes : Stmt := top 10
abbrev s_row_codes : Stmt := top 11
abbrev s_branch_codes : Stmt := top 12
abbrev s_is_integer : Stmt := top 13
abbrev s_head : Stmt := top 14
abbrev s_suits : Stmt := top 15
abbrev s_fits : Stmt := top 16
abbrev s_is_look : Stmt := top 21
abbrev s_is_looks : Stmt := top 22
abbrev s_is_watcher : Stmt := top 23
abbrev s_is_row : Stmt := top 24
abbrev s_is_probe : Stmt := top 25
abbrev s_looks_text : Stmt := top 26
abbrev s_row_text : Stmt := top 27
abbrev s_read_looks : Stmt := top 28
abbrev s_read_watcher : Stmt := top 29
abbrev s_read_row : Stmt := top 30
abbrev s__law_pool : Stmt := top 32
abbrev s__law_draw : Stmt := top 33
abbrev s__law_word : Stmt := top 34
abbrev s__law_free_look : Stmt := top 35
abbrev s__law_free_probe : Stmt := top 36
abbrev s__law_free_row : Stmt := top 37
abbrev s__law_looks_text : Stmt := top 38
abbrev s__law_line : Stmt := top 39
abbrev s__law_same : Stmt := top 40
abbrev s_law : Stmt := top 41
section
variable {P : Program} {w : World} {K : PySem.W.Frag} {mg : Str → Option Value} {base : Heap}
/-! ### the pool of draws -/
abbrev N__law_draw : List Str := ["_law_pool_here", "_law_many", "_law_cell", "_law_code", "_law_digit", "_law_far", "_law_mixed"]
theorem sc__law_draw : FnScope N__law_draw ["_law_pool_here", "_law_many"] (defScope s__law_draw) := ⟨rfl, rfl, rfl, by decide +kernel, rfl, by decide +kernel, by decide +kernel⟩
theorem emod_lt' {a m : Int} (h : 0 < m) : 0 ≤ a % m ∧ a % m < m := ⟨Int.emod_nonneg a (by omega), Int.emod_lt_of_pos a h⟩
theorem c__law_draw (B : Bl mg) (Dx : Dfn K mg "_law_draw" s__law_draw ["_law_pool_here", "_law_many"]) : Cl P w K mg base 1 "_law_draw" ["_law_pool_here", "_law_many"] spDraw := by
  obtain ⟨f, fd, F, g, b⟩ := Dx
  refine ⟨f, fd, ?_, g, F.kp, b⟩
  have sc := sc__law_draw
  refine F.ok sc (fun vs H Q E h => ?_) (fun cdv A outer s H vs Q E hr h => ?_)
  · obtain ⟨r, ds, P', XR, ro, hi, ⟨p, a, m, N, X, rfl, _⟩, _, _⟩ := h
    exact hi.length
  · obtain ⟨r, ds, P', XR, ro, hi, ⟨p, a, m, N, X, rfl, rfl, ⟨hm, hm2⟩, hN, hP⟩, hQ, _⟩ := h
    obtain ⟨rfl⟩ : vs = [.ref p, .int m] := by
      match vs, hi with
      | [_, _], .cons (.adr _) (.cons (.int _) .nil) => rfl
    have fin : ∀ (k : Int) (H' : Hp), 0 ≤ k → k < m → (∀ b o, b ≠ p → b ≠ a → H b = some o → H' b = some o) → (poolA p a (N + 1)).R K (mem (poolA p a (N + 1) :: X)) H' → Q (.int k) H' := fun k H' h0 h1 hk ht =>
      let ⟨q1, q2⟩ := pool_step ro hk ht
      hQ _ _ _ _ (hP k h0 h1) q1 q2 (.int k)
    obtain ⟨⟨ne, ns, c1, c2, c3, h1, h2, g1, g2, g2', g3, g3', gn⟩, _, _⟩ := ro
    have ix : ∀ {X : Cx} {a b : Expr} {ta tb : TE} {pos : Pos}, PE X a ta → PE X b tb → PlainIx b → PE X (.Subscript a b pos) (tOp (rIxL X.K) ta tb) := fun ha hb hs => pe_ix ix_list ha hb hs
    refine ⟨_, pss_cons (ps_augS (pv 0) pe_int pget_list pe_int ip_add set_list)
      (Evl.pss_cut (ps_if (PW.pt (pw_and (pt_cmpR op_eq (ix (pv 0) pe_int (fun _ _ => rfl)) pe_int (nomark _)) (pw_and1 (pt_truth (ix (pv 0) pe_int (fun _ _ => rfl)) (by intro _; rfl)))))
        (pss_cons (ps_set (i := 2) sc.nd rfl (.inl rfl) (pe_callTy call_int1 (by rfl) B.int (by decide +kernel) (pa_cons (pe_bm PySem.F.plainAttrs_list PySem.F.slot_list_pop PySem.F.type_list_pop mt_popAt (ix (pv 0) pe_int (fun _ _ => rfl)) (pa_cons pe_int pa_nil)) pa_nil)))
        (pss_cons (ps_set (i := 3) sc.nd rfl (.inl rfl) (pe_ifExp (pt_cmpR op_ge (pv 2) pe_int (nomark _)) (pe_op op_mul pe_int (pv 2)) (pe_op op_sub (pe_un un_neg pe_int) (pe_op op_mul pe_int (pv 2)))))
        (pss_one (ps_if (pt_cmpR op_ge (pv 3) (pe_op op_pow pe_int pe_int) (nomark _))
          (pss_one (ps_asg (pv 3) (pg_sub (pv 0) pe_int set_list)))
          (pss_one (ps_asg (pe_op op_mod (pe_callTy call_int1 (by rfl) B.int (by decide +kernel) (pa_cons (pe_op op_add (pe_op op_add (pe_op op_mul (ix (pv 0) pe_int (fun _ _ => rfl)) pe_int) (pe_op op_mul (pv 3) pe_int)) pe_int) pa_nil)) pe_int) (pg_sub (pv 0) pe_int set_list)))))))
        pss_nil)
      (pss_cons (ps_if (pt_cmpR op_gt (ix (pv 0) pe_int (fun _ _ => rfl)) pe_int (nomark _))
        (pss_cons (ps_set (i := 4) sc.nd rfl (.inl rfl) (pe_op op_mod (pe_callTy call_int1 (by rfl) B.int (by decide +kernel) (pa_cons (ix (pv 0) pe_int (fun _ _ => rfl)) pa_nil)) (pv 1)))
        (pss_cons (ps_asg (pe_op op_fdivW (ix (pv 0) pe_int (fun _ _ => rfl)) (pv 1)) (pg_sub (pv 0) pe_int set_list))
        (pss_one (ps_ret (pv 4))))) pss_nil)
      (pss_cons (ps_if (pt_cmpR op_eq (ix (pv 0) pe_int (fun _ _ => rfl)) pe_int (nomark _)) (pss_one (ps_ret pe_int)) pss_nil)
      (pss_cons (ps_set (i := 5) sc.nd rfl (.inl rfl) (pe_op op_add (pe_op op_mul (ix (pv 0) pe_int (fun _ _ => rfl)) pe_int) (pe_op op_mul (pe_op op_mul (ix (pv 0) pe_int (fun _ _ => rfl)) (ix (pv 0) pe_int (fun _ _ => rfl))) pe_int)))
      (pss_cons (ps_set (i := 6) sc.nd rfl (.inl rfl) (pe_op op_mod (pe_callTy call_int1 (by rfl) B.int (by decide +kernel) (pa_cons (pe_op op_add (pe_op op_mul (ix (pv 0) pe_int (fun _ _ => rfl)) pe_int) (pv 5)) pa_nil)) pe_int))
      (pss_one (ps_ret (pe_op op_mod (pe_op op_mod (pe_callTy call_int1 (by rfl) B.int (by decide +kernel) (pa_cons (pe_op op_fdivW (pe_op op_mul (pv 6) pe_int) pe_int) pa_nil)) pe_int) (pv 1))))))))), ?_⟩
    -- _law_pool_here[2] += 1
    refine ⟨_, rfl, p, _, 2, .int c2, rfl, rfl, by decide, SqL.of h1, rfl, c2, 1, rfl, rfl, p, _, 2, 2, rfl, rfl, h1, rfl, ?_⟩
    let c2' := c2 + 1
    have k1 : (upd H p (.lst ([V.ref a, .int c1, .int c2, .int c3].set 2 (.int (c2 + 1))))) p = some (.lst [.ref a, .int c1, .int (c2 + 1), .int c3]) := upd_same
    have k2 : (upd H p (.lst ([V.ref a, .int c1, .int c2, .int c3].set 2 (.int (c2 + 1))))) a = some (.lst (ns.map V.int)) := by rw [upd_ne (Ne.symm ne)]; exact h2
    have k3 : ∀ b o, b ≠ p → b ≠ a → H b = some o → (upd H p (.lst ([V.ref a, .int c1, .int c2, .int c3].set 2 (.int (c2 + 1))))) b = some o := fun b o n1 _ e => by rw [upd_ne n1]; exact e
    generalize upd H p (.lst ([V.ref a, .int c1, .int c2, .int c3].set 2 (.int (c2 + 1)))) = H1 at k1 k2 k3
    refine ⟨fun σ' H' => ∃ (x y : Option V) (ns' : List Int) (d1 d3 : Int), σ' = [some (.ref p), some (.int m), x, y, none, none, none] ∧ H' p = some (.lst [.ref a, .int d1, .int (c2 + 1), .int d3]) ∧ H' a = some (.lst (ns'.map V.int)) ∧ 0 ≤ d1 ∧ 0 ≤ d3 ∧ d3 < 2147483629 ∧ ns'.length ≤ 63 ∧
      ∀ b o, b ≠ p → b ≠ a → H b = some o → H' b = some o, ?_, ?_⟩
    · -- the pool takes one more of the script
      refine ⟨_, rfl, p, _, 1, .int c1, rfl, rfl, SqL.of k1, rfl, rfl, _, rfl, ?_⟩
      refine ite2 (fun hc => ?_) (fun hc => ?_)
      · refine ⟨_, rfl, p, _, 0, .ref a, rfl, rfl, SqL.of k1, rfl, _, .inl ⟨_, SqL.of k2, rfl⟩, ?_⟩
        refine ite2 (fun he => ?_) (fun he => ?_)
        · cases ns with
          | nil => cases he
          | cons n0 ns =>
            refine ⟨_, rfl, p, _, 0, .ref a, rfl, rfl, SqL.of k1, rfl, .inl ⟨rfl, _, SqL.of k2⟩, a, _, 0, 0, .int n0, rfl, rfl, k2, by decide, by decide, PySem.StrLaws.seqIndex_nonneg (Int.le_refl 0) (by rw [List.length_map, List.length_cons]; omega), rfl, .inl ⟨n0, rfl, ?_⟩⟩
            have k1' : (upd H1 a (.lst ((List.map V.int (n0 :: ns)).eraseIdx 0))) p = some (.lst [.ref a, .int c1, .int (c2 + 1), .int c3]) := by rw [upd_ne ne]; exact k1
            have k2' : (upd H1 a (.lst ((List.map V.int (n0 :: ns)).eraseIdx 0))) a = some (.lst (ns.map V.int)) := upd_same
            have k3' : ∀ b o, b ≠ p → b ≠ a → H b = some o → (upd H1 a (.lst ((List.map V.int (n0 :: ns)).eraseIdx 0))) b = some o := fun b o n1 n2 e => by rw [upd_ne n2]; exact k3 b o n1 n2 e
            generalize upd H1 a (.lst ((List.map V.int (n0 :: ns)).eraseIdx 0)) = H2 at k1' k2' k3'
            have gl : ns.length ≤ 63 := Nat.le_trans (Nat.le_succ _) gn
            -- code
            refine ⟨_, rfl, _, _, rfl, rfl, _, rfl, ?_⟩
            refine ite2 (fun h => ?_) (fun h => ?_)
            refine ⟨_, rfl, 2, n0, rfl, rfl, .inl ⟨by decide, by decide⟩, ?_⟩
            have hcd : 0 ≤ 2 * n0 := by
              have := of_decide_eq_true h
              omega
            show gName 3 (.int (2 * n0)) _ _ _
            generalize 2 * n0 = cd at hcd ⊢
            rotate_left
            refine ⟨1, rfl, _, rfl, 2, n0, rfl, rfl, .inl ⟨by decide, by decide⟩, -1, 2 * n0, rfl, rfl, ?_⟩
            have hcd : 0 ≤ -1 - 2 * n0 := by
              have : ¬ (0 ≤ n0) := fun z => h (decide_eq_true z)
              omega
            show gName 3 (.int (-1 - 2 * n0)) _ _ _
            generalize -1 - 2 * n0 = cd at hcd ⊢
            all_goals
              refine ⟨_, rfl, 10, 18, rfl, rfl, ⟨by decide, by decide, by decide⟩, _, _, rfl, rfl, _, rfl, ?_⟩
              refine ite2 (fun h => ?_) (fun h => ?_)
              · refine ⟨_, rfl, _, rfl, p, _, 1, 1, rfl, rfl, k1', rfl, ?_⟩
                exact ⟨_, _, ns, cd, c3, rfl, upd_same, by rw [upd_ne (Ne.symm ne)]; exact k2', hcd, g3, g3', gl, fun b o n1 n2 e => by rw [upd_ne n1]; exact k3' b o n1 n2 e⟩
              · refine ⟨_, rfl, p, _, 3, .int c3, rfl, rfl, SqL.of k1', rfl, c3, 48271, rfl, rfl, .inr ⟨by decide, by decide⟩, _, rfl, cd, 69621, rfl, rfl, .inr ⟨by decide, by decide⟩, _, _, rfl, rfl, _, _, rfl, rfl, .inl ⟨_, rfl, _, _, rfl, rfl, (by decide : (0 : Int) < 2147483629), ?_⟩⟩
                refine ⟨_, rfl, p, _, 3, 3, rfl, rfl, k1', rfl, ?_⟩
                exact ⟨_, _, ns, c1, _, rfl, upd_same, by rw [upd_ne (Ne.symm ne)]; exact k2', g1, (emod_lt' (by decide)).1, (emod_lt' (by decide)).2, gl, fun b o n1 n2 e => by rw [upd_ne n1]; exact k3' b o n1 n2 e⟩
        · exact ⟨_, _, ns, c1, c3, rfl, k1, k2, g1, g3, g3', gn, k3⟩
      · exact ⟨_, _, ns, c1, c3, rfl, k1, k2, g1, g3, g3', gn, k3⟩
    · -- the digit
      rintro σ' H' ⟨x, y, ns', d1, d3, rfl, k1, k2, e1, e3, e3', en, k3⟩
      have ok : ∀ d, 0 ≤ d → ∀ H'', H'' p = some (.lst [.ref a, .int d, .int (c2 + 1), .int d3]) → H'' a = some (.lst (ns'.map V.int)) → (poolA p a (N + 1)).R K (mem (poolA p a (N + 1) :: X)) H'' := fun d hd H'' q1 q2 => ⟨ne, ns', d, c2 + 1, d3, q1, q2, hd, by omega, by omega, e3, e3', en⟩
      refine ⟨_, rfl, p, _, 1, .int d1, rfl, rfl, SqL.of k1, rfl, _, _, rfl, rfl, _, rfl, ?_⟩
      refine ite2 (fun h => ?_) (fun h => ?_)
      · have hd : 0 < d1 := of_decide_eq_true h
        refine ⟨_, rfl, p, _, 1, .int d1, rfl, rfl, SqL.of k1, rfl, .inl ⟨_, rfl, _, rfl, _, _, rfl, rfl, hm, ?_⟩⟩
        refine ⟨_, rfl, p, _, 1, .int d1, rfl, rfl, SqL.of k1, rfl, _, rfl, d1, m, rfl, rfl, wide_div hm (b := 200) (by omega) (by decide) (by decide), ?_⟩
        refine ⟨_, rfl, p, _, 1, 1, rfl, rfl, k1, rfl, ?_⟩
        refine ⟨_, rfl, fin _ _ (emod_lt' hm).1 (emod_lt' hm).2 (fun b o n1 n2 e => by rw [upd_ne n1]; exact k3 b o n1 n2 e) (ok (d1 / m) (Int.ediv_nonneg (by omega) (by omega)) _ upd_same (by rw [upd_ne (Ne.symm ne)]; exact k2))⟩
      · refine ⟨_, rfl, p, _, 3, .int d3, rfl, rfl, SqL.of k1, rfl, rfl, _, rfl, ?_⟩
        refine ite2 (fun h => ?_) (fun h => ?_)
        · exact fin 0 _ (Int.le_refl _) hm k3 (ok d1 e1 _ k1 k2)
        · have b2 : CMul (c2 + 1) (c2 + 1) := .inl ⟨by omega, by omega⟩
          refine ⟨_, rfl, p, _, 2, .int (c2 + 1), rfl, rfl, SqL.of k1, rfl, _, 40692, rfl, rfl, .inr ⟨by decide, by decide⟩, _, rfl, p, _, 2, .int (c2 + 1), rfl, rfl, SqL.of k1, rfl, _, rfl, p, _, 2, .int (c2 + 1), rfl, rfl, SqL.of k1, rfl, _, _, rfl, rfl, b2, _, 3, rfl, rfl, .inr ⟨by decide, by decide⟩, _, _, rfl, rfl, ?_⟩
          refine ⟨_, rfl, p, _, 3, .int d3, rfl, rfl, SqL.of k1, rfl, _, 16807, rfl, rfl, .inr ⟨by decide, by decide⟩, _, rfl, _, _, rfl, rfl, .inl ⟨_, rfl, _, _, rfl, rfl, (by decide : (0 : Int) < 2147483647), ?_⟩⟩
          refine ⟨_, rfl, _, 48271, rfl, rfl, .inr ⟨by decide, by decide⟩, _, 7, rfl, rfl, wide_div (by decide) (b := 10) (by decide) (by decide) (by decide), .inl ⟨_, rfl, _, _, rfl, rfl, (by decide : (0 : Int) < 2147483629), _, rfl, _, _, rfl, rfl, hm, ?_⟩⟩
          exact fin _ _ (emod_lt' hm).1 (emod_lt' hm).2 k3 (ok d1 e1 _ k1 k2)

abbrev N__law_pool : List Str := ["_law_script"]
theorem sc__law_pool : FnScope N__law_pool ["_law_script"] (defScope s__law_pool) := ⟨rfl, rfl, rfl, by decide +kernel, rfl, by decide +kernel, by decide +kernel⟩
theorem cut_map {α : Type} (f : α → V) (xs : List α) (lo hi : Option Int) : ∃ ys : List α, cutV (xs.map f) lo hi = ys.map f ∧ ys.length ≤ xs.length := by
  unfold cutV
  refine ⟨(xs.drop (HT.sIx (xs.map f).length 0 lo)).take (HT.sIx (xs.map f).length (xs.map f).length hi - HT.sIx (xs.map f).length 0 lo), by rw [List.map_take, List.map_drop], ?_⟩
  rw [List.length_take, List.length_drop]
  omega
theorem c__law_pool (B : Bl mg) (Dx : Dfn K mg "_law_pool" s__law_pool ["_law_script"]) : ∃ f fd, FnOk P w K mg base CX0 1 f fd ["_law_script"] (spPool K) ∧ mg "_law_pool" = some (.ref f) ∧ PySem.W.keepIn K (.ref f) = true ∧ Binds K fd ["_law_script"] [] := by
  obtain ⟨f, fd, F, g, b⟩ := Dx
  refine ⟨f, fd, ?_, g, F.kp, b⟩
  have sc := sc__law_pool
  refine F.ok sc (fun vs H Q E h => ?_) (fun cdv A outer s H vs Q E hr h => ?_)
  · obtain ⟨a, ns, rfl, _⟩ := h
    rfl
  · obtain ⟨a, ns, rfl, hS, hl, hQ⟩ := h
    refine ⟨_, pss_one (ps_ret (pe_lst (pa_cons (pe_callTy call_list_of (by rfl) B.list (by decide +kernel) (pa_cons (pe_slice sl_list (pv 0) po_none (po_some pe_int)) pa_nil)) (pa_cons pe_int (pa_cons pe_int (pa_cons pe_int pa_nil)))))), ?_⟩
    obtain ⟨ms, e, hm⟩ := cut_map V.int ns none (some 63)
    refine ⟨_, rfl, _, rfl, a, _, rfl, hS, fun q hq => ?_⟩
    rw [e]
    refine ⟨q, _, rfl, .inl (SqL.of upd_same), fun l hl2 => ⟨(by decide : 4 ≤ sizeLine), fun p hp => ?_⟩⟩
    have hlp : l ≠ p := ne_of_none (H := upd (upd H q (.lst (ms.map V.int))) l (.lst (ms.map V.int))) upd_same hp
    refine hQ p l _ ⟨⟨Ne.symm hlp, ms, 0, 0, 0, upd_same, ?_, by decide, by decide, by decide, by decide, by decide, by omega⟩, fun _ _ z => z, True.intro⟩
    rw [upd_ne hlp, upd_same]

abbrev N__law_word : List Str := ["_law_pool_here", "_law_letters", "_law_k"]
theorem sc__law_word : FnScope N__law_word ["_law_pool_here"] (defScope s__law_word) := ⟨rfl, rfl, rfl, by decide +kernel, rfl, by decide +kernel, by decide +kernel⟩

theorem c__law_word (B : Bl mg) (C__law_draw : Cl P w K mg base 1 "_law_draw" ["_law_pool_here", "_law_many"] spDraw) (Dx : Dfn K mg "_law_word" s__law_word ["_law_pool_here"]) : Cl P w K mg base 2 "_law_word" ["_law_pool_here"] spWord := by
  have sc := sc__law_word
  refine cl_of Dx sc (fun ds r P' XR ⟨p, a, N, X, e, _⟩ => by rw [e]; rfl) (fun f cdv A outer s H E hr => ⟨_, (ss_cons (s_set (i := 1) sc.nd d_str)
  (ss_one (s_ret (d_join d_str (d_lc (js := [2]) (own := [("_law_k", 2)]) sc.nd (i_r1 (by rfl) B.range (dl_cons (d_bin p_add d_int (d_fn C__law_draw hr (dl_cons (dv 0) (dl_cons d_int dl_nil)))) dl_nil)) (blkOk_by (own := [("_law_k", 2)]) (N := N__law_word) (sc := defScope s__law_word) (by decide +kernel)) (fun _ _ _ _ _ => (g_name (i := 2) sc.nd)) (fun _ _ _ _ _ => pts_no) (fun _ _ _ _ _ => (d_ix (dv 1) (d_fn C__law_draw hr (dl_cons (dv 0) (dl_cons d_int dl_nil)))))))))), fun ds r P' XR h => ?_⟩)
  obtain ⟨p, a, N, X, rfl, rfl, hN, hP⟩ := h
  refine ⟨p, a, 8, N, X, rfl, rfl, ⟨by decide, by decide⟩, by omega, fun k h0 h1 => ⟨⟨by omega, by omega⟩, ?_⟩⟩
  refine ⟨fun i acc r' => ∃ cs : List Nat, acc = cs.map (fun c => D.str (sg c)) ∧ cs.length = i ∧ (∀ c ∈ cs, isLet c = true) ∧ r' = poolA p a (N + 1 + i) :: X, ⟨[], rfl, rfl, fun _ h => (by cases h), rfl⟩, ?_, ?_⟩
  · rintro q i d acc r' hd ⟨cs, rfl, hc, hl, rfl⟩
    have hi : i < 8 := by
      have := (List.getElem?_eq_some_iff.mp hd).1
      rw [List.length_map, List.length_range] at this
      omega
    refine brT ?_
    refine ⟨p, a, 26, N + 1 + i, X ++ [lstA q _], rfl, rfl, ⟨by decide, by decide⟩, by omega, fun j j0 j1 => ?_⟩
    obtain ⟨c, hat, hc2⟩ := abc_at j0 j1
    refine ix_s hat ⟨?_, poolA p a (N + 1 + i + 1) :: X, le.refl, cs ++ [c], by rw [List.map_append]; rfl, by rw [List.length_append, hc]; rfl, fun x hx => (List.mem_append.mp hx).elim (hl x) fun h => (List.mem_singleton.mp h) ▸ hc2, rfl⟩
    rw [List.length_map, hc]
    unfold small
    omega
  · rintro acc r' ⟨cs, rfl, hc, hl, rfl⟩
    rw [List.length_map, List.length_range] at hc
    have e8 : cs.length ≤ 8 := by omega
    have e1 : 1 ≤ cs.length := by omega
    refine join_l (strL_sg cs) ?_ ⟨poolA p a (N + 9) :: X, pool_mono (by rw [List.length_map, List.length_range]; omega), hP _ (nm_signs e1 e8 hl)⟩
    rw [sum_ones, List.length_map]
    show cs.length + cs.length * 0 ≤ 1000000
    omega

abbrev N__law_same : List Str := ["_law_actual", "_law_due", "_law_k"]
theorem sc__law_same : FnScope N__law_same ["_law_actual", "_law_due"] (defScope s__law_same) := ⟨rfl, rfl, rfl, by decide +kernel, rfl, by decide +kernel, by decide +kernel⟩

theorem c__law_same (B : Bl mg) (Dx : Dfn K mg "_law_same" s__law_same ["_law_actual", "_law_due"]) : ∀ n : Nat, Cl P w K mg base n "_law_same" ["_law_actual", "_law_due"] (spSame n)
  | 0 => cl_never Dx fun ds r P' XR ⟨a, b, _, _, _, _, z, _⟩ => by omega
  | n + 1 => by
    have sc := sc__law_same
    have C__law_same := c__law_same B Dx n
    refine cl_of Dx sc (fun ds r P' XR ⟨a, b, e, _⟩ => by rw [e]; rfl) (fun f cdv A outer s H E hr => ?_)
    have hu := hr.units
    refine ⟨_, (ss_cons (s_if (b_cmp p_is (dv 1) d_non)
  (ss_one (s_ret (d_cmp p_is (dv 0) d_non)))
  ss_nil)
  (ss_cons (s_if (b_w (w_or (b_tru (d_isi .bool (by rfl) B.isi (dv 1) (by rfl) B.bool)) (w_or1 (b_tru (d_isi .str (by rfl) B.isi (dv 1) (by rfl) B.str)))))
  (ss_cons (s_if (b_w (w_or (b_cmp (p_ne hu) (d_isi .bool (by rfl) B.isi (dv 0) (by rfl) B.bool) (d_isi .bool (by rfl) B.isi (dv 1) (by rfl) B.bool)) (w_or1 (b_cmp (p_ne hu) (d_isi .str (by rfl) B.isi (dv 0) (by rfl) B.str) (d_isi .str (by rfl) B.isi (dv 1) (by rfl) B.str)))))
  (ss_one (s_ret d_bl))
  ss_nil)
  (ss_one (s_ret (d_cmp (p_eq hu) (dv 0) (dv 1)))))
  ss_nil)
  (ss_cons (s_if (b_tru (d_isi .int (by rfl) B.isi (dv 1) (by rfl) B.int))
  (ss_one (s_ret (d_and (d_isi .int (by rfl) B.isi (dv 0) (by rfl) B.int) (d_and (d_not (d_isi .bool (by rfl) B.isi (dv 0) (by rfl) B.bool)) (d_one (d_cmp (p_eq hu) (dv 0) (dv 1)))))))
  ss_nil)
  (ss_cons (s_if (b_w (w_and (b_tru (d_isi .list (by rfl) B.isi (dv 1) (by rfl) B.list)) (w_and1 (b_not (b_tru (d_isi .list (by rfl) B.isi (dv 0) (by rfl) B.list))))))
  (ss_one (s_ret d_bl))
  ss_nil)
  (ss_cons (s_if (b_w (w_and (b_tru (d_isi .tuple (by rfl) B.isi (dv 1) (by rfl) B.tuple)) (w_and1 (b_not (b_tru (d_isi .tuple (by rfl) B.isi (dv 0) (by rfl) B.tuple))))))
  (ss_one (s_ret d_bl))
  ss_nil)
  (ss_cons (s_if (b_cmp (p_ne hu) (d_blt c_len (by rfl) B.len (dl_cons (dv 0) dl_nil)) (d_blt c_len (by rfl) B.len (dl_cons (dv 1) dl_nil)))
  (ss_one (s_ret d_bl))
  ss_nil)
  (ss_cons (s_for (i_r1 (by rfl) B.range (dl_cons (d_blt c_len (by rfl) B.len (dl_cons (dv 1) dl_nil)) dl_nil)) (g_name (i := 2) sc.nd)
  (ss_one (s_if (b_not (b_tru (d_fn C__law_same hr (dl_cons (d_ix (dv 0) (dv 2)) (dl_cons (d_ix (dv 1) (dv 2)) dl_nil)))))
  (ss_one (s_ret d_bl))
  ss_nil)) PassesOwn.never)
  (ss_one (s_ret d_bl))))))))), fun ds r P' XR h => ?_⟩
    obtain ⟨a, b, rfl, pa, pb, da, db, h⟩ := h
    replace h := fit.of h
    cases b with
    | adr x => cases pb
    | non =>
      refine brT ?_
      cases a <;> exact h
    | bl x =>
      refine brF (brT (brT ?_))
      cases a <;> first | (cases pa; done) | skip
      case bl y => cases x <;> cases y <;> exact ⟨Nat.zero_le _, Nat.zero_le _, brF ⟨Nat.zero_le _, Nat.zero_le _, brF ⟨Nat.zero_le _, Nat.zero_le _, h⟩⟩⟩
      all_goals exact ⟨Nat.zero_le _, Nat.zero_le _, brT (brT h)⟩
    | str x =>
      refine brF (brF (brT ?_))
      cases a <;> first | (cases pa; done) | skip
      case str y => exact ⟨Nat.zero_le _, Nat.zero_le _, brF ⟨Nat.zero_le _, Nat.zero_le _, brF ⟨Nat.zero_le _, Nat.zero_le _, h⟩⟩⟩
      case bl y => exact ⟨Nat.zero_le _, Nat.zero_le _, brT (brT h)⟩
      all_goals exact ⟨Nat.zero_le _, Nat.zero_le _, brF ⟨Nat.zero_le _, Nat.zero_le _, brT h⟩⟩
    | int x =>
      refine brF (brF (brF (brT ?_)))
      cases a <;> first | (cases pa; done) | skip
      case int y => exact brT (brT ⟨Nat.zero_le _, Nat.zero_le _, h⟩)
      case bl y => exact brT (brF h)
      all_goals exact brF h
    | lst ys =>
      refine brF (brF (brF (brF (brT ?_))))
      cases a <;> first | (cases pa; done) | skip
      case lst xs =>
        refine brF (brF (brF ?_))
        refine fun ly lx => ⟨Nat.zero_le _, Nat.zero_le _, ?_⟩
        by_cases hl : xs.length = ys.length
        rotate_left
        · refine brt (ne_len hl) ?_
          have : sames xs ys = false := by
            cases q : sames xs ys with
            | false => rfl
            | true => exact absurd (sames_len q) hl
          simp only [G.same, this] at h
          exact h
        · refine brf (eq_len hl) ?_
          replace pa := (plain_lst pa).2
          replace pb := (plain_lst pb).2
          simp only [dep] at da db
          simp only [G.same] at h
          rw [sizeLine_eq] at ly
          refine fun _ => ⟨⟨by omega, by omega⟩, fun i δ' r' => (∃ k, δ' = [some (.lst xs), some (.lst ys), k]) ∧ r' = r ∧ ∀ (j : Nat) (x y : D), j < i → xs[j]? = some x → ys[j]? = some y → same x y = true, ⟨⟨none, rfl⟩, rfl, fun _ _ _ z => by omega⟩, ?_, ?_⟩
          · rintro i d δ' r' hd ⟨⟨k, rfl⟩, rfl, hI⟩
            have hi : i < ys.length := by
              have := (List.getElem?_eq_some_iff.mp hd).1
              simpa using this
            rw [List.getElem?_map, List.getElem?_range (by simpa using hi)] at hd
            cases hd
            obtain ⟨y, ey⟩ : ∃ y, ys[i]? = some y := ⟨ys[i], by simp⟩
            obtain ⟨x, ex⟩ := same_sides hl ey
            refine ix_l (atI_nat ex) (ix_l (atI_nat ey) ⟨x, y, rfl, plains_at pa ex, plains_at pb ey, by have := deps_at ex; omega, by have := deps_at ey; omega, ?_⟩)
            cases q : same x y with
            | false =>
              refine brT ?_
              have : sames xs ys = false := by
                cases q2 : sames xs ys with
                | false => rfl
                | true => rw [sames_at q2 ex ey] at q; cases q
              rw [this] at h
              exact h
            | true =>
              refine brF ⟨⟨_, rfl⟩, rfl, fun j x' y' hj ex' ey' => ?_⟩
              by_cases hji : j = i
              · subst hji
                rw [ex] at ex'
                rw [ey] at ey'
                cases ex'
                cases ey'
                exact q
              · exact hI j x' y' (by omega) ex' ey'
          · rintro δ' r' ⟨⟨k, rfl⟩, rfl, hI⟩
            have : sames xs ys = true := sames_of hl fun j x y ex ey => hI j x y (by have := (List.getElem?_eq_some_iff.mp ey).1; simpa using this) ex ey
            rw [this] at h
            exact h
      all_goals exact brT h
    | tup ys =>
      refine brF (brF (brF (brF (brF (brF (brT ?_))))))
      cases a <;> first | (cases pa; done) | skip
      case tup xs =>
        refine brF ?_
        refine fun ly lx => ⟨Nat.zero_le _, Nat.zero_le _, ?_⟩
        by_cases hl : xs.length = ys.length
        rotate_left
        · refine brt (ne_len hl) ?_
          have : sames xs ys = false := by
            cases q : sames xs ys with
            | false => rfl
            | true => exact absurd (sames_len q) hl
          simp only [G.same, this] at h
          exact h
        · refine brf (eq_len hl) ?_
          replace pa := (plain_tup pa).2
          replace pb := (plain_tup pb).2
          simp only [dep] at da db
          simp only [G.same] at h
          rw [sizeLine_eq] at ly
          refine fun _ => ⟨⟨by omega, by omega⟩, fun i δ' r' => (∃ k, δ' = [some (.tup xs), some (.tup ys), k]) ∧ r' = r ∧ ∀ (j : Nat) (x y : D), j < i → xs[j]? = some x → ys[j]? = some y → same x y = true, ⟨⟨none, rfl⟩, rfl, fun _ _ _ z => by omega⟩, ?_, ?_⟩
          · rintro i d δ' r' hd ⟨⟨k, rfl⟩, rfl, hI⟩
            have hi : i < ys.length := by
              have := (List.getElem?_eq_some_iff.mp hd).1
              simpa using this
            rw [List.getElem?_map, List.getElem?_range (by simpa using hi)] at hd
            cases hd
            obtain ⟨y, ey⟩ : ∃ y, ys[i]? = some y := ⟨ys[i], by simp⟩
            obtain ⟨x, ex⟩ := same_sides hl ey
            refine ix_t (atI_nat ex) (ix_t (atI_nat ey) ⟨x, y, rfl, plains_at pa ex, plains_at pb ey, by have := deps_at ex; omega, by have := deps_at ey; omega, ?_⟩)
            cases q : same x y with
            | false =>
              refine brT ?_
              have : sames xs ys = false := by
                cases q2 : sames xs ys with
                | false => rfl
                | true => rw [sames_at q2 ex ey] at q; cases q
              rw [this] at h
              exact h
            | true =>
              refine brF ⟨⟨_, rfl⟩, rfl, fun j x' y' hj ex' ey' => ?_⟩
              by_cases hji : j = i
              · subst hji
                rw [ex] at ex'
                rw [ey] at ey'
                cases ex'
                cases ey'
                exact q
              · exact hI j x' y' (by omega) ex' ey'
          · rintro δ' r' ⟨⟨k, rfl⟩, rfl, hI⟩
            have : sames xs ys = true := sames_of hl fun j x y ex ey => hI j x y (by have := (List.getElem?_eq_some_iff.mp ey).1; simpa using this) ex ey
            rw [this] at h
            exact h
      all_goals exact brT h

abbrev N_is_name : List Str := ["value", "letter"]
theorem sc_is_name : FnScope N_is_name ["value"] (defScope s_is_name) := ⟨rfl, rfl, rfl, by decide +kernel, rfl, by decide +kernel, by decide +kernel⟩

theorem c_is_name (B : Bl mg) (gL : GS mg "LETTERS" abc) (gM : GI mg "MOST_LETTERS" 8) (Dx : Dfn K mg "is_name" s_is_name ["value"]) : Cl P w K mg base 1 "is_name" ["value"] spIsName := by
  have sc := sc_is_name
  refine cl_of Dx sc (fun ds r P' XR ⟨d, e, _⟩ => by rw [e]; rfl) (fun f cdv A outer s H E hr => ?_)
  have hi := u65 hr
  refine ⟨_, (ss_cons (s_if (b_w (w_or (b_not (b_tru (d_isi .str (by rfl) B.isi (dv 0) (by rfl) B.str))) (w_or1 (b_not (b_chain p_le p_le d_int (d_blt c_len (by rfl) B.len (dl_cons (dv 0) dl_nil)) (d_gI gM))))))
  (ss_one (s_ret d_bl))
  ss_nil)
  (ss_one (s_ret (d_blt c_all (by rfl) B.all (dl_cons (d_lc (js := [1]) (own := [("letter", 1)]) sc.nd (i_str (dv 0)) (blkOk_by (own := [("letter", 1)]) (N := N_is_name) (sc := defScope s_is_name) (by decide +kernel)) (fun _ _ _ _ _ => (g_name (i := 1) sc.nd)) (fun _ _ _ _ _ => pts_no) (fun _ _ _ _ _ => (d_cmp (p_in hi) (dv 1) (d_gS gL)))) dl_nil))))), fun ds r P' XR h => ?_⟩
  obtain ⟨d, rfl, pd, h⟩ := h
  replace h := fit.of h
  cases d with
  | adr => cases pd
  | str z =>
    refine brF ?_
    have hb : ∀ b, isNm z = b → fit P' (.bl b) r := fun b e => e ▸ h
    refine ⟨fun (h1 : decide ((1 : Int) ≤ ((z.length : Nat) : Int)) = true) => ⟨fun (h2 : (!decide (((z.length : Nat) : Int) ≤ 8)) = true) => ?_, fun (h2 : (!decide (((z.length : Nat) : Int) ≤ 8)) = false) => ?_⟩, fun (h1 : decide ((1 : Int) ≤ ((z.length : Nat) : Int)) = false) => brT ?_⟩
    · refine hb _ ?_
      have : ¬ z.length ≤ 8 := fun q => by
        have q2 : ((z.length : Nat) : Int) ≤ 8 := by omega
        rw [decide_eq_true q2] at h2
        cases h2
      unfold isNm
      rw [decide_eq_false this, Bool.and_false, Bool.false_and]
    · have l8 : z.length ≤ 8 := by
        have : ((z.length : Nat) : Int) ≤ 8 := by
          cases q : decide (((z.length : Nat) : Int) ≤ 8) with
          | true => exact of_decide_eq_true q
          | false => rw [q] at h2; cases h2
        omega
      have l1 : 1 ≤ z.length := by
        have : (1 : Int) ≤ ((z.length : Nat) : Int) := of_decide_eq_true h1
        omega
      refine lc_map (fun d => .bl (match d with | .str w => (match sub1 w with | some c => decide (c ∈ tl abc) | none => false) | _ => false)) ?_ ?_ ?_
      · rw [List.length_map]
        show (tl z).length ≤ 1000000
        rw [← len_tl]
        omega
      · intro d hd r' P'' q
        obtain ⟨c, hc, rfl⟩ := List.mem_map.mp hd
        exact ⟨q⟩
      · have e : (List.map (fun c => D.str ⟨#[c]⟩) (tl z)).map (fun d => D.bl (match d with | .str w => (match sub1 w with | some c => decide (c ∈ tl abc) | none => false) | _ => false)) = (tl z).map fun c => D.bl (isLet c) := by
          rw [List.map_map]
          congr 1
          funext c
          show D.bl (decide (c ∈ tl abc)) = _
          rw [isLet_abc]
        rw [e]
        refine oAll_of (f := fun bs => bs.all id) (k := fun d => fit P' d r) (bls_of isLet (tl z)) ?_
        refine hb _ ?_
        unfold isNm
        rw [decide_eq_true l1, decide_eq_true l8, List.all_map]
        rfl
    · refine hb _ ?_
      have : ¬ 1 ≤ z.length := fun q => by
        have q2 : (1 : Int) ≤ ((z.length : Nat) : Int) := by omega
        rw [decide_eq_true q2] at h1
        cases h1
      unfold isNm
      rw [decide_eq_false this, Bool.false_and, Bool.false_and]
  | _ => exact brT (brT h)

/-! ### the rows, as data -/
def deedsT : List (Str × List Str) := [("take", ["feed"]), ("skip", ["feed"]), ("drain", ["feed"]), ("fetch", ["feed", "length"]), ("bind", ["feed", "feed"]), ("roll", ["dice"]), ("seed", ["dice"]), ("get", ["table", "key"]), ("peek", ["table", "key"]), ("has", ["table", "key"]), ("put", ["table", "key"]), ("fill", ["table", "key"]), ("drop", ["table", "key"]), ("size", ["table"]), ("keys", ["table"]), ("load", ["table", "keys"]), ("wipe", ["table"]), ("change", ["source"]), ("look", ["field"]), ("glance", ["field"]), ("renew", ["field"]), ("lift", ["flag"]), ("read", ["flag"]), ("watch", ["flag"]), ("keep", ["slot"]), ("copy", ["slot", "slot"]), ("tell", ["slot"]), ("bound", ["slot"]), ("mark", ["slot", "name"]), ("spy", ["thing"])]
def looksT : List Str := ["take", "drain", "roll", "get", "drop", "look", "renew", "read", "mark", "peek", "has", "size", "keys", "glance", "watch", "tell", "bound", "spy"]
def unsaidT : List Str := ["has", "bound", "mark", "spy"]
def plainT : List (Str × List Str) := [("fetch", ["feed"]), ("load", ["table"]), ("say", ["name"]), ("stop", []), ("call", ["name"]), ("else", []), ("end", [])]
def gatesT : List Str := ["always", "first", "later", "second"]
def assertedT : List Str := ["has", "bound", "read", "watch"]
def hasS (l : List Str) (z : Str) : Bool := l.any fun y => y == z
def tS (xs : List Str) : D := .tup (xs.map .str)
def dT (l : List (Str × List Str)) : List (Str × D) := l.map fun e => (e.1, tS e.2)
theorem dT_at (z : Str) : ∀ l : List (Str × List Str), (dT l).lookup z = (l.lookup z).map tS
  | [] => rfl
  | (x, v) :: r => by
    have ih := dT_at z r
    unfold dT at ih ⊢
    rw [List.map_cons, List.lookup_cons, List.lookup_cons, ih]
    cases z == x <;> rfl
def cD : Option (List Str) → D | none => .non | some xs => tS xs
def lookC (z : Str) : Option (List Str) := if hasS looksT z then (if z == "mark" then some ["slot"] else deedsT.lookup z) else none
def rowC (z : Str) : Option (List Str) := match plainT.lookup z with | some c => some c | none => if hasS unsaidT z then none else deedsT.lookup z
def branchC (o z : Str) : Option (List Str) := if z == "ask" then some ["name"] else if z == "take" || (o == "if" && hasS ["has", "read", "bound"] z) then deedsT.lookup z else none
theorem looks_deeds : (looksT.all fun z => (deedsT.lookup z).isSome) = true := by decide +kernel
theorem hasS_mem {l : List Str} {z : Str} (h : hasS l z = true) : z ∈ l := by
  obtain ⟨y, h1, h2⟩ := List.any_eq_true.mp h
  exact (eq_of_beq h2) ▸ h1
theorem look_deed {z : Str} (h : hasS looksT z = true) : ∃ c, deedsT.lookup z = some c := Option.isSome_iff_exists.mp (List.all_eq_true.mp looks_deeds z (hasS_mem h))
def isIntD : D → Bool | .int _ => true | _ => false
def headD : D → Str | .tup (.str z :: _) => z | _ => ""
theorem headD_tup {d : D} {z : Str} (h : headD d = z) (n : z ≠ "") : ∃ vs, d = .tup (.str z :: vs) := by
  subst h
  unfold headD at *
  split at n
  · rename_i z vs
    exact ⟨vs, rfl⟩
  · exact absurd rfl n
def suitsD (v : D) (c : Str) : Bool := if c == "length" then (match v with | .int i => decide (0 ≤ i) && decide (i ≤ 1000000000000000000000000000000) | _ => false) else if c == "keys" then (match v with | .tup ds => ds.all isNameD | _ => false) else isNameD v
def fitsD (v : D) (c : Option (List Str)) : Bool := match c, v with
  | some cs, .tup vs => decide (vs.length = 1 + cs.length) && ((vs.drop 1).zip cs).all fun e => suitsD e.1 e.2
  | _, _ => false
def isLookD (d : D) : Bool := fitsD d (lookC (headD d))
def isLooksD : D → Bool | .tup ds => ds.all isLookD | _ => false
def lenD : D → Nat | .tup ds => ds.length | _ => 0
def gateD : D → Bool | .str z => hasS gatesT z | _ => false
def watchD : List D → Bool
  | [.str w, n, g, a, b] => (isNameD n && gateD g) && isLooksD a && (if w == "assert" then isLookD b && hasS assertedT (headD b) && decide (lenD a ≤ 6) else isLooksD b && decide (lenD a + lenD b ≤ 6))
  | _ => false
def tailD : D → List D | .tup ds => ds.drop 1 | _ => []
def itemsD : D → List D | .tup ds => ds | _ => []
def isRowD (d : D) : Bool :=
  if headD d == "" then false else if headD d == "probe" || headD d == "assert" then watchD (itemsD d) else
  if headD d == "if" || headD d == "while" then fitsD (.tup (tailD d)) (branchC (headD d) (headD (.tup (tailD d)))) else fitsD d (rowC (headD d))
def spLookC : SpX := fun ds r P _ => ∃ z, ds = [.str z] ∧ P (cD (lookC z)) r
def spRowC : SpX := fun ds r P _ => ∃ z, ds = [.str z] ∧ P (cD (rowC z)) r
def spBranchC : SpX := fun ds r P _ => ∃ o z, ds = [.str o, .str z] ∧ P (cD (branchC o z)) r
def spIsInt : SpX := fun ds r P _ => ∃ d, ds = [d] ∧ plain d = true ∧ P (.bl (isIntD d)) r
def spHead : SpX := fun ds r P _ => ∃ d, ds = [d] ∧ plain d = true ∧ P (.str (headD d)) r
def spSuits : SpX := fun ds r P _ => ∃ d c, ds = [d, .str c] ∧ plain d = true ∧ P (.bl (suitsD d c)) r
def spFits : SpX := fun ds r P _ => ∃ d c, ds = [d, cD c] ∧ plain d = true ∧ (c = none ∨ ∃ vs, d = .tup vs) ∧ P (.bl (fitsD d c)) r
def spIsLook : SpX := fun ds r P _ => ∃ d, ds = [d] ∧ plain d = true ∧ P (.bl (isLookD d)) r
def spIsLooks : SpX := fun ds r P _ => ∃ d, ds = [d] ∧ plain d = true ∧ P (.bl (isLooksD d)) r
def spWatcher : SpX := fun ds r P _ => ∃ w vs, ds = [.tup (.str w :: vs)] ∧ plains vs = true ∧ P (.bl (watchD (.str w :: vs))) r
def spIsRow : SpX := fun ds r P _ => ∃ d, ds = [d] ∧ plain d = true ∧ P (.bl (isRowD d)) r
def spIsProbe : SpX := fun ds r P _ => ∃ w vs, ds = [.tup (.str w :: vs)] ∧ P (.bl (hasS ["probe", "assert"] w)) r

abbrev N_look_codes : List Str := ["word"]
theorem sc_look_codes : FnScope N_look_codes ["word"] (defScope s_look_codes) := ⟨rfl, rfl, rfl, by decide +kernel, rfl, by decide +kernel, by decide +kernel⟩

theorem c_look_codes (gL : GT K mg "LOOKS" looksT) (gD : GD K w mg "DEEDS" (dT deedsT)) (Dx : Dfn K mg "look_codes" s_look_codes ["word"]) : Cl P w K mg base 1 "look_codes" ["word"] spLookC := by
  have sc := sc_look_codes
  obtain ⟨dk, G_DEEDS, T⟩ := gD
  refine cl_of Dx sc (fun ds r P' XR ⟨d, e, _⟩ => by rw [e]; rfl) (fun f cdv A outer s H E hr => ?_)
  have hu := hr.units
  have hi := u65 hr
  refine ⟨_, (ss_cons (s_if (b_cmp (p_notIn hi) (dv 0) (d_gT gL))
  (ss_one (s_ret d_non))
  ss_nil)
  (ss_one (s_ret (d_if (b_cmp (p_eq hu) (dv 0) d_str) (d_tup (dl_cons d_str dl_nil)) (d_kix T (d_adr G_DEEDS) (dv 0)))))), fun ds r P' XR h => ?_⟩
  obtain ⟨z, rfl, h⟩ := h
  replace h := fit.of h
  refine oNi_t (k := fun d => (match d with | .bl b => _ | _ => False)) ?_
  cases hz : hasS looksT z with
  | false =>
    refine brt (by show (!hasS looksT z) = true; rw [hz]; rfl) ?_
    have e : lookC z = none := by unfold lookC; rw [hz]; rfl
    rw [e] at h
    exact h
  | true =>
    refine brf (by show (!hasS looksT z) = false; rw [hz]; rfl) ?_
    refine ⟨Nat.zero_le _, Nat.zero_le _, ?_⟩
    cases hm : z == "mark" with
    | true =>
      refine brt hm ?_
      have e : lookC z = some (["slot"] : List Str) := by unfold lookC; rw [hz, hm]; rfl
      rw [e] at h
      exact ⟨Nat.le_of_ble_eq_true rfl, h⟩
    | false =>
      refine brf hm ?_
      obtain ⟨c, hc⟩ := look_deed hz
      have e : lookC z = some c := by unfold lookC; rw [hz, hm]; exact hc
      rw [e] at h
      refine ⟨rfl, ?_⟩
      show (match (dT deedsT).lookup z with | some v => fit P' v r | none => False)
      rw [dT_at, hc]
      exact h
abbrev N_row_codes : List Str := ["word"]
theorem sc_row_codes : FnScope N_row_codes ["word"] (defScope s_row_codes) := ⟨rfl, rfl, rfl, by decide +kernel, rfl, by decide +kernel, by decide +kernel⟩

theorem c_row_codes (gU : GT K mg "UNSAID" unsaidT) (gP : GD K w mg "PLAIN" (dT plainT)) (gD : GD K w mg "DEEDS" (dT deedsT)) (Dx : Dfn K mg "row_codes" s_row_codes ["word"]) : Cl P w K mg base 1 "row_codes" ["word"] spRowC := by
  have sc := sc_row_codes
  obtain ⟨dk, G_DEEDS, T⟩ := gD
  obtain ⟨dp, G_PLAIN, T2⟩ := gP
  refine cl_of Dx sc (fun ds r P' XR ⟨d, e, _⟩ => by rw [e]; rfl) (fun f cdv A outer s H E hr => ?_)
  have hu := hr.units
  have hi := u65 hr
  refine ⟨_, (ss_cons (s_if (b_cmp (p_kin T2) (dv 0) (d_adr G_PLAIN))
  (ss_one (s_ret (d_kix T2 (d_adr G_PLAIN) (dv 0))))
  ss_nil)
  (ss_one (s_ret (d_if (b_cmp (p_in hi) (dv 0) (d_gT gU)) d_non (d_kget1 T G_DEEDS (dv 0) ⟨rfl, rfl, rfl, rfl⟩))))), fun ds r P' XR h => ?_⟩
  obtain ⟨z, rfl, h⟩ := h
  replace h := fit.of h
  refine ⟨rfl, ?_⟩
  cases hz : plainT.lookup z with
  | some c =>
    have e0 : (dT plainT).lookup z = some (tS c) := by rw [dT_at, hz]; rfl
    refine brt (by show ((dT plainT).lookup z).isSome = true; rw [e0]; rfl) ?_
    have e : rowC z = some c := by unfold rowC; rw [hz]
    rw [e] at h
    refine ⟨rfl, ?_⟩
    show (match (dT plainT).lookup z with | some v => fit P' v r | none => False)
    rw [e0]
    exact h
  | none =>
    have e0 : (dT plainT).lookup z = none := by rw [dT_at, hz]; rfl
    refine brf (by show ((dT plainT).lookup z).isSome = false; rw [e0]; rfl) ?_
    refine oIn_t (k := fun d => (match d with | .bl b => _ | _ => False)) ?_
    cases hu2 : hasS unsaidT z with
    | true =>
      refine brt hu2 ?_
      have e : rowC z = none := by unfold rowC; rw [hz]; show (if hasS unsaidT z = true then none else _) = _; rw [hu2]; rfl
      rw [e] at h
      exact h
    | false =>
      refine brf hu2 ?_
      have e : rowC z = deedsT.lookup z := by unfold rowC; rw [hz]; show (if hasS unsaidT z = true then none else _) = _; rw [hu2]; rfl
      rw [e] at h
      show fit P' (((dT deedsT).lookup z).getD .non) r
      rw [dT_at]
      revert h
      cases deedsT.lookup z <;> exact fun h => h

abbrev N_branch_codes : List Str := ["opener", "word"]
theorem sc_branch_codes : FnScope N_branch_codes ["opener", "word"] (defScope s_branch_codes) := ⟨rfl, rfl, rfl, by decide +kernel, rfl, by decide +kernel, by decide +kernel⟩

theorem branch_deed {z : Str} (h : (z == "take" || hasS ["has", "read", "bound"] z) = true) : ∃ c, deedsT.lookup z = some c := by
  have q : ((["take", "has", "read", "bound"] : List Str).all fun z => (deedsT.lookup z).isSome) = true := by decide +kernel
  have m : z ∈ (["take", "has", "read", "bound"] : List Str) := by
    rcases Bool.or_eq_true_iff.mp h with h | h
    · rw [eq_of_beq h]
      exact List.mem_cons_self
    · exact List.mem_cons_of_mem _ (hasS_mem h)
  exact Option.isSome_iff_exists.mp (List.all_eq_true.mp q z m)
theorem c_branch_codes (gD : GD K w mg "DEEDS" (dT deedsT)) (Dx : Dfn K mg "branch_codes" s_branch_codes ["opener", "word"]) : Cl P w K mg base 1 "branch_codes" ["opener", "word"] spBranchC := by
  have sc := sc_branch_codes
  obtain ⟨dk, G_DEEDS, T⟩ := gD
  refine cl_of Dx sc (fun ds r P' XR ⟨_, d, e, _⟩ => by rw [e]; rfl) (fun f cdv A outer s H E hr => ?_)
  have hu := hr.units
  have hi := u65 hr
  refine ⟨_, (ss_cons (s_if (b_cmp (p_eq hu) (dv 1) d_str)
  (ss_one (s_ret (d_tup (dl_cons d_str dl_nil))))
  ss_nil)
  (ss_cons (s_if (b_w (w_or (b_cmp (p_eq hu) (dv 1) d_str) (w_or1 (b_w (w_and (b_cmp (p_eq hu) (dv 0) d_str) (w_and1 (b_cmp (p_in hi) (dv 1) (d_tup (dl_cons d_str (dl_cons d_str (dl_cons d_str dl_nil)))))))))))
  (ss_one (s_ret (d_kix T (d_adr G_DEEDS) (dv 1))))
  ss_nil)
  (ss_one (s_ret d_non)))), fun ds r P' XR h => ?_⟩
  obtain ⟨o, z, rfl, h⟩ := h
  replace h := fit.of h
  refine ⟨Nat.zero_le _, Nat.zero_le _, ?_⟩
  have fin : ∀ c, branchC o z = c → fit P' (cD c) r := fun c e => e ▸ h
  cases ha : z == "ask" with
  | true =>
    refine brt ha ?_
    exact ⟨Nat.le_of_ble_eq_true rfl, fin (some ["name"]) (by unfold branchC; rw [ha]; rfl)⟩
  | false =>
    refine brf ha ?_
    have yes : ∀ c, deedsT.lookup z = some c → branchC o z = some c → oKix dk (dT deedsT) (.adr dk) (.str z) fun d => fit P' d r := fun c hc e => by
      refine ⟨rfl, ?_⟩
      show (match (dT deedsT).lookup z with | some v => fit P' v r | none => False)
      rw [dT_at, hc]
      exact fin _ e
    refine ⟨Nat.zero_le _, Nat.zero_le _, ?_⟩
    cases ht : z == "take" with
    | true =>
      refine brt ht (brT ?_)
      obtain ⟨c, hc⟩ := branch_deed (z := z) (by rw [ht]; rfl)
      exact yes c hc (by unfold branchC; rw [ha, ht]; exact hc)
    | false =>
      refine brf ht ?_
      refine ⟨Nat.zero_le _, Nat.zero_le _, ?_⟩
      cases ho : o == "if" with
      | false =>
        refine brf ho (brF ?_)
        exact fin none (by unfold branchC; rw [ha, ht, ho]; rfl)
      | true =>
        refine brt ho ?_
        refine ⟨Nat.le_of_ble_eq_true rfl, ?_⟩
        refine oIn_t (xs := ["has", "read", "bound"]) (k := fun d => (match d with | .bl b => _ | _ => False)) ?_
        cases hh : hasS ["has", "read", "bound"] z with
        | true =>
          refine brt hh ?_
          obtain ⟨c, hc⟩ := branch_deed (z := z) (by rw [hh, Bool.or_true])
          exact yes c hc (by unfold branchC; rw [ha, ht, ho, hh]; exact hc)
        | false =>
          refine brf hh ?_
          exact fin none (by unfold branchC; rw [ha, ht, ho, hh]; rfl)
abbrev N_is_integer : List Str := ["value"]
theorem sc_is_integer : FnScope N_is_integer ["value"] (defScope s_is_integer) := ⟨rfl, rfl, rfl, by decide +kernel, rfl, by decide +kernel, by decide +kernel⟩

theorem c_is_integer (B : Bl mg) (Dx : Dfn K mg "is_integer" s_is_integer ["value"]) : Cl P w K mg base 1 "is_integer" ["value"] spIsInt := by
  have sc := sc_is_integer
  refine cl_of Dx sc (fun ds r P' XR ⟨d, e, _⟩ => by rw [e]; rfl) (fun f cdv A outer s H E hr => ⟨_, (ss_one (s_ret (d_and (d_isi .int (by rfl) B.isi (dv 0) (by rfl) B.int) (d_one (d_not (d_isi .bool (by rfl) B.isi (dv 0) (by rfl) B.bool)))))), fun ds r P' XR h => ?_⟩)
  obtain ⟨d, rfl, pd, h⟩ := h
  replace h := fit.of h
  cases d with
  | adr => cases pd
  | int i => exact brT h
  | bl b => exact brT h
  | _ => exact brF h
abbrev N_head : List Str := ["value"]
theorem sc_head : FnScope N_head ["value"] (defScope s_head) := ⟨rfl, rfl, rfl, by decide +kernel, rfl, by decide +kernel, by decide +kernel⟩

theorem c_head (B : Bl mg) (Dx : Dfn K mg "head" s_head ["value"]) : Cl P w K mg base 1 "head" ["value"] spHead := by
  have sc := sc_head
  refine cl_of Dx sc (fun ds r P' XR ⟨d, e, _⟩ => by rw [e]; rfl) (fun f cdv A outer s H E hr => ⟨_, (ss_cons (s_if (b_w (w_and (b_tru (d_isi .tuple (by rfl) B.isi (dv 0) (by rfl) B.tuple)) (w_and (b_cmp p_gt (d_blt c_len (by rfl) B.len (dl_cons (dv 0) dl_nil)) d_int) (w_and1 (b_tru (d_isi .str (by rfl) B.isi (d_ix (dv 0) d_int) (by rfl) B.str))))))
  (ss_one (s_ret (d_ix (dv 0) d_int)))
  ss_nil)
  (ss_one (s_ret d_str))), fun ds r P' XR h => ?_⟩)
  obtain ⟨d, rfl, pd, h⟩ := h
  replace h := fit.of h
  cases d with
  | adr => cases pd
  | tup vs =>
    refine brT fun hz => ?_
    cases vs with
    | nil => exact brF (brF h)
    | cons v vs =>
      have e1 : decide (((v :: vs).length : Int) > 0) = true := decide_eq_true (by rw [List.length_cons]; omega)
      refine brt e1 ?_
      refine ix_t at0 ?_
      cases v with
      | adr =>
        have q := (plain_tup pd).2
        simp [G.plains, G.plain] at q
      | str z => exact brT (ix_t at0 h)
      | _ => exact brF h
  | _ => exact brF (brF h)

abbrev N_suits : List Str := ["value", "code", "name"]
theorem sc_suits : FnScope N_suits ["value", "code"] (defScope s_suits) := ⟨rfl, rfl, rfl, by decide +kernel, rfl, by decide +kernel, by decide +kernel⟩

theorem c_suits (B : Bl mg) (gM : GI mg "MOST_ITEMS" 1000000000000000000000000000000) (C_is_name : Cl P w K mg base 1 "is_name" ["value"] spIsName) (C_is_integer : Cl P w K mg base 1 "is_integer" ["value"] spIsInt) (Dx : Dfn K mg "suits" s_suits ["value", "code"]) : Cl P w K mg base 2 "suits" ["value", "code"] spSuits := by
  have sc := sc_suits
  refine cl_of Dx sc (fun ds r P' XR ⟨d, c, e, _⟩ => by rw [e]; rfl) (fun f cdv A outer s H E hr => ?_)
  have hu := hr.units
  have hi := u65 hr
  refine ⟨_, (ss_one (s_match (dv 1) (pc_cons (pm_v hu)
  (ss_one (s_ret (d_and (d_fn C_is_integer hr (dl_cons (dv 0) dl_nil)) (d_one (d_chain p_le p_le d_int (dv 0) (d_gI gM))))))
  (pc_cons (pm_v hu)
  (ss_one (s_ret (d_and (d_isi .tuple (by rfl) B.isi (dv 0) (by rfl) B.tuple) (d_one (d_blt c_all (by rfl) B.all (dl_cons (d_lc (js := [2]) (own := [("name", 2)]) sc.nd (i_tup (dv 0)) (blkOk_by (own := [("name", 2)]) (N := N_suits) (sc := defScope s_suits) (by decide +kernel)) (fun _ _ _ _ _ => (g_name (i := 2) sc.nd)) (fun _ _ _ _ _ => pts_no) (fun _ _ _ _ _ => (d_fn C_is_name hr (dl_cons (dv 2) dl_nil)))) dl_nil))))))
  (pc_cons pm_any
  (ss_one (s_ret (d_fn C_is_name hr (dl_cons (dv 0) dl_nil))))
  pc_nil))))), fun ds r P' XR h => ?_⟩
  obtain ⟨d, c, rfl, pd, h⟩ := h
  replace h := fit.of h
  have fin : ∀ b, suitsD d c = b → fit P' (.bl b) r := fun b e => e ▸ h
  refine ⟨fun (h1 : (c == "length") = true) => ?_, fun (h1 : (c == "length") = false) => ⟨fun (h2 : (c == "keys") = true) => ?_, fun (h2 : (c == "keys") = false) => ⟨fun _ => ?_, fun z => by cases z⟩⟩⟩
  · refine ⟨d, rfl, pd, ?_⟩
    cases d with
    | int i =>
      refine brT ?_
      refine ⟨fun (q1 : decide ((0 : Int) ≤ i) = true) => ?_, fun (q1 : decide ((0 : Int) ≤ i) = false) => ?_⟩
      · exact fin _ (by unfold suitsD; rw [if_pos h1]; show (decide (0 ≤ i) && _) = _; rw [q1]; rfl)
      · exact fin _ (by unfold suitsD; rw [if_pos h1]; show (decide (0 ≤ i) && _) = _; rw [q1]; rfl)
    | _ => exact brF (fin _ (by unfold suitsD; rw [if_pos h1]))
  · have h1' : ¬ (c == "length") = true := by rw [h1]; decide
    cases d with
    | adr => cases pd
    | tup vs =>
      refine brT ?_
      obtain ⟨pl, pv⟩ := plain_tup pd
      refine lc_map (fun d => .bl (isNameD d)) ?_ ?_ ?_
      · exact pl
      · exact fun d hd r' P'' q => ⟨d, rfl, plains_mem pv hd, q⟩
      · refine oAll_of (f := fun bs => bs.all id) (k := fun d => fit P' d r) (bls_of isNameD vs) ?_
        exact fin _ (by unfold suitsD; rw [if_neg h1', if_pos h2, List.all_map]; rfl)
    | _ => exact brF (fin _ (by unfold suitsD; rw [if_neg h1', if_pos h2]))
  · have h1' : ¬ (c == "length") = true := by rw [h1]; decide
    have h2' : ¬ (c == "keys") = true := by rw [h2]; decide
    exact ⟨d, rfl, pd, fin _ (by unfold suitsD; rw [if_neg h1', if_neg h2'])⟩
theorem zip_all : ∀ {vs : List D} {cs : List Str}, (zipD vs (cs.map .str)).map (fun d => match d with | .tup [v, .str c] => D.bl (suitsD v c) | _ => .non) = (vs.zip cs).map fun e => D.bl (suitsD e.1 e.2)
  | [], _ => rfl
  | _ :: _, [] => rfl
  | v :: vs, c :: cs => by
    have ih := zip_all (vs := vs) (cs := cs)
    unfold zipD at ih ⊢
    rw [List.map_cons, List.zip_cons_cons, List.map_cons, List.map_cons, ih]
    rfl
abbrev N_fits : List Str := ["value", "codes", "part", "code"]
theorem sc_fits : FnScope N_fits ["value", "codes"] (defScope s_fits) := ⟨rfl, rfl, rfl, by decide +kernel, rfl, by decide +kernel, by decide +kernel⟩

theorem c_fits (B : Bl mg) (C_suits : Cl P w K mg base 2 "suits" ["value", "code"] spSuits) (Dx : Dfn K mg "fits" s_fits ["value", "codes"]) : Cl P w K mg base 3 "fits" ["value", "codes"] spFits := by
  have sc := sc_fits
  refine cl_of Dx sc (fun ds r P' XR ⟨d, c, e, _⟩ => by rw [e]; rfl) (fun f cdv A outer s H E hr => ?_)
  have hu := hr.units
  have hi := u65 hr
  refine ⟨_, (ss_cons (s_if (b_w (w_or (b_cmp p_is (dv 1) d_non) (w_or1 (b_cmp (p_ne hu) (d_blt c_len (by rfl) B.len (dl_cons (dv 0) dl_nil)) (d_bin p_add d_int (d_blt c_len (by rfl) B.len (dl_cons (dv 1) dl_nil)))))))
  (ss_one (s_ret d_bl))
  ss_nil)
  (ss_one (s_ret (d_blt c_all (by rfl) B.all (dl_cons (d_lc (js := [2, 3]) (own := [("part", 2), ("code", 3)]) sc.nd (i_zip (by rfl) B.zip (dl_cons (d_sl (dv 0) (o_some d_int) o_no) (dl_cons (dv 1) dl_nil))) (blkOk_by (own := [("part", 2), ("code", 3)]) (N := N_fits) (sc := defScope s_fits) (by decide +kernel)) (fun _ _ _ _ _ => (g_tup (is := [2, 3]) (pgs_n (i := 2) sc.nd (pgs_n (i := 3) sc.nd pgs_nil)))) (fun _ _ _ _ _ => pts_no) (fun _ _ _ _ _ => (d_fn C_suits hr (dl_cons (dv 2) (dl_cons (dv 3) dl_nil))))) dl_nil))))), fun ds r P' XR h => ?_⟩
  obtain ⟨d, c, rfl, pd, ht, h⟩ := h
  replace h := fit.of h
  cases c with
  | none => exact brT (brT h)
  | some cs =>
    refine brF ?_
    obtain hn | ⟨vs, rfl⟩ := ht
    · cases hn
    obtain ⟨pl, pv⟩ := plain_tup pd
    have fin : ∀ b, fitsD (.tup vs) (some cs) = b → fit P' (.bl b) r := fun b e => e ▸ h
    intro lv lc
    refine ⟨Nat.zero_le _, Nat.zero_le _, ?_⟩
    have el : ((1 : Int) + (((cs.map D.str).length : Nat) : Int)) = ((1 + cs.length : Nat) : Int) := by rw [List.length_map]; omega
    show ((!eqD (.int ((vs.length : Nat) : Int)) (.int ((1 : Int) + (((cs.map D.str).length : Nat) : Int)))) = true → _) ∧ ((!eqD (.int ((vs.length : Nat) : Int)) (.int ((1 : Int) + (((cs.map D.str).length : Nat) : Int)))) = false → _)
    rw [el]
    by_cases hl : vs.length = 1 + cs.length
    · refine brf (eq_len hl) ?_
      cases vs with
      | nil => rw [List.length_nil] at hl; omega
      | cons v vs =>
        have hl2 : vs.length = cs.length := by rw [List.length_cons] at hl; omega
        simp only [plains, Bool.and_eq_true] at pv
        show oSl _ _ _ _
        refine oSl_1 ?_
        refine ⟨by rw [List.length_map]; exact hl2, ?_⟩
        refine lc_map (fun d => match d with | .tup [v, .str c] => D.bl (suitsD v c) | _ => .non) ?_ ?_ ?_
        · rw [zipD_len (by rw [List.length_map]; exact hl2)]
          rw [List.length_cons] at pl
          unfold small
          omega
        · intro d hd r' P'' q
          unfold zipD at hd
          obtain ⟨e, he, rfl⟩ := List.mem_map.mp hd
          obtain ⟨m1, m2⟩ := List.of_mem_zip (a := e.1) (b := e.2) he
          obtain ⟨c, _, hc⟩ := List.mem_map.mp m2
          refine ⟨rfl, ?_⟩
          rw [← hc] at q ⊢
          exact ⟨e.1, c, rfl, plains_mem pv.2 m1, q⟩
        · rw [zip_all]
          refine oAll_of (f := fun bs => bs.all id) (k := fun d => fit P' d r) (bls_of (fun e : D × Str => suitsD e.1 e.2) (vs.zip cs)) ?_
          exact fin _ (by show (decide ((v :: vs).length = 1 + cs.length) && _) = _; rw [decide_eq_true hl, List.all_map]; rfl)
    · refine brt (ne_len hl) ?_
      exact fin _ (by show (decide (vs.length = 1 + cs.length) && _) = _; rw [decide_eq_false hl]; rfl)
abbrev N_is_look : List Str := ["row"]
theorem sc_is_look : FnScope N_is_look ["row"] (defScope s_is_look) := ⟨rfl, rfl, rfl, by decide +kernel, rfl, by decide +kernel, by decide +kernel⟩

theorem look_head {d : D} : lookC (headD d) = none ∨ ∃ vs, d = .tup vs := by
  by_cases h : headD d = ""
  · rw [h]
    exact .inl (by decide +kernel)
  · obtain ⟨vs, e⟩ := headD_tup (d := d) rfl h
    exact .inr ⟨_, e⟩
theorem c_is_look (C_head : Cl P w K mg base 1 "head" ["value"] spHead) (C_look_codes : Cl P w K mg base 1 "look_codes" ["word"] spLookC) (C_fits : Cl P w K mg base 3 "fits" ["value", "codes"] spFits) (Dx : Dfn K mg "is_look" s_is_look ["row"]) : Cl P w K mg base 4 "is_look" ["row"] spIsLook := by
  have sc := sc_is_look
  refine cl_of Dx sc (fun ds r P' XR ⟨d, e, _⟩ => by rw [e]; rfl) (fun f cdv A outer s H E hr => ⟨_, (ss_one (s_ret (d_fn C_fits hr (dl_cons (dv 0) (dl_cons (d_fn C_look_codes hr (dl_cons (d_fn C_head hr (dl_cons (dv 0) dl_nil)) dl_nil)) dl_nil))))), fun ds r P' XR h => ?_⟩)
  obtain ⟨d, rfl, pd, h⟩ := h
  exact ⟨d, rfl, pd, _, rfl, d, _, rfl, pd, look_head, fit.of h⟩
abbrev N_is_looks : List Str := ["rows", "row"]
theorem sc_is_looks : FnScope N_is_looks ["rows"] (defScope s_is_looks) := ⟨rfl, rfl, rfl, by decide +kernel, rfl, by decide +kernel, by decide +kernel⟩

theorem c_is_looks (B : Bl mg) (C_is_look : Cl P w K mg base 4 "is_look" ["row"] spIsLook) (Dx : Dfn K mg "is_looks" s_is_looks ["rows"]) : Cl P w K mg base 5 "is_looks" ["rows"] spIsLooks := by
  have sc := sc_is_looks
  refine cl_of Dx sc (fun ds r P' XR ⟨d, e, _⟩ => by rw [e]; rfl) (fun f cdv A outer s H E hr => ⟨_, (ss_one (s_ret (d_and (d_isi .tuple (by rfl) B.isi (dv 0) (by rfl) B.tuple) (d_one (d_blt c_all (by rfl) B.all (dl_cons (d_lc (js := [1]) (own := [("row", 1)]) sc.nd (i_tup (dv 0)) (blkOk_by (own := [("row", 1)]) (N := N_is_looks) (sc := defScope s_is_looks) (by decide +kernel)) (fun _ _ _ _ _ => (g_name (i := 1) sc.nd)) (fun _ _ _ _ _ => pts_no) (fun _ _ _ _ _ => (d_fn C_is_look hr (dl_cons (dv 1) dl_nil)))) dl_nil)))))), fun ds r P' XR h => ?_⟩)
  obtain ⟨d, rfl, pd, h⟩ := h
  replace h := fit.of h
  cases d with
  | adr => cases pd
  | tup vs =>
    refine brT ?_
    obtain ⟨pl, pv⟩ := plain_tup pd
    refine lc_map (fun d => .bl (isLookD d)) ?_ ?_ ?_
    · exact pl
    · exact fun d hd r' P'' q => ⟨d, rfl, plains_mem pv hd, q⟩
    · refine oAll_of (f := fun bs => bs.all id) (k := fun d => fit P' d r) (bls_of isLookD vs) ?_
      have e : (vs.map isLookD).all id = isLooksD (.tup vs) := by rw [List.all_map]; rfl
      exact e ▸ h
  | _ => exact brF h

theorem at3 {α : Type} {a b c d : α} {l : List α} : atI (a :: b :: c :: d :: l) 3 = some d := L2.atI_nat (j := 3) rfl
theorem at4 {α : Type} {a b c d e : α} {l : List α} : atI (a :: b :: c :: d :: e :: l) 4 = some e := L2.atI_nat (j := 4) rfl
theorem look_tup {d : D} (h : isLookD d = true) : ∃ vs, d = .tup (.str (headD d) :: vs) := by
  by_cases q : headD d = ""
  · unfold isLookD at h
    rw [q] at h
    have e : lookC "" = none := by decide +kernel
    rw [e] at h
    simp [fitsD] at h
  · exact headD_tup rfl q
theorem looks_tup {d : D} (h : isLooksD d = true) : ∃ vs, d = .tup vs := by
  cases d <;> first | exact ⟨_, rfl⟩ | cases h
theorem watch_no {w : Str} {vs : List D} (h : vs.length ≠ 4) : watchD (.str w :: vs) = false := by
  unfold watchD
  split
  · rename_i heq
    cases heq
    exact absurd rfl h
  · rfl
theorem watch_yes (w : Str) (n g a b : D) : watchD [.str w, n, g, a, b] = ((isNameD n && gateD g) && isLooksD a && (if w == "assert" then isLookD b && hasS assertedT (headD b) && decide (lenD a ≤ 6) else isLooksD b && decide (lenD a + lenD b ≤ 6))) := rfl
theorem len4 {vs : List D} (h : vs.length = 4) : ∃ n g a b, vs = [n, g, a, b] := by
  match vs, h with
  | [n, g, a, b], _ => exact ⟨_, _, _, _, rfl⟩
abbrev N_is_watcher : List Str := ["row"]
theorem sc_is_watcher : FnScope N_is_watcher ["row"] (defScope s_is_watcher) := ⟨rfl, rfl, rfl, by decide +kernel, rfl, by decide +kernel, by decide +kernel⟩

theorem c_is_watcher (B : Bl mg) (gG : GT K mg "GATES" gatesT) (gA : GT K mg "ASSERTED" assertedT) (gM : GI mg "MOST_LOOKS" 6) (C_is_name : Cl P w K mg base 1 "is_name" ["value"] spIsName) (C_is_look : Cl P w K mg base 4 "is_look" ["row"] spIsLook) (C_is_looks : Cl P w K mg base 5 "is_looks" ["rows"] spIsLooks) (Dx : Dfn K mg "is_watcher" s_is_watcher ["row"]) : Cl P w K mg base 6 "is_watcher" ["row"] spWatcher := by
  have sc := sc_is_watcher
  refine cl_of Dx sc (fun ds r P' XR ⟨w, vs, e, _⟩ => by rw [e]; rfl) (fun f cdv A outer s H E hr => ?_)
  have hu := hr.units
  have hi := u65 hr
  refine ⟨_, (ss_cons (s_if (b_w (w_or (b_cmp (p_ne hu) (d_blt c_len (by rfl) B.len (dl_cons (dv 0) dl_nil)) d_int) (w_or (b_not (b_tru (d_fn C_is_name hr (dl_cons (d_ix (dv 0) d_int) dl_nil)))) (w_or (b_not (b_tru (d_isi .str (by rfl) B.isi (d_ix (dv 0) d_int) (by rfl) B.str))) (w_or1 (b_cmp (p_notIn hi) (d_ix (dv 0) d_int) (d_gT gG)))))))
  (ss_one (s_ret d_bl))
  ss_nil)
  (ss_cons (s_if (b_not (b_tru (d_fn C_is_looks hr (dl_cons (d_ix (dv 0) d_int) dl_nil))))
  (ss_one (s_ret d_bl))
  ss_nil)
  (ss_cons (s_if (b_cmp (p_eq hu) (d_ix (dv 0) d_int) d_str)
  (ss_one (s_ret (d_and (d_fn C_is_look hr (dl_cons (d_ix (dv 0) d_int) dl_nil)) (d_and (d_cmp (p_in hi) (d_ix (d_ix (dv 0) d_int) d_int) (d_gT gA)) (d_one (d_cmp p_le (d_blt c_len (by rfl) B.len (dl_cons (d_ix (dv 0) d_int) dl_nil)) (d_gI gM)))))))
  ss_nil)
  (ss_one (s_ret (d_and (d_fn C_is_looks hr (dl_cons (d_ix (dv 0) d_int) dl_nil)) (d_one (d_cmp p_le (d_bin p_add (d_blt c_len (by rfl) B.len (dl_cons (d_ix (dv 0) d_int) dl_nil)) (d_blt c_len (by rfl) B.len (dl_cons (d_ix (dv 0) d_int) dl_nil))) (d_gI gM))))))))), fun ds r P' XR h => ?_⟩
  obtain ⟨z, vs, rfl, pv, h⟩ := h
  replace h := fit.of h
  have fin : ∀ b, watchD (.str z :: vs) = b → fit P' (.bl b) r := fun b e => e ▸ h
  refine fun _ => ⟨Nat.zero_le _, Nat.zero_le _, ?_⟩
  by_cases hl : vs.length = 4
  · obtain ⟨n, g, a, b, rfl⟩ := len4 hl
    simp only [G.plains, Bool.and_eq_true] at pv
    obtain ⟨pn, pg, pa, pb, _⟩ := pv
    rw [watch_yes] at fin
    refine brF (ix_t at1 ⟨n, rfl, pn, ?_⟩)
    cases hn : isNameD n with
    | false => exact brT (brT (fin _ (by rw [hn]; rfl)))
    | true =>
      refine brF (ix_t at2 ?_)
      rw [hn] at fin
      have nog : (∀ zz, g ≠ .str zz) → fit P' (.bl false) r := fun q => fin _ (by
        have : gateD g = false := by cases g <;> first | rfl | exact absurd rfl (q _)
        rw [this]
        rfl)
      cases g with
      | adr => cases pg
      | str zz =>
        refine brF (ix_t at2 ?_)
        refine oNi_t (k := fun d => (match d with | .bl b => _ | _ => False)) ?_
        have e0 : gateD (.str zz) = hasS gatesT zz := rfl
        rw [e0] at fin
        cases hg : hasS gatesT zz with
        | false => exact brt (by show (!hasS gatesT zz) = true; rw [hg]; rfl) (fin _ (by rw [hg]; rfl))
        | true =>
          rw [hg] at fin
          refine brf (by show (!hasS gatesT zz) = false; rw [hg]; rfl) ?_
          refine ix_t at3 ⟨a, rfl, pa, ?_⟩
          cases ha : isLooksD a with
          | false => exact brT (fin _ (by rw [ha]; rfl))
          | true =>
            rw [ha] at fin
            refine brF (ix_t at0 ?_)
            refine ⟨Nat.zero_le _, Nat.zero_le _, ?_⟩
            obtain ⟨va, rfl⟩ := looks_tup ha
            cases hz : z == "assert" with
            | true =>
              rw [hz] at fin
              refine brt hz ?_
              refine ix_t at4 ⟨b, rfl, pb, ?_⟩
              cases hb : isLookD b with
              | false => exact brF (fin _ (by rw [hb]; rfl))
              | true =>
                rw [hb] at fin
                obtain ⟨vb, eb⟩ := look_tup hb
                refine brT (ix_t at4 ?_)
                have fin2 : ∀ c, (hasS assertedT (headD b) && decide (lenD (.tup va) ≤ 6)) = c → fit P' (.bl c) r := fun c e => fin _ e
                have eh : ∀ k : D → Prop, oIn false (.str (headD b)) (.tup (assertedT.map .str)) k → oIx b (.int 0) fun d => oIn false d (.tup (assertedT.map .str)) k := fun k q => by
                  rw [eb]
                  exact ix_t at0 (by rw [eb] at q; exact q)
                refine eh _ ?_
                refine oIn_t (k := fun d => (match d with | .bl b => _ | _ => False)) ?_
                cases hs : hasS assertedT (headD b) with
                | false => exact brf hs (fin2 _ (by rw [hs]; rfl))
                | true =>
                  rw [hs] at fin2
                  refine brt hs (ix_t at3 fun _ => ?_)
                  refine fin2 _ ?_
                  show decide (va.length ≤ 6) = decide (((va.length : Nat) : Int) ≤ 6)
                  exact decide_eq_decide.mpr (by omega)
            | false =>
              rw [hz] at fin
              refine brf hz ?_
              refine ix_t at4 ⟨b, rfl, pb, ?_⟩
              cases hb : isLooksD b with
              | false => exact brF (fin _ (by rw [hb]; rfl))
              | true =>
                rw [hb] at fin
                obtain ⟨vb, rfl⟩ := looks_tup hb
                refine brT (ix_t at3 fun _ => ix_t at4 fun _ => ?_)
                refine fin _ ?_
                show decide (va.length + vb.length ≤ 6) = decide (((va.length : Nat) : Int) + ((vb.length : Nat) : Int) ≤ 6)
                exact decide_eq_decide.mpr (by omega)
      | _ => exact brT (brT (nog fun _ => by intro q; cases q))
  · refine brt ?_ (brT (fin _ (watch_no hl)))
    show (!eqD (.int (((.str z :: vs : List D).length : Nat) : Int)) (.int ((5 : Nat) : Int))) = true
    exact ne_len (by rw [List.length_cons]; omega)
abbrev N_is_row : List Str := ["row"]
theorem sc_is_row : FnScope N_is_row ["row"] (defScope s_is_row) := ⟨rfl, rfl, rfl, by decide +kernel, rfl, by decide +kernel, by decide +kernel⟩

theorem c_is_row (C_head : Cl P w K mg base 1 "head" ["value"] spHead) (C_row_codes : Cl P w K mg base 1 "row_codes" ["word"] spRowC) (C_branch_codes : Cl P w K mg base 1 "branch_codes" ["opener", "word"] spBranchC) (C_fits : Cl P w K mg base 3 "fits" ["value", "codes"] spFits) (C_is_watcher : Cl P w K mg base 6 "is_watcher" ["row"] spWatcher) (Dx : Dfn K mg "is_row" s_is_row ["row"]) : Cl P w K mg base 7 "is_row" ["row"] spIsRow := by
  have sc := sc_is_row
  refine cl_of Dx sc (fun ds r P' XR ⟨d, e, _⟩ => by rw [e]; rfl) (fun f cdv A outer s H E hr => ?_)
  have hu := hr.units
  refine ⟨_, (ss_cons (s_match (d_fn C_head hr (dl_cons (dv 0) dl_nil)) (pc_cons (pm_v hu)
  (ss_one (s_ret d_bl))
  (pc_cons (pm_or (pf_cons (pm_v hu) (pf_cons (pm_v hu) pf_nil)))
  (ss_one (s_ret (d_fn C_is_watcher hr (dl_cons (dv 0) dl_nil))))
  (pc_cons (pm_or (pf_cons (pm_v hu) (pf_cons (pm_v hu) pf_nil)))
  (ss_one (s_ret (d_fn C_fits hr (dl_cons (d_sl (dv 0) (o_some d_int) o_no) (dl_cons (d_fn C_branch_codes hr (dl_cons (d_ix (dv 0) d_int) (dl_cons (d_fn C_head hr (dl_cons (d_sl (dv 0) (o_some d_int) o_no) dl_nil)) dl_nil))) dl_nil)))))
  pc_nil))))
  (ss_one (s_ret (d_fn C_fits hr (dl_cons (dv 0) (dl_cons (d_fn C_row_codes hr (dl_cons (d_ix (dv 0) d_int) dl_nil)) dl_nil)))))), fun ds r P' XR h => ?_⟩
  obtain ⟨d, rfl, pd, h⟩ := h
  replace h := fit.of h
  refine ⟨d, rfl, pd, ?_⟩
  have fin : ∀ b, isRowD d = b → fit P' (.bl b) r := fun b e => e ▸ h
  unfold isRowD at fin
  refine ⟨fun (h1 : (headD d == "") = true) => ?_, fun (h1 : (headD d == "") = false) => ?_⟩
  · rw [if_pos h1] at fin
    exact fin _ rfl
  · rw [if_neg (by rw [h1]; decide)] at fin
    obtain ⟨vs, e⟩ := headD_tup (d := d) rfl (fun e => by rw [e] at h1; cases h1)
    generalize headD d = z at *
    subst e
    obtain ⟨pl, pv⟩ := plain_tup pd
    simp only [G.plains, Bool.and_eq_true] at pv
    refine ⟨fun (h2 : (z == "probe" || (z == "assert" || false)) = true) => ?_, fun (h2 : (z == "probe" || (z == "assert" || false)) = false) => ⟨fun (h3 : (z == "if" || (z == "while" || false)) = true) => ?_, fun (h3 : (z == "if" || (z == "while" || false)) = false) => ?_⟩⟩
    · rw [Bool.or_false] at h2
      rw [if_pos h2] at fin
      exact ⟨z, vs, rfl, pv.2, fin _ rfl⟩
    · rw [Bool.or_false] at h2 h3
      rw [if_neg (by rw [h2]; decide), if_pos h3] at fin
      have pt : G.plain (.tup vs) = true := plain_of_tup (by rw [List.length_cons] at pl; omega) pv.2
      refine oSl_1 ?_
      refine ix_t at0 (oSl_1 ?_)
      exact ⟨.tup vs, rfl, pt, z, _, rfl, .tup vs, _, rfl, pt, .inr ⟨vs, rfl⟩, fin _ rfl⟩
    · rw [Bool.or_false] at h2 h3
      rw [if_neg (by rw [h2]; decide), if_neg (by rw [h3]; decide)] at fin
      exact ix_t at0 ⟨z, rfl, _, _, rfl, pd, .inr ⟨_, rfl⟩, fin _ rfl⟩

abbrev N_is_probe : List Str := ["row"]
theorem sc_is_probe : FnScope N_is_probe ["row"] (defScope s_is_probe) := ⟨rfl, rfl, rfl, by decide +kernel, rfl, by decide +kernel, by decide +kernel⟩

theorem c_is_probe (Dx : Dfn K mg "is_probe" s_is_probe ["row"]) : Cl P w K mg base 1 "is_probe" ["row"] spIsProbe := by
  have sc := sc_is_probe
  refine cl_of Dx sc (fun ds r P' XR ⟨_, d, e, _⟩ => by rw [e]; rfl) (fun f cdv A outer s H E hr => ?_)
  have hi := u65 hr
  refine ⟨_, (ss_one (s_ret (d_cmp (p_in hi) (d_ix (dv 0) d_int) (d_tup (dl_cons d_str (dl_cons d_str dl_nil)))))), fun ds r P' XR h => ?_⟩
  obtain ⟨z, vs, rfl, h⟩ := h
  refine ix_t at0 ⟨Nat.le_of_ble_eq_true rfl, ?_⟩
  exact oIn_t (xs := ["probe", "assert"]) (k := fun d => fit P' d r) (fit.of h)

/-! ### rows that are drawn -/
def lawLooks : List Str := ["take", "drain", "roll", "get", "drop", "look", "renew", "read", "peek", "size", "keys", "glance", "watch", "tell"]
def wordsL : List Str := ["take", "drain", "roll", "look", "renew", "read", "mark", "size", "keys", "glance", "watch", "tell", "bound", "spy", "get", "drop", "peek", "has"]
def wordsR : List Str := ["take", "skip", "drain", "fetch", "roll", "seed", "size", "keys", "load", "wipe", "change", "look", "glance", "renew", "lift", "read", "watch", "keep", "tell", "bind", "copy", "get", "peek", "put", "fill", "drop"]
def nmC (c : Str) : Bool := !(c == "length") && !(c == "keys")
def nSp (w : Str) : Bool := !(w == "") && (!(w == "probe" || w == "assert") && !(w == "if" || w == "while"))
/-- codes of n names -/
def cN (c : Option (List Str)) (n : Nat) : Bool := match c with | some cs => decide (cs.length = n) && cs.all nmC | none => false
/-- d: a word and names -/
def row (w : Str) (xs : List Str) : D := .tup (.str w :: xs.map .str)
theorem suits_nm {x c : Str} (h : isNm x = true) (g : nmC c = true) : suitsD (.str x) c = true := by
  unfold nmC at g
  simp only [Bool.and_eq_true, Bool.not_eq_true'] at g
  unfold suitsD
  rw [if_neg (by rw [g.1]; decide), if_neg (by rw [g.2]; decide)]
  exact h
theorem zip_suits : ∀ {xs cs : List Str}, xs.all isNm = true → cs.all nmC = true → (((xs.map D.str).zip cs).all fun e => suitsD e.1 e.2) = true
  | [], _, _, _ => rfl
  | _ :: _, [], _, _ => rfl
  | x :: xs, c :: cs, h, g => by
    rw [List.all_cons, Bool.and_eq_true] at h g
    rw [List.map_cons, List.zip_cons_cons, List.all_cons, zip_suits h.2 g.2, suits_nm h.1 g.1]
    rfl
theorem fits_names {w : Str} {xs : List Str} {c : Option (List Str)} (h : xs.all isNm = true) (g : cN c xs.length = true) : fitsD (row w xs) c = true := by
  unfold cN at g
  split at g
  · rename_i cs
    simp only [Bool.and_eq_true, decide_eq_true_eq] at g
    show (decide ((D.str w :: xs.map D.str).length = 1 + cs.length) && (((xs.map D.str).zip cs).all fun e => suitsD e.1 e.2)) = true
    rw [zip_suits h g.2, Bool.and_true]
    exact decide_eq_true (by rw [List.length_cons, List.length_map]; omega)
  · cases g
theorem fits_no {d : D} {c : Option (List Str)} (h : c.isNone = true) : fitsD d c = false := by
  cases c with
  | none => rfl
  | some _ => cases h
theorem row_reg {w : Str} {vs : List D} (h : nSp w = true) : isRowD (.tup (.str w :: vs)) = fitsD (.tup (.str w :: vs)) (rowC w) := by
  unfold nSp at h
  simp only [Bool.and_eq_true, Bool.not_eq_true'] at h
  unfold isRowD
  show (if (w == "") = true then _ else if (w == "probe" || w == "assert") = true then _ else if (w == "if" || w == "while") = true then _ else fitsD _ (rowC w)) = _
  rw [if_neg (by rw [h.1]; decide), if_neg (by rw [h.2.1]; decide), if_neg (by rw [h.2.2]; decide)]
theorem look_reg (w : Str) (vs : List D) : isLookD (.tup (.str w :: vs)) = fitsD (.tup (.str w :: vs)) (lookC w) := rfl
theorem nm_plain {xs : List Str} : plains (xs.map D.str) = true := plains_of fun d h => by
  obtain ⟨x, _, rfl⟩ := List.mem_map.mp h
  rfl
theorem deps_strs : ∀ xs : List Str, deps (xs.map D.str) = 0
  | [] => rfl
  | x :: xs => by
    show max 0 (deps (xs.map D.str)) = 0
    rw [deps_strs xs]
    rfl
theorem row_plain {w : Str} {xs : List Str} (h : xs.length ≤ 10) : G.plain (row w xs) = true := plain_of_tup (by rw [List.length_cons, List.length_map]; omega) nm_plain
theorem row_gd {w : Str} {xs : List Str} {m : Nat} (h : xs.length ≤ 9) : gd 10 (m + 1) (row w xs) = true := gd_tup.mpr ⟨by rw [List.length_cons, List.length_map]; omega, fun d hd => by
  rcases List.mem_cons.mp hd with rfl | hd
  · exact gd_str
  · obtain ⟨x, _, rfl⟩ := List.mem_map.mp hd
    exact gd_str⟩
theorem row_dep (w : Str) (xs : List Str) : dep (row w xs) = 1 := by
  show max 0 (deps (xs.map D.str)) + 1 = 1
  rw [deps_strs]
  rfl
/-- texts of letters -/
def nms (zs : List Str) : Prop := zs.all isNm = true
/-- what the law wants of a row -/
structure GLook (d : D) : Prop where
  pl : G.plain d = true
  gd : gd 10 1 d = true
  dp : dep d ≤ 1
  look : isLookD d = true
  row : isRowD d = hasS lawLooks (headD d)
  hd : ∃ w vs, d = .tup (.str w :: vs)
  ws : ∃ zs : List Str, d = tS zs ∧ 2 ≤ zs.length ∧ zs.length ≤ 3 ∧ zs.all isNm = true
inductive Shape : D → Prop
  | reg {w : Str} {zs : List Str} : zs.length ≤ 4 → (w :: zs).all isNm = true → (w == "probe" || w == "assert") = false → Shape (tS (w :: zs))
  | probe {x g : Str} {A Bd : List D} : isNm x = true → isNm g = true → (∀ d ∈ A, GLook d) → (∀ d ∈ Bd, GLook d) → A.length + Bd.length ≤ 6 → Shape (.tup [.str "probe", .str x, .str g, .tup A, .tup Bd])
  | asrt {x g : Str} {A : List D} {zs : List Str} : isNm x = true → isNm g = true → (∀ d ∈ A, GLook d) → A.length ≤ 6 → 2 ≤ zs.length → zs.length ≤ 3 → zs.all isNm = true → Shape (.tup [.str "assert", .str x, .str g, .tup A, tS zs])
structure GRow (d : D) : Prop where
  pl : G.plain d = true
  gd : gd 10 3 d = true
  row : isRowD d = true
  look : isLookD d = hasS lawLooks (headD d)
  hd : ∃ w vs, d = .tup (.str w :: vs)
  sh : Shape d
def okL (w : Str) (n : Nat) : Bool := cN (lookC w) n && (nSp w && (if hasS lawLooks w then cN (rowC w) n else (rowC w).isNone))
def okR (w : Str) (n : Nat) : Bool := cN (rowC w) n && (nSp w && (if hasS lawLooks w then cN (lookC w) n else (lookC w).isNone))
theorem glook {w : Str} {xs : List Str} (h : okL w xs.length = true) (g : xs.all isNm = true) (hl : xs.length ≤ 2) (h1 : 1 ≤ xs.length) (hw : isNm w = true) : GLook (row w xs) := by
  unfold okL at h
  simp only [Bool.and_eq_true] at h
  refine ⟨row_plain (by omega), row_gd (by omega), Nat.le_of_eq (row_dep w xs), ?_, ?_, ⟨w, _, rfl⟩, ⟨w :: xs, rfl, by rw [List.length_cons]; omega, by rw [List.length_cons]; omega, by rw [List.all_cons, hw, g]; rfl⟩⟩
  · exact fits_names g h.1
  · show isRowD (.tup (.str w :: xs.map .str)) = hasS lawLooks w
    rw [row_reg h.2.1]
    have h3 := h.2.2
    cases q : hasS lawLooks w with
    | true => rw [q] at h3; exact fits_names g h3
    | false => rw [q] at h3; exact fits_no h3
theorem grow_ {w : Str} {xs : List Str} (h : okR w xs.length = true) (g : xs.all isNm = true) (hl : xs.length ≤ 4) (hw : isNm w = true) : GRow (row w xs) := by
  unfold okR at h
  simp only [Bool.and_eq_true] at h
  refine ⟨row_plain (by omega), row_gd (by omega), ?_, ?_, ⟨w, _, rfl⟩, .reg hl (by rw [List.all_cons, hw, g]; rfl) ?_⟩
  rotate_right
  · have q := h.2.1
    unfold nSp at q
    simp only [Bool.and_eq_true, Bool.not_eq_true'] at q
    exact q.2.1
  · show isRowD (.tup (.str w :: xs.map .str)) = true
    rw [row_reg h.2.1]
    exact fits_names g h.1
  · show fitsD (row w xs) (lookC w) = hasS lawLooks w
    have h3 := h.2.2
    cases q : hasS lawLooks w with
    | true => rw [q] at h3; exact fits_names g h3
    | false => rw [q] at h3; exact fits_no h3
theorem pickD {l : List D} {k : Int} (h0 : 0 ≤ k) (h1 : k < (l.length : Nat)) : ∃ d, d ∈ l ∧ atI l k = some d := by
  obtain ⟨n, rfl⟩ : ∃ n : Nat, k = n := ⟨k.toNat, by omega⟩
  have hn : n < l.length := by omega
  exact ⟨l[n], List.getElem_mem _, L2.atI_nat (by simp)⟩
def tabOk (l : List Str) (m : Nat) (f : Str → Nat → Bool) : Bool := (List.range l.length).all fun n => match l[n]? with | some w => f w (if n < m then 1 else 2) | none => false
theorem tab_of {l : List Str} {m : Nat} {f : Str → Nat → Bool} (h : tabOk l m f = true) {n : Nat} {w : Str} (e : l[n]? = some w) : f w (if n < m then 1 else 2) = true := by
  have hn := (List.getElem?_eq_some_iff.mp e).1
  have q := List.all_eq_true.mp h n (List.mem_range.mpr hn)
  rw [e] at q
  exact q
theorem wordsL_nm : (wordsL.all isNm) = true := by decide +kernel
theorem wordsR_nm : (wordsR.all isNm) = true := by decide +kernel
theorem tabL : tabOk wordsL 14 okL = true := by decide +kernel
theorem tabR : tabOk wordsR 19 okR = true := by decide +kernel
def spFreeLook : SpX := fun ds r P _ => ∃ p a N X, ds = [.adr p] ∧ r = poolA p a N :: X ∧ N < 10000000000 ∧ ∀ d, GLook d → P d (poolA p a (N + 20) :: X)
def spFreeRow : SpX := fun ds r P _ => ∃ p a N X, ds = [.adr p] ∧ r = poolA p a N :: X ∧ N < 1000000000 ∧ ∀ d, GRow d → P d (poolA p a (N + 1000) :: X)
abbrev N__law_free_look : List Str := ["_law_pool_here", "_law_words", "_law_pick"]
theorem sc__law_free_look : FnScope N__law_free_look ["_law_pool_here"] (defScope s__law_free_look) := ⟨rfl, rfl, rfl, by decide +kernel, rfl, by decide +kernel, by decide +kernel⟩

theorem c_free_look (B : Bl mg) (C__law_draw : Cl P w K mg base 1 "_law_draw" ["_law_pool_here", "_law_many"] spDraw) (C__law_word : Cl P w K mg base 2 "_law_word" ["_law_pool_here"] spWord) (Dx : Dfn K mg "_law_free_look" s__law_free_look ["_law_pool_here"]) : Cl P w K mg base 3 "_law_free_look" ["_law_pool_here"] spFreeLook := by
  have sc := sc__law_free_look
  refine cl_of Dx sc (fun ds r P' XR ⟨p, a, N, X, e, _⟩ => by rw [e]; rfl) (fun f cdv A outer s H E hr => ⟨_, (ss_cons (s_set (i := 1) sc.nd (d_lst (dl_cons d_str (dl_cons d_str (dl_cons d_str (dl_cons d_str (dl_cons d_str (dl_cons d_str (dl_cons d_str (dl_cons d_str (dl_cons d_str (dl_cons d_str (dl_cons d_str (dl_cons d_str (dl_cons d_str (dl_cons d_str (dl_cons d_str (dl_cons d_str (dl_cons d_str (dl_cons d_str dl_nil))))))))))))))))))))
  (ss_cons (s_set (i := 2) sc.nd (d_fn C__law_draw hr (dl_cons (dv 0) (dl_cons d_int dl_nil))))
  (ss_cons (s_if (b_cmp p_lt (dv 2) d_int)
  (ss_one (s_ret (d_tup (dl_cons (d_ix (dv 1) (dv 2)) (dl_cons (d_fn C__law_word hr (dl_cons (dv 0) dl_nil)) dl_nil)))))
  ss_nil)
  (ss_one (s_ret (d_tup (dl_cons (d_ix (dv 1) (dv 2)) (dl_cons (d_fn C__law_word hr (dl_cons (dv 0) dl_nil)) (dl_cons (d_fn C__law_word hr (dl_cons (dv 0) dl_nil)) dl_nil))))))))), fun ds r P' XR h => ?_⟩)
  obtain ⟨p, a, N, X, rfl, rfl, hN, hP⟩ := h
  refine ⟨Nat.le_of_ble_eq_true rfl, ?_⟩
  refine ⟨p, a, 18, N, X, rfl, rfl, ⟨by decide, by decide⟩, by omega, fun k h0 h1 => ?_⟩
  obtain ⟨n, wd, rfl, hw, ha⟩ := pick_at (l := wordsL) h0 h1
  have hok := tab_of tabL hw
  by_cases h14 : n < 14
  · refine brt (decide_eq_true (by omega)) ?_
    rw [if_pos h14] at hok
    refine ix_l ha ⟨p, a, N + 1, X, rfl, rfl, by omega, fun x hx => ⟨Nat.le_of_ble_eq_true rfl, ?_⟩⟩
    exact ⟨_, pool_mono (by omega), hP _ (glook (xs := [x]) hok (by simp [hx]) (Nat.le_of_ble_eq_true rfl) (Nat.le_of_ble_eq_true rfl) (List.all_eq_true.mp wordsL_nm wd (List.mem_of_getElem? hw)))⟩
  · refine brf (decide_eq_false (by omega)) ?_
    rw [if_neg h14] at hok
    refine ix_l ha ⟨p, a, N + 1, X, rfl, rfl, by omega, fun x hx => ⟨p, a, N + 1 + 9, X, rfl, rfl, by omega, fun y hy => ⟨Nat.le_of_ble_eq_true rfl, ?_⟩⟩⟩
    exact ⟨_, pool_mono (by omega), hP _ (glook (xs := [x, y]) hok (by simp [hx, hy]) (Nat.le_of_ble_eq_true rfl) (Nat.le_of_ble_eq_true rfl) (List.all_eq_true.mp wordsL_nm wd (List.mem_of_getElem? hw)))⟩

theorem tests_nm : isNm "has" = true ∧ isNm "bound" = true ∧ isNm "read" = true ∧ isNm "watch" = true := by decide +kernel
theorem gates_nm : (gatesT.all isNm) = true := by decide +kernel
theorem gate_nm {g : Str} (h : hasS gatesT g = true) : isNm g = true := List.all_eq_true.mp gates_nm g (hasS_mem h)
theorem lk_probe : (lookC "probe").isNone = true ∧ hasS lawLooks "probe" = false := by decide +kernel
theorem lk_assert : (lookC "assert").isNone = true ∧ hasS lawLooks "assert" = false := by decide +kernel
theorem tests_ok : (cN (lookC "has") 2 = true ∧ hasS assertedT "has" = true) ∧ (cN (lookC "bound") 1 = true ∧ hasS assertedT "bound" = true) ∧ (cN (lookC "read") 1 = true ∧ hasS assertedT "read" = true) ∧ (cN (lookC "watch") 1 = true ∧ hasS assertedT "watch" = true) := by decide +kernel
theorem all_look {A : List D} (h : ∀ d ∈ A, GLook d) : A.all isLookD = true := List.all_eq_true.mpr fun d m => (h d m).look
theorem all_plain {A : List D} (h : ∀ d ∈ A, GLook d) (hl : A.length ≤ 10) : G.plain (.tup A) = true := plain_of_tup (by omega) (plains_of fun d m => (h d m).pl)
theorem grow_probe {x g : Str} {A Bd : List D} (hx : isNm x = true) (hg : hasS gatesT g = true) (hA : ∀ d ∈ A, GLook d) (hB : ∀ d ∈ Bd, GLook d) (hl : A.length + Bd.length ≤ 6) : GRow (.tup [.str "probe", .str x, .str g, .tup A, .tup Bd]) := by
  refine ⟨?_, ?_, ?_, ?_, ⟨_, _, rfl⟩, .probe hx (gate_nm hg) hA hB hl⟩
  rotate_right
  · exact (fits_no lk_probe.1).trans lk_probe.2.symm
  · refine plain_of_tup (Nat.le_of_ble_eq_true rfl) ?_
    simp only [G.plains, all_plain hA (by omega), all_plain hB (by omega)]
    rfl
  · refine gd_tup.mpr ⟨Nat.le_of_ble_eq_true rfl, fun d hd => ?_⟩
    simp only [List.mem_cons, List.not_mem_nil, or_false] at hd
    rcases hd with rfl | rfl | rfl | rfl | rfl
    · exact gd_str
    · exact gd_str
    · exact gd_str
    · exact gd_tup.mpr ⟨by omega, fun d m => (hA d m).gd⟩
    · exact gd_tup.mpr ⟨by omega, fun d m => (hB d m).gd⟩
  · show watchD [.str "probe", .str x, .str g, .tup A, .tup Bd] = true
    rw [watch_yes]
    show ((isNm x && hasS gatesT g) && A.all isLookD && (Bd.all isLookD && decide (A.length + Bd.length ≤ 6))) = true
    rw [hx, hg, all_look hA, all_look hB, decide_eq_true hl]
    rfl
theorem grow_assert {x g : Str} {A : List D} {t : D} (hx : isNm x = true) (hg : hasS gatesT g = true) (hA : ∀ d ∈ A, GLook d) (hl : A.length ≤ 6) (ht : isLookD t = true) (hs : hasS assertedT (headD t) = true) (pt : G.plain t = true) (gt : gd 10 1 t = true) (zt : ∃ zs : List Str, t = tS zs ∧ 2 ≤ zs.length ∧ zs.length ≤ 3 ∧ zs.all isNm = true) : GRow (.tup [.str "assert", .str x, .str g, .tup A, t]) := by
  have sh : Shape (.tup [.str "assert", .str x, .str g, .tup A, t]) := by
    obtain ⟨zs, rfl, z1, z2, z3⟩ := zt
    exact .asrt hx (gate_nm hg) hA hl z1 z2 z3
  refine ⟨?_, ?_, ?_, ?_, ⟨_, _, rfl⟩, sh⟩
  rotate_right
  · exact (fits_no lk_assert.1).trans lk_assert.2.symm
  · refine plain_of_tup (Nat.le_of_ble_eq_true rfl) ?_
    simp only [G.plains, all_plain hA (by omega), pt]
    rfl
  · refine gd_tup.mpr ⟨Nat.le_of_ble_eq_true rfl, fun d hd => ?_⟩
    simp only [List.mem_cons, List.not_mem_nil, or_false] at hd
    rcases hd with rfl | rfl | rfl | rfl | rfl
    · exact gd_str
    · exact gd_str
    · exact gd_str
    · exact gd_tup.mpr ⟨by omega, fun d m => (hA d m).gd⟩
    · exact gd_mono (Nat.le_refl _) (by decide) gt
  · show watchD [.str "assert", .str x, .str g, .tup A, t] = true
    rw [watch_yes]
    show ((isNm x && hasS gatesT g) && A.all isLookD && (isLookD t && hasS assertedT (headD t) && decide (A.length ≤ 6))) = true
    rw [hx, hg, all_look hA, ht, hs, decide_eq_true hl]
    rfl
def spFreeProbe : SpX := fun ds r P _ => ∃ p a N X, ds = [.adr p] ∧ r = poolA p a N :: X ∧ N < 2000000000 ∧ ∀ d, GRow d → P d (poolA p a (N + 500) :: X)
abbrev N__law_free_probe : List Str := ["_law_pool_here", "_law_gate", "_law_many", "_law_args", "_law_k", "_law_x", "_law_test", "_law_body"]
theorem sc__law_free_probe : FnScope N__law_free_probe ["_law_pool_here"] (defScope s__law_free_probe) := ⟨rfl, rfl, rfl, by decide +kernel, rfl, by decide +kernel, by decide +kernel⟩

theorem c_free_probe (B : Bl mg) (C__law_draw : Cl P w K mg base 1 "_law_draw" ["_law_pool_here", "_law_many"] spDraw) (C__law_word : Cl P w K mg base 2 "_law_word" ["_law_pool_here"] spWord) (C__law_free_look : Cl P w K mg base 3 "_law_free_look" ["_law_pool_here"] spFreeLook) (Dx : Dfn K mg "_law_free_probe" s__law_free_probe ["_law_pool_here"]) : Cl P w K mg base 4 "_law_free_probe" ["_law_pool_here"] spFreeProbe := by
  have sc := sc__law_free_probe
  refine cl_of Dx sc (fun ds r P' XR ⟨p, a, N, X, e, _⟩ => by rw [e]; rfl) (fun f cdv A outer s H E hr => ?_)
  have hu := hr.units
  refine ⟨_, (ss_cons (s_set (i := 1) sc.nd (d_ix (d_lst (dl_cons d_str (dl_cons d_str (dl_cons d_str (dl_cons d_str dl_nil))))) (d_fn C__law_draw hr (dl_cons (dv 0) (dl_cons d_int dl_nil)))))
  (ss_cons (s_set (i := 2) sc.nd (d_fn C__law_draw hr (dl_cons (dv 0) (dl_cons d_int dl_nil))))
  (ss_cons (s_set (i := 3) sc.nd (d_ty c_tuple (by rfl) B.tuple (dl_cons (d_lc (js := [4]) (own := [("_law_k", 4)]) sc.nd (i_r1 (by rfl) B.range (dl_cons (dv 2) dl_nil)) (blkOk_by (own := [("_law_k", 4)]) (N := N__law_free_probe) (sc := defScope s__law_free_probe) (by decide +kernel)) (fun _ _ _ _ _ => (g_name (i := 4) sc.nd)) (fun _ _ _ _ _ => pts_no) (fun _ _ _ _ _ => (d_fn C__law_free_look hr (dl_cons (dv 0) dl_nil)))) dl_nil)))
  (ss_cons (s_set (i := 5) sc.nd (d_fn C__law_word hr (dl_cons (dv 0) dl_nil)))
  (ss_cons (s_if (b_cmp (p_eq hu) (d_fn C__law_draw hr (dl_cons (dv 0) (dl_cons d_int dl_nil))) d_int)
  (ss_cons (s_set (i := 6) sc.nd (d_ix (d_lst (dl_cons (d_tup (dl_cons d_str (dl_cons (dv 5) (dl_cons (d_fn C__law_word hr (dl_cons (dv 0) dl_nil)) dl_nil)))) (dl_cons (d_tup (dl_cons d_str (dl_cons (dv 5) dl_nil))) (dl_cons (d_tup (dl_cons d_str (dl_cons (dv 5) dl_nil))) (dl_cons (d_tup (dl_cons d_str (dl_cons (dv 5) dl_nil))) dl_nil))))) (d_fn C__law_draw hr (dl_cons (dv 0) (dl_cons d_int dl_nil)))))
  (ss_one (s_ret (d_tup (dl_cons d_str (dl_cons (d_fn C__law_word hr (dl_cons (dv 0) dl_nil)) (dl_cons (dv 1) (dl_cons (dv 3) (dl_cons (dv 6) dl_nil)))))))))
  ss_nil)
  (ss_cons (s_set (i := 7) sc.nd (d_ty c_tuple (by rfl) B.tuple (dl_cons (d_lc (js := [4]) (own := [("_law_k", 4)]) sc.nd (i_r1 (by rfl) B.range (dl_cons (d_fn C__law_draw hr (dl_cons (dv 0) (dl_cons (d_bin p_sub d_int (dv 2)) dl_nil))) dl_nil)) (blkOk_by (own := [("_law_k", 4)]) (N := N__law_free_probe) (sc := defScope s__law_free_probe) (by decide +kernel)) (fun _ _ _ _ _ => (g_name (i := 4) sc.nd)) (fun _ _ _ _ _ => pts_no) (fun _ _ _ _ _ => (d_fn C__law_free_look hr (dl_cons (dv 0) dl_nil)))) dl_nil)))
  (ss_one (s_ret (d_tup (dl_cons d_str (dl_cons (dv 5) (dl_cons (dv 1) (dl_cons (dv 3) (dl_cons (dv 7) dl_nil)))))))))))))), fun ds r P' XR h => ?_⟩
  obtain ⟨p, a, N, X, rfl, rfl, hN, hP⟩ := h
  refine ⟨Nat.le_of_ble_eq_true rfl, ?_⟩
  refine ⟨p, a, 4, N, X, rfl, rfl, ⟨by decide, by decide⟩, by omega, fun k h0 h1 => ?_⟩
  obtain ⟨n, g, rfl, hg, ha⟩ := pick_at (l := gatesT) h0 h1
  have hgt : hasS gatesT g = true := List.any_eq_true.mpr ⟨g, List.mem_of_getElem? hg, by simp⟩
  refine ix_l ha ⟨p, a, 7, N + 1, X, rfl, rfl, ⟨by decide, by decide⟩, by omega, fun m m0 m1 => ⟨⟨by omega, by omega⟩, ?_⟩⟩
  refine ⟨fun i acc r' => acc.length = i ∧ (∀ d ∈ acc, GLook d) ∧ r' = poolA p a (N + 2 + 20 * i) :: X, ⟨rfl, fun _ z => (by cases z), rfl⟩, ?_, ?_⟩
  · rintro q i d acc r' hd ⟨hc, hgl, rfl⟩
    have hi : i < 7 := by
      have := (List.getElem?_eq_some_iff.mp hd).1
      rw [List.length_map, List.length_range] at this
      omega
    refine brT ?_
    refine ⟨p, a, N + 2 + 20 * i, X ++ [lstA q _], rfl, rfl, by omega, fun d hgd => ⟨by unfold small; omega, poolA p a (N + 2 + 20 * (i + 1)) :: X, le.refl, by rw [List.length_append, hc]; rfl, fun y hy => (List.mem_append.mp hy).elim (hgl y) fun z => (List.mem_singleton.mp z) ▸ hgd, rfl⟩⟩
  · rintro As r' ⟨hc, hA, rfl⟩
    rw [List.length_map, List.length_range] at hc
    have hm : (As.length : Int) = m := by omega
    refine ⟨p, a, N + 2 + 20 * _, X, rfl, rfl, by rw [List.length_map, List.length_range]; omega, fun x hx => ?_⟩
    refine ⟨p, a, 2, _, X, rfl, rfl, ⟨by decide, by decide⟩, by rw [List.length_map, List.length_range]; omega, fun b b0 b1 => ?_⟩
    refine ⟨Nat.zero_le _, Nat.zero_le _, ?_⟩
    cases hb : b == 1 with
    | true =>
      refine brt hb ?_
      refine ⟨p, a, _, X, rfl, rfl, by rw [List.length_map, List.length_range]; omega, fun y hy => ?_⟩
      repeat (refine ⟨Nat.le_of_ble_eq_true rfl, ?_⟩)
      refine ⟨p, a, 4, _, X, rfl, rfl, ⟨by decide, by decide⟩, by rw [List.length_map, List.length_range]; omega, fun k k0 k1 => ?_⟩
      obtain ⟨t, mt, et⟩ := pickD (l := [row "has" [x, y], row "bound" [x], row "read" [x], row "watch" [x]]) k0 k1
      refine ix_l et ⟨p, a, _, X, rfl, rfl, by rw [List.length_map, List.length_range]; omega, fun v hv => ⟨Nat.le_of_ble_eq_true rfl, ?_⟩⟩
      have ok : isLookD t = true ∧ hasS assertedT (headD t) = true ∧ G.plain t = true ∧ gd 10 1 t = true ∧ ∃ zs : List Str, t = tS zs ∧ 2 ≤ zs.length ∧ zs.length ≤ 3 ∧ zs.all isNm = true := by
        simp only [List.mem_cons, List.not_mem_nil, or_false] at mt
        rcases mt with rfl | rfl | rfl | rfl
        · refine ⟨fits_names (by simp [hx, hy]) tests_ok.1.1, tests_ok.1.2, row_plain (Nat.le_of_ble_eq_true rfl), row_gd (Nat.le_of_ble_eq_true rfl), ["has", x, y], rfl, Nat.le_of_ble_eq_true rfl, Nat.le_of_ble_eq_true rfl, ?_⟩
          rw [List.all_cons, show isNm _ = true from tests_nm.1]
          simp [hx, hy]
        · refine ⟨fits_names (by simp [hx]) tests_ok.2.1.1, tests_ok.2.1.2, row_plain (Nat.le_of_ble_eq_true rfl), row_gd (Nat.le_of_ble_eq_true rfl), ["bound", x], rfl, Nat.le_of_ble_eq_true rfl, Nat.le_of_ble_eq_true rfl, ?_⟩
          rw [List.all_cons, show isNm _ = true from tests_nm.2.1]
          simp [hx]
        · refine ⟨fits_names (by simp [hx]) tests_ok.2.2.1.1, tests_ok.2.2.1.2, row_plain (Nat.le_of_ble_eq_true rfl), row_gd (Nat.le_of_ble_eq_true rfl), ["read", x], rfl, Nat.le_of_ble_eq_true rfl, Nat.le_of_ble_eq_true rfl, ?_⟩
          rw [List.all_cons, show isNm _ = true from tests_nm.2.2.1]
          simp [hx]
        · refine ⟨fits_names (by simp [hx]) tests_ok.2.2.2.1, tests_ok.2.2.2.2, row_plain (Nat.le_of_ble_eq_true rfl), row_gd (Nat.le_of_ble_eq_true rfl), ["watch", x], rfl, Nat.le_of_ble_eq_true rfl, Nat.le_of_ble_eq_true rfl, ?_⟩
          rw [List.all_cons, show isNm _ = true from tests_nm.2.2.2]
          simp [hx]
      exact ⟨_, pool_mono (by rw [List.length_map, List.length_range]; omega), hP _ (grow_assert hv hgt hA (by omega) ok.1 ok.2.1 ok.2.2.1 ok.2.2.2.1 ok.2.2.2.2)⟩
    | false =>
      refine brf hb ?_
      refine ⟨p, a, 7 - m, _, X, rfl, rfl, ⟨by omega, by omega⟩, by rw [List.length_map, List.length_range]; omega, fun j j0 j1 => ⟨⟨by omega, by omega⟩, ?_⟩⟩
      refine ⟨fun i acc r' => acc.length = i ∧ (∀ d ∈ acc, GLook d) ∧ ∃ M, M ≤ N + 200 + 20 * i ∧ r' = poolA p a M :: X, ⟨rfl, fun _ z => (by cases z), _, ?_, rfl⟩, ?_, ?_⟩
      · rw [List.length_map, List.length_range]; omega
      · rintro q i d acc r' hd ⟨hc, hgl, M, hM, rfl⟩
        have hi : i < 7 := by
          have := (List.getElem?_eq_some_iff.mp hd).1
          rw [List.length_map, List.length_range] at this
          omega
        refine brT ?_
        refine ⟨p, a, M, X ++ [lstA q _], rfl, rfl, by omega, fun d hgd => ⟨by unfold small; omega, poolA p a (M + 20) :: X, le.refl, by rw [List.length_append, hc]; rfl, fun y hy => (List.mem_append.mp hy).elim (hgl y) fun z => (List.mem_singleton.mp z) ▸ hgd, M + 20, by omega, rfl⟩⟩
      · rintro Bs r' ⟨hc2, hB, M, hM, rfl⟩
        rw [List.length_map, List.length_range] at hc2 hM
        refine ⟨Nat.le_of_ble_eq_true rfl, ?_⟩
        exact ⟨_, pool_mono (by omega), hP _ (grow_probe hx hgt hA hB (by omega))⟩

theorem grow_if {o wd : Str} {xs : List Str} (ho : o = "if" ∨ o = "while") (h : cN (branchC o wd) xs.length = true) (g : xs.all isNm = true) (hl : xs.length ≤ 3) (hw : isNm wd = true) : GRow (.tup (.str o :: .str wd :: xs.map .str)) := by
  have e : (lookC o).isNone = true ∧ hasS lawLooks o = false ∧ (o == "") = false ∧ (o == "probe" || o == "assert") = false ∧ (o == "if" || o == "while") = true := by
    rcases ho with rfl | rfl <;> decide +kernel
  have on : isNm o = true := by rcases ho with rfl | rfl <;> decide +kernel
  have sh : Shape (.tup (.str o :: .str wd :: xs.map .str)) := Shape.reg (w := o) (zs := wd :: xs) (by rw [List.length_cons]; omega) (by rw [List.all_cons, List.all_cons, on, hw, g]; rfl) e.2.2.2.1
  refine ⟨?_, ?_, ?_, (fits_no e.1).trans e.2.1.symm, ⟨_, _, rfl⟩, sh⟩
  rotate_left
  · refine gd_tup.mpr ⟨by rw [List.length_cons, List.length_cons, List.length_map]; omega, fun d hd => ?_⟩
    rcases List.mem_cons.mp hd with rfl | hd
    · exact gd_str
    · rcases List.mem_cons.mp hd with rfl | hd
      · exact gd_str
      · obtain ⟨x, _, rfl⟩ := List.mem_map.mp hd
        exact gd_str
  rotate_left
  · refine plain_of_tup (by rw [List.length_cons, List.length_cons, List.length_map]; omega) ?_
    simp only [G.plains, nm_plain]
    rfl
  · unfold isRowD
    show (if (o == "") = true then _ else if (o == "probe" || o == "assert") = true then _ else if (o == "if" || o == "while") = true then fitsD (row wd xs) (branchC o wd) else _) = true
    rw [if_neg (by rw [e.2.2.1]; decide), if_neg (by rw [e.2.2.2.1]; decide), if_pos e.2.2.2.2]
    exact fits_names g h
theorem says_nm : (isNm "say" = true ∧ isNm "stop" = true) ∧ (isNm "call" = true ∧ isNm "else" = true ∧ isNm "end" = true) := by decide +kernel
theorem ifs_nm : (isNm "ask" = true ∧ isNm "take" = true) ∧ (isNm "has" = true ∧ isNm "read" = true ∧ isNm "bound" = true) := by decide +kernel
theorem says_ok : (okR "say" 1 = true ∧ okR "stop" 0 = true) ∧ (okR "call" 1 = true ∧ okR "else" 0 = true ∧ okR "end" 0 = true) := by decide +kernel
theorem ifs_ok : (cN (branchC "if" "ask") 1 = true ∧ cN (branchC "if" "take") 1 = true) ∧ (cN (branchC "if" "has") 2 = true ∧ cN (branchC "if" "read") 1 = true) ∧ (cN (branchC "if" "bound") 1 = true ∧ cN (branchC "while" "ask") 1 = true ∧ cN (branchC "while" "take") 1 = true) := by decide +kernel
abbrev N__law_free_row : List Str := ["_law_pool_here", "_law_pick", "_law_x", "_law_y", "_law_words", "_law_k"]
theorem sc__law_free_row : FnScope N__law_free_row ["_law_pool_here"] (defScope s__law_free_row) := ⟨rfl, rfl, rfl, by decide +kernel, rfl, by decide +kernel, by decide +kernel⟩

theorem c_free_row (B : Bl mg) (C__law_draw : Cl P w K mg base 1 "_law_draw" ["_law_pool_here", "_law_many"] spDraw) (C__law_word : Cl P w K mg base 2 "_law_word" ["_law_pool_here"] spWord) (C__law_free_probe : Cl P w K mg base 4 "_law_free_probe" ["_law_pool_here"] spFreeProbe) (Dx : Dfn K mg "_law_free_row" s__law_free_row ["_law_pool_here"]) : Cl P w K mg base 5 "_law_free_row" ["_law_pool_here"] spFreeRow := by
  have sc := sc__law_free_row
  refine cl_of Dx sc (fun ds r P' XR ⟨p, a, N, X, e, _⟩ => by rw [e]; rfl) (fun f cdv A outer s H E hr => ?_)
  have hu := hr.units
  refine ⟨_, (ss_cons (s_set (i := 1) sc.nd (d_fn C__law_draw hr (dl_cons (dv 0) (dl_cons d_int dl_nil))))
  (ss_cons (s_set (i := 2) sc.nd (d_fn C__law_word hr (dl_cons (dv 0) dl_nil)))
  (ss_cons (s_set (i := 3) sc.nd (d_fn C__law_word hr (dl_cons (dv 0) dl_nil)))
  (ss_cons (s_if (b_cmp (p_eq hu) (dv 1) d_int)
  (ss_one (s_ret (d_ix (d_lst (dl_cons (d_tup (dl_cons d_str (dl_cons (dv 2) dl_nil))) (dl_cons (d_tup (dl_cons d_str dl_nil)) (dl_cons (d_tup (dl_cons d_str (dl_cons (dv 2) dl_nil))) (dl_cons (d_tup (dl_cons d_str dl_nil)) (dl_cons (d_tup (dl_cons d_str dl_nil)) dl_nil)))))) (d_fn C__law_draw hr (dl_cons (dv 0) (dl_cons d_int dl_nil))))))
  ss_nil)
  (ss_cons (s_if (b_cmp (p_eq hu) (dv 1) d_int)
  (ss_one (s_ret (d_ix (d_lst (dl_cons (d_tup (dl_cons d_str (dl_cons d_str (dl_cons (dv 2) dl_nil)))) (dl_cons (d_tup (dl_cons d_str (dl_cons d_str (dl_cons (dv 2) dl_nil)))) (dl_cons (d_tup (dl_cons d_str (dl_cons d_str (dl_cons (dv 2) (dl_cons (dv 3) dl_nil))))) (dl_cons (d_tup (dl_cons d_str (dl_cons d_str (dl_cons (dv 2) dl_nil)))) (dl_cons (d_tup (dl_cons d_str (dl_cons d_str (dl_cons (dv 2) dl_nil)))) (dl_cons (d_tup (dl_cons d_str (dl_cons d_str (dl_cons (dv 2) dl_nil)))) (dl_cons (d_tup (dl_cons d_str (dl_cons d_str (dl_cons (dv 2) dl_nil)))) dl_nil)))))))) (d_fn C__law_draw hr (dl_cons (dv 0) (dl_cons d_int dl_nil))))))
  ss_nil)
  (ss_cons (s_if (b_cmp p_lt (dv 1) d_int)
  (ss_one (s_ret (d_fn C__law_free_probe hr (dl_cons (dv 0) dl_nil))))
  ss_nil)
  (ss_cons (s_set (i := 4) sc.nd (d_lst (dl_cons d_str (dl_cons d_str (dl_cons d_str (dl_cons d_str (dl_cons d_str (dl_cons d_str (dl_cons d_str (dl_cons d_str (dl_cons d_str (dl_cons d_str (dl_cons d_str (dl_cons d_str (dl_cons d_str (dl_cons d_str (dl_cons d_str (dl_cons d_str (dl_cons d_str (dl_cons d_str (dl_cons d_str (dl_cons d_str (dl_cons d_str (dl_cons d_str (dl_cons d_str (dl_cons d_str (dl_cons d_str (dl_cons d_str dl_nil))))))))))))))))))))))))))))
  (ss_cons (s_set (i := 5) sc.nd (d_fn C__law_draw hr (dl_cons (dv 0) (dl_cons d_int dl_nil))))
  (ss_one (s_ret (d_if (b_cmp p_lt (dv 5) d_int) (d_tup (dl_cons (d_ix (dv 4) (dv 5)) (dl_cons (dv 2) dl_nil))) (d_tup (dl_cons (d_ix (dv 4) (dv 5)) (dl_cons (dv 2) (dl_cons (dv 3) dl_nil))))))))))))))), fun ds r P' XR h => ?_⟩
  obtain ⟨p, a, N, X, rfl, rfl, hN, hP⟩ := h
  refine ⟨p, a, 8, N, X, rfl, rfl, ⟨by decide, by decide⟩, by omega, fun b b0 b1 => ?_⟩
  refine ⟨p, a, N + 1, X, rfl, rfl, by omega, fun x hx => ?_⟩
  refine ⟨p, a, N + 1 + 9, X, rfl, rfl, by omega, fun y hy => ?_⟩
  have x1 : ([x] : List Str).all isNm = true := by simp [hx]
  have xy : ([x, y] : List Str).all isNm = true := by simp [hx, hy]
  refine ⟨Nat.zero_le _, Nat.zero_le _, ?_⟩
  cases e0 : b == 0 with
  | true =>
    refine brt e0 ?_
    repeat (refine ⟨Nat.le_of_ble_eq_true rfl, ?_⟩)
    refine ⟨p, a, 5, N + 19, X, rfl, rfl, ⟨by decide, by decide⟩, by omega, fun k k0 k1 => ?_⟩
    obtain ⟨d, md, ed⟩ := pickD (l := [row "say" [x], row "stop" [], row "call" [x], row "else" [], row "end" []]) k0 k1
    refine ix_l ed ⟨_, pool_mono (by omega), hP _ ?_⟩
    simp only [List.mem_cons, List.not_mem_nil, or_false] at md
    rcases md with rfl | rfl | rfl | rfl | rfl
    · exact grow_ says_ok.1.1 x1 (Nat.le_of_ble_eq_true rfl) says_nm.1.1
    · exact grow_ says_ok.1.2 rfl (Nat.le_of_ble_eq_true rfl) says_nm.1.2
    · exact grow_ says_ok.2.1 x1 (Nat.le_of_ble_eq_true rfl) says_nm.2.1
    · exact grow_ says_ok.2.2.1 rfl (Nat.le_of_ble_eq_true rfl) says_nm.2.2.1
    · exact grow_ says_ok.2.2.2 rfl (Nat.le_of_ble_eq_true rfl) says_nm.2.2.2
  | false =>
    refine brf e0 ⟨Nat.zero_le _, Nat.zero_le _, ?_⟩
    cases e1 : b == 1 with
    | true =>
      refine brt e1 ?_
      repeat (refine ⟨Nat.le_of_ble_eq_true rfl, ?_⟩)
      refine ⟨p, a, 7, N + 19, X, rfl, rfl, ⟨by decide, by decide⟩, by omega, fun k k0 k1 => ?_⟩
      obtain ⟨d, md, ed⟩ := pickD (l := [.tup [.str "if", .str "ask", .str x], .tup [.str "if", .str "take", .str x], .tup [.str "if", .str "has", .str x, .str y], .tup [.str "if", .str "read", .str x], .tup [.str "if", .str "bound", .str x], .tup [.str "while", .str "ask", .str x], .tup [.str "while", .str "take", .str x]]) k0 k1
      refine ix_l ed ⟨_, pool_mono (by omega), hP _ ?_⟩
      simp only [List.mem_cons, List.not_mem_nil, or_false] at md
      rcases md with rfl | rfl | rfl | rfl | rfl | rfl | rfl
      · exact grow_if (xs := [x]) (.inl rfl) ifs_ok.1.1 x1 (Nat.le_of_ble_eq_true rfl) ifs_nm.1.1
      · exact grow_if (xs := [x]) (.inl rfl) ifs_ok.1.2 x1 (Nat.le_of_ble_eq_true rfl) ifs_nm.1.2
      · exact grow_if (xs := [x, y]) (.inl rfl) ifs_ok.2.1.1 xy (Nat.le_of_ble_eq_true rfl) ifs_nm.2.1
      · exact grow_if (xs := [x]) (.inl rfl) ifs_ok.2.1.2 x1 (Nat.le_of_ble_eq_true rfl) ifs_nm.2.2.1
      · exact grow_if (xs := [x]) (.inl rfl) ifs_ok.2.2.1 x1 (Nat.le_of_ble_eq_true rfl) ifs_nm.2.2.2
      · exact grow_if (xs := [x]) (.inr rfl) ifs_ok.2.2.2.1 x1 (Nat.le_of_ble_eq_true rfl) ifs_nm.1.1
      · exact grow_if (xs := [x]) (.inr rfl) ifs_ok.2.2.2.2 x1 (Nat.le_of_ble_eq_true rfl) ifs_nm.1.2
    | false =>
      refine brf e1 ?_
      by_cases e5 : b < 5
      · refine brt (decide_eq_true e5) ?_
        exact ⟨p, a, N + 19, X, rfl, rfl, by omega, fun d hd => ⟨_, pool_mono (by omega), hP _ hd⟩⟩
      · refine brf (decide_eq_false e5) ?_
        refine ⟨Nat.le_of_ble_eq_true rfl, ?_⟩
        refine ⟨p, a, 26, N + 19, X, rfl, rfl, ⟨by decide, by decide⟩, by omega, fun k h0 h1 => ?_⟩
        obtain ⟨n, wd, rfl, hw, ha⟩ := pick_at (l := wordsR) h0 h1
        have hok := tab_of tabR hw
        by_cases h14 : n < 19
        · refine brt (decide_eq_true (by omega)) ?_
          rw [if_pos h14] at hok
          exact ix_l ha ⟨Nat.le_of_ble_eq_true rfl, _, pool_mono (by omega), hP _ (grow_ (xs := [x]) hok x1 (Nat.le_of_ble_eq_true rfl) (List.all_eq_true.mp wordsR_nm wd (List.mem_of_getElem? hw)))⟩
        · refine brf (decide_eq_false (by omega)) ?_
          rw [if_neg h14] at hok
          exact ix_l ha ⟨Nat.le_of_ble_eq_true rfl, _, pool_mono (by omega), hP _ (grow_ (xs := [x, y]) hok xy (Nat.le_of_ble_eq_true rfl) (List.all_eq_true.mp wordsR_nm wd (List.mem_of_getElem? hw)))⟩

/-! ### lines read, as data -/
def comma : Str := ","
def stp (s : List (List Str) × List Str) (w : Str) : List (List Str) × List Str := if w == "," then (s.1 ++ [s.2], []) else (s.1, s.2 ++ [w])
def fld (ws : List Str) : List (List Str) × List Str := ws.foldl stp ([], [])
def lksL (ws : List Str) : List (List Str) := (fld (ws ++ [comma])).1
def lawLks (ws : List Str) : D := if ws.isEmpty then .tup [] else .tup ((lksL ws).map tS)
def readLooks (ws : List Str) : D := if ws.isEmpty then .tup [] else if ((lksL ws).map tS).all isLookD then .tup ((lksL ws).map tS) else .non
theorem fld_len (ws : List Str) : ∀ s : List (List Str) × List Str, ((ws.foldl stp s).1.length + (ws.foldl stp s).2.length ≤ s.1.length + s.2.length + ws.length) ∧ (∀ n, (∀ g ∈ s.1, g.length ≤ n) → s.2.length + ws.length ≤ n → (∀ g ∈ (ws.foldl stp s).1, g.length ≤ n)) := by
  induction ws with
  | nil => exact fun s => ⟨by simp, fun n h _ => h⟩
  | cons w ws ih =>
    intro s
    obtain ⟨i1, i2⟩ := ih (stp s w)
    rw [List.foldl_cons]
    cases hw : w == "," with
    | true =>
      have e : stp s w = (s.1 ++ [s.2], []) := by unfold stp; rw [hw]; rfl
      rw [e] at i1 i2 ⊢
      simp only [List.length_append, List.length_singleton, List.length_nil, List.length_cons] at i1 i2 ⊢
      exact ⟨by omega, fun n h h2 => i2 n (fun g m => (List.mem_append.mp m).elim (h g) fun m => (List.mem_singleton.mp m) ▸ (by omega)) (by omega)⟩
    | false =>
      have e : stp s w = (s.1, s.2 ++ [w]) := by unfold stp; rw [hw]; rfl
      rw [e] at i1 i2 ⊢
      simp only [List.length_append, List.length_singleton, List.length_cons, List.length_nil] at i1 i2 ⊢
      exact ⟨by omega, fun n h h2 => i2 n h (by omega)⟩
theorem lks_len {ws : List Str} {n : Nat} (h : ws.length ≤ n) : (lksL ws).length ≤ n + 1 ∧ ∀ g ∈ lksL ws, g.length ≤ n + 1 := by
  obtain ⟨h1, h2⟩ := fld_len (ws ++ [comma]) ([], [])
  simp only [List.length_append, List.length_singleton, List.length_nil] at h1 h2
  refine ⟨?_, h2 (n + 1) (fun g m => by cases m) (by omega)⟩
  unfold lksL fld
  omega
theorem fld_snoc (ws : List Str) (w : Str) : fld (ws ++ [w]) = stp (fld ws) w := by
  unfold fld
  rw [List.foldl_append]
  rfl
theorem tS_plain {zs : List Str} (h : zs.length ≤ 1000000) : G.plain (tS zs) = true := plain_of_tup (by rw [List.length_map]; exact h) nm_plain
def spRdLooks : SpX := fun ds r P _ => ∃ ws : List Str, ds = [.lst (ws.map .str)] ∧ ws.length ≤ 1000 ∧ P (readLooks ws) r
def spLRdLooks : SpX := fun ds r P _ => ∃ ws : List Str, ds = [.lst (ws.map .str)] ∧ ws.length ≤ 1000 ∧ P (lawLks ws) r
theorem fit_le {P : PK1} {d : D} {r r' : Rs} (l : le r' r) (h : fit P d r) : fit P d r' := by
  obtain ⟨r0, l0, h⟩ := h
  exact ⟨r0, l.trans l0, h⟩
theorem drop2 {r : Rs} {a b : At} : le ((r ++ [a]) ++ [b]) r := by
  rw [List.append_assoc]
  exact le.drop
theorem drop1 {r : Rs} {a : At} : le (r ++ [a]) r := le.drop
theorem fld_take {ws : List Str} {i : Nat} {w : Str} (h : ws[i]? = some w) : fld (ws.take (i + 1)) = stp (fld (ws.take i)) w := by
  rw [List.take_add_one, h]
  exact fld_snoc _ _

abbrev N_read_looks : List Str := ["words", "looks", "part", "word"]
theorem sc_read_looks : FnScope N_read_looks ["words"] (defScope s_read_looks) := ⟨rfl, rfl, rfl, by decide +kernel, rfl, by decide +kernel, by decide +kernel⟩

theorem c_read_looks (B : Bl mg) (C_is_looks : Cl P w K mg base 5 "is_looks" ["rows"] spIsLooks) (Dx : Dfn K mg "read_looks" s_read_looks ["words"]) : Cl P w K mg base 6 "read_looks" ["words"] spRdLooks := by
  have sc := sc_read_looks
  refine cl_of Dx sc (fun ds r P' XR ⟨d, e, _⟩ => by rw [e]; rfl) (fun f cdv A outer s H E hr => ?_)
  have hu := hr.units
  refine ⟨_, (ss_cons (s_if (b_not (b_tru (dv 0)))
  (ss_one (s_ret (d_tup dl_nil)))
  ss_nil)
  (ss_cons (s_set (i := 1) sc.nd (d_lstO dl_nil))
  (ss_cons (s_set (i := 2) sc.nd (d_lstO dl_nil))
  (ss_cons (s_for (i_list (d_lst (dl_star (dv 0) (dl_cons d_str dl_nil)))) (g_name (i := 3) sc.nd)
  (ss_one (s_if (b_cmp (p_eq hu) (dv 3) d_str)
  (ss_cons (s_expr (d_app (dv 1) (dl_cons (d_ty c_tuple (by rfl) B.tuple (dl_cons (d_move (dv 2)) dl_nil)) dl_nil)))
  (ss_one (s_set (i := 2) sc.nd (d_lstO dl_nil))))
  (ss_one (s_expr (d_app (dv 2) (dl_cons (dv 3) dl_nil)))))) PassesOwn.never)
  (ss_one (s_ret (d_if (b_tru (d_fn C_is_looks hr (dl_cons (d_ty2 c_tupO (by rfl) B.tuple (dl_cons (dv 1) dl_nil)) dl_nil))) (d_ty2 c_tupO (by rfl) B.tuple (dl_cons (dv 1) dl_nil)) d_non))))))), fun ds r P' XR h => ?_⟩
  obtain ⟨ws, rfl, hl, h⟩ := h
  have fin : ∀ d, readLooks ws = d → fit P' d r := fun d e => e ▸ fit.of h
  unfold readLooks at fin
  cases hw : ws.isEmpty with
  | true =>
    rw [hw, if_pos rfl] at fin
    have e0 : (ws.map D.str).isEmpty = true := by rw [List.isEmpty_iff] at hw; rw [hw]; rfl
    exact brt (by show (!(!(ws.map D.str).isEmpty)) = true; rw [e0]; rfl) ⟨Nat.le_of_ble_eq_true rfl, fin _ rfl⟩
  | false =>
    rw [hw, if_neg (by decide)] at fin
    have e0 : (ws.map D.str).isEmpty = false := by rw [List.isEmpty_map]; exact hw
    refine brf (by show (!(!(ws.map D.str).isEmpty)) = false; rw [e0]; rfl) ?_
    refine ⟨Nat.le_of_ble_eq_true rfl, fun p => ⟨Nat.le_of_ble_eq_true rfl, fun q => ?_⟩⟩
    refine ⟨by show small ((ws.map D.str) ++ [D.str comma]).length; unfold small; rw [List.length_append, List.length_map]; simp; omega, ?_⟩
    have em : (ws.map D.str) ++ [D.str comma] = (ws ++ [comma]).map D.str := by rw [List.map_append]; rfl
    refine ⟨fun i δ r' => (∃ kw qq, δ = [some (.lst (ws.map .str)), some (.adr p), some (.adr qq), kw] ∧ r' = (r ++ [lstA p ((fld ((ws ++ [comma]).take i)).1.map tS)]) ++ [lstA qq ((fld ((ws ++ [comma]).take i)).2.map D.str)]), ⟨_, _, rfl, rfl⟩, ?_, ?_⟩
    · rintro i d δ r' hd ⟨kw, qq, rfl, rfl⟩
      replace hd : ((ws ++ [comma]).map D.str)[i]? = some d := by rw [← em]; exact hd
      rw [List.getElem?_map] at hd
      cases hw2 : (ws ++ [comma])[i]? with
      | none => rw [hw2] at hd; cases hd
      | some w =>
        rw [hw2] at hd
        cases hd
        have hi : i < ws.length + 1 := by
          have := (List.getElem?_eq_some_iff.mp hw2).1
          simpa using this
        have ef := fld_take hw2
        obtain ⟨b1, b2⟩ := fld_len ((ws ++ [comma]).take i) ([], [])
        have bl : (fld ((ws ++ [comma]).take i)).1.length + (fld ((ws ++ [comma]).take i)).2.length ≤ 2000 := by
          have e : ((ws ++ [comma]).take i).length ≤ 1001 := by rw [List.length_take, List.length_append]; simp; omega
          unfold fld
          simp only [List.length_nil] at b1
          omega
        generalize fld ((ws ++ [comma]).take i) = LP at *
        obtain ⟨L, Pt⟩ := LP
        refine ⟨Nat.zero_le _, Nat.zero_le _, ?_⟩
        cases hc : w == "," with
        | true =>
          refine brt hc ?_
          have e2 : stp (L, Pt) w = (L ++ [Pt], []) := by unfold stp; rw [hc]; rfl
          refine ⟨p, L.map tS, rfl, ⟨r, [lstA qq (Pt.map D.str)], by rw [List.append_assoc]; rfl⟩, ?_⟩
          refine ⟨qq, Pt.map D.str, r ++ [lstA p (L.map tS)], [], rfl, rfl, ?_⟩
          refine ⟨⟨r, L.map tS, [], tS Pt, rfl, by rw [List.append_nil], by unfold small; rw [List.length_map]; simp at bl; omega, Nat.le_of_ble_eq_true rfl, fun q2 => ⟨_, q2, rfl, ?_⟩⟩⟩
          rw [ef, e2, List.map_append]
          rfl
        | false =>
          refine brf hc ?_
          have e2 : stp (L, Pt) w = (L, Pt ++ [w]) := by unfold stp; rw [hc]; rfl
          refine ⟨qq, Pt.map D.str, rfl, ⟨r ++ [lstA p (L.map tS)], [], rfl⟩, ?_⟩
          refine ⟨⟨r ++ [lstA p (L.map tS)], Pt.map D.str, [], .str w, rfl, rfl, by unfold small; rw [List.length_map]; simp at bl; omega, _, qq, rfl, ?_⟩⟩
          rw [ef, e2, List.map_append]
          rfl
    · rintro δ r' ⟨kw, qq, rfl, rfl⟩
      have el : ((ws.map D.str) ++ [D.str ","]).length = (ws ++ [comma]).length := by simp
      rw [el, List.take_length]
      obtain ⟨b1, b2⟩ := lks_len hl
      have ow : Own ((r ++ [lstA p ((fld (ws ++ [comma])).1.map tS)]) ++ [lstA qq ((fld (ws ++ [comma])).2.map D.str)]) p ((lksL ws).map tS) := ⟨r, _, by rw [List.append_assoc]; rfl⟩
      refine ⟨p, (lksL ws).map tS, rfl, ow, ?_⟩
      have pt : G.plain (.tup ((lksL ws).map tS)) = true := plain_of_tup (by rw [List.length_map]; omega) (plains_of fun d m => by
        obtain ⟨g, hg, rfl⟩ := List.mem_map.mp m
        exact tS_plain (by have := b2 g hg; omega))
      refine ⟨_, rfl, pt, ?_⟩
      have ea : isLooksD (.tup ((lksL ws).map tS)) = ((lksL ws).map tS).all isLookD := rfl
      cases hk : ((lksL ws).map tS).all isLookD with
      | true =>
        rw [hk, if_pos rfl] at fin
        exact brt (ea.trans hk) ⟨p, (lksL ws).map tS, rfl, ow, fit_le drop2 (fin _ rfl)⟩
      | false =>
        rw [hk, if_neg (by decide)] at fin
        exact brf (ea.trans hk) (fit_le drop2 (fin _ rfl))

def slash : Str := "/"
def rd (LK : List Str → D) (w0 n g : Str) (pre post : List Str) : D := .tup [.str w0, .str n, .str g, LK pre, if w0 == "assert" then tS post else LK post]
def okRow (d : D) : D := if isRowD d then d else .non
def finW (LK : List Str → D) : List Str → List Str → D
  | w0 :: n :: g :: pre, post => okRow (rd LK w0 n g pre post)
  | _, _ => .non
def resW (LK : List Str → D) (ws : List Str) : D := if ws.countP (fun y => y == slash) = 1 then finW LK (ws.takeWhile fun y => !(y == slash)) (ws.dropWhile fun y => !(y == slash)).tail else .non
def resR (LK : List Str → D) (ws : List Str) : D := match ws with | w0 :: _ => if hasS ["probe", "assert"] w0 then resW LK ws else okRow (tS ws) | [] => .non
theorem cut1 : ∀ {ws : List Str}, ws.countP (fun y => y == slash) = 1 → ∃ pre post, ws = pre ++ slash :: post ∧ slash ∉ pre ∧ slash ∉ post
  | [], h => by cases h
  | w :: ws, h => by
    rw [List.countP_cons] at h
    by_cases hw : w = slash
    · subst hw
      rw [if_pos (by simp)] at h
      refine ⟨[], ws, rfl, by simp, fun m => ?_⟩
      have h0 : ws.countP (fun y => y == slash) = 0 := by omega
      rw [List.countP_eq_zero] at h0
      exact h0 slash m (by simp)
    · rw [if_neg (by simpa using hw)] at h
      obtain ⟨pre, post, e, h1, h2⟩ := cut1 (ws := ws) (by omega)
      exact ⟨w :: pre, post, by rw [e]; rfl, fun m => (List.mem_cons.mp m).elim (fun z => hw z.symm) h1, h2⟩
theorem cut_tw : ∀ {pre post : List Str}, slash ∉ pre → (pre ++ slash :: post).takeWhile (fun y => !(y == slash)) = pre ∧ ((pre ++ slash :: post).dropWhile fun y => !(y == slash)).tail = post
  | [], post, _ => ⟨by rw [List.nil_append, List.takeWhile_cons, if_neg (by simp)], by rw [List.nil_append, List.dropWhile_cons, if_neg (by simp)]; rfl⟩
  | w :: pre, post, h => by
    have hw : (!(w == slash)) = true := by
      have : ¬ w = slash := fun e => h (e ▸ List.mem_cons_self)
      simpa using this
    obtain ⟨i1, i2⟩ := cut_tw (pre := pre) (post := post) fun m => h (List.mem_cons_of_mem _ m)
    rw [List.cons_append, List.takeWhile_cons, List.dropWhile_cons, if_pos hw, if_pos hw, i1, i2]
    exact ⟨rfl, rfl⟩
theorem resW_at {LK : List Str → D} {pre post : List Str} (h1 : slash ∉ pre) (h2 : slash ∉ post) : resW LK (pre ++ slash :: post) = finW LK pre post := by
  unfold resW
  obtain ⟨e1, e2⟩ := cut_tw (post := post) h1
  have c : (pre ++ slash :: post).countP (fun y => y == slash) = 1 := by
    rw [List.countP_append, List.countP_cons, if_pos (by simp)]
    have c1 : pre.countP (fun y => y == slash) = 0 := List.countP_eq_zero.mpr fun a m e => h1 ((eq_of_beq e) ▸ m)
    have c2 : post.countP (fun y => y == slash) = 0 := List.countP_eq_zero.mpr fun a m e => h2 ((eq_of_beq e) ▸ m)
    omega
  rw [if_pos c, e1, e2]
theorem resW_no {LK : List Str → D} {ws : List Str} (h : ¬ ws.countP (fun y => y == slash) = 1) : resW LK ws = .non := by
  unfold resW
  rw [if_neg h]
theorem finW_no {LK : List Str → D} {pre post : List Str} (h : pre.length < 3) : finW LK pre post = .non := by
  match pre, h with
  | [], _ => rfl
  | [_], _ => rfl
  | [_, _], _ => rfl
theorem resW_short {LK : List Str → D} {ws : List Str} (h : ws.length < 4) : resW LK ws = .non := by
  by_cases c : ws.countP (fun y => y == slash) = 1
  · obtain ⟨pre, post, e, h1, h2⟩ := cut1 c
    subst e
    rw [resW_at h1 h2]
    rw [List.length_append, List.length_cons] at h
    exact finW_no (by omega)
  · exact resW_no c
/-- the two readings agree -/
theorem looks_cases (ws : List Str) : (readLooks ws = lawLks ws ∧ isLooksD (lawLks ws) = true) ∨ (readLooks ws = .non ∧ isLooksD (lawLks ws) = false) := by
  unfold readLooks lawLks
  cases h : ws.isEmpty with
  | true => exact .inl ⟨rfl, rfl⟩
  | false =>
    cases k : ((lksL ws).map tS).all isLookD with
    | true => exact .inl ⟨rfl, k⟩
    | false => exact .inr ⟨rfl, k⟩
theorem row_w {w0 n g : Str} {a b : D} (h : w0 = "probe" ∨ w0 = "assert") : isRowD (.tup [.str w0, .str n, .str g, a, b]) = watchD [.str w0, .str n, .str g, a, b] := by
  rcases h with rfl | rfl <;> rfl
theorem watch_a {w0 n g : Str} {a b : D} (h : isLooksD a = false) : watchD [.str w0, .str n, .str g, a, b] = false := by
  rw [watch_yes, h, Bool.and_false, Bool.false_and]
theorem watch_b {n g : Str} {a b : D} (h : isLooksD b = false) : watchD [.str "probe", .str n, .str g, a, b] = false := by
  rw [watch_yes]
  have e1 : (("probe" : Str) == "assert") = false := by decide +kernel
  rw [e1, if_neg (by decide), h, Bool.false_and, Bool.and_false]
theorem okRow_no {d : D} (h : isRowD d = false) : okRow d = .non := by
  unfold okRow
  rw [h]
  rfl
theorem rd_eq {w0 n g : Str} {pre post : List Str} (h : w0 = "probe" ∨ w0 = "assert") : okRow (rd readLooks w0 n g pre post) = okRow (rd lawLks w0 n g pre post) := by
  unfold rd
  rcases looks_cases pre with ⟨e1, _⟩ | ⟨e1, k1⟩
  · rw [e1]
    rcases looks_cases post with ⟨e2, _⟩ | ⟨e2, k2⟩
    · rw [e2]
    · rw [e2]
      rcases h with rfl | rfl
      · have e0 : (("probe" : Str) == "assert") = false := by decide +kernel
        rw [e0, if_neg (by decide), if_neg (by decide)]
        rw [okRow_no ((row_w (.inl rfl)).trans (watch_b (b := .non) rfl)), okRow_no ((row_w (.inl rfl)).trans (watch_b k2))]
      · have e0 : (("assert" : Str) == "assert") = true := by decide +kernel
        rw [e0, if_pos rfl, if_pos rfl]
  · rw [e1, okRow_no ((row_w h).trans (watch_a (a := .non) rfl)), okRow_no ((row_w h).trans (watch_a k1))]
theorem resR_eq (ws : List Str) : resR readLooks ws = resR lawLks ws := by
  match ws with
  | [] => rfl
  | w0 :: wr =>
    show (if hasS ["probe", "assert"] w0 = true then resW readLooks (w0 :: wr) else okRow (tS (w0 :: wr))) = (if hasS ["probe", "assert"] w0 = true then resW lawLks (w0 :: wr) else okRow (tS (w0 :: wr)))
    cases h : hasS ["probe", "assert"] w0 with
    | false => rfl
    | true =>
      rw [if_pos rfl, if_pos rfl]
      have hz : w0 = "probe" ∨ w0 = "assert" := by simpa using hasS_mem h
      by_cases c : (w0 :: wr).countP (fun y => y == slash) = 1
      · obtain ⟨pre, post, e, h1, h2⟩ := cut1 c
        rw [e, resW_at h1 h2, resW_at h1 h2]
        match pre, e with
        | [], _ => rfl
        | [_], _ => rfl
        | [_, _], _ => rfl
        | v0 :: n :: g :: pre, e =>
          have : w0 = v0 := by
            rw [List.cons_append] at e
            exact (List.cons.inj e).1
          subst this
          exact rd_eq hz
      · rw [resW_no c, resW_no c]
theorem oNi_l {z : Str} {xs : List Str} {k : D → Prop} (h : k (.bl (!hasS xs z))) : oIn true (.str z) (.lst (xs.map .str)) k := ⟨⟨Nat.zero_le _, by rw [deps_strs]; decide, by rw [cond_true, memD_str]; exact h⟩⟩
theorem cutD_to (n : Nat) (xs : List D) : cutD xs none (some (n : Int)) = xs.take n := by
  unfold cutD
  have e : HT.sIx xs.length xs.length (some (n : Int)) = min n xs.length := HT.sIx_nat xs.length xs.length n
  rw [e, HT.sIx_none, List.drop_zero, Nat.sub_zero]
  rcases Nat.le_total n xs.length with h | h
  · rw [Nat.min_eq_left h]
  · rw [Nat.min_eq_right h, List.take_of_length_le (Nat.le_refl _), List.take_of_length_le h]
theorem sl_to {n : Nat} {xs : List Str} {k : D → Prop} (h : k (.lst ((xs.take n).map .str))) : oSl (.lst (xs.map .str)) none (some (n : Int)) k := sl_l (by rw [cutD_to, ← List.map_take]; exact h)
theorem sl_from {n : Nat} {xs : List Str} {k : D → Prop} (h : k (.lst ((xs.drop n).map .str))) : oSl (.lst (xs.map .str)) (some (n : Int)) none k := sl_l (by rw [cutD_from, ← List.map_drop]; exact h)
theorem rdl_plain {ws : List Str} (h : ws.length ≤ 1000) : G.plain (readLooks ws) = true := by
  unfold readLooks
  split
  · rfl
  · split
    · obtain ⟨b1, b2⟩ := lks_len h
      exact plain_of_tup (by rw [List.length_map]; omega) (plains_of fun d m => by
        obtain ⟨g, hg, rfl⟩ := List.mem_map.mp m
        exact tS_plain (by have := b2 g hg; omega))
    · rfl
theorem rd_plain {LK : List Str → D} {w0 n g : Str} {pre post : List Str} (h1 : G.plain (LK pre) = true) (h2 : G.plain (LK post) = true) (h : post.length ≤ 1000) : G.plain (rd LK w0 n g pre post) = true := by
  refine plain_of_tup (Nat.le_of_ble_eq_true rfl) ?_
  have h3 : G.plain (if (w0 == "assert") = true then tS post else LK post) = true := by
    split
    · exact tS_plain (by omega)
    · exact h2
  simp only [G.plains, h1, h3]
  rfl
def spReadW : SpX := fun ds r P _ => ∃ ws : List Str, ds = [.lst (ws.map .str)] ∧ ws.length ≤ 1000 ∧ P (resW readLooks ws) r
def spReadR : SpX := fun ds r P _ => ∃ z : Str, ds = [.str z] ∧ z.length ≤ 900 ∧ P (resR readLooks (Txt.split z " ")) r
def spLReadR : SpX := fun ds r P _ => ∃ z : Str, ds = [.str z] ∧ z.length ≤ 900 ∧ P (resR lawLks (Txt.split z " ")) r

abbrev N_read_watcher : List Str := ["words", "word", "name", "gate", "rest", "at", "args", "last", "row"]
theorem sc_read_watcher : FnScope N_read_watcher ["words"] (defScope s_read_watcher) := ⟨rfl, rfl, rfl, by decide +kernel, rfl, by decide +kernel, by decide +kernel⟩

theorem c_read_watcher (B : Bl mg) (C_read_looks : Cl P w K mg base 6 "read_looks" ["words"] spRdLooks) (C_is_row : Cl P w K mg base 7 "is_row" ["row"] spIsRow) (Dx : Dfn K mg "read_watcher" s_read_watcher ["words"]) : Cl P w K mg base 8 "read_watcher" ["words"] spReadW := by
  have sc := sc_read_watcher
  refine cl_of Dx sc (fun ds r P' XR ⟨d, e, _⟩ => by rw [e]; rfl) (fun f cdv A outer s H E hr => ?_)
  have hu := hr.units
  have hi := u65 hr
  refine ⟨_, (ss_cons (s_if (b_w (w_or (b_cmp p_lt (d_blt c_len (by rfl) B.len (dl_cons (dv 0) dl_nil)) d_int) (w_or1 (b_cmp (p_ne hu) (d_count (dv 0) (dl_cons d_str dl_nil)) d_int))))
  (ss_one (s_ret d_non))
  ss_nil)
  (ss_cons (s_star (is := [1, 2, 3, 4]) (dv 0) (pgs_n (i := 1) sc.nd (pgs_n (i := 2) sc.nd (pgs_n (i := 3) sc.nd (pgs_sn (i := 4) sc.nd)))))
  (ss_cons (s_if (b_cmp (p_notIn hi) d_str (dv 4))
  (ss_one (s_ret d_non))
  ss_nil)
  (ss_cons (s_set (i := 5) sc.nd (d_index (dv 4) (dl_cons d_str dl_nil)))
  (ss_cons (s_set (i := 6) sc.nd (d_fn C_read_looks hr (dl_cons (d_sl (dv 4) o_no (o_some (dv 5))) dl_nil)))
  (ss_cons (s_set (i := 7) sc.nd (d_if (b_cmp (p_eq hu) (dv 1) d_str) (d_ty c_tuple (by rfl) B.tuple (dl_cons (d_sl (dv 4) (o_some (d_bin p_add (dv 5) d_int)) o_no) dl_nil)) (d_fn C_read_looks hr (dl_cons (d_sl (dv 4) (o_some (d_bin p_add (dv 5) d_int)) o_no) dl_nil))))
  (ss_cons (s_set (i := 8) sc.nd (d_tup (dl_cons (dv 1) (dl_cons (dv 2) (dl_cons (dv 3) (dl_cons (dv 6) (dl_cons (dv 7) dl_nil)))))))
  (ss_one (s_ret (d_if (b_tru (d_fn C_is_row hr (dl_cons (dv 8) dl_nil))) (dv 8) d_non)))))))))), fun ds r P' XR h => ?_⟩
  obtain ⟨ws, rfl, hl, h⟩ := h
  have fin : ∀ d, resW readLooks ws = d → fit P' d r := fun d e => e ▸ fit.of h
  have el : ((ws.map D.str).length : Nat) = ws.length := List.length_map _
  refine fun _ => ?_
  rw [el]
  by_cases h4 : ws.length < 4
  · exact brt (decide_eq_true (by omega)) (brT (fin _ (resW_short h4)))
  refine brf (decide_eq_false (by omega)) ?_
  refine ⟨ws, slash, rfl, rfl, Nat.zero_le _, Nat.zero_le _, ?_⟩
  show ((!eqD (.int ((ws.countP (fun y => y == slash) : Nat) : Int)) (.int ((1 : Nat) : Int))) = true → _) ∧ ((!eqD (.int ((ws.countP (fun y => y == slash) : Nat) : Int)) (.int ((1 : Nat) : Int))) = false → _)
  by_cases hc : ws.countP (fun y => y == slash) = 1
  rotate_left
  · exact brt (ne_len hc) (fin _ (resW_no hc))
  refine brf (eq_len hc) ?_
  obtain ⟨pre, post, e, p1, p2⟩ := cut1 hc
  match ws, h4 with
  | [], h4 => exact absurd (by decide) h4
  | [_], h4 => exact absurd (by simp) h4
  | [_, _], h4 => exact absurd (by simp) h4
  | [_, _, _], h4 => exact absurd (by simp) h4
  | w0 :: n :: g :: x :: ws, h4 =>
    refine ⟨⟨by simp, by unfold small; rw [List.length_map]; omega⟩, ?_⟩
    refine oNi_l (xs := x :: ws) ?_
    have hno : ∀ zs : List Str, slash ∉ zs → hasS zs slash = false := fun zs hz => by
      cases q : hasS zs slash with
      | false => rfl
      | true => exact absurd (hasS_mem q) hz
    have no : pre.length < 3 → hasS (x :: ws) slash = false → ((!hasS (x :: ws) slash) = true → fit P' .non r) := fun q _ _ => fin _ (by rw [e, resW_at p1 p2]; exact finW_no q)
    match pre, e, p1, no with
    | [], e, _, no =>
      have hs := hno (x :: ws) fun m => p2 (by rw [List.nil_append] at e; rw [← (List.cons.inj e).2]; exact List.mem_cons_of_mem _ (List.mem_cons_of_mem _ m))
      exact brt (by rw [show (("/" : Str)) = slash from rfl, hs]; rfl) (no (by simp) hs (by rw [hs]; rfl))
    | [_], e, _, no =>
      have hs := hno (x :: ws) fun m => p2 (by rw [List.cons_append, List.nil_append] at e; rw [← (List.cons.inj (List.cons.inj e).2).2]; exact List.mem_cons_of_mem _ m)
      exact brt (by rw [show (("/" : Str)) = slash from rfl, hs]; rfl) (no (by simp) hs (by rw [hs]; rfl))
    | [_, _], e, _, no =>
      have hs := hno (x :: ws) fun m => p2 (by rw [List.cons_append, List.cons_append, List.nil_append] at e; rw [← (List.cons.inj (List.cons.inj (List.cons.inj e).2).2).2]; exact m)
      exact brt (by rw [show (("/" : Str)) = slash from rfl, hs]; rfl) (no (by simp) hs (by rw [hs]; rfl))
    | v0 :: v1 :: v2 :: pre, e, p1, _ =>
      have fin2 : ∀ d, okRow (rd readLooks v0 v1 v2 pre post) = d → fit P' d r := fun d q => fin _ (by rw [e, resW_at p1 p2]; exact q)
      rw [List.cons_append, List.cons_append, List.cons_append] at e
      obtain ⟨e0, e⟩ := List.cons.inj e
      obtain ⟨e1, e⟩ := List.cons.inj e
      obtain ⟨e2, er⟩ := List.cons.inj e
      subst e0 e1 e2
      have hs : hasS (x :: ws) slash = true := by
        rw [er]
        exact List.any_eq_true.mpr ⟨slash, List.mem_append.mpr (.inr List.mem_cons_self), by simp⟩
      have t1 : (x :: ws).take pre.length = pre := by rw [er, List.take_left]
      have t2 : (x :: ws).drop (pre.length + 1) = post := by
        rw [er, List.drop_append]
        simp
      have t3 : (x :: ws)[pre.length]? = some slash := by rw [er]; simp
      have lr : (x :: ws).length ≤ 1000 := by simp only [List.length_cons] at hl ⊢; omega
      have p1' : slash ∉ pre := fun m => p1 (List.mem_cons_of_mem _ (List.mem_cons_of_mem _ (List.mem_cons_of_mem _ m)))
      refine brf (by rw [show (("/" : Str)) = slash from rfl, hs]; rfl) ?_
      refine ⟨x :: ws, slash, pre.length, rfl, rfl, t3, by rw [t1]; exact p1', ?_⟩
      refine sl_to (n := pre.length) (xs := x :: ws) ?_
      rw [t1]
      have lp : pre.length ≤ 1000 := by rw [← t1, List.length_take]; omega
      have lq : post.length ≤ 1000 := by rw [← t2, List.length_drop]; omega
      refine ⟨pre, rfl, lp, Nat.zero_le _, Nat.zero_le _, ?_⟩
      have pr := rd_plain (LK := readLooks) (w0 := w0) (n := n) (g := g) (rdl_plain lp) (rdl_plain lq) lq
      unfold rd at pr fin2
      unfold okRow at fin2
      cases hz : w0 == "assert" with
      | true =>
        refine brt hz (sl_from (n := pre.length + 1) (xs := x :: ws) ?_)
        rw [t2]
        rw [hz, if_pos rfl] at pr fin2
        refine ⟨Nat.le_of_ble_eq_true rfl, ⟨_, rfl, pr, ?_⟩⟩
        exact ⟨fun q => fin2 _ (if_pos q), fun q => fin2 _ (if_neg fun z => Bool.noConfusion (q.symm.trans z))⟩
      | false =>
        refine brf hz (sl_from (n := pre.length + 1) (xs := x :: ws) ?_)
        rw [t2]
        rw [hz, if_neg (show ¬ (false = true) by decide)] at pr fin2
        refine ⟨post, rfl, lq, Nat.le_of_ble_eq_true rfl, ⟨_, rfl, pr, ?_⟩⟩
        exact ⟨fun q => fin2 _ (if_pos q), fun q => fin2 _ (if_neg fun z => Bool.noConfusion (q.symm.trans z))⟩
abbrev N_read_row : List Str := ["line", "words", "row"]
theorem sc_read_row : FnScope N_read_row ["line"] (defScope s_read_row) := ⟨rfl, rfl, rfl, by decide +kernel, rfl, by decide +kernel, by decide +kernel⟩

theorem split_ne (z : Str) : Txt.split z " " ≠ [] := fun e => by
  have h := split_tl (a := z) (b := " ") (by decide +kernel)
  rw [e, List.map_nil] at h
  have : ∀ (l : List Nat) (k : Nat) (acc : List Nat), TL.spl (tl " ") k acc l ≠ [] := by
    intro l
    induction l with
    | nil => intro k acc; rw [TL.spl_nil]; simp
    | cons c l ih =>
      intro k acc
      cases k with
      | zero =>
        cases q : TL.pre (tl " ") (c :: l) with
        | true => rw [TL.spl_hit q]; simp
        | false => rw [TL.spl_miss q]; exact ih _ _
      | succ k => exact ih k acc
  exact this _ _ _ h.symm
theorem split_len {z : Str} (h : z.length ≤ 900) : (Txt.split z " ").length ≤ 1000 := Nat.le_trans (PyProof.Rows.split_le z " ") (by omega)
theorem c_read_row (B : Bl mg) (C_read_watcher : Cl P w K mg base 8 "read_watcher" ["words"] spReadW) (C_is_row : Cl P w K mg base 7 "is_row" ["row"] spIsRow) (Dx : Dfn K mg "read_row" s_read_row ["line"]) : Cl P w K mg base 9 "read_row" ["line"] spReadR := by
  have sc := sc_read_row
  refine cl_of Dx sc (fun ds r P' XR ⟨d, e, _⟩ => by rw [e]; rfl) (fun f cdv A outer s H E hr => ?_)
  have hi := u65 hr
  refine ⟨_, (ss_cons (s_set (i := 1) sc.nd (d_split (dv 0) d_str))
  (ss_cons (s_if (b_cmp (p_in hi) (d_ix (dv 1) d_int) (d_tup (dl_cons d_str (dl_cons d_str dl_nil))))
  (ss_one (s_ret (d_fn C_read_watcher hr (dl_cons (dv 1) dl_nil))))
  ss_nil)
  (ss_cons (s_set (i := 2) sc.nd (d_ty c_tuple (by rfl) B.tuple (dl_cons (dv 1) dl_nil)))
  (ss_one (s_ret (d_if (b_tru (d_fn C_is_row hr (dl_cons (dv 2) dl_nil))) (dv 2) d_non)))))), fun ds r P' XR h => ?_⟩
  obtain ⟨z, rfl, hl, h⟩ := h
  have fin : ∀ d, resR readLooks (Txt.split z " ") = d → fit P' d r := fun d e => e ▸ fit.of h
  have hn := split_ne z
  have hw := split_len hl
  refine ⟨z, " ", rfl, rfl, by decide +kernel, by omega, ?_⟩
  generalize Txt.split z " " = ws at *
  match ws, hn with
  | w0 :: wr, _ =>
    have fin : ∀ d, (if hasS ["probe", "assert"] w0 = true then resW readLooks (w0 :: wr) else okRow (tS (w0 :: wr))) = d → fit P' d r := fin
    refine ix_l at0 ⟨Nat.le_of_ble_eq_true rfl, oIn_t (xs := ["probe", "assert"]) ?_⟩
    cases h1 : hasS ["probe", "assert"] w0 with
    | true =>
      rw [h1, if_pos rfl] at fin
      exact brt h1 ⟨w0 :: wr, rfl, hw, fin _ rfl⟩
    | false =>
      rw [h1, if_neg (by decide)] at fin
      unfold okRow at fin
      refine brf h1 ⟨_, rfl, tS_plain (zs := w0 :: wr) (by omega), ?_⟩
      exact ⟨fun q => fin _ (if_pos q), fun q => fin _ (if_neg fun z => Bool.noConfusion (q.symm.trans z))⟩

/-! ### lines written, as data -/
def stT (acc g : List Str) : List Str := (if acc.isEmpty then acc else acc ++ [comma]) ++ g
def lkT (gs : List (List Str)) : List Str := gs.foldl stT []
theorem lkT_snoc (gs : List (List Str)) (g : List Str) : lkT (gs ++ [g]) = stT (lkT gs) g := by
  unfold lkT
  rw [List.foldl_append]
  rfl
theorem lkT_take {gs : List (List Str)} {i : Nat} {g : List Str} (h : gs[i]? = some g) : lkT (gs.take (i + 1)) = stT (lkT (gs.take i)) g := by
  rw [List.take_add_one, h]
  exact lkT_snoc _ _
theorem stT_len (acc g : List Str) : (stT acc g).length ≤ acc.length + 1 + g.length := by
  unfold stT
  split
  · rw [List.length_append]; omega
  · rw [List.length_append, List.length_append, List.length_singleton]; omega
theorem lkT_len (gs : List (List Str)) : ∀ n, (∀ g ∈ gs.take n, g.length ≤ 3) → (lkT (gs.take n)).length ≤ 4 * n
  | 0, _ => by simp [lkT]
  | n + 1, h => by
    cases q : gs[n]? with
    | none =>
      have e : gs.take (n + 1) = gs.take n := by rw [List.take_add_one, q]; simp
      rw [e] at h ⊢
      have := lkT_len gs n h
      omega
    | some g =>
      rw [lkT_take q]
      have h1 := lkT_len gs n fun x m => h x (by rw [List.take_add_one]; exact List.mem_append.mpr (.inl m))
      have h2 := stT_len (lkT (gs.take n)) g
      have h3 := h g (by rw [List.take_add_one, q]; exact List.mem_append.mpr (.inr (by simp)))
      omega
theorem looks_gs : ∀ {A : List D}, (∀ d ∈ A, GLook d) → ∃ gs : List (List Str), A = gs.map tS ∧ ∀ g ∈ gs, 2 ≤ g.length ∧ g.length ≤ 3 ∧ g.all isNm = true
  | [], _ => ⟨[], rfl, fun _ m => by cases m⟩
  | d :: A, h => by
    obtain ⟨zs, e, z1, z2, z3⟩ := (h d List.mem_cons_self).ws
    obtain ⟨gs, e2, h2⟩ := looks_gs (A := A) fun x m => h x (List.mem_cons_of_mem _ m)
    exact ⟨zs :: gs, by rw [e, e2]; rfl, fun g m => (List.mem_cons.mp m).elim (fun q => q ▸ ⟨z1, z2, z3⟩) (h2 g)⟩
def spLkText : SpX := fun ds r P _ => ∃ gs : List (List Str), ds = [.tup (gs.map tS)] ∧ gs.length ≤ 10 ∧ (∀ g ∈ gs, g.length ≤ 3) ∧ P (.lst ((lkT gs).map .str)) r

abbrev N__law_looks_text : List Str := ["_law_looks", "_law_words", "_law_look"]
theorem sc__law_looks_text : FnScope N__law_looks_text ["_law_looks"] (defScope s__law_looks_text) := ⟨rfl, rfl, rfl, by decide +kernel, rfl, by decide +kernel, by decide +kernel⟩

theorem c__law_looks_text (B : Bl mg) (Dx : Dfn K mg "_law_looks_text" s__law_looks_text ["_law_looks"]) : Cl P w K mg base 1 "_law_looks_text" ["_law_looks"] spLkText := by
  have sc := sc__law_looks_text
  refine cl_of Dx sc (fun ds r P' XR ⟨d, e, _⟩ => by rw [e]; rfl) (fun f cdv A outer s H E hr => ?_)
  refine ⟨_, (ss_cons (s_set (i := 1) sc.nd (d_lstO dl_nil))
  (ss_cons (s_for (i_tup (dv 0)) (g_name (i := 2) sc.nd)
  (ss_cons (s_if (b_truO (dv 1))
  (ss_one (s_expr (d_app (dv 1) (dl_cons d_str dl_nil))))
  ss_nil)
  (ss_one (s_set (i := 1) sc.nd (d_addO (d_move (dv 1)) (d_ty c_list (by rfl) B.list (dl_cons (dv 2) dl_nil)))))) PassesOwn.never)
  (ss_one (s_ret (d_move (dv 1)))))), fun ds r P' XR h => ?_⟩
  obtain ⟨gs, rfl, hl, hg, h⟩ := h
  refine ⟨Nat.le_of_ble_eq_true rfl, fun p => ?_⟩
  refine ⟨fun i δ r' => ∃ kw q, δ = [some (.tup (gs.map tS)), some (.adr q), kw] ∧ r' = r ++ [lstA q ((lkT (gs.take i)).map D.str)], ⟨_, _, rfl, rfl⟩, ?_, ?_⟩
  · rintro i d δ r' hd ⟨kw, q, rfl, rfl⟩
    rw [List.getElem?_map] at hd
    cases hw : gs[i]? with
    | none => rw [hw] at hd; cases hd
    | some g =>
      rw [hw] at hd
      cases hd
      have hi := (List.getElem?_eq_some_iff.mp hw).1
      have ll := lkT_len gs i fun g m => hg g (List.mem_of_mem_take m)
      have lg := hg g (List.mem_of_getElem? hw)
      have ef := lkT_take hw
      refine ⟨q, (lkT (gs.take i)).map D.str, rfl, Own.last, ?_⟩
      generalize lkT (gs.take i) = acc at *
      have em : ((acc.map D.str).isEmpty) = acc.isEmpty := List.isEmpty_map
      cases ha : acc.isEmpty with
      | true =>
        refine brf (by rw [em, ha]; rfl) ?_
        refine ⟨q, acc.map D.str, r, [], rfl, rfl, acc.map D.str, g.map D.str, rfl, rfl, by unfold small; rw [List.length_map, List.length_map]; omega, fun q2 => ⟨_, q2, rfl, ?_⟩⟩
        rw [ef]
        unfold stT
        rw [ha, if_pos rfl, List.map_append, List.append_nil]
      | false =>
        refine brt (by rw [em, ha]; rfl) ?_
        refine ⟨q, acc.map D.str, rfl, Own.last, ⟨r, acc.map D.str, [], .str comma, rfl, rfl, by unfold small; rw [List.length_map]; omega, ?_⟩⟩
        refine ⟨q, acc.map D.str ++ [.str comma], r, [], rfl, rfl, _, g.map D.str, rfl, rfl, by unfold small; simp; omega, fun q2 => ⟨_, q2, rfl, ?_⟩⟩
        rw [ef]
        unfold stT
        rw [ha, if_neg (by decide), List.map_append, List.map_append, List.append_nil]
        rfl
  · rintro δ r' ⟨kw, q, rfl, rfl⟩
    rw [List.length_map, List.take_length]
    refine ⟨q, (lkT gs).map D.str, r, [], rfl, rfl, ?_⟩
    rw [List.append_nil]
    exact fit.of h

inductive Wd : D → List Str → Prop
  | reg {w : Str} {zs : List Str} : (w == "probe" || w == "assert") = false → Wd (tS (w :: zs)) (w :: zs)
  | probe {x g : Str} {A Bd : List (List Str)} : Wd (.tup [.str "probe", .str x, .str g, .tup (A.map tS), .tup (Bd.map tS)]) (([("probe" : Str), x, g] : List Str) ++ lkT A ++ [slash] ++ lkT Bd)
  | asrt {x g : Str} {A : List (List Str)} {zs : List Str} : Wd (.tup [.str "assert", .str x, .str g, .tup (A.map tS), tS zs]) (([("assert" : Str), x, g] : List Str) ++ lkT A ++ [slash] ++ zs)
theorem lkT_mem (gs : List (List Str)) (P : Str → Prop) (hc : P comma) (h : ∀ g ∈ gs, ∀ z ∈ g, P z) : ∀ n, ∀ z ∈ lkT (gs.take n), P z
  | 0, z, m => by simp [lkT] at m
  | n + 1, z, m => by
    cases q : gs[n]? with
    | none =>
      rw [List.take_add_one, q] at m
      exact lkT_mem gs P hc h n z (by simpa using m)
    | some g =>
      rw [lkT_take q] at m
      unfold stT at m
      rcases List.mem_append.mp m with m | m
      · split at m
        · exact lkT_mem gs P hc h n z m
        · rcases List.mem_append.mp m with m | m
          · exact lkT_mem gs P hc h n z m
          · rw [List.mem_singleton.mp m]; exact hc
      · exact h g (List.mem_of_getElem? q) z m
theorem sum8 : ∀ {ws : List Str}, (∀ z ∈ ws, z.length ≤ 8) → (ws.map (·.length)).sum ≤ 8 * ws.length
  | [], _ => Nat.le_refl _
  | w :: ws, h => by
    have h1 := h w List.mem_cons_self
    have h2 := sum8 (ws := ws) fun z m => h z (List.mem_cons_of_mem _ m)
    rw [List.map_cons, List.sum_cons, List.length_cons]
    omega
def spLine : SpX := fun ds r P _ => ∃ d, ds = [d] ∧ Shape d ∧ ∀ ws, Wd d ws → ws.length ≤ 60 → (∀ z ∈ ws, z.length ≤ 8) → P (.str (tJoin " " ws)) r
abbrev N__law_line : List Str := ["_law_row", "_law_last"]
theorem sc__law_line : FnScope N__law_line ["_law_row"] (defScope s__law_line) := ⟨rfl, rfl, rfl, by decide +kernel, rfl, by decide +kernel, by decide +kernel⟩

theorem c__law_line (B : Bl mg) (C__law_looks_text : Cl P w K mg base 1 "_law_looks_text" ["_law_looks"] spLkText) (Dx : Dfn K mg "_law_line" s__law_line ["_law_row"]) : Cl P w K mg base 2 "_law_line" ["_law_row"] spLine := by
  have sc := sc__law_line
  refine cl_of Dx sc (fun ds r P' XR ⟨d, e, _⟩ => by rw [e]; rfl) (fun f cdv A outer s H E hr => ?_)
  have hu := hr.units
  have hi := u65 hr
  refine ⟨_, (ss_cons (s_if (b_cmp (p_notIn hi) (d_ix (dv 0) d_int) (d_tup (dl_cons d_str (dl_cons d_str dl_nil))))
  (ss_one (s_ret (d_join d_str (d_ty c_list (by rfl) B.list (dl_cons (dv 0) dl_nil)))))
  ss_nil)
  (ss_cons (s_set (i := 1) sc.nd (d_if (b_cmp (p_eq hu) (d_ix (dv 0) d_int) d_str) (d_ty c_list (by rfl) B.list (dl_cons (d_ix (dv 0) d_int) dl_nil)) (d_fn C__law_looks_text hr (dl_cons (d_ix (dv 0) d_int) dl_nil))))
  (ss_one (s_ret (d_join d_str (d_bin p_add (d_bin p_add (d_bin p_add (d_lst (dl_cons (d_ix (dv 0) d_int) (dl_cons (d_ix (dv 0) d_int) (dl_cons (d_ix (dv 0) d_int) dl_nil)))) (d_fn C__law_looks_text hr (dl_cons (d_ix (dv 0) d_int) dl_nil))) (d_lst (dl_cons d_str dl_nil))) (dv 1))))))), fun ds r P' XR h => ?_⟩
  obtain ⟨d, rfl, sh, h⟩ := h
  have jn : ∀ ws : List Str, Wd d ws → ws.length ≤ 60 → (∀ z ∈ ws, z.length ≤ 8) → oJoin (.str " ") (.lst (ws.map D.str)) fun d => fit P' d r := fun ws hw hl h8 => by
    refine join_l (strL_map ws) ?_ (fit.of (h ws hw hl h8))
    have := sum8 h8
    show (ws.map (·.length)).sum + ws.length * 1 ≤ 1000000
    omega
  have nm8 : ∀ {zs : List Str}, zs.all isNm = true → ∀ z ∈ zs, z.length ≤ 8 := fun q z m => isNm_len (List.all_eq_true.mp q z m)
  cases sh with
  | @reg w zs hl ha hp =>
    have hs : hasS ["probe", "assert"] w = false := by
      rw [Bool.or_eq_false_iff] at hp
      cases q : hasS ["probe", "assert"] w with
      | false => rfl
      | true =>
        have m : w = "probe" ∨ w = "assert" := by simpa using hasS_mem q
        rcases m with rfl | rfl
        · simp at hp
        · simp at hp
    refine ix_t at0 ⟨Nat.le_of_ble_eq_true rfl, oNi_t (xs := ["probe", "assert"]) ?_⟩
    refine brt (by show (!hasS ["probe", "assert"] w) = true; rw [hs]; rfl) ?_
    exact jn (w :: zs) (.reg hp) (by rw [List.length_cons]; omega) (nm8 ha)
  | @probe x g A Bd hx hg hA hB hl =>
    obtain ⟨ga, rfl, h1⟩ := looks_gs hA
    obtain ⟨gb, rfl, h2⟩ := looks_gs hB
    rw [List.length_map, List.length_map] at hl
    have la := lkT_len ga ga.length fun q m => (h1 q (List.mem_of_mem_take m)).2.1
    have lb := lkT_len gb gb.length fun q m => (h2 q (List.mem_of_mem_take m)).2.1
    rw [List.take_length] at la lb
    refine ix_t at0 ⟨Nat.le_of_ble_eq_true rfl, oNi_t (xs := ["probe", "assert"]) ?_⟩
    refine brF (ix_t at0 ⟨Nat.zero_le _, Nat.zero_le _, ?_⟩)
    refine brF (ix_t at4 ⟨gb, rfl, by omega, fun q m => (h2 q m).2.1, ?_⟩)
    refine ix_t at0 (ix_t at1 (ix_t at2 ⟨Nat.le_of_ble_eq_true rfl, ?_⟩))
    refine ix_t at3 ⟨ga, rfl, by omega, fun q m => (h1 q m).2.1, ?_⟩
    refine ⟨by show 3 + ((lkT ga).map D.str).length ≤ 1000000; rw [List.length_map]; omega, Nat.le_of_ble_eq_true rfl, ?_⟩
    refine ⟨by unfold small; simp; omega, ?_⟩
    refine ⟨by unfold small; simp; omega, ?_⟩
    have em : (([D.str "probe", D.str x, D.str g] ++ (lkT ga).map D.str) ++ [D.str "/"]) ++ (lkT gb).map D.str = (([("probe" : Str), x, g] : List Str) ++ lkT ga ++ [slash] ++ (lkT gb)).map D.str := by
      rw [List.map_append, List.map_append, List.map_append]
      rfl
    have n1 : isNm "probe" = true := by decide +kernel
    have key := jn (([("probe" : Str), x, g] : List Str) ++ lkT ga ++ [slash] ++ (lkT gb)) .probe (by simp; omega) (fun z m => by
      rcases List.mem_append.mp m with m | m
      · rcases List.mem_append.mp m with m | m
        · rcases List.mem_append.mp m with m | m
          · simp only [List.mem_cons, List.not_mem_nil, or_false] at m
            rcases m with rfl | rfl | rfl
            · exact isNm_len n1
            · exact isNm_len hx
            · exact isNm_len hg
          · have q := lkT_mem ga (fun z => z.length ≤ 8) (by decide) (fun q m z hz => nm8 (h1 q m).2.2 z hz) ga.length
            rw [List.take_length] at q
            exact q z m
        · rw [List.mem_singleton.mp m]; decide
      · have q := lkT_mem gb (fun z => z.length ≤ 8) (by decide) (fun q m z hz => nm8 (h2 q m).2.2 z hz) gb.length
        rw [List.take_length] at q
        exact q z m)
    rw [← em] at key
    exact key
  | @asrt x g A zs hx hg hA hl z1 z2 z3 =>
    obtain ⟨ga, rfl, h1⟩ := looks_gs hA
    rw [List.length_map] at hl
    have la := lkT_len ga ga.length fun q m => (h1 q (List.mem_of_mem_take m)).2.1
    rw [List.take_length] at la
    refine ix_t at0 ⟨Nat.le_of_ble_eq_true rfl, oNi_t (xs := ["probe", "assert"]) ?_⟩
    refine brF (ix_t at0 ⟨Nat.zero_le _, Nat.zero_le _, ?_⟩)
    refine brT (ix_t at4 ?_)
    refine ix_t at0 (ix_t at1 (ix_t at2 ⟨Nat.le_of_ble_eq_true rfl, ?_⟩))
    refine ix_t at3 ⟨ga, rfl, by omega, fun q m => (h1 q m).2.1, ?_⟩
    refine ⟨by show 3 + ((lkT ga).map D.str).length ≤ 1000000; rw [List.length_map]; omega, Nat.le_of_ble_eq_true rfl, ?_⟩
    refine ⟨by unfold small; simp; omega, ?_⟩
    refine ⟨by unfold small; simp; omega, ?_⟩
    have em : (([D.str "assert", D.str x, D.str g] ++ (lkT ga).map D.str) ++ [D.str "/"]) ++ zs.map D.str = (([("assert" : Str), x, g] : List Str) ++ lkT ga ++ [slash] ++ zs).map D.str := by
      rw [List.map_append, List.map_append, List.map_append]
      rfl
    have n1 : isNm "assert" = true := by decide +kernel
    have key := jn (([("assert" : Str), x, g] : List Str) ++ lkT ga ++ [slash] ++ zs) .asrt (by simp; omega) (fun z m => by
      rcases List.mem_append.mp m with m | m
      · rcases List.mem_append.mp m with m | m
        · rcases List.mem_append.mp m with m | m
          · simp only [List.mem_cons, List.not_mem_nil, or_false] at m
            rcases m with rfl | rfl | rfl
            · exact isNm_len n1
            · exact isNm_len hx
            · exact isNm_len hg
          · have q := lkT_mem ga (fun z => z.length ≤ 8) (by decide) (fun q m z hz => nm8 (h1 q m).2.2 z hz) ga.length
            rw [List.take_length] at q
            exact q z m
        · rw [List.mem_singleton.mp m]; decide
      · exact nm8 z3 z m)
    rw [← em] at key
    exact key

abbrev N_looks_text : List Str := ["looks", "words", "look"]
theorem sc_looks_text : FnScope N_looks_text ["looks"] (defScope s_looks_text) := ⟨rfl, rfl, rfl, by decide +kernel, rfl, by decide +kernel, by decide +kernel⟩

theorem c_looks_text (B : Bl mg) (Dx : Dfn K mg "looks_text" s_looks_text ["looks"]) : Cl P w K mg base 1 "looks_text" ["looks"] spLkText := by
  have sc := sc_looks_text
  refine cl_of Dx sc (fun ds r P' XR ⟨d, e, _⟩ => by rw [e]; rfl) (fun f cdv A outer s H E hr => ?_)
  refine ⟨_, (ss_cons (s_set (i := 1) sc.nd (d_lstO dl_nil))
  (ss_cons (s_for (i_tup (dv 0)) (g_name (i := 2) sc.nd)
  (ss_cons (s_if (b_truO (dv 1))
  (ss_one (s_expr (d_app (dv 1) (dl_cons d_str dl_nil))))
  ss_nil)
  (ss_one (s_expr (d_ext (dv 1) (dl_cons (d_ty c_list (by rfl) B.list (dl_cons (dv 2) dl_nil)) dl_nil))))) PassesOwn.never)
  (ss_one (s_ret (d_move (dv 1)))))), fun ds r P' XR h => ?_⟩
  obtain ⟨gs, rfl, hl, hg, h⟩ := h
  refine ⟨Nat.le_of_ble_eq_true rfl, fun q => ?_⟩
  refine ⟨fun i δ r' => ∃ kw, δ = [some (.tup (gs.map tS)), some (.adr q), kw] ∧ r' = r ++ [lstA q ((lkT (gs.take i)).map D.str)], ⟨_, rfl, rfl⟩, ?_, ?_⟩
  · rintro i d δ r' hd ⟨kw, rfl, rfl⟩
    rw [List.getElem?_map] at hd
    cases hw : gs[i]? with
    | none => rw [hw] at hd; cases hd
    | some g =>
      rw [hw] at hd
      cases hd
      have hi := (List.getElem?_eq_some_iff.mp hw).1
      have ll := lkT_len gs i fun g m => hg g (List.mem_of_mem_take m)
      have lg := hg g (List.mem_of_getElem? hw)
      have ef := lkT_take hw
      refine ⟨q, (lkT (gs.take i)).map D.str, rfl, Own.last, ?_⟩
      generalize lkT (gs.take i) = acc at *
      have em : ((acc.map D.str).isEmpty) = acc.isEmpty := List.isEmpty_map
      cases ha : acc.isEmpty with
      | true =>
        refine brf (by rw [em, ha]; rfl) ?_
        refine ⟨q, acc.map D.str, rfl, Own.last, ⟨r, acc.map D.str, [], g.map D.str, rfl, rfl, by unfold small; rw [List.length_map, List.length_map]; omega, ⟨_, rfl, ?_⟩⟩⟩
        rw [ef]
        unfold stT
        rw [ha, if_pos rfl, List.map_append]
      | false =>
        refine brt (by rw [em, ha]; rfl) ?_
        refine ⟨q, acc.map D.str, rfl, Own.last, ⟨r, acc.map D.str, [], .str comma, rfl, rfl, by unfold small; rw [List.length_map]; omega, ?_⟩⟩
        refine ⟨q, acc.map D.str ++ [.str comma], rfl, Own.last, ⟨r, acc.map D.str ++ [.str comma], [], g.map D.str, rfl, rfl, by unfold small; simp; omega, ⟨_, rfl, ?_⟩⟩⟩
        rw [ef]
        unfold stT
        rw [ha, if_neg (by decide), List.map_append, List.map_append]
        rfl
  · rintro δ r' ⟨kw, rfl, rfl⟩
    rw [List.length_map, List.take_length]
    refine ⟨q, (lkT gs).map D.str, r, [], rfl, rfl, ?_⟩
    rw [List.append_nil]
    exact fit.of h
abbrev N_row_text : List Str := ["row", "behind"]
theorem sc_row_text : FnScope N_row_text ["row"] (defScope s_row_text) := ⟨rfl, rfl, rfl, by decide +kernel, rfl, by decide +kernel, by decide +kernel⟩

theorem c_row_text (B : Bl mg) (C_looks_text : Cl P w K mg base 1 "looks_text" ["looks"] spLkText) (C_is_probe : Cl P w K mg base 1 "is_probe" ["row"] spIsProbe) (Dx : Dfn K mg "row_text" s_row_text ["row"]) : Cl P w K mg base 2 "row_text" ["row"] spLine := by
  have sc := sc_row_text
  refine cl_of Dx sc (fun ds r P' XR ⟨d, e, _⟩ => by rw [e]; rfl) (fun f cdv A outer s H E hr => ?_)
  have hu := hr.units
  have hi := u65 hr
  refine ⟨_, (ss_cons (s_if (b_not (b_tru (d_fn C_is_probe hr (dl_cons (dv 0) dl_nil))))
  (ss_one (s_ret (d_join d_str (d_ty c_list (by rfl) B.list (dl_cons (dv 0) dl_nil)))))
  ss_nil)
  (ss_cons (s_set (i := 1) sc.nd (d_if (b_cmp (p_eq hu) (d_ix (dv 0) d_int) d_str) (d_ix (dv 0) d_int) (d_fn C_looks_text hr (dl_cons (d_ix (dv 0) d_int) dl_nil))))
  (ss_one (s_ret (d_join d_str (d_lst (dl_cons (d_ix (dv 0) d_int) (dl_cons (d_ix (dv 0) d_int) (dl_cons (d_ix (dv 0) d_int) (dl_star (d_fn C_looks_text hr (dl_cons (d_ix (dv 0) d_int) dl_nil)) (dl_cons d_str (dl_star (dv 1) dl_nil)))))))))))), fun ds r P' XR h => ?_⟩
  obtain ⟨d, rfl, sh, h⟩ := h
  have jn : ∀ ws : List Str, Wd d ws → ws.length ≤ 60 → (∀ z ∈ ws, z.length ≤ 8) → oJoin (.str " ") (.lst (ws.map D.str)) fun d => fit P' d r := fun ws hw hl h8 => by
    refine join_l (strL_map ws) ?_ (fit.of (h ws hw hl h8))
    have := sum8 h8
    show (ws.map (·.length)).sum + ws.length * 1 ≤ 1000000
    omega
  have nm8 : ∀ {zs : List Str}, zs.all isNm = true → ∀ z ∈ zs, z.length ≤ 8 := fun q z m => isNm_len (List.all_eq_true.mp q z m)
  cases sh with
  | @reg w zs hl ha hp =>
    have hs : hasS ["probe", "assert"] w = false := by
      rw [Bool.or_eq_false_iff] at hp
      cases q : hasS ["probe", "assert"] w with
      | false => rfl
      | true =>
        have m : w = "probe" ∨ w = "assert" := by simpa using hasS_mem q
        rcases m with rfl | rfl
        · simp at hp
        · simp at hp
    refine ⟨w, zs.map D.str, rfl, ?_⟩
    refine brt (by show (!hasS ["probe", "assert"] w) = true; rw [hs]; rfl) ?_
    exact jn (w :: zs) (.reg hp) (by rw [List.length_cons]; omega) (nm8 ha)
  | @probe x g A Bd hx hg hA hB hl =>
    obtain ⟨ga, rfl, h1⟩ := looks_gs hA
    obtain ⟨gb, rfl, h2⟩ := looks_gs hB
    rw [List.length_map, List.length_map] at hl
    have la := lkT_len ga ga.length fun q m => (h1 q (List.mem_of_mem_take m)).2.1
    have lb := lkT_len gb gb.length fun q m => (h2 q (List.mem_of_mem_take m)).2.1
    rw [List.take_length] at la lb
    refine ⟨"probe", _, rfl, brF ?_⟩
    refine ix_t at0 ⟨Nat.zero_le _, Nat.zero_le _, ?_⟩
    refine brF (ix_t at4 ⟨gb, rfl, by omega, fun q m => (h2 q m).2.1, ?_⟩)
    refine ix_t at0 (ix_t at1 (ix_t at2 ?_))
    refine ix_t at3 ⟨ga, rfl, by omega, fun q m => (h1 q m).2.1, ?_⟩
    have n1 : isNm "probe" = true := by decide +kernel
    have em : D.str "probe" :: .str x :: .str g :: ((lkT ga).map D.str ++ (.str "/" :: ((lkT gb).map D.str ++ []))) = (([("probe" : Str), x, g] : List Str) ++ lkT ga ++ [slash] ++ (lkT gb)).map D.str := by
      simp [slash]
    show small (D.str "probe" :: .str x :: .str g :: ((lkT ga).map D.str ++ (.str "/" :: ((lkT gb).map D.str ++ [])))).length ∧ oJoin (.str " ") (.lst (D.str "probe" :: .str x :: .str g :: ((lkT ga).map D.str ++ (.str "/" :: ((lkT gb).map D.str ++ []))))) fun d => fit P' d r
    rw [em]
    refine ⟨by unfold small; simp; omega, ?_⟩
    refine jn _ .probe (by simp; omega) (fun z m => ?_)
    rcases List.mem_append.mp m with m | m
    · rcases List.mem_append.mp m with m | m
      · rcases List.mem_append.mp m with m | m
        · simp only [List.mem_cons, List.not_mem_nil, or_false] at m
          rcases m with rfl | rfl | rfl
          · exact isNm_len n1
          · exact isNm_len hx
          · exact isNm_len hg
        · have q := lkT_mem ga (fun z => z.length ≤ 8) (by decide) (fun q m z hz => nm8 (h1 q m).2.2 z hz) ga.length
          rw [List.take_length] at q
          exact q z m
      · rw [List.mem_singleton.mp m]; decide
    · have q := lkT_mem gb (fun z => z.length ≤ 8) (by decide) (fun q m z hz => nm8 (h2 q m).2.2 z hz) gb.length
      rw [List.take_length] at q
      exact q z m
  | @asrt x g A zs hx hg hA hl z1 z2 z3 =>
    obtain ⟨ga, rfl, h1⟩ := looks_gs hA
    rw [List.length_map] at hl
    have la := lkT_len ga ga.length fun q m => (h1 q (List.mem_of_mem_take m)).2.1
    rw [List.take_length] at la
    refine ⟨"assert", _, rfl, brF ?_⟩
    refine ix_t at0 ⟨Nat.zero_le _, Nat.zero_le _, ?_⟩
    refine brT (ix_t at4 ?_)
    refine ix_t at0 (ix_t at1 (ix_t at2 ?_))
    refine ix_t at3 ⟨ga, rfl, by omega, fun q m => (h1 q m).2.1, ?_⟩
    have n1 : isNm "assert" = true := by decide +kernel
    have em : D.str "assert" :: .str x :: .str g :: ((lkT ga).map D.str ++ (.str "/" :: (zs.map D.str ++ []))) = (([("assert" : Str), x, g] : List Str) ++ lkT ga ++ [slash] ++ zs).map D.str := by
      simp [slash]
    show small (D.str "assert" :: .str x :: .str g :: ((lkT ga).map D.str ++ (.str "/" :: (zs.map D.str ++ [])))).length ∧ oJoin (.str " ") (.lst (D.str "assert" :: .str x :: .str g :: ((lkT ga).map D.str ++ (.str "/" :: (zs.map D.str ++ []))))) fun d => fit P' d r
    rw [em]
    refine ⟨by unfold small; simp; omega, ?_⟩
    refine jn _ .asrt (by simp; omega) (fun z m => ?_)
    rcases List.mem_append.mp m with m | m
    · rcases List.mem_append.mp m with m | m
      · rcases List.mem_append.mp m with m | m
        · simp only [List.mem_cons, List.not_mem_nil, or_false] at m
          rcases m with rfl | rfl | rfl
          · exact isNm_len n1
          · exact isNm_len hx
          · exact isNm_len hg
        · have q := lkT_mem ga (fun z => z.length ≤ 8) (by decide) (fun q m z hz => nm8 (h1 q m).2.2 z hz) ga.length
          rw [List.take_length] at q
          exact q z m
      · rw [List.mem_singleton.mp m]; decide
    · exact nm8 z3 z m

/-! ### what is written is read -/
theorem split_join {ws : List Str} (h : ws ≠ []) (h32 : ∀ z ∈ ws, 32 ∉ tl z) : Txt.split (tJoin " " ws) " " = ws := by
  have e := split_tl (a := tJoin " " ws) (b := " ") (by decide +kernel)
  rw [tl_tJoin] at e
  have t : tl (" " : Str) = [32] := by decide
  rw [t, TL.spl_join (by simpa using h) (fun p m => by
    obtain ⟨z, hz, rfl⟩ := List.mem_map.mp m
    exact h32 z hz)] at e
  exact TL.map_tl_inj e
theorem nm_free {z : Str} (h : isNm z = true) : 32 ∉ tl z ∧ z ≠ comma ∧ z ≠ slash ∧ z ≠ "" := by
  unfold isNm isLet at h
  simp only [Bool.and_eq_true, decide_eq_true_eq, List.all_eq_true] at h
  have k : ∀ c ∈ tl z, 97 ≤ c := fun c m => (h.2 c m).1
  refine ⟨fun m => absurd (k 32 m) (by decide), fun e => ?_, fun e => ?_, fun e => ?_⟩
  · subst e
    exact absurd (k 44 (by decide)) (by decide)
  · subst e
    exact absurd (k 47 (by decide)) (by decide)
  · subst e
    exact absurd h.1.1 (by decide)
theorem stp_free (g : List Str) : ∀ (a : List (List Str)) (b : List Str), comma ∉ g → g.foldl stp (a, b) = (a, b ++ g) := by
  induction g with
  | nil => exact fun a b _ => by simp
  | cons z g ih =>
    intro a b h
    have hz : (z == ",") = false := by
      have : ¬ z = comma := fun e => h (e ▸ List.mem_cons_self)
      simpa [comma] using this
    rw [List.foldl_cons]
    have e : stp (a, b) z = (a, b ++ [z]) := by unfold stp; rw [hz]; rfl
    rw [e, ih _ _ fun m => h (List.mem_cons_of_mem _ m)]
    simp
def okG (g : List Str) : Prop := g ≠ [] ∧ comma ∉ g
theorem fld_app (a b : List Str) : fld (a ++ b) = b.foldl stp (fld a) := by
  unfold fld
  rw [List.foldl_append]
theorem fld_lkT (gs : List (List Str)) (g : List Str) (h : ∀ x ∈ gs ++ [g], okG x) : fld (lkT (gs ++ [g])) = (gs, g) ∧ lkT (gs ++ [g]) ≠ [] := by
  have hg := h g (by simp)
  have ne : lkT (gs ++ [g]) ≠ [] := by
    rw [lkT_snoc]
    unfold stT
    intro e
    exact hg.1 (List.append_eq_nil_iff.mp e).2
  refine ⟨?_, ne⟩
  rcases List.eq_nil_or_concat gs with e | ⟨gs2, g2, e⟩
  · subst e
    show fld (lkT [g]) = ([], g)
    have : lkT [g] = g := by simp [lkT, stT]
    rw [this]
    unfold fld
    rw [stp_free g [] [] hg.2]
    simp
  · have e : gs = gs2 ++ [g2] := by simpa using e
    have hl : gs2.length < gs.length := by rw [e]; simp
    obtain ⟨i1, i2⟩ := fld_lkT gs2 g2 fun x m => h x (by rw [e]; exact List.mem_append.mpr (.inl m))
    rw [← e] at i1 i2
    rw [lkT_snoc]
    unfold stT
    have : (lkT gs).isEmpty = false := by
      cases q : lkT gs with
      | nil => exact absurd q i2
      | cons _ _ => rfl
    rw [this, if_neg (by decide), List.append_assoc, fld_app, i1, List.foldl_append]
    have e2 : [comma].foldl stp (gs2, g2) = (gs2 ++ [g2], []) := rfl
    rw [e2, stp_free g _ _ hg.2, ← e]
    rfl
termination_by gs.length
theorem lksL_lkT {gs : List (List Str)} (hn : gs ≠ []) (h : ∀ x ∈ gs, okG x) : lksL (lkT gs) = gs ∧ lkT gs ≠ [] := by
  rcases List.eq_nil_or_concat gs with e | ⟨gs2, g2, e⟩
  · exact absurd e hn
  · have e : gs = gs2 ++ [g2] := by simpa using e
    obtain ⟨i1, i2⟩ := fld_lkT gs2 g2 fun x m => h x (e ▸ m)
    rw [← e] at i1 i2
    refine ⟨?_, i2⟩
    unfold lksL
    rw [fld_app, i1]
    show gs2 ++ [g2] = gs
    exact e.symm
theorem read_lkT {gs : List (List Str)} (h : ∀ x ∈ gs, okG x) (hl : ∀ x ∈ gs, isLookD (tS x) = true) : readLooks (lkT gs) = .tup (gs.map tS) := by
  by_cases hn : gs = []
  · subst hn
    rfl
  · obtain ⟨e, ne⟩ := lksL_lkT hn h
    have : (lkT gs).isEmpty = false := by
      cases q : lkT gs with
      | nil => exact absurd q ne
      | cons _ _ => rfl
    unfold readLooks
    rw [this, if_neg (by decide), e, if_pos]
    rw [List.all_eq_true]
    intro x m
    obtain ⟨g, hg, rfl⟩ := List.mem_map.mp m
    exact hl g hg
theorem names_ok {g : List Str} (h : g.all isNm = true) (h2 : 2 ≤ g.length) : okG g := by
  refine ⟨fun e => ?_, fun m => (nm_free (List.all_eq_true.mp h _ m)).2.1 rfl⟩
  subst e
  cases h2
theorem nosl {gs : List (List Str)} (h : ∀ x ∈ gs, x.all isNm = true) : slash ∉ lkT gs ∧ ∀ z ∈ lkT gs, 32 ∉ tl z := by
  have q := lkT_mem gs (fun z => z ≠ slash ∧ 32 ∉ tl z) ⟨by decide +kernel, by decide +kernel⟩ (fun g m z hz => ⟨(nm_free (List.all_eq_true.mp (h g m) z hz)).2.2.1, (nm_free (List.all_eq_true.mp (h g m) z hz)).1⟩) gs.length
  rw [List.take_length] at q
  exact ⟨fun m => (q _ m).1 rfl, fun z m => (q z m).2⟩
theorem tS_inj {a b : List Str} (h : tS a = tS b) : a = b := by
  unfold tS at h
  injection h with h
  exact List.map_inj_right (f := D.str) (fun x y e => by injection e) |>.mp h
theorem tSs_inj {a b : List (List Str)} (h : a.map tS = b.map tS) : a = b := List.map_inj_right (f := tS) (fun x y e => tS_inj e) |>.mp h
theorem Wd.fn {d : D} {a b : List Str} (h : Wd d a) (g : Wd d b) : a = b := by
  cases h with
  | @reg w zs hw =>
    generalize hd : tS (w :: zs) = d at g
    cases g with
    | reg _ => exact tS_inj hd
    | probe =>
      have : w = "probe" := by
        injection hd with hd
        injection hd with h1 h2
        injection h1
      subst this
      simp at hw
    | asrt =>
      have : w = "assert" := by
        injection hd with hd
        injection hd with h1 h2
        injection h1
      subst this
      simp at hw
  | @probe x g0 A Bd =>
    generalize hd : D.tup [.str "probe", .str x, .str g0, .tup (A.map tS), .tup (Bd.map tS)] = d at g
    cases g with
    | @reg w zs hw =>
      have : "probe" = w := by
        injection hd with hd
        injection hd with h1 h2
        injection h1
      subst this
      simp at hw
    | probe =>
      injection hd with hd
      simp only [List.cons.injEq, D.str.injEq, D.tup.injEq, and_true, true_and] at hd
      obtain ⟨rfl, rfl, h3, h4⟩ := hd
      rw [tSs_inj h3, tSs_inj h4]
    | asrt =>
      injection hd with hd
      injection hd with h1 h2
      injection h1 with h1
      exact absurd h1 (by decide +kernel)
  | @asrt x g0 A zs =>
    generalize hd : D.tup [.str "assert", .str x, .str g0, .tup (A.map tS), tS zs] = d at g
    cases g with
    | @reg w zs hw =>
      have : "assert" = w := by
        injection hd with hd
        injection hd with h1 h2
        injection h1
      subst this
      simp at hw
    | probe =>
      injection hd with hd
      injection hd with h1 h2
      injection h1 with h1
      exact absurd h1 (by decide +kernel)
    | asrt =>
      injection hd with hd
      simp only [List.cons.injEq, D.str.injEq, D.tup.injEq, and_true, true_and] at hd
      obtain ⟨rfl, rfl, h3, h4⟩ := hd
      rw [tSs_inj h3, tS_inj h4]
theorem looks_ok {A : List D} (h : ∀ d ∈ A, GLook d) : ∃ gs : List (List Str), A = gs.map tS ∧ (∀ g ∈ gs, 2 ≤ g.length ∧ g.length ≤ 3 ∧ g.all isNm = true) ∧ ∀ g ∈ gs, isLookD (tS g) = true := by
  obtain ⟨gs, e, h1⟩ := looks_gs h
  exact ⟨gs, e, h1, fun g m => (h (tS g) (e ▸ List.mem_map_of_mem m)).look⟩
theorem okRow_yes {d : D} (h : isRowD d = true) : okRow d = d := by
  unfold okRow
  rw [h]
  rfl
/-- what a row's line is read as -/
theorem row_back {d : D} (h : GRow d) : ∃ ws, Wd d ws ∧ ws.length ≤ 60 ∧ (∀ z ∈ ws, z.length ≤ 8) ∧ ws ≠ [] ∧ (∀ z ∈ ws, 32 ∉ tl z) ∧ resR readLooks ws = d := by
  have hr := h.row
  have sh := h.sh
  clear h
  cases sh with
  | @reg w zs hl ha hp =>
    refine ⟨w :: zs, .reg hp, by rw [List.length_cons]; omega, fun z m => isNm_len (List.all_eq_true.mp ha z m), by simp, fun z m => (nm_free (List.all_eq_true.mp ha z m)).1, ?_⟩
    have hs : hasS ["probe", "assert"] w = false := by
      rw [Bool.or_eq_false_iff] at hp
      cases q : hasS ["probe", "assert"] w with
      | false => rfl
      | true =>
        have m : w = "probe" ∨ w = "assert" := by simpa using hasS_mem q
        rcases m with rfl | rfl
        · simp at hp
        · simp at hp
    show (if hasS ["probe", "assert"] w = true then resW readLooks (w :: zs) else okRow (tS (w :: zs))) = tS (w :: zs)
    rw [hs, if_neg (by decide), okRow_yes hr]
  | @probe x g A Bd hx hg hA hB hl =>
    obtain ⟨ga, rfl, h1, k1⟩ := looks_ok hA
    obtain ⟨gb, rfl, h2, k2⟩ := looks_ok hB
    rw [List.length_map, List.length_map] at hl
    have la := lkT_len ga ga.length fun q m => (h1 q (List.mem_of_mem_take m)).2.1
    have lb := lkT_len gb gb.length fun q m => (h2 q (List.mem_of_mem_take m)).2.1
    rw [List.take_length] at la lb
    obtain ⟨na, sa⟩ := nosl fun q m => (h1 q m).2.2
    obtain ⟨nb, sb⟩ := nosl fun q m => (h2 q m).2.2
    have n1 : isNm "probe" = true := by decide +kernel
    have nm3 : ∀ z ∈ ([("probe" : Str), x, g] : List Str), isNm z = true := by
      intro z m
      simp only [List.mem_cons, List.not_mem_nil, or_false] at m
      rcases m with rfl | rfl | rfl <;> assumption
    have nm8 : ∀ {zs : List Str}, zs.all isNm = true → ∀ z ∈ zs, z.length ≤ 8 := fun q z m => isNm_len (List.all_eq_true.mp q z m)
    refine ⟨_, .probe, by simp; omega, ?_, by simp, ?_, ?_⟩
    · intro z m
      rcases List.mem_append.mp m with m | m
      · rcases List.mem_append.mp m with m | m
        · rcases List.mem_append.mp m with m | m
          · exact isNm_len (nm3 z m)
          · have q := lkT_mem ga (fun z => z.length ≤ 8) (by decide) (fun q m z hz => nm8 (h1 q m).2.2 z hz) ga.length
            rw [List.take_length] at q
            exact q z m
        · rw [List.mem_singleton.mp m]; decide
      · have q := lkT_mem gb (fun z => z.length ≤ 8) (by decide) (fun q m z hz => nm8 (h2 q m).2.2 z hz) gb.length
        rw [List.take_length] at q
        exact q z m
    · intro z m
      rcases List.mem_append.mp m with m | m
      · rcases List.mem_append.mp m with m | m
        · rcases List.mem_append.mp m with m | m
          · exact (nm_free (nm3 z m)).1
          · exact sa z m
        · rw [List.mem_singleton.mp m]; decide +kernel
      · exact sb z m
    · have e : ([("probe" : Str), x, g] : List Str) ++ lkT ga ++ [slash] ++ lkT gb = (("probe" : Str) :: x :: g :: lkT ga) ++ slash :: lkT gb := by simp
      rw [e]
      show resW readLooks (((("probe" : Str) :: x :: g :: lkT ga) ++ slash :: lkT gb)) = _
      rw [resW_at (fun m => ?_) nb]
      · show okRow (rd readLooks "probe" x g (lkT ga) (lkT gb)) = _
        have e2 : rd readLooks "probe" x g (lkT ga) (lkT gb) = .tup [.str "probe", .str x, .str g, .tup (ga.map tS), .tup (gb.map tS)] := by
          unfold rd
          have : (("probe" : Str) == "assert") = false := by decide +kernel
          rw [this, if_neg (by decide), read_lkT (fun q m => names_ok (h1 q m).2.2 (h1 q m).1) k1, read_lkT (fun q m => names_ok (h2 q m).2.2 (h2 q m).1) k2]
        rw [e2, okRow_yes hr]
      · have m2 : slash ∈ ([("probe" : Str), x, g] : List Str) ++ lkT ga := m
        rcases List.mem_append.mp m2 with m | m
        · exact (nm_free (nm3 _ m)).2.2.1 rfl
        · exact na m
  | @asrt x g A zs hx hg hA hl z1 z2 z3 =>
    obtain ⟨ga, rfl, h1, k1⟩ := looks_ok hA
    rw [List.length_map] at hl
    have la := lkT_len ga ga.length fun q m => (h1 q (List.mem_of_mem_take m)).2.1
    rw [List.take_length] at la
    obtain ⟨na, sa⟩ := nosl fun q m => (h1 q m).2.2
    have n1 : isNm "assert" = true := by decide +kernel
    have nm3 : ∀ z ∈ ([("assert" : Str), x, g] : List Str), isNm z = true := by
      intro z m
      simp only [List.mem_cons, List.not_mem_nil, or_false] at m
      rcases m with rfl | rfl | rfl <;> assumption
    have nm8 : ∀ {zs : List Str}, zs.all isNm = true → ∀ z ∈ zs, z.length ≤ 8 := fun q z m => isNm_len (List.all_eq_true.mp q z m)
    have nz : ∀ z ∈ zs, isNm z = true := List.all_eq_true.mp z3
    refine ⟨_, .asrt, by simp; omega, ?_, by simp, ?_, ?_⟩
    · intro z m
      rcases List.mem_append.mp m with m | m
      · rcases List.mem_append.mp m with m | m
        · rcases List.mem_append.mp m with m | m
          · exact isNm_len (nm3 z m)
          · have q := lkT_mem ga (fun z => z.length ≤ 8) (by decide) (fun q m z hz => nm8 (h1 q m).2.2 z hz) ga.length
            rw [List.take_length] at q
            exact q z m
        · rw [List.mem_singleton.mp m]; decide
      · exact isNm_len (nz z m)
    · intro z m
      rcases List.mem_append.mp m with m | m
      · rcases List.mem_append.mp m with m | m
        · rcases List.mem_append.mp m with m | m
          · exact (nm_free (nm3 z m)).1
          · exact sa z m
        · rw [List.mem_singleton.mp m]; decide +kernel
      · exact (nm_free (nz z m)).1
    · have e : ([("assert" : Str), x, g] : List Str) ++ lkT ga ++ [slash] ++ zs = (("assert" : Str) :: x :: g :: lkT ga) ++ slash :: zs := by simp
      rw [e]
      show resW readLooks ((("assert" : Str) :: x :: g :: lkT ga) ++ slash :: zs) = _
      rw [resW_at (fun m => ?_) (fun m => (nm_free (nz _ m)).2.2.1 rfl)]
      · show okRow (rd readLooks "assert" x g (lkT ga) zs) = _
        have e2 : rd readLooks "assert" x g (lkT ga) zs = .tup [.str "assert", .str x, .str g, .tup (ga.map tS), tS zs] := by
          unfold rd
          have : (("assert" : Str) == "assert") = true := by decide +kernel
          rw [this, if_pos rfl, read_lkT (fun q m => names_ok (h1 q m).2.2 (h1 q m).1) k1]
        rw [e2, okRow_yes hr]
      · have m2 : slash ∈ ([("assert" : Str), x, g] : List Str) ++ lkT ga := m
        rcases List.mem_append.mp m2 with m | m
        · exact (nm_free (nm3 _ m)).2.2.1 rfl
        · exact na m
/-! ### == of data of texts alone -/
mutual
def txD : D → Bool
  | .str _ => true
  | .tup ds => txDs ds
  | _ => false
def txDs : List D → Bool
  | [] => true
  | d :: ds => txD d && txDs ds
end
mutual
theorem eqD_tx : ∀ a b : D, txD a = true → txD b = true → (eqD a b = true ↔ a = b)
  | .str x, .str y, _, _ => by rw [eqD_str]; simp
  | .str x, .tup ys, _, _ => by
    show (PyData.eqv (py (.str x)) (py (.tup ys)) = true) ↔ _
    simp [py, PyData.eqv]
  | .tup xs, .str y, _, _ => by
    show (PyData.eqv (py (.tup xs)) (py (.str y)) = true) ↔ _
    simp [py, PyData.eqv]
  | .tup xs, .tup ys, h, g => by
    show (PyData.eqv (py (.tup xs)) (py (.tup ys)) = true) ↔ _
    simp only [py, PyData.eqv, D.tup.injEq]
    exact eqD_txs xs ys h g
  | .non, _, h, _ => by cases h
  | .bl _, _, h, _ => by cases h
  | .int _, _, h, _ => by cases h
  | .adr _, _, h, _ => by cases h
  | .lst _, _, h, _ => by cases h
  | .str _, .non, _, h => by cases h
  | .str _, .bl _, _, h => by cases h
  | .str _, .int _, _, h => by cases h
  | .str _, .adr _, _, h => by cases h
  | .str _, .lst _, _, h => by cases h
  | .tup _, .non, _, h => by cases h
  | .tup _, .bl _, _, h => by cases h
  | .tup _, .int _, _, h => by cases h
  | .tup _, .adr _, _, h => by cases h
  | .tup _, .lst _, _, h => by cases h
theorem eqD_txs : ∀ a b : List D, txDs a = true → txDs b = true → (PyData.eqvAll (pys a) (pys b) = true ↔ a = b)
  | [], [], _, _ => by simp [pys, PyData.eqvAll]
  | [], _ :: _, _, _ => by simp [pys, PyData.eqvAll]
  | _ :: _, [], _, _ => by simp [pys, PyData.eqvAll]
  | x :: xs, y :: ys, h, g => by
    simp only [txDs, Bool.and_eq_true] at h g
    simp only [pys, PyData.eqvAll, Bool.and_eq_true, List.cons.injEq]
    exact and_congr (eqD_tx x y h.1 g.1) (eqD_txs xs ys h.2 g.2)
end
theorem txDs_of : ∀ {ds : List D}, (∀ d ∈ ds, txD d = true) → txDs ds = true
  | [], _ => rfl
  | a :: as, h => by
    simp only [txDs, Bool.and_eq_true]
    exact ⟨h a List.mem_cons_self, txDs_of fun d m => h d (List.mem_cons_of_mem _ m)⟩
theorem txD_tS (zs : List Str) : txD (tS zs) = true := txDs_of fun d m => by
  obtain ⟨z, _, rfl⟩ := List.mem_map.mp m
  rfl
theorem txD_wd {d : D} {ws : List Str} (h : Wd d ws) : txD d = true := by
  have k : ∀ gs : List (List Str), txD (.tup (gs.map tS)) = true := fun gs => txDs_of fun d m => by
    obtain ⟨z, _, rfl⟩ := List.mem_map.mp m
    exact txD_tS z
  cases h with
  | reg _ => exact txD_tS _
  | @probe x g A Bd =>
    have a1 := k A
    have a2 := k Bd
    simp only [txD, txDs, Bool.and_true, Bool.true_and, Bool.and_eq_true] at a1 a2 ⊢
    exact ⟨a1, a2⟩
  | @asrt x g A zs =>
    have a1 := k A
    have a2 := txD_tS zs
    simp only [txD, txDs, Bool.and_true, Bool.true_and, Bool.and_eq_true, tS] at a1 a2 ⊢
    exact ⟨a1, a2⟩
/-- a row and its line -/
def RL (d : D) (z : Str) : Prop := ∃ ws, GRow d ∧ Wd d ws ∧ z = tJoin " " ws ∧ Txt.split z " " = ws ∧ resR readLooks ws = d
theorem RL.eq {d e : D} {y z : Str} (h : RL d y) (g : RL e z) : eqD d e = (y == z) := by
  obtain ⟨ws, _, w1, e1, s1, r1⟩ := h
  obtain ⟨vs, _, w2, e2, s2, r2⟩ := g
  have q := eqD_tx d e (txD_wd w1) (txD_wd w2)
  by_cases c : y = z
  · subst c
    have : d = e := by rw [← r1, ← r2, ← s1, ← s2]
    rw [q.mpr this]
    simp
  · have : ¬ d = e := fun z0 => by
      subst z0
      exact c (by rw [e1, e2, w1.fn w2])
    have f : eqD d e = false := by
      cases p : eqD d e with
      | true => exact absurd (q.mp p) this
      | false => rfl
    rw [f]
    simpa using c

def spBentL : SpX := fun ds r P _ => ∃ p a N X z, ds = [.adr p, .str z] ∧ r = poolA p a N :: X ∧ N < 1000000000 ∧ z.length ≤ 800 ∧ ∀ y : Str, y.length ≤ z.length + 20 → P (.str y) (poolA p a (N + 100) :: X)
/-- words' signs and gaps -/
def tot (ws : List Str) : Nat := (ws.map (·.length)).sum + ws.length
theorem tot_split (z : Str) : tot (Txt.split z " ") ≤ z.length + 1 := by
  have h := split_tl (a := z) (b := " ") (by decide +kernel)
  have key : ∀ (l : List Nat) (k : Nat) (acc : List Nat), ((TL.spl (tl " ") k acc l).map List.length).sum + (TL.spl (tl " ") k acc l).length ≤ acc.length + l.length + 1 := by
    intro l
    induction l with
    | nil => intro k acc; rw [TL.spl_nil]; simp
    | cons c l ih =>
      intro k acc
      cases k with
      | zero =>
        cases q : TL.pre (tl " ") (c :: l) with
        | true =>
          rw [TL.spl_hit q]
          have := ih ((tl " ").length - 1) []
          simp only [List.map_cons, List.sum_cons, List.length_cons, List.length_nil] at this ⊢
          omega
        | false =>
          rw [TL.spl_miss q]
          have := ih 0 (acc ++ [c])
          simp only [List.length_append, List.length_cons, List.length_nil] at this ⊢
          omega
      | succ k =>
        have := ih k acc
        simp only [List.length_cons]
        have e : TL.spl (tl " ") (k + 1) acc (c :: l) = TL.spl (tl " ") k acc l := rfl
        rw [e]
        omega
  have k0 := key (tl z) 0 []
  rw [← h, tl_len] at k0
  unfold tot
  rw [len_tl]
  simp only [List.length_map, List.length_nil] at k0
  omega
theorem join_len (ws : List Str) : (tJoin " " ws).length ≤ tot ws := by
  have := joinL_len (S := tl " ") (ps := ws.map tl)
  rw [tl_len, List.length_map] at this
  rw [len_tl, tl_tJoin]
  have e : (tl " ").length = 1 := by decide
  unfold tot
  rw [e] at this
  omega
theorem tot_set {v o : Str} : ∀ {ys : List Str} {m : Nat}, ys[m]? = some o → tot (ys.set m v) + o.length = tot ys + v.length
  | [], m, h => by simp at h
  | w :: ys, 0, h => by
    simp at h
    subst h
    unfold tot
    simp only [List.set_cons_zero, List.map_cons, List.sum_cons, List.length_cons]
    omega
  | w :: ys, m + 1, h => by
    have ih := tot_set (v := v) (ys := ys) (m := m) (by simpa using h)
    unfold tot at ih ⊢
    simp only [List.set_cons_succ, List.map_cons, List.sum_cons, List.length_cons] at ih ⊢
    omega
theorem tot_app (a b : List Str) : tot (a ++ b) = tot a + tot b := by
  unfold tot
  rw [List.map_append, List.sum_append, List.length_append]
  omega
theorem tot_ins (ys : List Str) (m : Nat) (v : Str) : tot (ys.take m ++ [v] ++ ys.drop m) = tot ys + v.length + 1 := by
  have e : tot ys = tot (ys.take m) + tot (ys.drop m) := by rw [← tot_app, List.take_append_drop]
  rw [tot_app, tot_app, e]
  have : tot [v] = v.length + 1 := by simp [tot]
  omega
theorem tot_erase : ∀ (ys : List Str) (m : Nat), tot (ys.eraseIdx m) ≤ tot ys
  | [], m => by simp
  | w :: ys, 0 => by
    simp only [List.eraseIdx_cons_zero]
    unfold tot
    simp only [List.map_cons, List.sum_cons, List.length_cons]
    omega
  | w :: ys, m + 1 => by
    have ih := tot_erase ys m
    simp only [List.eraseIdx_cons_succ]
    unfold tot at ih ⊢
    simp only [List.map_cons, List.sum_cons, List.length_cons]
    omega
theorem map_erase {f : Str → D} : ∀ (ys : List Str) (m : Nat), (ys.eraseIdx m).map f = (ys.map f).eraseIdx m
  | [], _ => rfl
  | _ :: _, 0 => rfl
  | w :: ys, m + 1 => by
    simp only [List.eraseIdx_cons_succ, List.map_cons]
    rw [map_erase ys m]
theorem cut_at {z : Str} {k : Nat} : (cutS z none (some (k : Int))).length ≤ min k z.length ∧ (cutS z (some (k : Int)) none).length ≤ z.length - k := by
  have e : z.cps.toList.length = z.length := by simp [Str.length]
  constructor
  · show (((z.cps.toList.drop (HT.sIx z.length 0 none)).take (HT.sIx z.length z.length (some (k : Int)) - HT.sIx z.length 0 none)).toArray).size ≤ _
    rw [List.size_toArray, List.length_take, HT.sIx_nat, HT.sIx_none]
    omega
  · show (((z.cps.toList.drop (HT.sIx z.length 0 (some (k : Int)))).take (HT.sIx z.length z.length none - HT.sIx z.length 0 (some (k : Int)))).toArray).size ≤ _
    rw [List.size_toArray, List.length_take, List.length_drop, HT.sIx_nat, HT.sIx_none, e]
    omega

theorem same_bl2 {a c : D} (h1 : a = c) (h : G.plain c = true) : (!G.same a c) = false := by
  rw [h1, same_refl _ h]
  rfl
abbrev N_law : List Str := ["_law_script", "_law_pool_here", "_law_seen", "_law_turn", "_law_row", "_law_line_here", "_law_other", "_law_heard"]
theorem sc_law : FnScope N_law ["_law_script"] (defScope s_law) := ⟨rfl, rfl, rfl, by decide +kernel, rfl, by decide +kernel, by decide +kernel⟩

theorem ok_law {fl fp : Addr} {fd fdp : FuncData} (F : Fun K "law" "law" s_law fl fd) (GP : FnOk P w K mg base CX0 1 fp fdp ["_law_script"] (spPool K)) (gP : mg "_law_pool" = some (.ref fp)) (kP : PySem.W.keepIn K (.ref fp) = true) (bP : Binds K fdp ["_law_script"] [])
    (C__law_draw : Cl P w K mg base 1 "_law_draw" ["_law_pool_here", "_law_many"] spDraw) (C__law_same : Cl P w K mg base 4 "_law_same" ["_law_actual", "_law_due"] (spSame 4)) (C_read_row : Cl P w K mg base 9 "read_row" ["line"] spReadR) (C_row_text : Cl P w K mg base 2 "row_text" ["row"] spLine)
    (C__law_line : Cl P w K mg base 2 "_law_line" ["_law_row"] spLine)
    (C__law_free_row : Cl P w K mg base 5 "_law_free_row" ["_law_pool_here"] spFreeRow) (B : Bl mg) :
    FnOk P w K mg base CX0 11 fl fd ["_law_script"] (spLaw K) := by
  have sc := sc_law
  refine F.ok sc (fun vs H Q E h => ?_) (fun cdv A outer s H vs Q E hr h => ?_)
  · obtain ⟨a, ns, rfl, _⟩ := h
    rfl
  obtain ⟨a, ns, rfl, hS, hl, hQ⟩ := h
  have hu := hr.units
  have hi := u65 hr
  refine ⟨_, pss_cons (ps_set (i := 1) sc.nd rfl (.inl rfl) (pe_call GP (hr.mono (by decide)) (by rfl) gP kP bP .nil pass0 (pa_cons (pv 0) pa_nil))) ((ss_cons (s_set (i := 2) sc.nd (d_lstO dl_nil))
  (ss_cons (s_for (i_r1 (by rfl) B.range (dl_cons d_int dl_nil)) (g_name (i := 3) sc.nd)
  (ss_cons (s_set (i := 4) sc.nd (d_fn C__law_free_row hr (dl_cons (dv 1) dl_nil)))
  (ss_cons (s_set (i := 5) sc.nd (d_fn C__law_line hr (dl_cons (dv 4) dl_nil)))
  (ss_cons (s_if (b_w (w_or (b_not (b_tru (d_fn C__law_same hr (dl_cons (d_fn C_row_text hr (dl_cons (dv 4) dl_nil)) (dl_cons (dv 5) dl_nil))))) (w_or1 (b_not (b_tru (d_fn C__law_same hr (dl_cons (d_fn C_read_row hr (dl_cons (dv 5) dl_nil)) (dl_cons (dv 4) dl_nil))))))))
  (ss_one (s_ret d_bl))
  ss_nil)
  (ss_cons (s_expr (d_app (dv 2) (dl_cons (d_tup (dl_cons (dv 4) (dl_cons (d_fn C_row_text hr (dl_cons (dv 4) dl_nil)) dl_nil))) dl_nil)))
  (ss_cons (s_tup (is := [6, 7]) (d_ixO (dv 2) (d_fn C__law_draw hr (dl_cons (dv 1) (dl_cons (d_blt2 c_lenO (by rfl) B.len (dl_cons (dv 2) dl_nil)) dl_nil)))) (pgs_n (i := 6) sc.nd (pgs_n (i := 7) sc.nd pgs_nil)))
  (ss_one (s_if (b_cmp (p_ne hu) (d_cmp (p_eq hu) (dv 4) (dv 6)) (d_cmp (p_eq hu) (d_ix (d_ixO (dv 2) (d_neg d_int)) d_int) (dv 7)))
  (ss_one (s_ret d_bl))
  ss_nil))))))) PassesOwn.never)
  (ss_one (s_ret d_bl)))) : PBD _ E0 _ _), ?_⟩
  refine ⟨_, rfl, a, ns, rfl, hS, hl, fun p a' H' ro => law_go ro hQ ?_⟩
  refine ⟨Nat.le_of_ble_eq_true rfl, fun q => ?_⟩
  refine ⟨⟨by decide, by decide⟩, fun i δ r => (∃ d3 d4 d5 d6 d7, δ = [none, some (.adr p), some (.adr q), d3, d4, d5, d6, d7]) ∧ ∃ m xs, m ≤ i * 2000 ∧ r = [poolA p a' m, lstA q xs] ∧ xs.length = i ∧ ∀ e ∈ xs, ∃ d z, e = .tup [d, .str z] ∧ RL d z, ⟨⟨_, _, _, _, _, rfl⟩, 0, [], Nat.le_refl _, rfl, rfl, fun _ h => (by cases h)⟩, ?_, fun δ r _ => rfl⟩
  rintro i d δ r hd ⟨⟨d3, d4, d5, d6, d7, rfl⟩, m, xs, hm0, rfl, hxl, hxs⟩
  have hi30 : i < 30 := by
    have := (List.getElem?_eq_some_iff.mp hd).1
    simpa using this
  refine ⟨p, a', m, [lstA q xs], rfl, rfl, by omega, fun row gr => ?_⟩
  obtain ⟨ws, hw, hl60, h8, hne, h32, hb⟩ := row_back gr
  have only : ∀ ws2, Wd row ws2 → ws2 = ws := fun ws2 h2 => h2.fn hw
  refine ⟨row, rfl, gr.sh, fun ws2 hw2 _ _ => ?_⟩
  obtain rfl := only ws2 hw2
  have l0 : (tJoin " " ws2).length ≤ 900 := by
    have h1 := join_len ws2
    have h3 := sum8 h8
    unfold tot at h1
    omega
  have hz : RL row (tJoin " " ws2) := ⟨ws2, gr, hw, rfl, split_join hne h32, hb⟩
  have dr : dep row ≤ 3 := by
    have := gd_dep gr.gd
    omega
  refine ⟨row, rfl, gr.sh, fun ws3 hw3 _ _ => ?_⟩
  obtain rfl := only ws3 hw3
  refine ⟨_, _, rfl, rfl, rfl, Nat.zero_le _, Nat.zero_lt_succ _, ?_⟩
  refine brf (same_bl2 rfl rfl) ?_
  refine ⟨_, rfl, l0, ⟨_, _, rfl, ?_, gr.pl, ?_, by omega, ?_⟩⟩
  · rw [split_join hne h32, hb]; exact gr.pl
  · rw [split_join hne h32, hb]; omega
  refine brf (same_bl2 (by rw [split_join hne h32]; exact hb) gr.pl) ?_
  refine ⟨q, xs, rfl, ⟨[_], [], rfl⟩, row, rfl, gr.sh, fun ws4 hw4 _ _ => ?_⟩
  obtain rfl := only ws4 hw4
  refine ⟨Nat.le_of_ble_eq_true rfl, ⟨[poolA p a' (m + 1000)], xs, [], _, rfl, rfl, by unfold small; omega, ?_⟩⟩
  generalize tJoin " " ws4 = z at *
  have hys : ∀ e ∈ xs ++ [D.tup [row, .str z]], ∃ d z, e = .tup [d, .str z] ∧ RL d z := fun e he => by
    rcases List.mem_append.mp he with he | he
    · exact hxs e he
    · rw [List.mem_singleton.mp he]
      exact ⟨row, z, rfl, hz⟩
  have hyl : (xs ++ [D.tup [row, .str z]]).length = i + 1 := by simp [hxl]
  have en : atI (xs ++ [D.tup [row, .str z]]) (-1) = some (.tup [row, .str z]) := L2.atI_last _ _
  generalize xs ++ [D.tup [row, .str z]] = ys at *
  refine ⟨q, ys, rfl, ⟨[_], [], rfl⟩, fun _ => ?_⟩
  refine ⟨p, a', _, m + 1000, [lstA q ys], rfl, rfl, ⟨by omega, by omega⟩, by omega, fun k k0 k1 => ?_⟩
  obtain ⟨k, rfl⟩ : ∃ k' : Nat, k = k' := ⟨k.toNat, by omega⟩
  have hk : k < ys.length := by omega
  obtain ⟨e, he⟩ : ∃ e, ys[k]? = some e := ⟨ys[k], by simp⟩
  obtain ⟨d2, z2, rfl, h2⟩ := hys e (List.mem_of_getElem? he)
  refine ⟨⟨q, ys, k, _, rfl, rfl, ⟨[_], [], rfl⟩, L2.atI_nat he, rfl, ?_⟩⟩
  have dr2 : dep d2 ≤ 64 := by
    obtain ⟨_, g2, _⟩ := h2
    have := gd_dep g2.gd
    omega
  refine ⟨by omega, dr2, ?_⟩
  refine ⟨⟨q, ys, -1, _, rfl, rfl, ⟨[_], [], rfl⟩, en, ix_t at1 ?_⟩⟩
  refine ⟨Nat.zero_le _, Nat.zero_le _, ⟨Nat.zero_le _, Nat.zero_le _, ?_⟩⟩
  have fin : (!eqD (.bl (eqD row d2)) (.bl (eqD (.str z) (.str z2)))) = false := by
    rw [eqD_bl, hz.eq h2, eqD_str]
    simp
  exact brf fin ⟨⟨_, _, _, _, _, rfl⟩, _, ys, by omega, rfl, hyl, hys⟩

end
theorem all_mk {l : PySem.W.OpenLaw} {w : World} {K : PySem.W.Frag} {h : Heap} {mg : Str → Option Value} {fa : Addr} (X : K.In h) (G : h.Ns mainGlobals mg) (hfa : mg "law" = some (.ref fa))
    {f0 : Addr} {oc0 kV0 dc0 pm0 cd0 ct0 : Value} {od0 an0 : Option Addr} {sl0 : Array (Option Value)}
    {f1 : Addr} {oc1 kV1 dc1 pm1 cd1 ct1 : Value} {od1 an1 : Option Addr} {sl1 : Array (Option Value)}
    {f2 : Addr} {oc2 kV2 dc2 pm2 cd2 ct2 : Value} {od2 an2 : Option Addr} {sl2 : Array (Option Value)}
    {f3 : Addr} {oc3 kV3 dc3 pm3 cd3 ct3 : Value} {od3 an3 : Option Addr} {sl3 : Array (Option Value)}
    {f4 : Addr} {oc4 kV4 dc4 pm4 cd4 ct4 : Value} {od4 an4 : Option Addr} {sl4 : Array (Option Value)}
    {f5 : Addr} {oc5 kV5 dc5 pm5 cd5 ct5 : Value} {od5 an5 : Option Addr} {sl5 : Array (Option Value)}
    {f6 : Addr} {oc6 kV6 dc6 pm6 cd6 ct6 : Value} {od6 an6 : Option Addr} {sl6 : Array (Option Value)}
    {f7 : Addr} {oc7 kV7 dc7 pm7 cd7 ct7 : Value} {od7 an7 : Option Addr} {sl7 : Array (Option Value)}
    {f8 : Addr} {oc8 kV8 dc8 pm8 cd8 ct8 : Value} {od8 an8 : Option Addr} {sl8 : Array (Option Value)}
    {f9 : Addr} {oc9 kV9 dc9 pm9 cd9 ct9 : Value} {od9 an9 : Option Addr} {sl9 : Array (Option Value)}
    {f10 : Addr} {oc10 kV10 dc10 pm10 cd10 ct10 : Value} {od10 an10 : Option Addr} {sl10 : Array (Option Value)}
    {f11 : Addr} {oc11 kV11 dc11 pm11 cd11 ct11 : Value} {od11 an11 : Option Addr} {sl11 : Array (Option Value)}
    {f12 : Addr} {oc12 kV12 dc12 pm12 cd12 ct12 : Value} {od12 an12 : Option Addr} {sl12 : Array (Option Value)}
    {f13 : Addr} {oc13 kV13 dc13 pm13 cd13 ct13 : Value} {od13 an13 : Option Addr} {sl13 : Array (Option Value)}
    {f14 : Addr} {oc14 kV14 dc14 pm14 cd14 ct14 : Value} {od14 an14 : Option Addr} {sl14 : Array (Option Value)}
    {f15 : Addr} {oc15 kV15 dc15 pm15 cd15 ct15 : Value} {od15 an15 : Option Addr} {sl15 : Array (Option Value)}
    {f16 : Addr} {oc16 kV16 dc16 pm16 cd16 ct16 : Value} {od16 an16 : Option Addr} {sl16 : Array (Option Value)}
    {f17 : Addr} {oc17 kV17 dc17 pm17 cd17 ct17 : Value} {od17 an17 : Option Addr} {sl17 : Array (Option Value)}
    {f18 : Addr} {oc18 kV18 dc18 pm18 cd18 ct18 : Value} {od18 an18 : Option Addr} {sl18 : Array (Option Value)}
    {f19 : Addr} {oc19 kV19 dc19 pm19 cd19 ct19 : Value} {od19 an19 : Option Addr} {sl19 : Array (Option Value)}
    {f20 : Addr} {oc20 kV20 dc20 pm20 cd20 ct20 : Value} {od20 an20 : Option Addr} {sl20 : Array (Option Value)}
    {f21 : Addr} {oc21 kV21 dc21 pm21 cd21 ct21 : Value} {od21 an21 : Option Addr} {sl21 : Array (Option Value)}
    {f22 : Addr} {oc22 kV22 dc22 pm22 cd22 ct22 : Value} {od22 an22 : Option Addr} {sl22 : Array (Option Value)}
    {f23 : Addr} {oc23 kV23 dc23 pm23 cd23 ct23 : Value} {od23 an23 : Option Addr} {sl23 : Array (Option Value)}
    {f24 : Addr} {oc24 kV24 dc24 pm24 cd24 ct24 : Value} {od24 an24 : Option Addr} {sl24 : Array (Option Value)}
    {f25 : Addr} {oc25 kV25 dc25 pm25 cd25 ct25 : Value} {od25 an25 : Option Addr} {sl25 : Array (Option Value)}
    {f26 : Addr} {oc26 kV26 dc26 pm26 cd26 ct26 : Value} {od26 an26 : Option Addr} {sl26 : Array (Option Value)}
    {f27 : Addr} {oc27 kV27 dc27 pm27 cd27 ct27 : Value} {od27 an27 : Option Addr} {sl27 : Array (Option Value)}
    {st_LETTERS : Tok}
    {it_MOST_LETTERS : Tok}
    {it_MOST_ITEMS : Tok}
    {it_MOST_LOOKS : Tok}
    {tp_LOOKS : Addr} {to_LOOKS : Option Addr} {ti_LOOKS : Array Value} {tn_LOOKS : Nat} {tsl_LOOKS : Array (Option Value)}
    {tp_UNSAID : Addr} {to_UNSAID : Option Addr} {ti_UNSAID : Array Value} {tn_UNSAID : Nat} {tsl_UNSAID : Array (Option Value)}
    {tp_GATES : Addr} {to_GATES : Option Addr} {ti_GATES : Array Value} {tn_GATES : Nat} {tsl_GATES : Array (Option Value)}
    {tp_ASSERTED : Addr} {to_ASSERTED : Option Addr} {ti_ASSERTED : Array Value} {tn_ASSERTED : Nat} {tsl_ASSERTED : Array (Option Value)}
    {dk_DEEDS : Addr} {es_DEEDS : Array DictEntry} {en_DEEDS : Nat}
    {dk_PLAIN : Addr} {es_PLAIN : Array DictEntry} {en_PLAIN : Nat}
    (a0 : PySem.W.nsIn K mainGlobals "is_name" = some (some (.ref f0))) (l0 : K.lookup f0 = some ⟨oc0, od0, .func (PySem.W.fnOf "is_name" "is_name" (defArgs s_is_name) (defBody s_is_name) (defScope s_is_name) .none kV0 dc0 pm0 an0 cd0 ct0), sl0⟩) (c0 : PySem.W.codeIn K cd0 "is_name" = true) (k0 : PySem.W.keepIn K (.ref f0) = true)
    (a1 : PySem.W.nsIn K mainGlobals "look_codes" = some (some (.ref f1))) (l1 : K.lookup f1 = some ⟨oc1, od1, .func (PySem.W.fnOf "look_codes" "look_codes" (defArgs s_look_codes) (defBody s_look_codes) (defScope s_look_codes) .none kV1 dc1 pm1 an1 cd1 ct1), sl1⟩) (c1 : PySem.W.codeIn K cd1 "look_codes" = true) (k1 : PySem.W.keepIn K (.ref f1) = true)
    (a2 : PySem.W.nsIn K mainGlobals "row_codes" = some (some (.ref f2))) (l2 : K.lookup f2 = some ⟨oc2, od2, .func (PySem.W.fnOf "row_codes" "row_codes" (defArgs s_row_codes) (defBody s_row_codes) (defScope s_row_codes) .none kV2 dc2 pm2 an2 cd2 ct2), sl2⟩) (c2 : PySem.W.codeIn K cd2 "row_codes" = true) (k2 : PySem.W.keepIn K (.ref f2) = true)
    (a3 : PySem.W.nsIn K mainGlobals "branch_codes" = some (some (.ref f3))) (l3 : K.lookup f3 = some ⟨oc3, od3, .func (PySem.W.fnOf "branch_codes" "branch_codes" (defArgs s_branch_codes) (defBody s_branch_codes) (defScope s_branch_codes) .none kV3 dc3 pm3 an3 cd3 ct3), sl3⟩) (c3 : PySem.W.codeIn K cd3 "branch_codes" = true) (k3 : PySem.W.keepIn K (.ref f3) = true)
    (a4 : PySem.W.nsIn K mainGlobals "is_integer" = some (some (.ref f4))) (l4 : K.lookup f4 = some ⟨oc4, od4, .func (PySem.W.fnOf "is_integer" "is_integer" (defArgs s_is_integer) (defBody s_is_integer) (defScope s_is_integer) .none kV4 dc4 pm4 an4 cd4 ct4), sl4⟩) (c4 : PySem.W.codeIn K cd4 "is_integer" = true) (k4 : PySem.W.keepIn K (.ref f4) = true)
    (a5 : PySem.W.nsIn K mainGlobals "head" = some (some (.ref f5))) (l5 : K.lookup f5 = some ⟨oc5, od5, .func (PySem.W.fnOf "head" "head" (defArgs s_head) (defBody s_head) (defScope s_head) .none kV5 dc5 pm5 an5 cd5 ct5), sl5⟩) (c5 : PySem.W.codeIn K cd5 "head" = true) (k5 : PySem.W.keepIn K (.ref f5) = true)
    (a6 : PySem.W.nsIn K mainGlobals "suits" = some (some (.ref f6))) (l6 : K.lookup f6 = some ⟨oc6, od6, .func (PySem.W.fnOf "suits" "suits" (defArgs s_suits) (defBody s_suits) (defScope s_suits) .none kV6 dc6 pm6 an6 cd6 ct6), sl6⟩) (c6 : PySem.W.codeIn K cd6 "suits" = true) (k6 : PySem.W.keepIn K (.ref f6) = true)
    (a7 : PySem.W.nsIn K mainGlobals "fits" = some (some (.ref f7))) (l7 : K.lookup f7 = some ⟨oc7, od7, .func (PySem.W.fnOf "fits" "fits" (defArgs s_fits) (defBody s_fits) (defScope s_fits) .none kV7 dc7 pm7 an7 cd7 ct7), sl7⟩) (c7 : PySem.W.codeIn K cd7 "fits" = true) (k7 : PySem.W.keepIn K (.ref f7) = true)
    (a8 : PySem.W.nsIn K mainGlobals "is_look" = some (some (.ref f8))) (l8 : K.lookup f8 = some ⟨oc8, od8, .func (PySem.W.fnOf "is_look" "is_look" (defArgs s_is_look) (defBody s_is_look) (defScope s_is_look) .none kV8 dc8 pm8 an8 cd8 ct8), sl8⟩) (c8 : PySem.W.codeIn K cd8 "is_look" = true) (k8 : PySem.W.keepIn K (.ref f8) = true)
    (a9 : PySem.W.nsIn K mainGlobals "is_looks" = some (some (.ref f9))) (l9 : K.lookup f9 = some ⟨oc9, od9, .func (PySem.W.fnOf "is_looks" "is_looks" (defArgs s_is_looks) (defBody s_is_looks) (defScope s_is_looks) .none kV9 dc9 pm9 an9 cd9 ct9), sl9⟩) (c9 : PySem.W.codeIn K cd9 "is_looks" = true) (k9 : PySem.W.keepIn K (.ref f9) = true)
    (a10 : PySem.W.nsIn K mainGlobals "is_watcher" = some (some (.ref f10))) (l10 : K.lookup f10 = some ⟨oc10, od10, .func (PySem.W.fnOf "is_watcher" "is_watcher" (defArgs s_is_watcher) (defBody s_is_watcher) (defScope s_is_watcher) .none kV10 dc10 pm10 an10 cd10 ct10), sl10⟩) (c10 : PySem.W.codeIn K cd10 "is_watcher" = true) (k10 : PySem.W.keepIn K (.ref f10) = true)
    (a11 : PySem.W.nsIn K mainGlobals "is_row" = some (some (.ref f11))) (l11 : K.lookup f11 = some ⟨oc11, od11, .func (PySem.W.fnOf "is_row" "is_row" (defArgs s_is_row) (defBody s_is_row) (defScope s_is_row) .none kV11 dc11 pm11 an11 cd11 ct11), sl11⟩) (c11 : PySem.W.codeIn K cd11 "is_row" = true) (k11 : PySem.W.keepIn K (.ref f11) = true)
    (a12 : PySem.W.nsIn K mainGlobals "is_probe" = some (some (.ref f12))) (l12 : K.lookup f12 = some ⟨oc12, od12, .func (PySem.W.fnOf "is_probe" "is_probe" (defArgs s_is_probe) (defBody s_is_probe) (defScope s_is_probe) .none kV12 dc12 pm12 an12 cd12 ct12), sl12⟩) (c12 : PySem.W.codeIn K cd12 "is_probe" = true) (k12 : PySem.W.keepIn K (.ref f12) = true)
    (a13 : PySem.W.nsIn K mainGlobals "looks_text" = some (some (.ref f13))) (l13 : K.lookup f13 = some ⟨oc13, od13, .func (PySem.W.fnOf "looks_text" "looks_text" (defArgs s_looks_text) (defBody s_looks_text) (defScope s_looks_text) .none kV13 dc13 pm13 an13 cd13 ct13), sl13⟩) (c13 : PySem.W.codeIn K cd13 "looks_text" = true) (k13 : PySem.W.keepIn K (.ref f13) = true)
    (a14 : PySem.W.nsIn K mainGlobals "row_text" = some (some (.ref f14))) (l14 : K.lookup f14 = some ⟨oc14, od14, .func (PySem.W.fnOf "row_text" "row_text" (defArgs s_row_text) (defBody s_row_text) (defScope s_row_text) .none kV14 dc14 pm14 an14 cd14 ct14), sl14⟩) (c14 : PySem.W.codeIn K cd14 "row_text" = true) (k14 : PySem.W.keepIn K (.ref f14) = true)
    (a15 : PySem.W.nsIn K mainGlobals "read_looks" = some (some (.ref f15))) (l15 : K.lookup f15 = some ⟨oc15, od15, .func (PySem.W.fnOf "read_looks" "read_looks" (defArgs s_read_looks) (defBody s_read_looks) (defScope s_read_looks) .none kV15 dc15 pm15 an15 cd15 ct15), sl15⟩) (c15 : PySem.W.codeIn K cd15 "read_looks" = true) (k15 : PySem.W.keepIn K (.ref f15) = true)
    (a16 : PySem.W.nsIn K mainGlobals "read_watcher" = some (some (.ref f16))) (l16 : K.lookup f16 = some ⟨oc16, od16, .func (PySem.W.fnOf "read_watcher" "read_watcher" (defArgs s_read_watcher) (defBody s_read_watcher) (defScope s_read_watcher) .none kV16 dc16 pm16 an16 cd16 ct16), sl16⟩) (c16 : PySem.W.codeIn K cd16 "read_watcher" = true) (k16 : PySem.W.keepIn K (.ref f16) = true)
    (a17 : PySem.W.nsIn K mainGlobals "read_row" = some (some (.ref f17))) (l17 : K.lookup f17 = some ⟨oc17, od17, .func (PySem.W.fnOf "read_row" "read_row" (defArgs s_read_row) (defBody s_read_row) (defScope s_read_row) .none kV17 dc17 pm17 an17 cd17 ct17), sl17⟩) (c17 : PySem.W.codeIn K cd17 "read_row" = true) (k17 : PySem.W.keepIn K (.ref f17) = true)
    (a18 : PySem.W.nsIn K mainGlobals "_law_pool" = some (some (.ref f18))) (l18 : K.lookup f18 = some ⟨oc18, od18, .func (PySem.W.fnOf "_law_pool" "_law_pool" (defArgs s__law_pool) (defBody s__law_pool) (defScope s__law_pool) .none kV18 dc18 pm18 an18 cd18 ct18), sl18⟩) (c18 : PySem.W.codeIn K cd18 "_law_pool" = true) (k18 : PySem.W.keepIn K (.ref f18) = true)
    (a19 : PySem.W.nsIn K mainGlobals "_law_draw" = some (some (.ref f19))) (l19 : K.lookup f19 = some ⟨oc19, od19, .func (PySem.W.fnOf "_law_draw" "_law_draw" (defArgs s__law_draw) (defBody s__law_draw) (defScope s__law_draw) .none kV19 dc19 pm19 an19 cd19 ct19), sl19⟩) (c19 : PySem.W.codeIn K cd19 "_law_draw" = true) (k19 : PySem.W.keepIn K (.ref f19) = true)
    (a20 : PySem.W.nsIn K mainGlobals "_law_word" = some (some (.ref f20))) (l20 : K.lookup f20 = some ⟨oc20, od20, .func (PySem.W.fnOf "_law_word" "_law_word" (defArgs s__law_word) (defBody s__law_word) (defScope s__law_word) .none kV20 dc20 pm20 an20 cd20 ct20), sl20⟩) (c20 : PySem.W.codeIn K cd20 "_law_word" = true) (k20 : PySem.W.keepIn K (.ref f20) = true)
    (a21 : PySem.W.nsIn K mainGlobals "_law_free_look" = some (some (.ref f21))) (l21 : K.lookup f21 = some ⟨oc21, od21, .func (PySem.W.fnOf "_law_free_look" "_law_free_look" (defArgs s__law_free_look) (defBody s__law_free_look) (defScope s__law_free_look) .none kV21 dc21 pm21 an21 cd21 ct21), sl21⟩) (c21 : PySem.W.codeIn K cd21 "_law_free_look" = true) (k21 : PySem.W.keepIn K (.ref f21) = true)
    (a22 : PySem.W.nsIn K mainGlobals "_law_free_probe" = some (some (.ref f22))) (l22 : K.lookup f22 = some ⟨oc22, od22, .func (PySem.W.fnOf "_law_free_probe" "_law_free_probe" (defArgs s__law_free_probe) (defBody s__law_free_probe) (defScope s__law_free_probe) .none kV22 dc22 pm22 an22 cd22 ct22), sl22⟩) (c22 : PySem.W.codeIn K cd22 "_law_free_probe" = true) (k22 : PySem.W.keepIn K (.ref f22) = true)
    (a23 : PySem.W.nsIn K mainGlobals "_law_free_row" = some (some (.ref f23))) (l23 : K.lookup f23 = some ⟨oc23, od23, .func (PySem.W.fnOf "_law_free_row" "_law_free_row" (defArgs s__law_free_row) (defBody s__law_free_row) (defScope s__law_free_row) .none kV23 dc23 pm23 an23 cd23 ct23), sl23⟩) (c23 : PySem.W.codeIn K cd23 "_law_free_row" = true) (k23 : PySem.W.keepIn K (.ref f23) = true)
    (a24 : PySem.W.nsIn K mainGlobals "_law_looks_text" = some (some (.ref f24))) (l24 : K.lookup f24 = some ⟨oc24, od24, .func (PySem.W.fnOf "_law_looks_text" "_law_looks_text" (defArgs s__law_looks_text) (defBody s__law_looks_text) (defScope s__law_looks_text) .none kV24 dc24 pm24 an24 cd24 ct24), sl24⟩) (c24 : PySem.W.codeIn K cd24 "_law_looks_text" = true) (k24 : PySem.W.keepIn K (.ref f24) = true)
    (a25 : PySem.W.nsIn K mainGlobals "_law_line" = some (some (.ref f25))) (l25 : K.lookup f25 = some ⟨oc25, od25, .func (PySem.W.fnOf "_law_line" "_law_line" (defArgs s__law_line) (defBody s__law_line) (defScope s__law_line) .none kV25 dc25 pm25 an25 cd25 ct25), sl25⟩) (c25 : PySem.W.codeIn K cd25 "_law_line" = true) (k25 : PySem.W.keepIn K (.ref f25) = true)
    (a26 : PySem.W.nsIn K mainGlobals "_law_same" = some (some (.ref f26))) (l26 : K.lookup f26 = some ⟨oc26, od26, .func (PySem.W.fnOf "_law_same" "_law_same" (defArgs s__law_same) (defBody s__law_same) (defScope s__law_same) .none kV26 dc26 pm26 an26 cd26 ct26), sl26⟩) (c26 : PySem.W.codeIn K cd26 "_law_same" = true) (k26 : PySem.W.keepIn K (.ref f26) = true)
    (a27 : PySem.W.nsIn K mainGlobals "law" = some (some (.ref f27))) (l27 : K.lookup f27 = some ⟨oc27, od27, .func (PySem.W.fnOf "law" "law" (defArgs s_law) (defBody s_law) (defScope s_law) .none kV27 dc27 pm27 an27 cd27 ct27), sl27⟩) (c27 : PySem.W.codeIn K cd27 "law" = true) (k27 : PySem.W.keepIn K (.ref f27) = true)
    (z_len : PySem.W.nsIn K mainGlobals "len" = some none)
    (z_int : PySem.W.nsIn K mainGlobals "int" = some none)
    (z_list : PySem.W.nsIn K mainGlobals "list" = some none)
    (z_tuple : PySem.W.nsIn K mainGlobals "tuple" = some none)
    (z_isi : PySem.W.nsIn K mainGlobals "isinstance" = some none)
    (z_range : PySem.W.nsIn K mainGlobals "range" = some none)
    (z_all : PySem.W.nsIn K mainGlobals "all" = some none)
    (z_any : PySem.W.nsIn K mainGlobals "any" = some none)
    (z_str : PySem.W.nsIn K mainGlobals "str" = some none)
    (z_bool : PySem.W.nsIn K mainGlobals "bool" = some none)
    (z_enum : PySem.W.nsIn K mainGlobals "enumerate" = some none)
    (z_zip : PySem.W.nsIn K mainGlobals "zip" = some none)
    (z_sum : PySem.W.nsIn K mainGlobals "sum" = some none)
    (z_max : PySem.W.nsIn K mainGlobals "max" = some none)
    (z_min : PySem.W.nsIn K mainGlobals "min" = some none)
    (z_sorted : PySem.W.nsIn K mainGlobals "sorted" = some none)
    (z_set : PySem.W.nsIn K mainGlobals "set" = some none)
    (z_dict : PySem.W.nsIn K mainGlobals "dict" = some none)
    (sa_LETTERS : PySem.W.nsIn K mainGlobals "LETTERS" = some (some (.str abc st_LETTERS)))
    (ia_MOST_LETTERS : PySem.W.nsIn K mainGlobals "MOST_LETTERS" = some (some (.int 8 it_MOST_LETTERS)))
    (ia_MOST_ITEMS : PySem.W.nsIn K mainGlobals "MOST_ITEMS" = some (some (.int 1000000000000000000000000000000 it_MOST_ITEMS)))
    (ia_MOST_LOOKS : PySem.W.nsIn K mainGlobals "MOST_LOOKS" = some (some (.int 6 it_MOST_LOOKS)))
    (pa_LOOKS : PySem.W.nsIn K mainGlobals "LOOKS" = some (some (.ref tp_LOOKS))) (pl_LOOKS : K.lookup tp_LOOKS = some ⟨.type "tuple", to_LOOKS, .seq ti_LOOKS tn_LOOKS, tsl_LOOKS⟩) (pv_LOOKS : strVs ti_LOOKS.toList = some looksT)
    (pa_UNSAID : PySem.W.nsIn K mainGlobals "UNSAID" = some (some (.ref tp_UNSAID))) (pl_UNSAID : K.lookup tp_UNSAID = some ⟨.type "tuple", to_UNSAID, .seq ti_UNSAID tn_UNSAID, tsl_UNSAID⟩) (pv_UNSAID : strVs ti_UNSAID.toList = some unsaidT)
    (pa_GATES : PySem.W.nsIn K mainGlobals "GATES" = some (some (.ref tp_GATES))) (pl_GATES : K.lookup tp_GATES = some ⟨.type "tuple", to_GATES, .seq ti_GATES tn_GATES, tsl_GATES⟩) (pv_GATES : strVs ti_GATES.toList = some gatesT)
    (pa_ASSERTED : PySem.W.nsIn K mainGlobals "ASSERTED" = some (some (.ref tp_ASSERTED))) (pl_ASSERTED : K.lookup tp_ASSERTED = some ⟨.type "tuple", to_ASSERTED, .seq ti_ASSERTED tn_ASSERTED, tsl_ASSERTED⟩) (pv_ASSERTED : strVs ti_ASSERTED.toList = some assertedT)
    (ta_DEEDS : PySem.W.nsIn K mainGlobals "DEEDS" = some (some (.ref dk_DEEDS))) (tl_DEEDS : K.lookup dk_DEEDS = some ⟨.type "dict", none, .dict es_DEEDS en_DEEDS, #[]⟩) (tw_DEEDS : (dk_DEEDS == sysModules) = false) (tk_DEEDS : KdL K w.params es_DEEDS.toList (dT deedsT))
    (ta_PLAIN : PySem.W.nsIn K mainGlobals "PLAIN" = some (some (.ref dk_PLAIN))) (tl_PLAIN : K.lookup dk_PLAIN = some ⟨.type "dict", none, .dict es_PLAIN en_PLAIN, #[]⟩) (tw_PLAIN : (dk_PLAIN == sysModules) = false) (tk_PLAIN : KdL K w.params es_PLAIN.toList (dT plainT)) :
    ∃ fd : FuncData, (∀ (s : Shared) (v : Value), BindsTo s fd ⟨[v], []⟩ [("_law_script", v)]) ∧ ∀ base : Heap, K.In base → base.Ns mainGlobals mg → FnOk l.prog w K mg base CX0 11 fa fd ["_law_script"] (spLaw K) := by
  have D_is_name : Dfn K mg "is_name" s_is_name ["value"] := dfn_mk X G a0 l0 c0 k0 fun _ _ _ _ _ _ us hl => match us, hl with | [_], _ => rfl
  have D_look_codes : Dfn K mg "look_codes" s_look_codes ["word"] := dfn_mk X G a1 l1 c1 k1 fun _ _ _ _ _ _ us hl => match us, hl with | [_], _ => rfl
  have D_row_codes : Dfn K mg "row_codes" s_row_codes ["word"] := dfn_mk X G a2 l2 c2 k2 fun _ _ _ _ _ _ us hl => match us, hl with | [_], _ => rfl
  have D_branch_codes : Dfn K mg "branch_codes" s_branch_codes ["opener", "word"] := dfn_mk X G a3 l3 c3 k3 fun _ _ _ _ _ _ us hl => match us, hl with | [_, _], _ => rfl
  have D_is_integer : Dfn K mg "is_integer" s_is_integer ["value"] := dfn_mk X G a4 l4 c4 k4 fun _ _ _ _ _ _ us hl => match us, hl with | [_], _ => rfl
  have D_head : Dfn K mg "head" s_head ["value"] := dfn_mk X G a5 l5 c5 k5 fun _ _ _ _ _ _ us hl => match us, hl with | [_], _ => rfl
  have D_suits : Dfn K mg "suits" s_suits ["value", "code"] := dfn_mk X G a6 l6 c6 k6 fun _ _ _ _ _ _ us hl => match us, hl with | [_, _], _ => rfl
  have D_fits : Dfn K mg "fits" s_fits ["value", "codes"] := dfn_mk X G a7 l7 c7 k7 fun _ _ _ _ _ _ us hl => match us, hl with | [_, _], _ => rfl
  have D_is_look : Dfn K mg "is_look" s_is_look ["row"] := dfn_mk X G a8 l8 c8 k8 fun _ _ _ _ _ _ us hl => match us, hl with | [_], _ => rfl
  have D_is_looks : Dfn K mg "is_looks" s_is_looks ["rows"] := dfn_mk X G a9 l9 c9 k9 fun _ _ _ _ _ _ us hl => match us, hl with | [_], _ => rfl
  have D_is_watcher : Dfn K mg "is_watcher" s_is_watcher ["row"] := dfn_mk X G a10 l10 c10 k10 fun _ _ _ _ _ _ us hl => match us, hl with | [_], _ => rfl
  have D_is_row : Dfn K mg "is_row" s_is_row ["row"] := dfn_mk X G a11 l11 c11 k11 fun _ _ _ _ _ _ us hl => match us, hl with | [_], _ => rfl
  have D_is_probe : Dfn K mg "is_probe" s_is_probe ["row"] := dfn_mk X G a12 l12 c12 k12 fun _ _ _ _ _ _ us hl => match us, hl with | [_], _ => rfl
  have D_looks_text : Dfn K mg "looks_text" s_looks_text ["looks"] := dfn_mk X G a13 l13 c13 k13 fun _ _ _ _ _ _ us hl => match us, hl with | [_], _ => rfl
  have D_row_text : Dfn K mg "row_text" s_row_text ["row"] := dfn_mk X G a14 l14 c14 k14 fun _ _ _ _ _ _ us hl => match us, hl with | [_], _ => rfl
  have D_read_looks : Dfn K mg "read_looks" s_read_looks ["words"] := dfn_mk X G a15 l15 c15 k15 fun _ _ _ _ _ _ us hl => match us, hl with | [_], _ => rfl
  have D_read_watcher : Dfn K mg "read_watcher" s_read_watcher ["words"] := dfn_mk X G a16 l16 c16 k16 fun _ _ _ _ _ _ us hl => match us, hl with | [_], _ => rfl
  have D_read_row : Dfn K mg "read_row" s_read_row ["line"] := dfn_mk X G a17 l17 c17 k17 fun _ _ _ _ _ _ us hl => match us, hl with | [_], _ => rfl
  have D__law_pool : Dfn K mg "_law_pool" s__law_pool ["_law_script"] := dfn_mk X G a18 l18 c18 k18 fun _ _ _ _ _ _ us hl => match us, hl with | [_], _ => rfl
  have D__law_draw : Dfn K mg "_law_draw" s__law_draw ["_law_pool_here", "_law_many"] := dfn_mk X G a19 l19 c19 k19 fun _ _ _ _ _ _ us hl => match us, hl with | [_, _], _ => rfl
  have D__law_word : Dfn K mg "_law_word" s__law_word ["_law_pool_here"] := dfn_mk X G a20 l20 c20 k20 fun _ _ _ _ _ _ us hl => match us, hl with | [_], _ => rfl
  have D__law_free_look : Dfn K mg "_law_free_look" s__law_free_look ["_law_pool_here"] := dfn_mk X G a21 l21 c21 k21 fun _ _ _ _ _ _ us hl => match us, hl with | [_], _ => rfl
  have D__law_free_probe : Dfn K mg "_law_free_probe" s__law_free_probe ["_law_pool_here"] := dfn_mk X G a22 l22 c22 k22 fun _ _ _ _ _ _ us hl => match us, hl with | [_], _ => rfl
  have D__law_free_row : Dfn K mg "_law_free_row" s__law_free_row ["_law_pool_here"] := dfn_mk X G a23 l23 c23 k23 fun _ _ _ _ _ _ us hl => match us, hl with | [_], _ => rfl
  have D__law_looks_text : Dfn K mg "_law_looks_text" s__law_looks_text ["_law_looks"] := dfn_mk X G a24 l24 c24 k24 fun _ _ _ _ _ _ us hl => match us, hl with | [_], _ => rfl
  have D__law_line : Dfn K mg "_law_line" s__law_line ["_law_row"] := dfn_mk X G a25 l25 c25 k25 fun _ _ _ _ _ _ us hl => match us, hl with | [_], _ => rfl
  have D__law_same : Dfn K mg "_law_same" s__law_same ["_law_actual", "_law_due"] := dfn_mk X G a26 l26 c26 k26 fun _ _ _ _ _ _ us hl => match us, hl with | [_, _], _ => rfl
  have B : Bl mg := ⟨PySem.W.mg_none_of X G z_len, PySem.W.mg_none_of X G z_int, PySem.W.mg_none_of X G z_list, PySem.W.mg_none_of X G z_tuple, PySem.W.mg_none_of X G z_isi, PySem.W.mg_none_of X G z_range, PySem.W.mg_none_of X G z_all, PySem.W.mg_none_of X G z_any, PySem.W.mg_none_of X G z_str, PySem.W.mg_none_of X G z_bool, PySem.W.mg_none_of X G z_enum, PySem.W.mg_none_of X G z_zip, PySem.W.mg_none_of X G z_sum, PySem.W.mg_none_of X G z_max, PySem.W.mg_none_of X G z_min, PySem.W.mg_none_of X G z_sorted, PySem.W.mg_none_of X G z_set, PySem.W.mg_none_of X G z_dict⟩
  have G_LETTERS : GS mg "LETTERS" abc := ⟨_, PySem.W.mg_of X G sa_LETTERS⟩
  have G_MOST_LETTERS : GI mg "MOST_LETTERS" 8 := ⟨_, PySem.W.mg_of X G ia_MOST_LETTERS⟩
  have G_MOST_ITEMS : GI mg "MOST_ITEMS" 1000000000000000000000000000000 := ⟨_, PySem.W.mg_of X G ia_MOST_ITEMS⟩
  have G_MOST_LOOKS : GI mg "MOST_LOOKS" 6 := ⟨_, PySem.W.mg_of X G ia_MOST_LOOKS⟩
  have G_LOOKS : GT K mg "LOOKS" looksT := ⟨_, PySem.W.mg_of X G pa_LOOKS, isK_tup pl_LOOKS pv_LOOKS (by decide +kernel) (by decide)⟩
  have G_UNSAID : GT K mg "UNSAID" unsaidT := ⟨_, PySem.W.mg_of X G pa_UNSAID, isK_tup pl_UNSAID pv_UNSAID (by decide +kernel) (by decide)⟩
  have G_GATES : GT K mg "GATES" gatesT := ⟨_, PySem.W.mg_of X G pa_GATES, isK_tup pl_GATES pv_GATES (by decide +kernel) (by decide)⟩
  have G_ASSERTED : GT K mg "ASSERTED" assertedT := ⟨_, PySem.W.mg_of X G pa_ASSERTED, isK_tup pl_ASSERTED pv_ASSERTED (by decide +kernel) (by decide)⟩
  have G_DEEDS := PySem.W.mg_of X G ta_DEEDS
  have T_DEEDS := kd_of tl_DEEDS tw_DEEDS tk_DEEDS
  have GD_DEEDS : GD K w mg "DEEDS" (dT deedsT) := ⟨_, G_DEEDS, T_DEEDS⟩
  have G_PLAIN := PySem.W.mg_of X G ta_PLAIN
  have T_PLAIN := kd_of tl_PLAIN tw_PLAIN tk_PLAIN
  have GD_PLAIN : GD K w mg "PLAIN" (dT plainT) := ⟨_, G_PLAIN, T_PLAIN⟩
  refine law_end (st := s_law) X G hfa a27 l27 c27 k27 (fun _ => rfl) (fun base fd F => ?_)
  have c_draw := c__law_draw (P := l.prog) (w := w) (base := base) B D__law_draw
  obtain ⟨fp, fdp, GP, gP, kP, bP⟩ := c__law_pool (P := l.prog) (w := w) (base := base) B D__law_pool
  have c_word := c__law_word B c_draw D__law_word
  have c_isname := c_is_name (P := l.prog) (w := w) (base := base) B G_LETTERS G_MOST_LETTERS D_is_name
  have c_fits := c_fits B (c_suits B G_MOST_ITEMS c_isname (c_is_integer B D_is_integer) D_suits) D_fits
  have c_head := c_head (P := l.prog) (w := w) (base := base) B D_head
  have c_islook := c_is_look c_head (c_look_codes G_LOOKS GD_DEEDS D_look_codes) c_fits D_is_look
  have c_islooks := c_is_looks B c_islook D_is_looks
  have c_watch := c_is_watcher B G_GATES G_ASSERTED G_MOST_LOOKS c_isname c_islook c_islooks D_is_watcher
  have c_isrow := c_is_row c_head (c_row_codes G_UNSAID GD_PLAIN GD_DEEDS D_row_codes) (c_branch_codes GD_DEEDS D_branch_codes) c_fits c_watch D_is_row
  have c_flook := c_free_look B c_draw c_word D__law_free_look
  have c_rrow := c_read_row B (c_read_watcher B (c_read_looks B c_islooks D_read_looks) c_isrow D_read_watcher) c_isrow D_read_row
  have c_lline := c__law_line B (c__law_looks_text (P := l.prog) (w := w) (base := base) B D__law_looks_text) D__law_line
  have c_rtext := c_row_text B (c_looks_text (P := l.prog) (w := w) (base := base) B D_looks_text) (c_is_probe D_is_probe) D_row_text
  exact ok_law F GP gP kP bP c_draw (c__law_same B D__law_same 4) c_rrow c_rtext c_lline (c_free_row B c_draw c_word (c_free_probe B c_draw c_word c_flook D__law_free_probe) D__law_free_row) B
theorem walk {l : PySem.W.OpenLaw} {q : Program} {loose : List Str} {XP : (Str → Option Value) → Heap → Prop} {YP : World → Heap → Prop} {d : DefRec} {K : Params → PySem.W.Frag} (hn : l.most = some 63) (hdf : d.params.defaults = [])
    (hY : ∀ (w : World) (h : Heap), YP w h → (K w.params).In h)
    (F : ∀ (w : World) (mg : Str → Option Value) (fa : Addr) (h : Heap), (K w.params).In h → h.Ns mainGlobals mg → mg d.name = some (.ref fa) →
      ∃ fd : FuncData, (∀ (s : Shared) (u : Value), BindsTo s fd ⟨[u], []⟩ [("_law_script", u)]) ∧ ∀ base : Heap, (K w.params).In base → base.Ns mainGlobals mg → FnOk l.prog w (K w.params) mg base CX0 11 fa fd ["_law_script"] (spLaw (K w.params))) :
    PySem.W.WalkO q loose XP YP l.row.toRowW d [] (fun f vs => PySem.call f vs) :=
  L2.walk_of (n := 63) (k := 11) (x := "_law_script") (CX := fun _ => CX0) (sp := fun w => spLaw (K w.params)) hn (by decide) hdf ⟨rfl, by decide, by decide⟩ hY F (fun _ _ a ns hl _ hS => ⟨a, ns, rfl, hS, hl, fun _ => rfl⟩) fun _ _ _ _ _ z => z
end Q
open PySem PySem.W PyProof.Rows
set_option maxRecDepth 100000 in
set_option maxHeartbeats 0 in
theorem PySem.Challenge.cw_quietprobes_k22_lines_of_rows_holds : PySem.Challenge.rw_quietprobes_k22_lines_of_rows.Holds := by
  w_on; o_law; k_head; (case hw => w_witness2)
  k_fill
  refine Q.walk (l := PySem.Challenge.rw_quietprobes_k22_lines_of_rows) rfl rfl (fun w h Y => PySem.W.kIn_of Y) ?F
  case F =>
    intro w mg fa h KX G hmg
    refine' Q.all_mk KX G hmg ?a0 ?l0 ?c0 ?k0 ?a1 ?l1 ?c1 ?k1 ?a2 ?l2 ?c2 ?k2 ?a3 ?l3 ?c3 ?k3 ?a4 ?l4 ?c4 ?k4 ?a5 ?l5 ?c5 ?k5 ?a6 ?l6 ?c6 ?k6 ?a7 ?l7 ?c7 ?k7 ?a8 ?l8 ?c8 ?k8 ?a9 ?l9 ?c9 ?k9 ?a10 ?l10 ?c10 ?k10 ?a11 ?l11 ?c11 ?k11 ?a12 ?l12 ?c12 ?k12 ?a13 ?l13 ?c13 ?k13 ?a14 ?l14 ?c14 ?k14 ?a15 ?l15 ?c15 ?k15 ?a16 ?l16 ?c16 ?k16 ?a17 ?l17 ?c17 ?k17 ?a18 ?l18 ?c18 ?k18 ?a19 ?l19 ?c19 ?k19 ?a20 ?l20 ?c20 ?k20 ?a21 ?l21 ?c21 ?k21 ?a22 ?l22 ?c22 ?k22 ?a23 ?l23 ?c23 ?k23 ?a24 ?l24 ?c24 ?k24 ?a25 ?l25 ?c25 ?k25 ?a26 ?l26 ?c26 ?k26 ?a27 ?l27 ?c27 ?k27 ?z_len ?z_int ?z_list ?z_tuple ?z_isi ?z_range ?z_all ?z_any ?z_str ?z_bool ?z_enum ?z_zip ?z_sum ?z_max ?z_min ?z_sorted ?z_set ?z_dict ?sa_LETTERS ?ia_MOST_LETTERS ?ia_MOST_ITEMS ?ia_MOST_LOOKS ?pa_LOOKS ?pl_LOOKS ?pv_LOOKS ?pa_UNSAID ?pl_UNSAID ?pv_UNSAID ?pa_GATES ?pl_GATES ?pv_GATES ?pa_ASSERTED ?pl_ASSERTED ?pv_ASSERTED ?ta_DEEDS ?tl_DEEDS ?tw_DEEDS ?tk_DEEDS ?ta_PLAIN ?tl_PLAIN ?tw_PLAIN ?tk_PLAIN
    case a0 => k_is
    case l0 => k_is
    case c0 => k_is
    case k0 => k_is
    case a1 => k_is
    case l1 => k_is
    case c1 => k_is
    case k1 => k_is
    case a2 => k_is
    case l2 => k_is
    case c2 => k_is
    case k2 => k_is
    case a3 => k_is
    case l3 => k_is
    case c3 => k_is
    case k3 => k_is
    case a4 => k_is
    case l4 => k_is
    case c4 => k_is
    case k4 => k_is
    case a5 => k_is
    case l5 => k_is
    case c5 => k_is
    case k5 => k_is
    case a6 => k_is
    case l6 => k_is
    case c6 => k_is
    case k6 => k_is
    case a7 => k_is
    case l7 => k_is
    case c7 => k_is
    case k7 => k_is
    case a8 => k_is
    case l8 => k_is
    case c8 => k_is
    case k8 => k_is
    case a9 => k_is
    case l9 => k_is
    case c9 => k_is
    case k9 => k_is
    case a10 => k_is
    case l10 => k_is
    case c10 => k_is
    case k10 => k_is
    case a11 => k_is
    case l11 => k_is
    case c11 => k_is
    case k11 => k_is
    case a12 => k_is
    case l12 => k_is
    case c12 => k_is
    case k12 => k_is
    case a13 => k_is
    case l13 => k_is
    case c13 => k_is
    case k13 => k_is
    case a14 => k_is
    case l14 => k_is
    case c14 => k_is
    case k14 => k_is
    case a15 => k_is
    case l15 => k_is
    case c15 => k_is
    case k15 => k_is
    case a16 => k_is
    case l16 => k_is
    case c16 => k_is
    case k16 => k_is
    case a17 => k_is
    case l17 => k_is
    case c17 => k_is
    case k17 => k_is
    case a18 => k_is
    case l18 => k_is
    case c18 => k_is
    case k18 => k_is
    case a19 => k_is
    case l19 => k_is
    case c19 => k_is
    case k19 => k_is
    case a20 => k_is
    case l20 => k_is
    case c20 => k_is
    case k20 => k_is
    case a21 => k_is
    case l21 => k_is
    case c21 => k_is
    case k21 => k_is
    case a22 => k_is
    case l22 => k_is
    case c22 => k_is
    case k22 => k_is
    case a23 => k_is
    case l23 => k_is
    case c23 => k_is
    case k23 => k_is
    case a24 => k_is
    case l24 => k_is
    case c24 => k_is
    case k24 => k_is
    case a25 => k_is
    case l25 => k_is
    case c25 => k_is
    case k25 => k_is
    case a26 => k_is
    case l26 => k_is
    case c26 => k_is
    case k26 => k_is
    case a27 => k_is
    case l27 => k_is
    case c27 => k_is
    case k27 => k_is
    case z_len => k_is
    case z_int => k_is
    case z_list => k_is
    case z_tuple => k_is
    case z_isi => k_is
    case z_range => k_is
    case z_all => k_is
    case z_any => k_is
    case z_str => k_is
    case z_bool => k_is
    case z_enum => k_is
    case z_zip => k_is
    case z_sum => k_is
    case z_max => k_is
    case z_min => k_is
    case z_sorted => k_is
    case z_set => k_is
    case z_dict => k_is
    case sa_LETTERS => k_is
    case ia_MOST_LETTERS => k_is
    case ia_MOST_ITEMS => k_is
    case ia_MOST_LOOKS => k_is
    case pa_LOOKS => k_is
    case pl_LOOKS => k_is
    case pv_LOOKS => rfl
    case pa_UNSAID => k_is
    case pl_UNSAID => k_is
    case pv_UNSAID => rfl
    case pa_GATES => k_is
    case pl_GATES => k_is
    case pv_GATES => rfl
    case pa_ASSERTED => k_is
    case pl_ASSERTED => k_is
    case pv_ASSERTED => rfl
    case ta_DEEDS => k_is
    case tl_DEEDS => k_is
    case tw_DEEDS => first | rfl | k_is | decide +kernel
    case tk_DEEDS => repeat (first | exact True.intro | refine ⟨⟨_, rfl, rfl, L2.V.ref _, rfl, _root_.G.isK_tup (by k_is) rfl (by decide +kernel) (by decide)⟩, ?_⟩)
    case ta_PLAIN => k_is
    case tl_PLAIN => k_is
    case tw_PLAIN => first | rfl | k_is | decide +kernel
    case tk_PLAIN => repeat (first | exact True.intro | refine ⟨⟨_, rfl, rfl, L2.V.ref _, rfl, _root_.G.isK_tup (by k_is) rfl (by decide +kernel) (by decide)⟩, ?_⟩)
