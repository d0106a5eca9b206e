import PyProof.Rows.All
import HandS.ForMost
import HandS.Wide
import HandS.WideMore
import HandS.Gcd
import HandS.Exc
import HandS.ExcOwn
import HandS.WordsExc
import HandS.TryOnly
import HandS.TryMany
import HandS.IsInst
import HandS.Flow
import HandS.Style
import HandS.TupAny
import HandS.ExcIs
import PySem.Challenge.RW_idealsame_k02_ratios_refused

set_option Elab.async false
set_option linter.all false
set_option maxRecDepth 100000
/-! Fx1: pure values, owned objects, the relation to the abstract heap, outcomes. -/
namespace Fx
open PySem L2

/-! ### pure values -/
inductive D where
  | non | bl (b : Bool) | int (i : Int) | str (s : Str)
  | tup (xs : List D) | lst (xs : List D)
  | dk (kvs : List (Key × D)) | dt (kvs : List (List Key × D))
  deriving Inhabited
/-- what a slot or a field may hold: a pure value, or an object of its own -/
inductive C1 where
  | val (d : D) | lst (xs : List D) | dk (kvs : List (Key × D)) | dt (kvs : List (List Key × D))
inductive O where
  | c (x : C1) | ins (C : Str) (fs : List (Str × C1))
abbrev O.v (d : D) : O := .c (.val d)
abbrev Env := List (Option O)
/-- an exception: its class by name, its fields -/
structure Exn where
  cls : Str
  fs : List (Str × D)

inductive R (α : Type) where
  | ok (a : α) (ρ : Env) | ex (e : Exn) (ρ : Env) | stuck
def R.bind {α β : Type} (r : R α) (k : α → Env → R β) : R β := match r with
  | .ok a ρ => k a ρ
  | .ex e ρ => .ex e ρ
  | .stuck => .stuck
inductive RS where
  | nx (ρ : Env) | ret (o : O) (ρ : Env) | br (ρ : Env) | ct (ρ : Env) | ex (e : Exn) (ρ : Env) | stuck
inductive RF where
  | ok (o : O) (outs : List O) | ex (e : Exn) (outs : List O) | stuck
abbrev FE (α : Type) := Env → R α
abbrev FS := Env → RS

theorem R.bind_ok {α β : Type} {a : α} {ρ : Env} {k : α → Env → R β} : R.bind (.ok a ρ) k = k a ρ := rfl
theorem R.bind_ex {α β : Type} {e : Exn} {ρ : Env} {k : α → Env → R β} : R.bind (.ex e ρ) k = .ex e ρ := rfl
theorem R.bind_stuck {α β : Type} {k : α → Env → R β} : R.bind .stuck k = .stuck := rfl

/-! ### how a value stands for a pure one -/
mutual
inductive Rp (K : PySem.W.Frag) (G : Hp) : V → D → Prop
  | non : Rp K G .non .non
  | bl (b : Bool) : Rp K G (.bl b) (.bl b)
  | int (i : Int) : Rp K G (.int i) (.int i)
  | str (x : Str) : Rp K G (.str x) (.str x)
  | tup {a : Addr} {vs : List V} {ds : List D} : SqT K G a vs → RpL K G vs ds → Rp K G (.ref a) (.tup ds)
  | lst {a : Addr} {vs : List V} {ds : List D} : SqL K G a vs → RpL K G vs ds → Rp K G (.ref a) (.lst ds)
  | dk {a : Addr} {kvs : List (Key × V)} {ds : List (Key × D)} : Rd G a (.dK kvs) → RpK K G kvs ds → Rp K G (.ref a) (.dk ds)
  | dt {a : Addr} {kvs : List (List Key × V)} {ds : List (List Key × D)} : Rd G a (.dT kvs) → RpT K G kvs ds → Rp K G (.ref a) (.dt ds)
inductive RpL (K : PySem.W.Frag) (G : Hp) : List V → List D → Prop
  | nil : RpL K G [] []
  | cons {v : V} {vs : List V} {d : D} {ds : List D} : Rp K G v d → RpL K G vs ds → RpL K G (v :: vs) (d :: ds)
inductive RpK (K : PySem.W.Frag) (G : Hp) : List (Key × V) → List (Key × D) → Prop
  | nil : RpK K G [] []
  | cons {k : Key} {v : V} {vs : List (Key × V)} {d : D} {ds : List (Key × D)} : Rp K G v d → RpK K G vs ds → RpK K G ((k, v) :: vs) ((k, d) :: ds)
inductive RpT (K : PySem.W.Frag) (G : Hp) : List (List Key × V) → List (List Key × D) → Prop
  | nil : RpT K G [] []
  | cons {k : List Key} {v : V} {vs : List (List Key × V)} {d : D} {ds : List (List Key × D)} : Rp K G v d → RpT K G vs ds → RpT K G ((k, v) :: vs) ((k, d) :: ds)
end

/-- all that may be read in G may be read in G' -/
def Le (G G' : Hp) : Prop := ∀ a o, G a = some o → G' a = some o
theorem Le.refl (G : Hp) : Le G G := fun _ _ h => h
theorem Le.trans {G G1 G2 : Hp} (a : Le G G1) (b : Le G1 G2) : Le G G2 := fun x o h => b x o (a x o h)
theorem Le.rd {G G' : Hp} (l : Le G G') {a : Addr} {u : HO} (h : Rd G a u) : Rd G' a u := by
  rcases h with h | ⟨o, h⟩
  · exact .inl (l _ _ h)
  · exact .inr ⟨o, l _ _ h⟩
theorem Le.sqt {K : PySem.W.Frag} {G G' : Hp} (l : Le G G') {a : Addr} {xs : List V} (h : SqT K G a xs) : SqT K G' a xs := by
  rcases h with h | h
  · exact .inl (l.rd h)
  · exact .inr h
theorem Le.sql {K : PySem.W.Frag} {G G' : Hp} (l : Le G G') {a : Addr} {xs : List V} (h : SqL K G a xs) : SqL K G' a xs := by
  rcases h with h | h
  · exact .inl (l.rd h)
  · exact .inr h
theorem Le.upd {G : Hp} {a : Addr} {o : HO} (h : G a = none) : Le G (upd G a o) := fun b u e => by
  rw [upd_ne (ne_of_none e h)]; exact e
section
variable {K : PySem.W.Frag} {G G' : Hp}
mutual
theorem Rp.mono (l : Le G G') : ∀ {v : V} {d : D}, Rp K G v d → Rp K G' v d
  | _, _, .non => .non
  | _, _, .bl b => .bl b
  | _, _, .int i => .int i
  | _, _, .str x => .str x
  | _, _, .tup h r => .tup (l.sqt h) (RpL.mono l r)
  | _, _, .lst h r => .lst (l.sql h) (RpL.mono l r)
  | _, _, .dk h r => .dk (l.rd h) (RpK.mono l r)
  | _, _, .dt h r => .dt (l.rd h) (RpT.mono l r)
theorem RpL.mono (l : Le G G') : ∀ {vs : List V} {ds : List D}, RpL K G vs ds → RpL K G' vs ds
  | _, _, .nil => .nil
  | _, _, .cons h r => .cons (Rp.mono l h) (RpL.mono l r)
theorem RpK.mono (l : Le G G') : ∀ {vs : List (Key × V)} {ds : List (Key × D)}, RpK K G vs ds → RpK K G' vs ds
  | _, _, .nil => .nil
  | _, _, .cons h r => .cons (Rp.mono l h) (RpK.mono l r)
theorem RpT.mono (l : Le G G') : ∀ {vs : List (List Key × V)} {ds : List (List Key × D)}, RpT K G vs ds → RpT K G' vs ds
  | _, _, .nil => .nil
  | _, _, .cons h r => .cons (Rp.mono l h) (RpT.mono l r)
end
theorem RpL.length : ∀ {vs : List V} {ds : List D}, RpL K G vs ds → vs.length = ds.length
  | _, _, .nil => rfl
  | _, _, .cons _ r => congrArg (· + 1) r.length
theorem RpL.get : ∀ {vs : List V} {ds : List D} {i : Nat} {d : D}, RpL K G vs ds → ds[i]? = some d → ∃ v, vs[i]? = some v ∧ Rp K G v d
  | _, _, 0, _, .cons h _, e => by cases e; exact ⟨_, rfl, h⟩
  | _, _, i + 1, _, .cons _ r, e => r.get (i := i) e
  | _, _, _, _, .nil, e => by simp at e
theorem RpL.append : ∀ {vs ws : List V} {ds es : List D}, RpL K G vs ds → RpL K G ws es → RpL K G (vs ++ ws) (ds ++ es)
  | _, _, _, _, .nil, s => s
  | _, _, _, _, .cons h r, s => .cons h (r.append s)
theorem RpL.set {v : V} {d : D} (h : Rp K G v d) : ∀ {vs : List V} {ds : List D} (i : Nat), RpL K G vs ds → RpL K G (vs.set i v) (ds.set i d)
  | _, _, _, .nil => .nil
  | _, _, 0, .cons _ r => .cons h r
  | _, _, i + 1, .cons q r => .cons q (RpL.set h i r)
theorem RpL.take : ∀ {vs : List V} {ds : List D} (n : Nat), RpL K G vs ds → RpL K G (vs.take n) (ds.take n)
  | _, _, 0, _ => .nil
  | _, _, _ + 1, .nil => .nil
  | _, _, n + 1, .cons h r => .cons h (r.take n)
theorem RpL.drop : ∀ {vs : List V} {ds : List D} (n : Nat), RpL K G vs ds → RpL K G (vs.drop n) (ds.drop n)
  | _, _, 0, r => r
  | _, _, _ + 1, .nil => .nil
  | _, _, n + 1, .cons _ r => r.drop n
theorem RpL.rev : ∀ {vs : List V} {ds : List D}, RpL K G vs ds → RpL K G vs.reverse ds.reverse
  | _, _, .nil => .nil
  | _, _, .cons h r => by
    rw [List.reverse_cons, List.reverse_cons]
    exact r.rev.append (.cons h .nil)
end

/-! ### objects of one's own -/
/-- the object at v is of one's own, with the addresses S -/
inductive C1Ok (K : PySem.W.Frag) (G H : Hp) : V → C1 → (Addr → Prop) → Prop
  | val {v : V} {d : D} : Rp K G v d → C1Ok K G H v (.val d) fun _ => False
  | lst {p : Addr} {vs : List V} {ds : List D} : H p = some (.lst vs) → RpL K G vs ds → C1Ok K G H (.ref p) (.lst ds) fun a => a = p
  | dk {p : Addr} {vs : List (Key × V)} {ds : List (Key × D)} : H p = some (.dK vs) → RpK K G vs ds → C1Ok K G H (.ref p) (.dk ds) fun a => a = p
  | dt {p : Addr} {vs : List (List Key × V)} {ds : List (List Key × D)} : H p = some (.dT vs) → RpT K G vs ds → C1Ok K G H (.ref p) (.dt ds) fun a => a = p
structure InsOk (K : PySem.W.Frag) (mg : Str → Option Value) (G H : Hp) (p : Addr) (cn : Str) (fs : List (Str × C1)) (S : Addr → Prop) (Sf : Str → Addr → Prop) : Prop where
  ob : ∃ C dx vs, H p = some (.ins C dx vs) ∧ mg cn = some (.ref C) ∧ vs.map (·.1) = fs.map (·.1) ∧ ∀ f c, fs.lookup f = some c → ∃ v, vs.lookup f = some v ∧ C1Ok K G H v c (Sf f)
  own : S p
  sub : ∀ f c a, fs.lookup f = some c → Sf f a → S a ∧ a ≠ p
  dis : ∀ f g c e a, f ≠ g → fs.lookup f = some c → fs.lookup g = some e → Sf f a → ¬ Sf g a
inductive OOk (K : PySem.W.Frag) (mg : Str → Option Value) (G H : Hp) : V → O → (Addr → Prop) → Prop
  | c {v : V} {x : C1} {S : Addr → Prop} : C1Ok K G H v x S → OOk K mg G H v (.c x) S
  | ins {p : Addr} {cn : Str} {fs : List (Str × C1)} {S : Addr → Prop} {Sf : Str → Addr → Prop} : InsOk K mg G H p cn fs S Sf → OOk K mg G H (.ref p) (.ins cn fs) S

section
variable {K : PySem.W.Frag} {mg : Str → Option Value} {G G' H H' : Hp}
theorem C1Ok.mono (l : Le G G') {v : V} {c : C1} {S : Addr → Prop} (k : ∀ a o, S a → H a = some o → H' a = some o) (h : C1Ok K G H v c S) : C1Ok K G' H' v c S := by
  cases h with
  | val r => exact .val (r.mono l)
  | lst e r => exact .lst (k _ _ rfl e) (r.mono l)
  | dk e r => exact .dk (k _ _ rfl e) (r.mono l)
  | dt e r => exact .dt (k _ _ rfl e) (r.mono l)
theorem OOk.mono (l : Le G G') {v : V} {o : O} {S : Addr → Prop} (k : ∀ a o, S a → H a = some o → H' a = some o) (h : OOk K mg G H v o S) : OOk K mg G' H' v o S := by
  cases h with
  | c h => exact .c (h.mono l k)
  | ins h =>
    obtain ⟨⟨C, dx, vs, e1, e2, e3, e4⟩, ow, sb, ds⟩ := h
    refine .ins (Sf := _) ⟨⟨C, dx, vs, k _ _ ow e1, e2, e3, fun f c q => ?_⟩, ow, sb, ds⟩
    obtain ⟨v, q1, q2⟩ := e4 f c q
    exact ⟨v, q1, q2.mono l fun a o z => k a o (sb f c a q z).1⟩
theorem C1Ok.there {v : V} {c : C1} {S : Addr → Prop} (h : C1Ok K G H v c S) : ∀ a, S a → ∃ o, H a = some o := fun a z => by
  cases h with
  | val _ => exact z.elim
  | lst e _ => cases z; exact ⟨_, e⟩
  | dk e _ => cases z; exact ⟨_, e⟩
  | dt e _ => cases z; exact ⟨_, e⟩
end

/-! ### the state -/
abbrev Fp := Nat → Addr → Prop
abbrev Fp.U (F : Fp) (a : Addr) : Prop := ∃ i, F i a
structure Rel (K : PySem.W.Frag) (mg : Str → Option Value) (G H : Hp) (σ : St) (ρ : Env) (F : Fp) : Prop where
  len : σ.length = ρ.length
  ok : ∀ i o, ρ[i]? = some (some o) → ∃ v, σ[i]? = some (some v) ∧ OOk K mg G H v o (F i)
  dis : ∀ i j a, i ≠ j → F i a → ¬ F j a
  out : ∀ i a, F i a → G a = none ∧ H a ≠ none
  non : ∀ i a, F i a → ∃ o, ρ[i]? = some (some o)
  sub : Le G H
structure Stp (F : Fp) (G H G' H' : Hp) (F' : Fp) : Prop where
  le : Le G G'
  fr : ∀ a o, H a = some o → ¬ F.U a → H' a = some o
  fresh : ∀ a, H a ≠ none → G a = none → ¬ F.U a → G' a = none
  there : ∀ a, H a ≠ none → H' a ≠ none
  own : ∀ i a, F' i a → F i a ∨ H a = none
theorem Stp.refl {F : Fp} {G H : Hp} : Stp F G H G H F := ⟨Le.refl G, fun _ _ h _ => h, fun _ _ h _ => h, fun _ h => h, fun _ _ h => .inl h⟩
theorem Stp.ownU {F F' : Fp} {G H G' H' : Hp} (a : Stp F G H G' H' F') {x : Addr} (z : F'.U x) : F.U x ∨ H x = none := by
  obtain ⟨i, z⟩ := z
  exact (a.own i x z).imp (fun q => ⟨i, q⟩) id
theorem Stp.trans {F F1 F2 : Fp} {G H G1 H1 G2 H2 : Hp} (a : Stp F G H G1 H1 F1) (b : Stp F1 G1 H1 G2 H2 F2) : Stp F G H G2 H2 F2 where
  le := a.le.trans b.le
  fr := fun x o h n => b.fr x o (a.fr x o h n) fun z => (a.ownU z).elim n fun e => by rw [h] at e; cases e
  fresh := fun x h g n => b.fresh x (a.there x h) (a.fresh x h g n) fun z => (a.ownU z).elim n h
  there := fun x h => b.there x (a.there x h)
  own := fun i x z => by
    rcases b.own i x z with z | z
    · exact a.own i x z
    · refine .inr ?_
      cases q : H x with
      | none => rfl
      | some o => exact absurd z (a.there x (by rw [q]; exact fun e => nomatch e))
/-- an exception as it lies: its class and its fields -/
def XOk (K : PySem.W.Frag) (mg : Str → Option Value) (G H : Hp) (e : Exn) (cv : Value) (d : Option Addr) : Prop :=
  mg e.cls = some cv ∧ (e.fs = [] ∧ d = none ∨ ∃ p vs, e.fs ≠ [] ∧ d = some p ∧ H p = some (.xd vs) ∧ vs.map (·.1) = e.fs.map (·.1) ∧ ∀ f x, e.fs.lookup f = some x → ∃ v, vs.lookup f = some v ∧ Rp K G v x)

section
variable (K : PySem.W.Frag) (mg : Str → Option Value) (W : WX)
/-- what an outcome asks -/
def Post {α : Type} (σ : St) (F : Fp) (G H : Hp) (good : α → Hp → Hp → Prop) : R α → Prop
  | .ok a ρ' => ∀ G' H' F', Rel K mg G' H' σ ρ' F' → Stp F G H G' H' F' → good a G' H'
  | .ex e ρ' => ∀ cv d G' H' F', Rel K mg G' H' σ ρ' F' → Stp F G H G' H' F' → XOk K mg G' H' e cv d → W cv d σ H'
  | .stuck => False
/-- .. of an object -/
def PostO (σ : St) (F : Fp) (G H : Hp) (Q : VK) : R O → Prop
  | .ok o ρ' => ∀ G' H' F' v S, Rel K mg G' H' σ ρ' F' → Stp F G H G' H' F' → OOk K mg G' H' v o S → (∀ a, S a → H a = none ∧ G' a = none ∧ H' a ≠ none ∧ ¬ F'.U a) → Q v H'
  | .ex e ρ' => ∀ cv d G' H' F', Rel K mg G' H' σ ρ' F' → Stp F G H G' H' F' → XOk K mg G' H' e cv d → W cv d σ H'
  | .stuck => False
def PostS (io : List Nat) (σ : St) (F : Fp) (G H : Hp) (Dn : Ends) : RS → Prop
  | .nx ρ' => ∀ σ' G' H' F', Rel K mg G' H' σ' ρ' F' → Stp F G H G' H' F' → (∀ i ∈ io, σ'[i]? = σ[i]?) → Dn.nx σ' H'
  | .br ρ' => ∀ σ' G' H' F', Rel K mg G' H' σ' ρ' F' → Stp F G H G' H' F' → (∀ i ∈ io, σ'[i]? = σ[i]?) → Dn.bk σ' H'
  | .ct ρ' => ∀ σ' G' H' F', Rel K mg G' H' σ' ρ' F' → Stp F G H G' H' F' → (∀ i ∈ io, σ'[i]? = σ[i]?) → Dn.ct σ' H'
  | .ret o ρ' => ∀ σ' G' H' F' v S, Rel K mg G' H' σ' ρ' F' → Stp F G H G' H' F' → (∀ i ∈ io, σ'[i]? = σ[i]?) → OOk K mg G' H' v o S → (∀ a, S a → H a = none ∧ G' a = none ∧ H' a ≠ none ∧ ∀ i ∈ io, ¬ F' i a) → Dn.rt v H'
  | .ex e ρ' => ∀ cv d σ' G' H' F', Rel K mg G' H' σ' ρ' F' → Stp F G H G' H' F' → (∀ i ∈ io, σ'[i]? = σ[i]?) → XOk K mg G' H' e cv d → W cv d σ' H'
  | .stuck => False

/-- the readings -/
def tD (f : FE D) : TE := fun σ H Q => ∃ G ρ F, Rel K mg G H σ ρ F ∧ Post K mg W σ F G H (fun d G' H' => ∀ v, Rp K G' v d → Q v H') (f ρ)
def tO (f : FE O) : TE := fun σ H Q => ∃ G ρ F, Rel K mg G H σ ρ F ∧ PostO K mg W σ F G H Q (f ρ)
def tT (f : FE Bool) : TT := fun σ H Q => ∃ G ρ F, Rel K mg G H σ ρ F ∧ Post K mg W σ F G H (fun b _ H' => Q b H') (f ρ)
def tDs (f : FE (List D)) : TA := fun σ H Q => ∃ G ρ F, Rel K mg G H σ ρ F ∧ Post K mg W σ F G H (fun ds G' H' => ∀ vs, RpL K G' vs ds → Q vs H') (f ρ)
def tS (io : List Nat) (f : FS) : TS := fun Dn σ H => ∃ G ρ F, Rel K mg G H σ ρ F ∧ PostS K mg W io σ F G H Dn (f ρ)
end
abbrev OkD (X : Cx) (W : WX) (e : Expr) (f : FE D) : Prop := PE X e (tD X.K X.mg W f)
abbrev OkO (X : Cx) (W : WX) (e : Expr) (f : FE O) : Prop := PE X e (tO X.K X.mg W f)
abbrev OkT (X : Cx) (W : WX) (e : Expr) (f : FE Bool) : Prop := PT X e (tT X.K X.mg W f)
abbrev OkDs (X : Cx) (W : WX) (es : List Expr) (f : FE (List D)) : Prop := PA X es (tDs X.K X.mg W f)
abbrev OkS (X : Cx) (W : WX) (io : List Nat) (st : Stmt) (f : FS) : Prop := PS X st (tS X.K X.mg W io f)
abbrev OkSs (X : Cx) (W : WX) (io : List Nat) (sts : List Stmt) (f : FS) : Prop := PSs X sts (tS X.K X.mg W io f)

theorem _root_.L2.PE.to {X : Cx} {e : Expr} {t u : TE} (h : PE X e t) (k : ∀ σ H Q, u σ H Q → t σ H Q) : PE X e u := ⟨fun pins s σ H Q I q => h.run pins s σ H Q I (k σ H Q q)⟩
theorem _root_.L2.PT.to {X : Cx} {e : Expr} {t u : TT} (h : PT X e t) (k : ∀ σ H Q, u σ H Q → t σ H Q) : PT X e u := ⟨fun pins s σ H Q I q => h.run pins s σ H Q I (k σ H Q q)⟩
theorem _root_.L2.PA.to {X : Cx} {e : List Expr} {t u : TA} (h : PA X e t) (k : ∀ σ H Q, u σ H Q → t σ H Q) : PA X e u := ⟨fun pos pins s σ H Q I q => h.run pos pins s σ H Q I (k σ H Q q)⟩
theorem _root_.L2.PS.to {X : Cx} {e : Stmt} {t u : TS} (h : PS X e t) (k : ∀ D σ H, u D σ H → t D σ H) : PS X e u := ⟨fun pins s σ H D I q => h.run pins s σ H D I (k D σ H q)⟩
theorem _root_.L2.PSs.to {X : Cx} {e : List Stmt} {t u : TS} (h : PSs X e t) (k : ∀ D σ H, u D σ H → t D σ H) : PSs X e u := ⟨fun pins s σ H D I q => h.run pins s σ H D I (k D σ H q)⟩

section
variable {K : PySem.W.Frag} {mg : Str → Option Value} {W : WX} {α β : Type} {σ : St} {F F1 : Fp} {G H G1 H1 : Hp}
/-- behind a step -/
theorem Post.after (s : Stp F G H G1 H1 F1) {good : α → Hp → Hp → Prop} {r : R α} (h : Post K mg W σ F G H good r) : Post K mg W σ F1 G1 H1 good r := by
  cases r with
  | ok a ρ' => exact fun G' H' F' rl st => h G' H' F' rl (s.trans st)
  | ex e ρ' => exact fun cv d G' H' F' rl st x => h cv d G' H' F' rl (s.trans st) x
  | stuck => exact h
theorem Post.bind {good : β → Hp → Hp → Prop} {r : R α} {k : α → Env → R β} (h : Post K mg W σ F G H good (r.bind k)) {good' : α → Hp → Hp → Prop}
    (hg : ∀ a ρ1 G1 H1 F1, r = .ok a ρ1 → Rel K mg G1 H1 σ ρ1 F1 → Stp F G H G1 H1 F1 → Post K mg W σ F1 G1 H1 good (k a ρ1) → good' a G1 H1) : Post K mg W σ F G H good' r := by
  cases r with
  | ok a ρ' => exact fun G' H' F' rl st => hg a ρ' G' H' F' rfl rl st (Post.after st h)
  | ex e ρ' => exact h
  | stuck => exact h
theorem PostO.after (s : Stp F G H G1 H1 F1) {Q : VK} {r : R O} (h : PostO K mg W σ F G H Q r) : PostO K mg W σ F1 G1 H1 Q r := by
  cases r with
  | ok a ρ' =>
    refine fun G' H' F' v S rl st ok z => h G' H' F' v S rl (s.trans st) ok fun a q => ?_
    obtain ⟨z1, z2⟩ := z a q
    refine ⟨?_, z2⟩
    cases q : H a with
    | none => rfl
    | some o => exact absurd z1 (s.there a (by rw [q]; exact fun e => nomatch e))
  | ex e ρ' => exact fun cv d G' H' F' rl st x => h cv d G' H' F' rl (s.trans st) x
  | stuck => exact h
theorem PostO.bind {Q : VK} {r : R α} {k : α → Env → R O} (h : PostO K mg W σ F G H Q (r.bind k)) {good' : α → Hp → Hp → Prop}
    (hg : ∀ a ρ1 G1 H1 F1, r = .ok a ρ1 → Rel K mg G1 H1 σ ρ1 F1 → Stp F G H G1 H1 F1 → PostO K mg W σ F1 G1 H1 Q (k a ρ1) → good' a G1 H1) : Post K mg W σ F G H good' r := by
  cases r with
  | ok a ρ' => exact fun G' H' F' rl st => hg a ρ' G' H' F' rfl rl st (PostO.after st h)
  | ex e ρ' => exact h
  | stuck => exact h
end
end Fx

set_option Elab.async false
set_option linter.all false
set_option maxRecDepth 100000
set_option maxHeartbeats 1000000
/-! Fx2: expressions. -/
namespace Fx
open PySem L2

/-! ### steps that only make new things -/
structure Ext (G H G' H' : Hp) : Prop where
  le : Le G G'
  leH : Le H H'
  fresh : ∀ a, H a ≠ none → G a = none → G' a = none
  sub : Le G' H'
theorem Ext.refl {G H : Hp} (s : Le G H) : Ext G H G H := ⟨Le.refl _, Le.refl _, fun _ _ h => h, s⟩
theorem Le.back {G H : Hp} (s : Le G H) {p : Addr} (h : H p = none) : G p = none := by
  cases q : G p with
  | none => rfl
  | some o => rw [s p o q] at h; cases h
theorem Le.upd2 {G H : Hp} (s : Le G H) {p : Addr} {o : HO} : Le (L2.upd G p o) (L2.upd H p o) := fun a u e => by
  by_cases h : a = p
  · subst h; rw [upd_same] at e ⊢; exact e
  · rw [upd_ne h] at e ⊢; exact s a u e
theorem Ext.new {G H : Hp} (s : Le G H) {p : Addr} {o : HO} (h : H p = none) : Ext G H (upd G p o) (upd H p o) :=
  ⟨Le.upd (s.back h), Le.upd h, fun a n g => by rw [upd_ne (fun e => n (by rw [e]; exact h))]; exact g, s.upd2⟩
theorem Ext.trans {G H G1 H1 G2 H2 : Hp} (a : Ext G H G1 H1) (b : Ext G1 H1 G2 H2) : Ext G H G2 H2 :=
  ⟨a.le.trans b.le, a.leH.trans b.leH, fun x n g => b.fresh x (fun e => by
    cases q : H x with
    | none => exact n q
    | some o => rw [a.leH x o q] at e; cases e) (a.fresh x n g), b.sub⟩
theorem Ext.there {G H G' H' : Hp} (a : Ext G H G' H') : ∀ x, H x ≠ none → H' x ≠ none := fun x n e => by
  cases q : H x with
  | none => exact n q
  | some o => rw [a.leH x o q] at e; cases e
section
variable {K : PySem.W.Frag} {mg : Str → Option Value} {G H G' H' : Hp} {σ : St} {ρ : Env} {F : Fp}
theorem Rel.ext (r : Rel K mg G H σ ρ F) (x : Ext G H G' H') : Rel K mg G' H' σ ρ F where
  len := r.len
  ok := fun i o e => let ⟨v, e1, e2⟩ := r.ok i o e; ⟨v, e1, e2.mono x.le fun a o _ q => x.leH a o q⟩
  dis := r.dis
  out := fun i a z => ⟨x.fresh a (r.out i a z).2 (r.out i a z).1, x.there a (r.out i a z).2⟩
  non := r.non
  sub := x.sub
theorem Ext.stp (x : Ext G H G' H') : Stp F G H G' H' F := ⟨x.le, fun a o h _ => x.leH a o h, fun a h g _ => x.fresh a h g, x.there, fun _ _ h => .inl h⟩
end

/-! ### names and constants -/
def optR {α : Type} (o : Option α) (ρ : Env) : R α := match o with
  | some a => .ok a ρ
  | none => .stuck
def varF (i : Nat) : FE D := fun ρ => match ρ[i]? with
  | some (some (.c (.val d))) => .ok d ρ
  | _ => .stuck
def cF (d : D) : FE D := fun ρ => .ok d ρ

section
variable {X : Cx} {W : WX} {e a b : Expr} {es : List Expr} {pos : Pos} {fa fb : FE D}
theorem varF_inv {i : Nat} {ρ : Env} {d : D} {ρ' : Env} (h : varF i ρ = .ok d ρ') : ρ[i]? = some (some (.v d)) ∧ ρ' = ρ := by
  unfold varF at h
  split at h
  · rename_i d' e
    cases h
    exact ⟨e, rfl⟩
  · cases h
theorem varF_cases (i : Nat) (ρ : Env) : (∃ d, varF i ρ = .ok d ρ ∧ ρ[i]? = some (some (.v d))) ∨ varF i ρ = .stuck := by
  unfold varF
  split
  · rename_i d' e
    exact .inl ⟨d', rfl, e⟩
  · exact .inr rfl
theorem Rel.val {K : PySem.W.Frag} {mg : Str → Option Value} {G H : Hp} {σ : St} {ρ : Env} {F : Fp} (r : Rel K mg G H σ ρ F) {i : Nat} {d : D} (h : ρ[i]? = some (some (.v d))) : ∃ v, σ[i]? = some (some v) ∧ Rp K G v d := by
  obtain ⟨v, e, q⟩ := r.ok i _ h
  cases q with
  | c q =>
    generalize hF : F i = S at q
    cases q with
    | val q => exact ⟨v, e, q⟩
theorem ok_var (i : Nat) {x : Str} (hN : X.N[i]? = some x := by rfl) (hv : Vis X.env.scope x := by first | exact Or.inl rfl | exact Or.inr (Or.inl rfl) | exact Or.inr (Or.inr rfl)) (hd : (x == ("__debug__" : Str)) = false := by decide)
    (hcd : (x == ("__classdict__" : Str)) = false := by decide) : OkD X W (.Name x pos) (varF i) := by
  refine (pe_var (i := i) hN hv hd hcd).to fun σ H Q h => ?_
  obtain ⟨G, ρ, F, rl, p⟩ := h
  rcases varF_cases i ρ with ⟨d, e, e2⟩ | e
  · rw [e] at p
    obtain ⟨v, e3, rv⟩ := rl.val e2
    exact ⟨v, e3, p G H F rl .refl v rv⟩
  · rw [e] at p; exact p.elim
theorem ok_c {v : V} {d : D} (h : PE X e (tC v)) (r : ∀ K G, Rp K G v d) : OkD X W e (cF d) := by
  refine h.to fun σ H Q h => ?_
  obtain ⟨G, ρ, F, rl, p⟩ := h
  exact p G H F rl .refl v (r _ _)
theorem ok_int {i j} : OkD X W (.Constant (.int i) j pos) (cF (.int i)) := ok_c pe_int fun _ _ => .int _
theorem ok_bl {i j} : OkD X W (.Constant (.bool i) j pos) (cF (.bl i)) := ok_c pe_bl fun _ _ => .bl _
theorem ok_non {j} : OkD X W (.Constant .none j pos) (cF .non) := ok_c pe_non fun _ _ => .non
theorem ok_str {x j} : OkD X W (.Constant (.str x) j pos) (cF (.str x)) := ok_c pe_str fun _ _ => .str _
/-- a module's constant: an int, a text -/
theorem ok_glob {x : Str} {v : V} {u : Value} {d : D} (hg : Gl X x) (hm : X.mg x = some u) (r : RelV v u) (rd : ∀ G, Rp X.K G v d) (hd : (x == ("__debug__" : Str)) = false := by decide) : OkD X W (.Name x pos) (cF d) := by
  refine (pe_glob hg hm r hd).to fun σ H Q h => ?_
  obtain ⟨G, ρ, F, rl, p⟩ := h
  exact p G H F rl .refl v (rd _)

/-! ### from objects to values and back -/
def frz : O → Option D
  | .c (.val d) => some d
  | .c (.lst xs) => some (.lst xs)
  | .c (.dk xs) => some (.dk xs)
  | .c (.dt xs) => some (.dt xs)
  | .ins _ _ => none
def frzF (f : FE O) : FE D := fun ρ => (f ρ).bind fun o ρ' => optR (frz o) ρ'
def valF (f : FE D) : FE O := fun ρ => (f ρ).bind fun d ρ' => .ok (.v d) ρ'
theorem Rel.frz {K : PySem.W.Frag} {mg : Str → Option Value} {G H : Hp} {σ : St} {ρ : Env} {F : Fp} (r : Rel K mg G H σ ρ F) {p : Addr} {o : HO} (h : H p = some o) (g : G p = none) (n : ¬ F.U p) : Rel K mg (upd G p o) H σ ρ F where
  len := r.len
  ok := fun i o e => let ⟨v, e1, e2⟩ := r.ok i o e; ⟨v, e1, e2.mono (Le.upd g) fun a o _ q => q⟩
  dis := r.dis
  out := fun i a z => ⟨by rw [upd_ne (fun e => n (by rw [← e]; exact ⟨i, z⟩))]; exact (r.out i a z).1, (r.out i a z).2⟩
  non := r.non
  sub := fun a u e => by
    by_cases q : a = p
    · subst q; rw [upd_same] at e; cases e; exact h
    · rw [upd_ne q] at e; exact r.sub a u e
theorem Stp.frz {F F' : Fp} {G H G' H' : Hp} (s : Stp F G H G' H' F') {p : Addr} {o : HO} (g : G' p = none) (n : H p = none ∨ F.U p) : Stp F G H (upd G' p o) H' F' where
  le := s.le.trans (Le.upd g)
  fr := s.fr
  fresh := fun a h g2 u => by
    rw [upd_ne (fun e => by
      rcases n with n | n
      · exact h (by rw [e]; exact n)
      · exact u (by rw [e]; exact n))]
    exact s.fresh a h g2 u
  there := s.there
  own := s.own
/-- an object of one's own becomes a value -/
theorem frz_ok {K : PySem.W.Frag} {mg : Str → Option Value} {G H : Hp} {σ : St} {ρ : Env} {F : Fp} {v : V} {o : O} {d : D} {S : Addr → Prop} (r : Rel K mg G H σ ρ F) (ok : OOk K mg G H v o S) (e : frz o = some d) (z : ∀ a, S a → G a = none ∧ ¬ F.U a) :
    ∃ G', Rel K mg G' H σ ρ F ∧ Rp K G' v d ∧ ∀ (F0 : Fp) (G0 H0 : Hp), Stp F0 G0 H0 G H F → (∀ a, S a → H0 a = none ∨ F0.U a) → Stp F0 G0 H0 G' H F := by
  cases ok with
  | c ok =>
    cases ok with
    | val q => cases e; exact ⟨G, r, q, fun _ _ _ s _ => s⟩
    | @lst p vs ds h q =>
      cases e
      exact ⟨upd G p (.lst vs), r.frz h (z p rfl).1 (z p rfl).2, .lst (.inl (.inl upd_same)) (q.mono (Le.upd (z p rfl).1)), fun _ _ _ s n => s.frz (z p rfl).1 (n p rfl)⟩
    | @dk p vs ds h q =>
      cases e
      exact ⟨upd G p (.dK vs), r.frz h (z p rfl).1 (z p rfl).2, .dk (.inl upd_same) (q.mono (Le.upd (z p rfl).1)), fun _ _ _ s n => s.frz (z p rfl).1 (n p rfl)⟩
    | @dt p vs ds h q =>
      cases e
      exact ⟨upd G p (.dT vs), r.frz h (z p rfl).1 (z p rfl).2, .dt (.inl upd_same) (q.mono (Le.upd (z p rfl).1)), fun _ _ _ s n => s.frz (z p rfl).1 (n p rfl)⟩
  | ins q => cases e
theorem tO_tD {K : PySem.W.Frag} {mg : Str → Option Value} {f : FE O} {σ : St} {H : Hp} {Q : VK} (h : tD K mg W (frzF f) σ H Q) : tO K mg W f σ H Q := by
  obtain ⟨G, ρ, F, rl, p⟩ := h
  refine ⟨G, ρ, F, rl, ?_⟩
  unfold frzF at p
  cases e : f ρ with
  | ok o ρ' =>
    rw [e] at p
    intro G' H' F' v S rl' st ok z
    cases e2 : frz o with
    | none => rw [R.bind_ok, e2] at p; exact p.elim
    | some d =>
      rw [R.bind_ok, e2] at p
      obtain ⟨G2, r2, q2, s2⟩ := frz_ok rl' ok e2 fun a q => ⟨(z a q).2.1, (z a q).2.2.2⟩
      exact p G2 H' F' r2 (s2 _ _ _ st fun a q => .inl (z a q).1) v q2
  | ex e ρ' => rw [e] at p; exact p
  | stuck => rw [e] at p; exact p
theorem OkO.toD {f : FE O} (h : OkO X W e f) : OkD X W e (frzF f) := h.to fun σ H Q q => tO_tD q
theorem OkD.toO {f : FE D} (h : OkD X W e f) : OkO X W e (valF f) := by
  refine h.to fun σ H Q q => ?_
  obtain ⟨G, ρ, F, rl, p⟩ := q
  refine ⟨G, ρ, F, rl, PostO.bind p fun a ρ1 G1 H1 F1 _ rl1 st1 p1 v rv => ?_⟩
  exact p1 G1 H1 F1 v _ rl1 .refl (.c (.val rv)) fun _ z => z.elim

/-! ### operators on values -/
def V1 (K : PySem.W.Frag) (r : V → Hp → VK → Prop) (g : D → Option D) : Prop := ∀ G H x a z Q, Le G H → Rp K G x a → g a = some z → (∀ v G' H', Ext G H G' H' → Rp K G' v z → Q v H') → r x H Q
def V2 (K : PySem.W.Frag) (r : R2) (g : D → D → Option D) : Prop := ∀ G H x y a b z Q, Le G H → Rp K G x a → Rp K G y b → g a b = some z → (∀ v G' H', Ext G H G' H' → Rp K G' v z → Q v H') → r x y H Q
def VN (K : PySem.W.Frag) (r : List V → Hp → VK → Prop) (g : List D → Option D) : Prop := ∀ G H xs as z Q, Le G H → RpL K G xs as → g as = some z → (∀ v G' H', Ext G H G' H' → Rp K G' v z → Q v H') → r xs H Q
def op1F (g : D → Option D) (fa : FE D) : FE D := fun ρ => (fa ρ).bind fun x ρ => optR (g x) ρ
def op2F (g : D → D → Option D) (fa fb : FE D) : FE D := fun ρ => (fa ρ).bind fun x ρ => (fb ρ).bind fun y ρ => optR (g x y) ρ
def opNF (g : List D → Option D) (f : FE (List D)) : FE D := fun ρ => (f ρ).bind fun xs ρ => optR (g xs) ρ
section
variable {K : PySem.W.Frag} {mg : Str → Option Value} {σ : St} {H : Hp} {Q : VK}
theorem t_op1 {r : V → Hp → VK → Prop} {g : D → Option D} (hv : V1 K r g) (h : tD K mg W (op1F g fa) σ H Q) : tD K mg W fa σ H fun x H1 => r x H1 Q := by
  obtain ⟨G, ρ, F, rl, p⟩ := h
  refine ⟨G, ρ, F, rl, Post.bind p fun x ρ1 G1 H1 F1 _ rl1 st1 p1 v rv => ?_⟩
  cases e : g x with
  | none => simp only [e] at p1; exact p1.elim
  | some z =>
    simp only [e] at p1
    exact hv G1 H1 v x z Q rl1.sub rv e fun w G2 H2 ex rw => p1 G2 H2 F1 (rl1.ext ex) ex.stp w rw
theorem t_op2 {r : R2} {g : D → D → Option D} (hv : V2 K r g) (h : tD K mg W (op2F g fa fb) σ H Q) : tOp r (tD K mg W fa) (tD K mg W fb) σ H Q := by
  obtain ⟨G, ρ, F, rl, p⟩ := h
  refine ⟨G, ρ, F, rl, Post.bind p fun x ρ1 G1 H1 F1 _ rl1 st1 p1 v rv => ⟨G1, ρ1, F1, rl1, Post.bind p1 fun y ρ2 G2 H2 F2 _ rl2 st2 p2 u ru => ?_⟩⟩
  cases e : g x y with
  | none => simp only [e] at p2; exact p2.elim
  | some z =>
    simp only [e] at p2
    exact hv G2 H2 v u x y z Q rl2.sub (rv.mono st2.le) ru e fun w G3 H3 ex rw => p2 G3 H3 F2 (rl2.ext ex) ex.stp w rw
theorem t_opN {r : List V → Hp → VK → Prop} {g : List D → Option D} {f : FE (List D)} (hv : VN K r g) (h : tD K mg W (opNF g f) σ H Q) : tCB r (tDs K mg W f) σ H Q := by
  obtain ⟨G, ρ, F, rl, p⟩ := h
  refine ⟨G, ρ, F, rl, Post.bind p fun x ρ1 G1 H1 F1 _ rl1 st1 p1 vs rv => ?_⟩
  cases e : g x with
  | none => simp only [e] at p1; exact p1.elim
  | some z =>
    simp only [e] at p1
    exact hv G1 H1 vs x z Q rl1.sub rv e fun w G2 H2 ex rw => p1 G2 H2 F1 (rl1.ext ex) ex.stp w rw
end
theorem ok_op {op : Operator} {r : R2} {g : D → D → Option D} (ho : OpR X (binaryOp op) r) (hv : V2 X.K r g) (ha : OkD X W a fa) (hb : OkD X W b fb) : OkD X W (.BinOp a op b pos) (op2F g fa fb) := (pe_op ho ha hb).to fun _ _ _ h => t_op2 hv h
theorem ok_un {op : UnaryOp} {r : V → Hp → VK → Prop} {g : D → Option D} (ho : UnR X (unaryOp op) r) (hv : V1 X.K r g) (ha : OkD X W a fa) : OkD X W (.UnaryOp op a pos) (op1F g fa) := (pe_un ho ha).to fun _ _ _ h => t_op1 hv h
theorem ok_cmp {op : CmpOp} {r : R2} {g : D → D → Option D} (ho : OpR X (compareOp op) r) (hv : V2 X.K r g) (ha : OkD X W a fa) (hb : OkD X W b fb) (hm : behindInMarks op b = false) : OkD X W (.Compare a [op] [b] pos) (op2F g fa fb) := (pe_cmpR ho ha hb hm).to fun _ _ _ h => t_op2 hv h
end

/-! ### ints -/
def iiD (f : Int → Int → Int) : D → D → Option D
  | .int i, .int j => some (.int (f i j))
  | _, _ => none
def iicD (C : Int → Int → Prop) [∀ i j, Decidable (C i j)] (f : Int → Int → Int) : D → D → Option D
  | .int i, .int j => if C i j then some (.int (f i j)) else none
  | _, _ => none
def ibD (f : Int → Int → Bool) : D → D → Option D
  | .int i, .int j => some (.bl (f i j))
  | _, _ => none
def iD (f : Int → Int) : D → Option D
  | .int i => some (.int (f i))
  | _ => none
section
variable {K : PySem.W.Frag}
theorem v2_ii {f : Int → Int → Int} : V2 K (rI0 fun i j => .int (f i j)) (iiD f) := fun G H x y a b z Q s ra rb e q => by
  cases ra <;> cases rb <;> cases e
  exact ⟨_, _, rfl, rfl, q _ G H (.refl s) (.int _)⟩
theorem v2_ib {f : Int → Int → Bool} : V2 K (rI0 fun i j => .bl (f i j)) (ibD f) := fun G H x y a b z Q s ra rb e q => by
  cases ra <;> cases rb <;> cases e
  exact ⟨_, _, rfl, rfl, q _ G H (.refl s) (.bl _)⟩
theorem v2_iic {C : Int → Int → Prop} [∀ i j, Decidable (C i j)] {f : Int → Int → Int} : V2 K (rI C fun i j => .int (f i j)) (iicD C f) := fun G H x y a b z Q s ra rb e q => by
  unfold iicD at e
  split at e
  · rename_i i j
    split at e
    · rename_i hc
      cases ra; cases rb; cases e
      exact ⟨i, j, rfl, rfl, hc, q _ G H (.refl s) (.int _)⟩
    · cases e
  · cases e
theorem v1_i {f : Int → Int} : V1 K (rU fun i => .int (f i)) (iD f) := fun G H x a z Q s ra e q => by
  cases ra <;> cases e
  exact ⟨_, rfl, q _ G H (.refl s) (.int _)⟩
end
abbrev addD := iiD fun i j => i + j
abbrev subD := iiD fun i j => i - j
/-- two factors of together less than a hundred million bits, or one of them short -/
def MulC (i j : Int) : Prop := i.natAbs.log2 + j.natAbs.log2 < 100000000 ∨ i.natAbs < 2 ^ 62 ∨ j.natAbs < 2 ^ 62
instance (i j : Int) : Decidable (MulC i j) := by unfold MulC; infer_instance
theorem MulC.ok {i j : Int} (h : MulC i j) : IntMulOk i j := by
  have b : ∀ x : Int, Builtin.Int.intBits x ≤ x.natAbs.log2 + 1 := fun x => by
    unfold Builtin.Int.intBits
    split <;> omega
  rcases h with h3 | h | h
  · have h1 := b i
    have h2 := b j
    have e : bitsLine = 134217728 := by decide
    unfold IntMulOk
    intro z
    rw [Bool.and_eq_true] at z
    have z2 := z.2
    unfold Builtin.Int.intTooBig at z2
    have z3 := of_decide_eq_true z2
    rw [e] at z3
    omega
  · exact .of_left (intBits_le_64 (by omega) (by omega))
  · exact .of_right (intBits_le_64 (by omega) (by omega))
abbrev mulD := iicD MulC fun i j => i * j
/-- a divisor below 2 ^ 9000 -/
def DivC (_ j : Int) : Prop := j ≠ 0 ∧ j.natAbs.log2 < 9000
instance (i j : Int) : Decidable (DivC i j) := by unfold DivC; infer_instance
def ModC (_ j : Int) : Prop := j ≠ 0
instance (i j : Int) : Decidable (ModC i j) := by unfold ModC; infer_instance
def PowC (i j : Int) : Prop := 0 ≤ j ∧ j ≤ 1000000 ∧ i.natAbs < 2 ^ 64
instance (i j : Int) : Decidable (PowC i j) := by unfold PowC; infer_instance
abbrev fdivD := iicD DivC fun i j => i.fdiv j
abbrev fmodD := iicD ModC fun i j => i.fmod j
abbrev powD := iicD PowC fun i j => i ^ j.toNat
section
variable {X : Cx}
theorem o_mul : OpR X (binaryOp .Mult) (rI MulC fun i j => .int (i * j)) := opI fun _ _ _ _ _ _ _ hc q => PyProof.Rows.mul_int q hc.ok
theorem o_fdiv : OpR X (binaryOp .FloorDiv) (rI DivC fun i j => .int (i.fdiv j)) := opI fun i j _ _ _ _ _ hc q => PyProof.Rows.floordiv_int hc.1 q (.inl (PyProof.noPylong_of_log2 hc.2))
theorem o_ifdiv : OpR X (inplaceOp .FloorDiv) (rI DivC fun i j => .int (i.fdiv j)) := opI fun i j _ _ _ _ _ hc q => PyProof.Rows.ifloordiv_int hc.1 q (.inl (PyProof.noPylong_of_log2 hc.2))
variable {W : WX} {a b : Expr} {pos : Pos} {fa fb : FE D}
theorem ok_add (ha : OkD X W a fa) (hb : OkD X W b fb) : OkD X W (.BinOp a .Add b pos) (op2F addD fa fb) := ok_op op_add v2_ii ha hb
theorem ok_sub (ha : OkD X W a fa) (hb : OkD X W b fb) : OkD X W (.BinOp a .Sub b pos) (op2F subD fa fb) := ok_op op_sub v2_ii ha hb
theorem ok_mul (ha : OkD X W a fa) (hb : OkD X W b fb) : OkD X W (.BinOp a .Mult b pos) (op2F mulD fa fb) := ok_op o_mul v2_iic ha hb
theorem ok_fdiv (ha : OkD X W a fa) (hb : OkD X W b fb) : OkD X W (.BinOp a .FloorDiv b pos) (op2F fdivD fa fb) := ok_op o_fdiv v2_iic ha hb
theorem ok_mod (ha : OkD X W a fa) (hb : OkD X W b fb) : OkD X W (.BinOp a .Mod b pos) (op2F fmodD fa fb) := ok_op op_modN v2_iic ha hb
theorem o_pow : OpR X (binaryOp .Pow) (rI PowC fun i j => .int (i ^ j.toNat)) := op_pow
theorem ok_pow (ha : OkD X W a fa) (hb : OkD X W b fb) : OkD X W (.BinOp a .Pow b pos) (op2F powD fa fb) := ok_op o_pow v2_iic ha hb
theorem ok_neg (ha : OkD X W a fa) : OkD X W (.UnaryOp .USub a pos) (op1F (iD fun i => -i) fa) := ok_un un_neg v1_i ha
theorem ok_lt (ha : OkD X W a fa) (hb : OkD X W b fb) : OkD X W (.Compare a [.Lt] [b] pos) (op2F (ibD fun i j => decide (i < j)) fa fb) := ok_cmp op_lt v2_ib ha hb (nomark _)
theorem ok_le (ha : OkD X W a fa) (hb : OkD X W b fb) : OkD X W (.Compare a [.LtE] [b] pos) (op2F (ibD fun i j => decide (i ≤ j)) fa fb) := ok_cmp op_le v2_ib ha hb (nomark _)
theorem ok_gt (ha : OkD X W a fa) (hb : OkD X W b fb) : OkD X W (.Compare a [.Gt] [b] pos) (op2F (ibD fun i j => decide (j < i)) fa fb) := ok_cmp op_gt v2_ib ha hb (nomark _)
theorem ok_ge (ha : OkD X W a fa) (hb : OkD X W b fb) : OkD X W (.Compare a [.GtE] [b] pos) (op2F (ibD fun i j => decide (j ≤ i)) fa fb) := ok_cmp op_ge v2_ib ha hb (nomark _)
end

/-! ### == of data -/
mutual
def toPy : D → PyData
  | .non => .none | .bl b => .bool b | .int i => .int i | .str s => .str s
  | .tup xs => .tuple (toPyL xs) | .lst xs => .list (toPyL xs)
  | .dk _ => .dict [] | .dt _ => .dict []
def toPyL : List D → List PyData
  | [] => []
  | x :: xs => toPy x :: toPyL xs
end
section
variable {K : PySem.W.Frag} {G H : Hp}
mutual
theorem Rp.dp (s : Le G H) : ∀ {v : V} {d : D}, Rp K G v d → (toPy d).canLay0 = true → Dp K H v (toPy d)
  | _, _, .non, _ => .non
  | _, _, .bl b, _ => .bl b
  | _, _, .int i, _ => .int i
  | _, _, .str x, _ => .str x
  | _, _, .tup h r, c => by
    unfold toPy at c ⊢
    exact .tup (s.sqt h) (RpL.dp s r (by simpa only [PyData.canLay0] using c))
  | _, _, .lst h r, c => by
    unfold toPy at c ⊢
    exact .lst (s.sql h) (RpL.dp s r (by simpa only [PyData.canLay0] using c))
  | _, _, .dk h r, c => by unfold toPy at c; cases c
  | _, _, .dt h r, c => by unfold toPy at c; cases c
theorem RpL.dp (s : Le G H) : ∀ {vs : List V} {ds : List D}, RpL K G vs ds → PyData.canLayAll0 (toPyL ds) = true → DpAll K H vs (toPyL ds)
  | _, _, .nil, _ => .nil
  | _, d :: ds, .cons h r, c => by
    unfold toPyL at c ⊢
    have c' : (toPy d).canLay0 = true ∧ PyData.canLayAll0 (toPyL ds) = true := by simpa [PyData.canLayAll0] using c
    exact .cons (Rp.dp s h c'.1) (RpL.dp s r c'.2)
end
def eqB (a b : D) : Bool := PyData.eqv (toPy a) (toPy b)
def eqD (n : Bool) (a b : D) : Option D := if SeqAt.shaped (toPy a) = true ∧ SeqAt.shaped (toPy b) = true then some (.bl (if n then !eqB a b else eqB a b)) else none
theorem v2_eq : V2 K (rEqD K) (eqD false) := fun G H x y a b z Q s ra rb e q => by
  unfold eqD at e
  split at e
  · rename_i h
    cases e
    exact ⟨_, _, ra.dp s (SeqAt.canLay_of_shaped h.1), rb.dp s (SeqAt.canLay_of_shaped h.2), h.1, h.2, q _ G H (.refl s) (.bl _)⟩
  · cases e
theorem v2_ne : V2 K (rNeD K) (eqD true) := fun G H x y a b z Q s ra rb e q => by
  unfold eqD at e
  split at e
  · rename_i h
    cases e
    exact ⟨_, _, ra.dp s (SeqAt.canLay_of_shaped h.1), rb.dp s (SeqAt.canLay_of_shaped h.2), h.1, h.2, q _ G H (.refl s) (.bl _)⟩
  · cases e
end
section
variable {X : Cx} {W : WX} {a b : Expr} {pos : Pos} {fa fb : FE D}
theorem ok_eq (hu : X.A.units + 64 < cLine) (ha : OkD X W a fa) (hb : OkD X W b fb) : OkD X W (.Compare a [.Eq] [b] pos) (op2F (eqD false) fa fb) := ok_cmp (op_eqD hu) v2_eq ha hb (nomark _)
theorem ok_ne (hu : X.A.units + 64 < cLine) (ha : OkD X W a fa) (hb : OkD X W b fb) : OkD X W (.Compare a [.NotEq] [b] pos) (op2F (eqD true) fa fb) := ok_cmp (op_neD hu) v2_ne ha hb (nomark _)
end
end Fx

set_option Elab.async false
set_option linter.all false
set_option maxRecDepth 100000
set_option maxHeartbeats 1000000
/-! Fx3: bases, subscripts, slices, displays, tests, built-in calls. -/
namespace Fx
open PySem L2

/-! ### bases: a value, or the object at a slot -/
inductive Pl where
  | v (x : D) | sl (i : Nat)
def Pl.get : Pl → Env → Option C1
  | .v x, _ => some (.val x)
  | .sl i, ρ => match ρ[i]? with
    | some (some (.c c)) => some c
    | _ => none
def PlOk (K : PySem.W.Frag) (G : Hp) (σ : L2.St) (v : V) : Pl → Prop
  | .v x => Rp K G v x
  | .sl i => σ[i]? = some (some v)
theorem PlOk.mono {K : PySem.W.Frag} {G G' : Hp} {σ : L2.St} {v : V} {p : Pl} (l : Le G G') (h : PlOk K G σ v p) : PlOk K G' σ v p := by
  cases p with
  | v x => exact Rp.mono l h
  | sl i => exact h
theorem Rel.pl {K : PySem.W.Frag} {mg : Str → Option Value} {G H : Hp} {σ : L2.St} {ρ : Env} {F : Fp} (r : Rel K mg G H σ ρ F) {v : V} {p : Pl} {c : C1} (h : PlOk K G σ v p) (e : p.get ρ = some c) : ∃ S, C1Ok K G H v c S := by
  cases p with
  | v x => cases e; exact ⟨_, .val h⟩
  | sl i =>
    have e' : (match ρ[i]? with | some (some (O.c c)) => some c | _ => none) = some c := e
    split at e'
    · rename_i c' e1
      cases e'
      obtain ⟨u, e2, q⟩ := r.ok _ _ e1
      rw [show σ[i]? = some (some v) from h] at e2
      cases e2
      cases q with
      | c q => exact ⟨_, q⟩
    · cases e'
def tB (K : PySem.W.Frag) (mg : Str → Option Value) (W : WX) (f : FE Pl) : TE := fun σ H Q => ∃ G ρ F, Rel K mg G H σ ρ F ∧ Post K mg W σ F G H (fun p G' H' => ∀ v, PlOk K G' σ v p → Q v H') (f ρ)
abbrev OkB (X : Cx) (W : WX) (e : Expr) (f : FE Pl) : Prop := PE X e (tB X.K X.mg W f)
def bD (f : FE D) : FE Pl := fun ρ => (f ρ).bind fun d ρ' => .ok (.v d) ρ'
def bS (i : Nat) : FE Pl := fun ρ => match ρ[i]? with
  | some (some _) => .ok (.sl i) ρ
  | _ => .stuck
section
variable {X : Cx} {W : WX} {e a b : Expr} {es : List Expr} {pos : Pos} {fa fb : FE D} {f : FE Pl}
theorem OkD.toB (h : OkD X W e fa) : OkB X W e (bD fa) := by
  refine h.to fun σ H Q q => ?_
  obtain ⟨G, ρ, F, rl, p⟩ := q
  exact ⟨G, ρ, F, rl, Post.bind p fun d ρ1 G1 H1 F1 _ rl1 st1 p1 v rv => p1 G1 H1 F1 rl1 .refl v rv⟩
theorem okb_var (i : Nat) {x : Str} (hN : X.N[i]? = some x := by rfl) (hv : Vis X.env.scope x := by first | exact Or.inl rfl | exact Or.inr (Or.inl rfl) | exact Or.inr (Or.inr rfl)) (hd : (x == ("__debug__" : Str)) = false := by decide)
    (hcd : (x == ("__classdict__" : Str)) = false := by decide) : OkB X W (.Name x pos) (bS i) := by
  refine (pe_var (i := i) hN hv hd hcd).to fun σ H Q h => ?_
  obtain ⟨G, ρ, F, rl, p⟩ := h
  unfold bS at p
  split at p
  · rename_i o e
    obtain ⟨v, e1, _⟩ := rl.ok i _ e
    exact ⟨v, e1, p G H F rl .refl v e1⟩
  · exact p.elim

/-! ### what is asked of a base -/
def B1 (K : PySem.W.Frag) (r : V → Hp → VK → Prop) (g : C1 → Option D) : Prop := ∀ G H v c S z Q, Le G H → C1Ok K G H v c S → g c = some z → (∀ u G' H', Ext G H G' H' → Rp K G' u z → Q u H') → r v H Q
def B2 (K : PySem.W.Frag) (r : R2) (g : C1 → D → Option D) : Prop := ∀ G H v c S y b z Q, Le G H → C1Ok K G H v c S → Rp K G y b → g c b = some z → (∀ u G' H', Ext G H G' H' → Rp K G' u z → Q u H') → r v y H Q
def b1F (g : C1 → Option D) (f : FE Pl) : FE D := fun ρ => (f ρ).bind fun p ρ => match p.get ρ with
  | some c => optR (g c) ρ
  | none => .stuck
def b2F (g : C1 → D → Option D) (f : FE Pl) (fi : FE D) : FE D := fun ρ => (f ρ).bind fun p ρ => (fi ρ).bind fun k ρ => match p.get ρ with
  | some c => optR (g c k) ρ
  | none => .stuck
section
variable {K : PySem.W.Frag} {mg : Str → Option Value} {σ : L2.St} {H : Hp} {Q : VK}
theorem t_b1 {r : V → Hp → VK → Prop} {g : C1 → Option D} (hv : B1 K r g) (h : tD K mg W (b1F g f) σ H Q) : tB K mg W f σ H fun x H1 => r x H1 Q := by
  obtain ⟨G, ρ, F, rl, p⟩ := h
  refine ⟨G, ρ, F, rl, Post.bind p fun x ρ1 G1 H1 F1 _ rl1 st1 p1 v rv => ?_⟩
  cases e1 : x.get ρ1 with
  | none => rw [e1] at p1; exact p1.elim
  | some c =>
    rw [e1] at p1
    obtain ⟨S, ok⟩ := rl1.pl rv e1
    cases e : g c with
    | none => simp only [e] at p1; exact p1.elim
    | some z =>
      simp only [e] at p1
      exact hv G1 H1 v c S z Q rl1.sub ok e fun w G2 H2 ex rw => p1 G2 H2 F1 (rl1.ext ex) ex.stp w rw
theorem t_b2 {r : R2} {g : C1 → D → Option D} (hv : B2 K r g) (h : tD K mg W (b2F g f fa) σ H Q) : tOp r (tB K mg W f) (tD K mg W fa) σ H Q := by
  obtain ⟨G, ρ, F, rl, p⟩ := h
  refine ⟨G, ρ, F, rl, Post.bind p fun x ρ1 G1 H1 F1 _ rl1 st1 p1 v rv => ⟨G1, ρ1, F1, rl1, Post.bind p1 fun y ρ2 G2 H2 F2 _ rl2 st2 p2 u ru => ?_⟩⟩
  cases e1 : x.get ρ2 with
  | none => rw [e1] at p2; exact p2.elim
  | some c =>
    rw [e1] at p2
    obtain ⟨S, ok⟩ := rl2.pl (rv.mono st2.le) e1
    cases e : g c y with
    | none => simp only [e] at p2; exact p2.elim
    | some z =>
      simp only [e] at p2
      exact hv G2 H2 v c S u y z Q rl2.sub ok ru e fun w G3 H3 ex rw => p2 G3 H3 F2 (rl2.ext ex) ex.stp w rw
end

/-! ### items -/
def C1.lst? : C1 → Option (List D)
  | .lst xs => some xs
  | .val (.lst xs) => some xs
  | _ => none
def C1.tup? : C1 → Option (List D)
  | .val (.tup xs) => some xs
  | _ => none
def C1.seq? : C1 → Option (List D)
  | .lst xs => some xs
  | .val (.lst xs) => some xs
  | .val (.tup xs) => some xs
  | _ => none
theorem C1Ok.lst? {K : PySem.W.Frag} {G H : Hp} {v : V} {c : C1} {S : Addr → Prop} (s : Le G H) (h : C1Ok K G H v c S) {ds : List D} (e : c.lst? = some ds) : ∃ p vs, v = .ref p ∧ SqL K H p vs ∧ RpL K G vs ds := by
  cases h with
  | val r =>
    cases r with
    | lst h r => cases e; exact ⟨_, _, rfl, s.sql h, r⟩
    | _ => cases e
  | lst h r => cases e; exact ⟨_, _, rfl, .inl (.inl h), r⟩
  | _ => cases e
theorem C1Ok.tup? {K : PySem.W.Frag} {G H : Hp} {v : V} {c : C1} {S : Addr → Prop} (s : Le G H) (h : C1Ok K G H v c S) {ds : List D} (e : c.tup? = some ds) : ∃ p vs, v = .ref p ∧ SqT K H p vs ∧ SqT K G p vs ∧ RpL K G vs ds := by
  cases h with
  | val r =>
    cases r with
    | tup h r => cases e; exact ⟨_, _, rfl, s.sqt h, h, r⟩
    | _ => cases e
  | _ => cases e
theorem C1Ok.seq? {K : PySem.W.Frag} {G H : Hp} {v : V} {c : C1} {S : Addr → Prop} (s : Le G H) (h : C1Ok K G H v c S) {ds : List D} (e : c.seq? = some ds) : ∃ p vs, v = .ref p ∧ (SqL K H p vs ∨ SqT K H p vs) ∧ RpL K G vs ds := by
  cases h with
  | val r =>
    cases r with
    | lst h r => cases e; exact ⟨_, _, rfl, .inl (s.sql h), r⟩
    | tup h r => cases e; exact ⟨_, _, rfl, .inr (s.sqt h), r⟩
    | _ => cases e
  | lst h r => cases e; exact ⟨_, _, rfl, .inl (.inl (.inl h)), r⟩
  | _ => cases e
theorem RpL.atI {K : PySem.W.Frag} {G : Hp} {vs : List V} {ds : List D} (r : RpL K G vs ds) {i : Int} {d : D} (e : atI ds i = some d) : ∃ v, atI vs i = some v ∧ Rp K G v d := by
  unfold L2.atI at e ⊢
  rw [r.length]
  cases h : ixN ds.length i with
  | none => rw [h] at e; cases e
  | some j =>
    rw [h] at e
    exact r.get (i := j) e
def ixD (c : C1) (k : D) : Option D := match k with
  | .int i => match c.seq? with
    | some xs => L2.atI xs i
    | none => match c with
      | .val (.str s) => if s.length ≤ sizeLine then (L2.atI s.cps.toList i).map fun c => .str ⟨#[c]⟩ else none
      | _ => none
  | _ => none
theorem b2_ix {K : PySem.W.Frag} : B2 K (rIx K) ixD := fun G H v c S y b z Q s ok ry e q => by
  unfold ixD at e
  split at e
  · rename_i i
    cases ry
    cases h : c.seq? with
    | some xs =>
      rw [h] at e
      obtain ⟨p, vs, rfl, hs, r⟩ := ok.seq? s h
      obtain ⟨u, e1, ru⟩ := r.atI e
      rcases hs with hs | hs
      · exact .inl ⟨p, vs, i, u, rfl, rfl, hs, e1, q u G H (.refl s) ru⟩
      · exact .inr (.inl ⟨p, vs, i, u, rfl, rfl, hs, e1, q u G H (.refl s) ru⟩)
    | none =>
      rw [h] at e
      simp only [] at e
      split at e
      · rename_i st
        split at e
        · rename_i hl
          cases ok with
          | val ok =>
            cases ok
            cases h2 : L2.atI st.cps.toList i with
            | none => rw [h2] at e; cases e
            | some ch =>
              rw [h2] at e; cases e
              exact .inr (.inr ⟨_, i, ch, rfl, rfl, hl, h2, q _ G H (.refl s) (.str _)⟩)
        · cases e
      · cases e
  · cases e
theorem ok_ix (hb : OkB X W a f) (hi : OkD X W b fb) (hp : PlainIx b := by exact fun _ _ => rfl) : OkD X W (.Subscript a b pos) (b2F ixD f fb) := (pe_ix ix_seq hb hi hp).to fun _ _ _ h => t_b2 b2_ix h

/-! ### len, and calls of one base -/
def lenD (c : C1) : Option D := match c.seq? with
  | some xs => some (.int xs.length)
  | none => match c with
    | .val (.str s) => if s.length ≤ sizeLine then some (.int s.length) else none
    | _ => none
def one (r : V → Hp → VK → Prop) : List V → Hp → VK → Prop := fun xs H Q => ∃ x, xs = [x] ∧ r x H Q
theorem b1_len {K : PySem.W.Frag} : B1 K (fun x H Q => ∃ n, LenV K x H n ∧ Q (.int n) H) lenD := fun G H v c S z Q s ok e q => by
  unfold lenD at e
  cases h : c.seq? with
  | some xs =>
    rw [h] at e
    cases e
    obtain ⟨p, vs, rfl, hs, r⟩ := ok.seq? s h
    refine ⟨xs.length, ?_, q _ G H (.refl s) (.int _)⟩
    rcases hs with hs | hs
    · exact .inl ⟨vs, hs, r.length.symm⟩
    · exact .inr ⟨vs, hs, r.length.symm⟩
  | none =>
    rw [h] at e
    simp only [] at e
    split at e
    · split at e
      · rename_i st hl
        cases e
        cases ok with
        | val ok =>
          cases ok
          exact ⟨_, ⟨hl, rfl⟩, q _ G H (.refl s) (.int _)⟩
      · cases e
    · cases e
theorem ok_len {p : Pos} (hg : Gl X "len") (hm : X.mg "len" = none) (ha : OkB X W a f) (hst : starEach [a] X.env = (false, eval a X.env) :: starEach [] X.env := by rfl) : OkD X W (.Call (.Name "len" p) [a] [] pos) (b1F lenD f) := by
  refine (pe_callB call_len hg hm PySem.boot_len (pa_cons ha pa_nil hst) (by decide) (by decide) hst rfl).to fun σ H Q h => ?_
  have h2 := t_b1 b1_len h
  obtain ⟨G, ρ, F, rl, p⟩ := h2
  refine ⟨G, ρ, F, rl, ?_⟩
  cases hr : f ρ with
  | ok x ρ1 =>
    rw [hr] at p
    intro G1 H1 F1 rl1 st1 v rv
    obtain ⟨n, l, q⟩ := p G1 H1 F1 rl1 st1 v rv
    exact ⟨v, n, rfl, l, q⟩
  | ex e ρ1 => rw [hr] at p; exact p
  | stuck => rw [hr] at p; exact p
end

/-! ### argument lists, displays -/
def nilF : FE (List D) := fun ρ => .ok [] ρ
def consF (f : FE D) (g : FE (List D)) : FE (List D) := fun ρ => (f ρ).bind fun x ρ => (g ρ).bind fun xs ρ => .ok (x :: xs) ρ
def tupF (f : FE (List D)) : FE D := fun ρ => (f ρ).bind fun xs ρ => if xs.length ≤ sizeLine then .ok (.tup xs) ρ else .stuck
def lstF (f : FE (List D)) : FE O := fun ρ => (f ρ).bind fun xs ρ => if xs.length ≤ sizeLine then .ok (.c (.lst xs)) ρ else .stuck
section
variable {X : Cx} {W : WX} {e a b : Expr} {es : List Expr} {pos : Pos} {fa fb : FE D} {fs : FE (List D)}
theorem oks_nil : OkDs X W [] nilF := pa_nil.to fun σ H Q h => by
  obtain ⟨G, ρ, F, rl, p⟩ := h
  exact p G H F rl .refl [] .nil
theorem oks_cons (ha : OkD X W e fa) (hs : OkDs X W es fs) (hst : starEach (e :: es) X.env = (false, eval e X.env) :: starEach es X.env := by rfl) : OkDs X W (e :: es) (consF fa fs) := by
  refine (pa_cons ha hs hst).to fun σ H Q h => ?_
  obtain ⟨G, ρ, F, rl, p⟩ := h
  refine ⟨G, ρ, F, rl, Post.bind p fun x ρ1 G1 H1 F1 _ rl1 st1 p1 v rv => ⟨G1, ρ1, F1, rl1, Post.bind p1 fun xs ρ2 G2 H2 F2 _ rl2 st2 p2 vs rvs => ?_⟩⟩
  exact p2 G2 H2 F2 rl2 .refl (v :: vs) (.cons (rv.mono st2.le) rvs)
theorem ok_tup {k} (h : OkDs X W es fs) : OkD X W (.Tuple es k pos) (tupF fs) := by
  refine (pe_tup h).to fun σ H Q h => ?_
  obtain ⟨G, ρ, F, rl, p⟩ := h
  refine ⟨G, ρ, F, rl, Post.bind p fun xs ρ1 G1 H1 F1 _ rl1 st1 p1 vs rv => ?_⟩
  split at p1
  · rename_i hl
    refine ⟨by rw [rv.length]; exact hl, fun p hp => ?_⟩
    have ex : Ext G1 H1 (upd G1 p (.tup vs)) (upd H1 p (.tup vs)) := .new rl1.sub hp
    exact p1 _ _ F1 (rl1.ext ex) ex.stp _ (.tup (.inl (.inl upd_same)) (rv.mono ex.le))
  · exact p1.elim
/-- a new list -/
theorem new_lst {K : PySem.W.Frag} {mg : Str → Option Value} {G H : Hp} {σ : L2.St} {ρ : Env} {F : Fp} (rl : Rel K mg G H σ ρ F) {vs : List V} {ds : List D} (r : RpL K G vs ds) {p : Addr} (hp : H p = none) :
    Rel K mg G (upd H p (.lst vs)) σ ρ F ∧ Stp F G H G (upd H p (.lst vs)) F ∧ OOk K mg G (upd H p (.lst vs)) (.ref p) (.c (.lst ds)) (fun a => a = p) ∧ ∀ a, a = p → H a = none ∧ G a = none ∧ upd H p (.lst vs) a ≠ none ∧ ¬ F.U a := by
  have ne : ∀ a, H a ≠ none → a ≠ p := fun a h e => h (by rw [e]; exact hp)
  refine ⟨⟨rl.len, fun i o e => ?_, rl.dis, fun i a z => ⟨(rl.out i a z).1, ?_⟩, rl.non, ?_⟩, ⟨Le.refl _, fun a o h _ => ?_, fun _ _ g _ => g, fun a h => ?_, fun _ _ z => .inl z⟩, .c (.lst upd_same r), ?_⟩
  · obtain ⟨v, e1, e2⟩ := rl.ok i o e
    exact ⟨v, e1, e2.mono (Le.refl _) fun a u _ q => Le.upd hp a u q⟩
  · rw [upd_ne (ne a (rl.out i a z).2)]; exact (rl.out i a z).2
  · exact rl.sub.trans (Le.upd hp)
  · exact Le.upd hp a o h
  · rw [upd_ne (ne a h)]; exact h
  · rintro a rfl
    exact ⟨hp, rl.sub.back hp, (by rw [upd_same]; exact fun e => (nomatch e)), fun ⟨i, z⟩ => (rl.out i a z).2 hp⟩
theorem ok_lst (h : OkDs X W es fs) : OkO X W (.List es pos) (lstF fs) := by
  refine (pe_lst h).to fun σ H Q h => ?_
  obtain ⟨G, ρ, F, rl, p⟩ := h
  refine ⟨G, ρ, F, rl, PostO.bind p fun xs ρ1 G1 H1 F1 _ rl1 st1 p1 vs rv => ?_⟩
  split at p1
  · rename_i hl
    refine ⟨by rw [rv.length]; exact hl, fun p hp => ?_⟩
    obtain ⟨r2, s2, o2, z2⟩ := new_lst rl1 rv hp
    exact p1 _ _ F1 _ _ r2 s2 o2 z2
  · exact p1.elim

/-! ### tests -/
def testF (f : FE D) : FE Bool := fun ρ => (f ρ).bind fun d ρ => match d with
  | .bl b => .ok b ρ
  | _ => .stuck
def andF (f g : FE Bool) : FE Bool := fun ρ => (f ρ).bind fun b ρ => if b = true then g ρ else .ok false ρ
def orF (f g : FE Bool) : FE Bool := fun ρ => (f ρ).bind fun b ρ => if b = true then .ok true ρ else g ρ
def notF (f : FE Bool) : FE Bool := fun ρ => (f ρ).bind fun b ρ => .ok (!b) ρ
variable {ft fu : FE Bool} {rest : List Expr}
theorem tD_tTest {K : PySem.W.Frag} {mg : Str → Option Value} {σ : L2.St} {H : Hp} {Q : Bool → Hp → Prop} (h : tT K mg W (testF fa) σ H Q) : tD K mg W fa σ H fun x H1 => ∃ c, x = .bl c ∧ Q c H1 := by
  obtain ⟨G, ρ, F, rl, p⟩ := h
  refine ⟨G, ρ, F, rl, Post.bind p fun x ρ1 G1 H1 F1 _ rl1 st1 p1 v rv => ?_⟩
  cases rv with
  | bl b => exact ⟨b, rfl, p1 G1 H1 F1 rl1 .refl⟩
  | _ => exact p1.elim
/-- an expression that gives a bool, as a test -/
theorem okt_val (h : OkD X W e fa) (he : ∀ whole, isTrue e X.env whole = (do let v ← whole; standAt e.pos; holding [v] (truthy v)) := by intro _; rfl) : OkT X W e (testF fa) := (pt_val h he).to fun σ H Q q => tD_tTest q
/-- a comparison as a test -/
theorem okt_cmp {op : CmpOp} {r : R2} {g : D → D → Option D} (ho : OpR X (compareOp op) r) (hv : V2 X.K r g) (ha : OkD X W a fa) (hb : OkD X W b fb) (hm : behindInMarks op b = false) : OkT X W (.Compare a [op] [b] pos) (testF (op2F g fa fb)) := by
  refine (pt_cmpR ho ha hb hm).to fun σ H Q q => ?_
  exact t_op2 hv (tD_tTest q)
theorem tT_tD {K : PySem.W.Frag} {mg : Str → Option Value} {σ : L2.St} {H : Hp} {Q : Bool → Hp → Prop} {α : Type} {f : FE Bool} {k : Bool → Env → R Bool} (h : tT K mg W (fun ρ => (f ρ).bind k) σ H Q) :
    ∃ G ρ F, Rel K mg G H σ ρ F ∧ Post K mg W σ F G H (fun b G' H' => ∃ ρ' F', Rel K mg G' H' σ ρ' F' ∧ Post K mg W σ F' G' H' (fun b _ H' => Q b H') (k b ρ')) (f ρ) := by
  obtain ⟨G, ρ, F, rl, p⟩ := h
  exact ⟨G, ρ, F, rl, Post.bind p fun x ρ1 G1 H1 F1 _ rl1 st1 p1 => ⟨ρ1, F1, rl1, p1⟩⟩
theorem okw_and1 (ha : OkT X W a ft) : PW X (.BoolOp .And [a] pos) (tT X.K X.mg W ft) := pw_and1 ha
theorem okw_or1 (ha : OkT X W a ft) : PW X (.BoolOp .Or [a] pos) (tT X.K X.mg W ft) := pw_or1 ha
theorem okw_and (ha : OkT X W a ft) (hb : PW X (.BoolOp .And (b :: rest) pos) (tT X.K X.mg W fu)) : PW X (.BoolOp .And (a :: b :: rest) pos) (tT X.K X.mg W (andF ft fu)) := by
  refine ⟨fun wh pins s σ H Q I q => (pw_and ha hb).run wh pins s σ H Q I ?_⟩
  obtain ⟨G, ρ, F, rl, p⟩ := q
  refine ⟨G, ρ, F, rl, Post.bind p fun c ρ1 G1 H1 F1 _ rl1 st1 p1 => ?_⟩
  cases c with
  | true => exact iteT ⟨G1, ρ1, F1, rl1, p1⟩
  | false => exact iteF (p1 G1 H1 F1 rl1 .refl)
theorem okw_or (ha : OkT X W a ft) (hb : PW X (.BoolOp .Or (b :: rest) pos) (tT X.K X.mg W fu)) : PW X (.BoolOp .Or (a :: b :: rest) pos) (tT X.K X.mg W (orF ft fu)) := by
  refine ⟨fun wh pins s σ H Q I q => (pw_or ha hb).run wh pins s σ H Q I ?_⟩
  obtain ⟨G, ρ, F, rl, p⟩ := q
  refine ⟨G, ρ, F, rl, Post.bind p fun c ρ1 G1 H1 F1 _ rl1 st1 p1 => ?_⟩
  cases c with
  | true => exact iteT (p1 G1 H1 F1 rl1 .refl)
  | false => exact iteF ⟨G1, ρ1, F1, rl1, p1⟩
theorem okt_w {ft : FE Bool} (h : PW X e (tT X.K X.mg W ft)) : OkT X W e ft := h.pt
theorem okt_not (ha : OkT X W a ft) : OkT X W (.UnaryOp .Not a pos) (notF ft) := (pt_not ha).to fun σ H Q q => by
  obtain ⟨G, ρ, F, rl, p⟩ := q
  exact ⟨G, ρ, F, rl, Post.bind p fun c ρ1 G1 H1 F1 _ rl1 st1 p1 => p1 G1 H1 F1 rl1 .refl⟩
/-! .. as values -/
def bvF (f : FE Bool) : FE D := fun ρ => (f ρ).bind fun b ρ => .ok (.bl b) ρ
def andVF (f g : FE D) : FE D := fun ρ => (f ρ).bind fun d ρ => match d with
  | .bl true => g ρ
  | .bl false => .ok (.bl false) ρ
  | _ => .stuck
def orVF (f g : FE D) : FE D := fun ρ => (f ρ).bind fun d ρ => match d with
  | .bl true => .ok (.bl true) ρ
  | .bl false => g ρ
  | _ => .stuck
def notVF (f : FE D) : FE D := fun ρ => (f ρ).bind fun d ρ => match d with
  | .bl b => .ok (.bl (!b)) ρ
  | _ => .stuck
theorem ok_one {op} (h : OkD X W a fa) : OkD X W (.BoolOp op [a] pos) fa := pe_one h
theorem ok_and (ha : OkD X W a fa) (hb : OkD X W (.BoolOp .And (b :: rest) pos) fb) : OkD X W (.BoolOp .And (a :: b :: rest) pos) (andVF fa fb) := (pe_and ha hb).to fun σ H Q q => by
  obtain ⟨G, ρ, F, rl, p⟩ := q
  refine ⟨G, ρ, F, rl, Post.bind p fun c ρ1 G1 H1 F1 _ rl1 st1 p1 v rv => ?_⟩
  cases rv with
  | bl b =>
    cases b with
    | true => exact ⟨true, rfl, iteT ⟨G1, ρ1, F1, rl1, p1⟩⟩
    | false => exact ⟨false, rfl, iteF (p1 G1 H1 F1 rl1 .refl _ (.bl _))⟩
  | _ => exact p1.elim
theorem ok_or (ha : OkD X W a fa) (hb : OkD X W (.BoolOp .Or (b :: rest) pos) fb) : OkD X W (.BoolOp .Or (a :: b :: rest) pos) (orVF fa fb) := (pe_or ha hb).to fun σ H Q q => by
  obtain ⟨G, ρ, F, rl, p⟩ := q
  refine ⟨G, ρ, F, rl, Post.bind p fun c ρ1 G1 H1 F1 _ rl1 st1 p1 v rv => ?_⟩
  cases rv with
  | bl b =>
    cases b with
    | true => exact ⟨true, rfl, iteT (p1 G1 H1 F1 rl1 .refl _ (.bl _))⟩
    | false => exact ⟨false, rfl, iteF ⟨G1, ρ1, F1, rl1, p1⟩⟩
  | _ => exact p1.elim
theorem ok_not (ha : OkD X W a fa) : OkD X W (.UnaryOp .Not a pos) (notVF fa) := (pe_not ha).to fun σ H Q q => by
  obtain ⟨G, ρ, F, rl, p⟩ := q
  refine ⟨G, ρ, F, rl, Post.bind p fun c ρ1 G1 H1 F1 _ rl1 st1 p1 v rv => ?_⟩
  cases rv with
  | bl b => exact ⟨b, rfl, p1 G1 H1 F1 rl1 .refl _ (.bl _)⟩
  | _ => exact p1.elim
def ifF {α : Type} (t : FE Bool) (f g : FE α) : FE α := fun ρ => (t ρ).bind fun b ρ => if b = true then f ρ else g ρ
theorem ok_if {c : Expr} (hc : OkT X W c ft) (ha : OkD X W a fa) (hb : OkD X W b fb) : OkD X W (.IfExp c a b pos) (ifF ft fa fb) := (pe_ifExp hc ha hb).to fun σ H Q q => by
  obtain ⟨G, ρ, F, rl, p⟩ := q
  refine ⟨G, ρ, F, rl, Post.bind p fun c ρ1 G1 H1 F1 _ rl1 st1 p1 => ?_⟩
  cases c with
  | true => exact iteT ⟨G1, ρ1, F1, rl1, p1⟩
  | false => exact iteF ⟨G1, ρ1, F1, rl1, p1⟩
theorem ok_ifO {c : Expr} {fa fb : FE O} (hc : OkT X W c ft) (ha : OkO X W a fa) (hb : OkO X W b fb) : OkO X W (.IfExp c a b pos) (ifF ft fa fb) := (pe_ifExp hc ha hb).to fun σ H Q q => by
  obtain ⟨G, ρ, F, rl, p⟩ := q
  refine ⟨G, ρ, F, rl, PostO.bind p fun c ρ1 G1 H1 F1 _ rl1 st1 p1 => ?_⟩
  cases c with
  | true => exact iteT ⟨G1, ρ1, F1, rl1, p1⟩
  | false => exact iteF ⟨G1, ρ1, F1, rl1, p1⟩
/-! two comparisons in a chain -/
def chainF (g g' : D → D → Option D) (fa fb fc : FE D) : FE D := fun ρ => (fa ρ).bind fun x ρ => (fb ρ).bind fun y ρ => match g x y with
  | some (.bl true) => (fc ρ).bind fun z ρ => optR (g' y z) ρ
  | some (.bl false) => .ok (.bl false) ρ
  | _ => .stuck
end
end Fx

set_option Elab.async false
set_option linter.all false
set_option maxRecDepth 100000
set_option maxHeartbeats 1000000
/-! Fx4: statements. -/
namespace Fx
open PySem L2

/-! ### outcomes of statements, in a row -/
def seqF (f g : FS) : FS := fun ρ => match f ρ with
  | .nx ρ' => g ρ'
  | r => r
def nextF : FS := fun ρ => .nx ρ
section
variable {K : PySem.W.Frag} {mg : Str → Option Value} {W : WX} {io : List Nat} {σ σ1 : L2.St} {F F1 : Fp} {G H G1 H1 : Hp} {Dn : Ends}
theorem PostS.after (s : Stp F G H G1 H1 F1) (hσ : ∀ i ∈ io, σ1[i]? = σ[i]?) {r : RS} (h : PostS K mg W io σ F G H Dn r) : PostS K mg W io σ1 F1 G1 H1 Dn r := by
  have back : ∀ a, H1 a = none → H a = none := fun a e => by
    cases q : H a with
    | none => rfl
    | some o => exact absurd e (s.there a (by rw [q]; exact fun e => nomatch e))
  cases r with
  | nx ρ' => exact fun σ' G' H' F' rl st e => h σ' G' H' F' rl (s.trans st) fun i hi => (e i hi).trans (hσ i hi)
  | br ρ' => exact fun σ' G' H' F' rl st e => h σ' G' H' F' rl (s.trans st) fun i hi => (e i hi).trans (hσ i hi)
  | ct ρ' => exact fun σ' G' H' F' rl st e => h σ' G' H' F' rl (s.trans st) fun i hi => (e i hi).trans (hσ i hi)
  | ret o ρ' => exact fun σ' G' H' F' v S rl st e ok z => h σ' G' H' F' v S rl (s.trans st) (fun i hi => (e i hi).trans (hσ i hi)) ok fun a q => ⟨back a (z a q).1, (z a q).2⟩
  | ex e ρ' => exact fun cv d σ' G' H' F' rl st e x => h cv d σ' G' H' F' rl (s.trans st) (fun i hi => (e i hi).trans (hσ i hi)) x
  | stuck => exact h
/-- a statement that stands on an expression -/
def bindS {α : Type} (r : R α) (k : α → Env → RS) : RS := match r with
  | .ok a ρ => k a ρ
  | .ex e ρ => .ex e ρ
  | .stuck => .stuck
theorem PostS.bind {α : Type} {r : R α} {k : α → Env → RS} (h : PostS K mg W io σ F G H Dn (bindS r k)) {good' : α → Hp → Hp → Prop}
    (hg : ∀ a ρ1 G1 H1 F1, r = .ok a ρ1 → Rel K mg G1 H1 σ ρ1 F1 → Stp F G H G1 H1 F1 → PostS K mg W io σ F1 G1 H1 Dn (k a ρ1) → good' a G1 H1) : Post K mg W σ F G H good' r := by
  cases r with
  | ok a ρ' => exact fun G' H' F' rl st => hg a ρ' G' H' F' rfl rl st (PostS.after st (fun _ _ => rfl) h)
  | ex e ρ' => exact fun cv d G' H' F' rl st x => h cv d σ G' H' F' rl st (fun _ _ => rfl) x
  | stuck => exact h
theorem PostS.bindO {r : R O} {k : O → Env → RS} (h : PostS K mg W io σ F G H Dn (bindS r k)) {Q : VK}
    (hg : ∀ o ρ1 G1 H1 F1 v S, r = .ok o ρ1 → Rel K mg G1 H1 σ ρ1 F1 → Stp F G H G1 H1 F1 → OOk K mg G1 H1 v o S → (∀ a, S a → H a = none ∧ G1 a = none ∧ H1 a ≠ none ∧ ¬ F1.U a) → PostS K mg W io σ F G H Dn (k o ρ1) → Q v H1) : PostO K mg W σ F G H Q r := by
  cases r with
  | ok a ρ' => exact fun G' H' F' v S rl st ok z => hg a ρ' G' H' F' v S rfl rl st ok z h
  | ex e ρ' => exact fun cv d G' H' F' rl st x => h cv d σ G' H' F' rl st (fun _ _ => rfl) x
  | stuck => exact h
end

section
variable {X : Cx} {W : WX} {io : List Nat} {e a b : Expr} {st : Stmt} {sts : List Stmt} {pos : Pos} {fa fb : FE D} {fo : FE O} {ft : FE Bool} {f g : FS}
theorem oks_nilS : OkSs X W io [] nextF := pss_nil.to fun Dn σ H h => by
  obtain ⟨G, ρ, F, rl, p⟩ := h
  exact p σ G H F rl .refl fun _ _ => rfl
theorem tS_seq {K : PySem.W.Frag} {mg : Str → Option Value} {σ : L2.St} {H : Hp} {Dn : Ends} (h : tS K mg W io (seqF f g) Dn σ H) : tSeq (tS K mg W io f) (tS K mg W io g) Dn σ H := by
  obtain ⟨G, ρ, F, rl, p⟩ := h
  refine ⟨G, ρ, F, rl, ?_⟩
  unfold seqF at p
  cases e : f ρ with
  | nx ρ1 =>
    rw [e] at p
    exact fun σ1 G1 H1 F1 rl1 st1 hσ => ⟨G1, ρ1, F1, rl1, PostS.after st1 hσ p⟩
  | ret o ρ' => rw [e] at p; exact p
  | br ρ' => rw [e] at p; exact p
  | ct ρ' => rw [e] at p; exact p
  | ex e ρ' => rw [e] at p; exact p
  | stuck => rw [e] at p; exact p
theorem oks_consS (h1 : OkS X W io st f) (h2 : OkSs X W io sts g) : OkSs X W io (st :: sts) (seqF f g) := (pss_cons h1 h2).to fun Dn σ H h => tS_seq h
theorem oks_oneS (h1 : OkS X W io st f) : OkSs X W io [st] f := pss_one h1
theorem ok_pass : OkS X W io (.Pass pos) nextF := ps_pass.to fun Dn σ H h => by
  obtain ⟨G, ρ, F, rl, p⟩ := h
  exact p σ G H F rl .refl fun _ _ => rfl
theorem ok_continue : OkS X W io (.Continue pos) (fun ρ => .ct ρ) := ps_continue.to fun Dn σ H h => by
  obtain ⟨G, ρ, F, rl, p⟩ := h
  exact p σ G H F rl .refl fun _ _ => rfl
theorem ok_break : OkS X W io (.Break pos) (fun ρ => .br ρ) := ps_break.to fun Dn σ H h => by
  obtain ⟨G, ρ, F, rl, p⟩ := h
  exact p σ G H F rl .refl fun _ _ => rfl
/-- a statement that is not come to -/
theorem ok_never : OkS X W io st (fun _ => .stuck) := ps_never.to fun Dn σ H h => by
  obtain ⟨G, ρ, F, rl, p⟩ := h
  exact p
/-! return -/
def retF (f : FE D) : FS := fun ρ => bindS (f ρ) fun d ρ => .ret (.v d) ρ
def retOF (f : FE O) : FS := fun ρ => bindS (f ρ) fun d ρ => .ret d ρ
theorem ok_ret (h : OkD X W e fa) : OkS X W io (.Return (some e) pos) (retF fa) := (ps_ret h).to fun Dn σ H q => by
  obtain ⟨G, ρ, F, rl, p⟩ := q
  exact ⟨G, ρ, F, rl, PostS.bind p fun d ρ1 G1 H1 F1 _ rl1 st1 p1 v rv => p1 σ G1 H1 F1 v _ rl1 .refl (fun _ _ => rfl) (.c (.val rv)) fun _ z => z.elim⟩
theorem ok_retO (h : OkO X W e fo) : OkS X W io (.Return (some e) pos) (retOF fo) := (ps_ret h).to fun Dn σ H q => by
  obtain ⟨G, ρ, F, rl, p⟩ := q
  refine ⟨G, ρ, F, rl, ?_⟩
  unfold retOF at p
  cases hr : fo ρ with
  | ok o ρ1 =>
    rw [hr] at p
    exact fun G1 H1 F1 v S rl1 st1 ok z => p σ G1 H1 F1 v S rl1 st1 (fun _ _ => rfl) ok fun a q => ⟨(z a q).1, (z a q).2.1, (z a q).2.2.1, fun i _ y => (z a q).2.2.2 ⟨i, y⟩⟩
  | ex e ρ1 =>
    rw [hr] at p
    exact fun cv d G1 H1 F1 rl1 st1 x => p cv d σ G1 H1 F1 rl1 st1 (fun _ _ => rfl) x
  | stuck => rw [hr] at p; exact p
theorem ok_retN : OkS X W io (.Return none pos) (fun ρ => .ret (.v .non) ρ) := ps_retN.to fun Dn σ H q => by
  obtain ⟨G, ρ, F, rl, p⟩ := q
  exact p σ G H F .non _ rl .refl (fun _ _ => rfl) (.c (.val .non)) fun _ z => z.elim
/-- return x, x a list of one's own that is no argument -/
def retVF (io : List Nat) (i : Nat) : FS := fun ρ => match ρ[i]? with
  | some (some o) => if i ∈ io then .stuck else .ret o ρ
  | _ => .stuck

/-! an expression that is dropped -/
def dropF (f : FE D) : FS := fun ρ => bindS (f ρ) fun _ ρ => .nx ρ
theorem ok_expr (h : OkD X W e fa) (hs : swapsWith e none pos.line X.env = pure false := by rfl) : OkS X W io (.Expr e pos) (dropF fa) := (ps_expr h hs).to fun Dn σ H q => by
  obtain ⟨G, ρ, F, rl, p⟩ := q
  exact ⟨G, ρ, F, rl, PostS.bind p fun d ρ1 G1 H1 F1 _ rl1 st1 p1 v rv => p1 σ G1 H1 F1 rl1 .refl fun _ _ => rfl⟩
theorem ok_doc {x j pos'} : OkS X W io (.Expr (.Constant (.str x) j pos') pos) nextF := ps_doc.to fun Dn σ H h => by
  obtain ⟨G, ρ, F, rl, p⟩ := h
  exact p σ G H F rl .refl fun _ _ => rfl

/-! if -/
def ifSF (t : FE Bool) (f g : FS) : FS := fun ρ => bindS (t ρ) fun b ρ => if b = true then f ρ else g ρ
theorem ok_ifS {c : Expr} {as bs : List Stmt} (hc : OkT X W c ft) (ha : OkSs X W io as f) (hb : OkSs X W io bs g) : OkS X W io (.If c as bs pos) (ifSF ft f g) := (ps_if hc ha hb).to fun Dn σ H q => by
  obtain ⟨G, ρ, F, rl, p⟩ := q
  refine ⟨G, ρ, F, rl, PostS.bind p fun c ρ1 G1 H1 F1 _ rl1 st1 p1 => ?_⟩
  cases c with
  | true => exact iteT ⟨G1, ρ1, F1, rl1, p1⟩
  | false => exact iteF ⟨G1, ρ1, F1, rl1, p1⟩

/-! ### stores at a name -/
theorem Rel.set {K : PySem.W.Frag} {mg : Str → Option Value} {G H : Hp} {σ : L2.St} {ρ : Env} {F : Fp} (r : Rel K mg G H σ ρ F) (i : Nat) {v : V} {o : O} {S : Addr → Prop} (ok : OOk K mg G H v o S) (z : ∀ a, S a → G a = none ∧ H a ≠ none ∧ ∀ j, j ≠ i → ¬ F j a) :
    Rel K mg G H (σ.set i (some v)) (ρ.set i (some o)) (fun j a => if j = i then i < ρ.length ∧ S a else F j a) where
  len := by rw [List.length_set, List.length_set]; exact r.len
  ok := fun j u e => by
    by_cases h : j = i
    · subst h
      have hl : j < ρ.length := by
        have := (List.getElem?_eq_some_iff.mp e).1
        rwa [List.length_set] at this
      rw [List.getElem?_set_self hl] at e
      cases e
      refine ⟨v, List.getElem?_set_self (by rw [r.len]; exact hl), ?_⟩
      have : (fun a => if j = j then j < ρ.length ∧ S a else F j a) = S := by
        funext a
        rw [if_pos rfl]
        exact propext ⟨fun h => h.2, fun h => ⟨hl, h⟩⟩
      rw [this]
      exact ok
    · rw [List.getElem?_set_ne (Ne.symm h)] at e
      obtain ⟨w, e1, e2⟩ := r.ok j u e
      refine ⟨w, by rw [List.getElem?_set_ne (Ne.symm h)]; exact e1, ?_⟩
      have : (fun a => if j = i then i < ρ.length ∧ S a else F j a) = F j := by
        funext a
        rw [if_neg h]
      rw [this]
      exact e2
  dis := fun j k a hjk h1 h2 => by
    by_cases hj : j = i
    · rw [if_pos hj] at h1
      have hk : k ≠ i := fun e => hjk (hj.trans e.symm)
      rw [if_neg hk] at h2
      exact (z a h1.2).2.2 k hk h2
    · rw [if_neg hj] at h1
      by_cases hk : k = i
      · rw [if_pos hk] at h2
        exact (z a h2.2).2.2 j hj h1
      · rw [if_neg hk] at h2
        exact r.dis j k a hjk h1 h2
  out := fun j a h => by
    by_cases hj : j = i
    · rw [if_pos hj] at h; exact ⟨(z a h.2).1, (z a h.2).2.1⟩
    · rw [if_neg hj] at h; exact r.out j a h
  non := fun j a h => by
    by_cases hj : j = i
    · rw [if_pos hj] at h
      subst hj
      exact ⟨o, List.getElem?_set_self h.1⟩
    · rw [if_neg hj] at h
      obtain ⟨u, e⟩ := r.non j a h
      exact ⟨u, by rw [List.getElem?_set_ne (Ne.symm hj)]; exact e⟩
  sub := r.sub
/-- .. the step -/
theorem Stp.set {F F1 : Fp} {G H G1 H1 : Hp} (s : Stp F G H G1 H1 F1) {i : Nat} {P : Prop} {S : Addr → Prop} (z : ∀ a, S a → H a = none ∨ F i a) : Stp F G H G1 H1 (fun j a => if j = i then P ∧ S a else F1 j a) :=
  ⟨s.le, s.fr, s.fresh, s.there, fun j a h => by
    by_cases hj : j = i
    · rw [if_pos hj] at h
      subst hj
      exact (z a h.2).symm
    · rw [if_neg hj] at h
      exact s.own j a h⟩
def setF (i : Nat) (f : FE D) : FS := fun ρ => bindS (f ρ) fun d ρ => .nx (ρ.set i (some (.v d)))
def setOF (i : Nat) (f : FE O) : FS := fun ρ => bindS (f ρ) fun o ρ => .nx (ρ.set i (some o))
theorem ok_set {i : Nat} {x : Str} {pos' : Pos} (hN : X.N.Nodup) (hi : X.N[i]? = some x) (hx : Loc X.env.scope x) (he : OkD X W e fa) (hio : (io.contains i) = false := by rfl) (hs : swapsWith e (some (.Name x pos')) pos.line X.env = pure false := by rfl)
    (hf : X.fn x = true ∨ X.env.scope.names.lookup x = some .local := by first | exact .inl rfl | exact .inr rfl | assumption) : OkS X W io (.Assign [.Name x pos'] e pos) (setF i fa) := (ps_set hN hi hx he hs hf).to fun Dn σ H q => by
  have ne : ∀ j ∈ io, j ≠ i := fun j hj e => by subst e; rw [List.contains_iff_mem.mpr hj] at hio; cases hio
  obtain ⟨G, ρ, F, rl, p⟩ := q
  refine ⟨G, ρ, F, rl, PostS.bind p fun d ρ1 G1 H1 F1 _ rl1 st1 p1 v rv => ?_⟩
  exact p1 _ G1 H1 _ (rl1.set i (.c (.val rv)) fun _ z => z.elim) (Stp.refl.set fun _ z => z.elim) fun j hj => List.getElem?_set_ne (ne j hj).symm
theorem ok_setO {i : Nat} {x : Str} {pos' : Pos} (hN : X.N.Nodup) (hi : X.N[i]? = some x) (hx : Loc X.env.scope x) (he : OkO X W e fo) (hio : (io.contains i) = false := by rfl) (hs : swapsWith e (some (.Name x pos')) pos.line X.env = pure false := by rfl)
    (hf : X.fn x = true ∨ X.env.scope.names.lookup x = some .local := by first | exact .inl rfl | exact .inr rfl | assumption) : OkS X W io (.Assign [.Name x pos'] e pos) (setOF i fo) := (ps_set hN hi hx he hs hf).to fun Dn σ H q => by
  have ne : ∀ j ∈ io, j ≠ i := fun j hj e => by subst e; rw [List.contains_iff_mem.mpr hj] at hio; cases hio
  obtain ⟨G, ρ, F, rl, p⟩ := q
  refine ⟨G, ρ, F, rl, PostS.bindO p fun o ρ1 G1 H1 F1 v S _ rl1 st1 ok z p1 => ?_⟩
  exact p1 _ G1 H1 _ (rl1.set i ok fun a q => ⟨(z a q).2.1, (z a q).2.2.1, fun j _ y => (z a q).2.2.2 ⟨j, y⟩⟩) (st1.set fun a q => .inl (z a q).1) fun j hj => List.getElem?_set_ne (ne j hj).symm

/-! ### two names at once -/
def par2F (i j : Nat) (f : FE (List D)) : FS := fun ρ => bindS (f ρ) fun ds ρ => match ds with
  | [a, b] => .nx ((ρ.set i (some (.v a))).set j (some (.v b)))
  | _ => .stuck
theorem ok_par2 {i j : Nat} {x y : Str} {px py pt : Pos} {kt k2 pt2} {fs : FE (List D)} (hc : X.calm = true) (hN : X.N.Nodup) (hi : X.N[i]? = some x) (hj : X.N[j]? = some y) (hij : i ≠ j)
    (hx : X.env.scope.names.lookup x = some .local) (hy : X.env.scope.names.lookup y = some .local) (hio : (io.contains i || io.contains j) = false) (ha : OkDs X W [a, b] fs)
    (hw : swappedStores [.Tuple [.Name x px, .Name y py] kt pt] (.Tuple [a, b] k2 pt2) X.env = pure (some [x, y]))
    (hs : swapsWithSole [.Tuple [.Name x px, .Name y py] kt pt] (.Tuple [a, b] k2 pt2) pos.line X.env = pure false := by rfl) :
    OkS X W io (.Assign [.Tuple [.Name x px, .Name y py] kt pt] (.Tuple [a, b] k2 pt2) pos) (par2F i j fs) := (ps_par hc hN hi hj hij hx hy ha hw hs).to fun Dn σ H q => by
  rw [Bool.or_eq_false_iff] at hio
  have nei : ∀ k ∈ io, k ≠ i := fun k hk e => by subst e; rw [List.contains_iff_mem.mpr hk] at hio; cases hio.1
  have nej : ∀ k ∈ io, k ≠ j := fun k hk e => by subst e; rw [List.contains_iff_mem.mpr hk] at hio; cases hio.2
  obtain ⟨G, ρ, F, rl, p⟩ := q
  refine ⟨G, ρ, F, rl, PostS.bind p fun ds ρ1 G1 H1 F1 _ rl1 st1 p1 vs rv => ?_⟩
  split at p1
  · cases rv with
    | cons r1 r =>
      cases r with
      | cons r2 r =>
        cases r
        refine ⟨_, _, rfl, p1 _ G1 H1 _ ((rl1.set i (.c (.val r1)) fun _ z => z.elim).set j (.c (.val r2)) fun _ z => z.elim) ((Stp.refl.set fun _ z => z.elim).set fun _ z => z.elim) fun k hk => ?_⟩
        rw [List.getElem?_set_ne (nej k hk).symm, List.getElem?_set_ne (nei k hk).symm]
  · exact p1.elim

/-! ### x op= e -/
def augF (g : D → D → Option D) (i : Nat) (f : FE D) : FS := fun ρ => match ρ[i]? with
  | some (some (.c (.val x))) => bindS (f ρ) fun y ρ => match g x y with
    | some z => .nx (ρ.set i (some (.v z)))
    | none => .stuck
  | _ => .stuck
theorem ok_aug {i : Nat} {x : Str} {op : Operator} {r : R2} {g : D → D → Option D} {pos' : Pos} (hN : X.N.Nodup) (hi : X.N[i]? = some x) (hx : Loc X.env.scope x) (ho : OpR X (inplaceOp op) r) (hv : V2 X.K r g) (he : OkD X W e fa) (hio : (io.contains i) = false := by rfl)
    (hf : X.fn x = true ∨ X.env.scope.names.lookup x = some .local := by first | exact .inl rfl | exact .inr rfl | assumption) : OkS X W io (.AugAssign (.Name x pos') op e pos) (augF g i fa) := (ps_aug hN hi hx he (fun pins s σ H x y v u Q I r1 r2 h => ho pins s σ H x y v u Q I r1 r2 h) hf).to fun Dn σ H q => by
  have ne : ∀ j ∈ io, j ≠ i := fun j hj e => by subst e; rw [List.contains_iff_mem.mpr hj] at hio; cases hio
  obtain ⟨G, ρ, F, rl, p⟩ := q
  unfold augF at p
  split at p
  · rename_i dx e1
    obtain ⟨v, e2, rv⟩ := rl.val e1
    refine ⟨v, e2, G, ρ, F, rl, PostS.bind p fun d ρ1 G1 H1 F1 _ rl1 st1 p1 u ru => ?_⟩
    cases eg : g dx d with
    | none => rw [eg] at p1; exact p1.elim
    | some z =>
      rw [eg] at p1
      refine hv G1 H1 v u dx d z _ rl1.sub (rv.mono st1.le) ru eg fun w G2 H2 ex rw => ?_
      exact p1 _ G2 H2 _ ((rl1.ext ex).set i (.c (.val rw)) fun _ z => z.elim) (ex.stp.set fun _ z => z.elim) fun j hj => List.getElem?_set_ne (ne j hj).symm
  · exact p.elim
end
end Fx

set_option Elab.async false
set_option linter.all false
set_option maxRecDepth 100000
set_option maxHeartbeats 1000000
/-! Fx5: loops. -/
namespace Fx
open PySem L2

/-! ### while -/
def RS.live : RS → Bool
  | .stuck => false
  | _ => true
def whileN (c : FE Bool) (b : FS) : Nat → Env → RS
  | 0, _ => .stuck
  | n + 1, ρ => bindS (c ρ) fun t ρ => if t = true then (match b ρ with
    | .nx ρ => whileN c b n ρ
    | .ct ρ => whileN c b n ρ
    | .br ρ => .nx ρ
    | r => r) else .nx ρ
theorem whileN_succ (c : FE Bool) (b : FS) : ∀ (n : Nat) (ρ : Env), (whileN c b n ρ).live = true → whileN c b (n + 1) ρ = whileN c b n ρ
  | 0, ρ, h => by cases h
  | n + 1, ρ, h => by
    unfold whileN at h ⊢
    cases hc : c ρ with
    | ok t ρ1 =>
      rw [hc] at h
      simp only [bindS] at h ⊢
      cases t with
      | true =>
        simp only [if_true] at h ⊢
        cases hb : b ρ1 with
        | nx ρ2 => rw [hb] at h; exact whileN_succ c b n ρ2 h
        | ct ρ2 => rw [hb] at h; exact whileN_succ c b n ρ2 h
        | _ => rfl
      | false => rfl
    | ex e ρ1 => rfl
    | stuck => rfl
theorem whileN_le (c : FE Bool) (b : FS) (n : Nat) (ρ : Env) (h : (whileN c b n ρ).live = true) : ∀ m, n ≤ m → whileN c b m ρ = whileN c b n ρ := fun m hm => by
  induction hm with
  | refl => rfl
  | step _ ih => exact (whileN_succ c b _ ρ (by rw [ih]; exact h)).trans ih
open Classical in
noncomputable def whileF (c : FE Bool) (b : FS) : FS := fun ρ => if h : ∃ n, (whileN c b n ρ).live = true then whileN c b (Classical.choose h) ρ else .stuck
theorem whileF_eq {c : FE Bool} {b : FS} {ρ : Env} {n : Nat} (h : (whileN c b n ρ).live = true) : whileF c b ρ = whileN c b n ρ := by
  unfold whileF
  have hx : ∃ n, (whileN c b n ρ).live = true := ⟨n, h⟩
  rw [dif_pos hx]
  have h2 := Classical.choose_spec hx
  rw [← whileN_le c b _ ρ h2 (max n (Classical.choose hx)) (Nat.le_max_right _ _), ← whileN_le c b _ ρ h (max n (Classical.choose hx)) (Nat.le_max_left _ _)]
theorem whileF_dead {c : FE Bool} {b : FS} {ρ : Env} (h : ∀ n, (whileN c b n ρ).live = false) : whileF c b ρ = .stuck := by
  unfold whileF
  rw [dif_neg fun ⟨n, e⟩ => by rw [h n] at e; cases e]
/-- one turn -/
theorem whileF_unfold (c : FE Bool) (b : FS) (ρ : Env) : whileF c b ρ = bindS (c ρ) fun t ρ => if t = true then (match b ρ with
    | .nx ρ => whileF c b ρ
    | .ct ρ => whileF c b ρ
    | .br ρ => .nx ρ
    | r => r) else .nx ρ := by
  have step : ∀ n, whileN c b (n + 1) ρ = bindS (c ρ) fun t ρ => if t = true then (match b ρ with
    | .nx ρ => whileN c b n ρ
    | .ct ρ => whileN c b n ρ
    | .br ρ => .nx ρ
    | r => r) else .nx ρ := fun n => rfl
  cases hc : c ρ with
  | ok t ρ1 =>
    simp only [hc, bindS] at step ⊢
    cases t with
    | false =>
      have e : whileN c b 1 ρ = .nx ρ1 := step 0
      rw [whileF_eq (n := 1) (by rw [e]; rfl), e]
      rfl
    | true =>
      simp only [if_true] at step ⊢
      have go : ∀ ρ2, (∀ n, whileN c b (n + 1) ρ = whileN c b n ρ2) → whileF c b ρ = whileF c b ρ2 := fun ρ2 h => by
        by_cases hx : ∃ n, (whileN c b n ρ2).live = true
        · obtain ⟨n, hn⟩ := hx
          rw [whileF_eq hn, whileF_eq (n := n + 1) (by rw [h n]; exact hn), h n]
        · have dead : ∀ n, (whileN c b n ρ2).live = false := fun n => by
            cases q : (whileN c b n ρ2).live with
            | false => rfl
            | true => exact absurd ⟨n, q⟩ hx
          rw [whileF_dead dead, whileF_dead fun n => ?_]
          cases n with
          | zero => rfl
          | succ n => rw [h n]; exact dead n
      cases hb : b ρ1 with
      | nx ρ2 => exact go ρ2 fun n => by rw [step n, hb]
      | ct ρ2 => exact go ρ2 fun n => by rw [step n, hb]
      | br ρ2 =>
        have e : whileN c b 1 ρ = .nx ρ2 := by rw [step 0, hb]
        rw [whileF_eq (n := 1) (by rw [e]; rfl), e]
      | ret o ρ2 =>
        have e : whileN c b 1 ρ = .ret o ρ2 := by rw [step 0, hb]
        rw [whileF_eq (n := 1) (by rw [e]; rfl), e]
      | ex x ρ2 =>
        have e : whileN c b 1 ρ = .ex x ρ2 := by rw [step 0, hb]
        rw [whileF_eq (n := 1) (by rw [e]; rfl), e]
      | stuck =>
        refine whileF_dead fun n => ?_
        cases n with
        | zero => rfl
        | succ n => rw [step n, hb]; rfl
  | ex e ρ1 =>
    simp only [hc, bindS] at step ⊢
    have e' := step 0
    rw [whileF_eq (n := 1) (by rw [e']; rfl), e']
  | stuck =>
    simp only [hc, bindS] at step ⊢
    refine whileF_dead fun n => ?_
    cases n with
    | zero => rfl
    | succ n => rw [step n]; rfl
section
variable {X : Cx} {W : WX} {io : List Nat} {pos : Pos}
theorem ok_while {c : Expr} {body : List Stmt} {ft : FE Bool} {f : FS} (hp : PassesOwn (model X.prog X.w) X.A X.env X.xe) (hc : OkT X W c ft) (hb : OkSs X W io body f) : OkS X W io (.While c body [] pos) (whileF ft f) := (ps_while hp hc hb).to fun Dn σ H q => by
  obtain ⟨G, ρ, F, rl, p⟩ := q
  have hx : ∃ n, (whileN ft f n ρ).live = true := by
    refine Classical.byContradiction fun h => ?_
    rw [whileF_dead fun n => by
      cases q : (whileN ft f n ρ).live with
      | false => rfl
      | true => exact absurd ⟨n, q⟩ h] at p
    exact p
  obtain ⟨n, hn⟩ := hx
  rw [whileF_eq hn] at p
  refine ⟨fun m σ1 H1 => ∃ G1 ρ1 F1, Rel X.K X.mg G1 H1 σ1 ρ1 F1 ∧ Stp F G H G1 H1 F1 ∧ (∀ i ∈ io, σ1[i]? = σ[i]?) ∧ (whileN ft f m ρ1).live = true ∧ PostS X.K X.mg W io σ1 F1 G1 H1 Dn (whileN ft f m ρ1), ⟨n, G, ρ, F, rl, .refl, fun _ _ => rfl, hn, p⟩, ?_⟩
  rintro m σ1 H1 ⟨G1, ρ1, F1, rl1, st1, hσ, hm, p1⟩
  cases m with
  | zero => cases hm
  | succ m =>
    unfold whileN at p1 hm
    refine ⟨G1, ρ1, F1, rl1, PostS.bind p1 fun t ρ2 G2 H2 F2 e2 rl2 st2 p2 => ?_⟩
    rw [e2] at hm
    simp only [bindS] at hm
    cases t with
    | false => exact iteF (p2 σ1 G2 H2 F2 rl2 .refl fun _ _ => rfl)
    | true =>
      refine iteT ?_
      simp only [if_true] at p2 hm
      refine ⟨fun σ' H' => ∃ m', m' < m + 1 ∧ ∃ G1 ρ1 F1, Rel X.K X.mg G1 H' σ' ρ1 F1 ∧ Stp F G H G1 H' F1 ∧ (∀ i ∈ io, σ'[i]? = σ[i]?) ∧ (whileN ft f m' ρ1).live = true ∧ PostS X.K X.mg W io σ' F1 G1 H' Dn (whileN ft f m' ρ1), fun _ _ h => h, G2, ρ2, F2, rl2, ?_⟩
      cases hb : f ρ2 with
      | nx ρ3 =>
        rw [hb] at p2 hm
        exact fun σ3 G3 H3 F3 rl3 st3 hσ3 => ⟨m, Nat.lt_succ_self m, G3, ρ3, F3, rl3, (st1.trans st2).trans st3, fun i hi => (hσ3 i hi).trans (hσ i hi), hm, PostS.after st3 hσ3 p2⟩
      | ct ρ3 =>
        rw [hb] at p2 hm
        exact fun σ3 G3 H3 F3 rl3 st3 hσ3 => ⟨m, Nat.lt_succ_self m, G3, ρ3, F3, rl3, (st1.trans st2).trans st3, fun i hi => (hσ3 i hi).trans (hσ i hi), hm, PostS.after st3 hσ3 p2⟩
      | br ρ3 => rw [hb] at p2; exact p2
      | ret o ρ3 => rw [hb] at p2; exact p2
      | ex e ρ3 => rw [hb] at p2; exact p2
      | stuck => rw [hb] at hm; cases hm
end

/-! ### what is walked -/
/-- the iterator yields these values, while G stands -/
def ItOk (K : PySem.W.Frag) (G : Hp) (J : It) (ds : List D) : Prop :=
  ∀ i G1 H1, Le G G1 → Le G1 H1 → (∀ d, ds[i]? = some d → J.go i H1 ∧ ∀ x H2, J.yld i H1 x H2 → ∃ G2, Ext G1 H1 G2 H2 ∧ Rp K G2 x d) ∧ (ds.length ≤ i → J.stop i H1)
def tI (K : PySem.W.Frag) (mg : Str → Option Value) (W : WX) (f : FE (List D)) : TI := fun σ H R => ∃ G ρ F, Rel K mg G H σ ρ F ∧ Post K mg W σ F G H (fun ds G' H' => ∀ J, ItOk K G' J ds → R J H') (f ρ)
abbrev OkI (X : Cx) (W : WX) (tg e : Expr) (f : FE (List D)) : Prop := PI X tg e (tI X.K X.mg W f)
theorem _root_.L2.PI.to {X : Cx} {tg e : Expr} {t u : TI} (h : PI X tg e t) (k : ∀ σ H Q, u σ H Q → t σ H Q) : PI X tg e u := ⟨fun pins s σ H Q I q => h.run pins s σ H Q I (k σ H Q q)⟩
theorem it_list {K : PySem.W.Frag} {G : Hp} {a : Addr} {vs : List V} {ds : List D} (h : SqL K G a vs) (r : RpL K G vs ds) : ItOk K G (Itl K a) ds := fun i G1 H1 l s => by
  have h1 : SqL K H1 a vs := s.sql (l.sql h)
  refine ⟨fun d e => ?_, fun e => ⟨vs, h1, by rw [r.length]; exact e⟩⟩
  obtain ⟨v, e1, rv⟩ := r.get e
  refine ⟨⟨vs, v, h1, e1⟩, fun x H2 ⟨hH, hx⟩ => ?_⟩
  subst hH
  have := hx vs h1
  rw [e1] at this
  cases this
  exact ⟨G1, .refl s, rv.mono l⟩
theorem it_tup {K : PySem.W.Frag} {G : Hp} {a : Addr} {vs : List V} {ds : List D} (h : SqT K G a vs) (r : RpL K G vs ds) : ItOk K G (Itt K a) ds := fun i G1 H1 l s => by
  have h1 : SqT K H1 a vs := s.sqt (l.sqt h)
  refine ⟨fun d e => ?_, fun e => ⟨vs, h1, by rw [r.length]; exact e⟩⟩
  obtain ⟨v, e1, rv⟩ := r.get e
  refine ⟨⟨vs, v, h1, e1⟩, fun x H2 ⟨hH, hx⟩ => ?_⟩
  subst hH
  have := hx vs h1
  rw [e1] at this
  cases this
  exact ⟨G1, .refl s, rv.mono l⟩
def rangeL (lo : Int) (n : Nat) : List D := (List.range n).map fun (i : Nat) => .int (lo + (i : Int))
theorem rangeL_get {lo : Int} {n i : Nat} {d : D} (h : (rangeL lo n)[i]? = some d) : i < n ∧ d = .int (lo + i) := by
  unfold rangeL at h
  rw [List.getElem?_map] at h
  by_cases hi : i < n
  · rw [List.getElem?_range hi] at h
    cases h
    exact ⟨hi, rfl⟩
  · rw [List.getElem?_eq_none (by rw [List.length_range]; omega)] at h
    cases h
theorem it_rng {K : PySem.W.Frag} {G : Hp} {lo : Int} {n : Nat} : ItOk K G (Itr lo n) (rangeL lo n) := fun i G1 H1 l s => by
  refine ⟨fun d e => ?_, fun e => by
    unfold rangeL at e
    rw [List.length_map, List.length_range] at e
    exact e⟩
  obtain ⟨hi, rfl⟩ := rangeL_get e
  refine ⟨hi, fun x H2 ⟨hH, hx⟩ => ?_⟩
  subst hH
  subst hx
  exact ⟨G1, .refl s, .int _⟩
section
variable {X : Cx} {W : WX} {tg e a b : Expr} {pos : Pos} {fa fb : FE D} {fs : FE (List D)}
def itL (f : FE D) : FE (List D) := fun ρ => (f ρ).bind fun d ρ => match d with
  | .lst xs => .ok xs ρ
  | _ => .stuck
def itT (f : FE D) : FE (List D) := fun ρ => (f ρ).bind fun d ρ => match d with
  | .tup xs => .ok xs ρ
  | _ => .stuck
theorem oki_list (h : OkD X W e fa) : OkI X W tg e (itL fa) := (pi_list h).to fun σ H R q => by
  obtain ⟨G, ρ, F, rl, p⟩ := q
  refine ⟨G, ρ, F, rl, Post.bind p fun d ρ1 G1 H1 F1 _ rl1 st1 p1 v rv => ?_⟩
  cases rv with
  | lst hs r => exact ⟨_, rfl, ⟨_, rl1.sub.sql hs⟩, p1 G1 H1 F1 rl1 .refl _ (it_list hs r)⟩
  | _ => exact p1.elim
theorem oki_tup (h : OkD X W e fa) : OkI X W tg e (itT fa) := (pi_tup h).to fun σ H R q => by
  obtain ⟨G, ρ, F, rl, p⟩ := q
  refine ⟨G, ρ, F, rl, Post.bind p fun d ρ1 G1 H1 F1 _ rl1 st1 p1 v rv => ?_⟩
  cases rv with
  | tup hs r => exact ⟨_, rfl, ⟨_, rl1.sub.sqt hs⟩, p1 G1 H1 F1 rl1 .refl _ (it_tup hs r)⟩
  | _ => exact p1.elim
def rng1 (f : FE D) : FE (List D) := fun ρ => (f ρ).bind fun d ρ => match d with
  | .int j => if -(2 ^ 62) ≤ j ∧ j < 2 ^ 62 then .ok (rangeL 0 j.toNat) ρ else .stuck
  | _ => .stuck
def rng2 (f g : FE D) : FE (List D) := fun ρ => (f ρ).bind fun x ρ => (g ρ).bind fun y ρ => match x, y with
  | .int i, .int j => if -(2 ^ 62) ≤ i ∧ i < 2 ^ 62 ∧ -(2 ^ 62) ≤ j ∧ j < 2 ^ 62 then .ok (rangeL i (j - i).toNat) ρ else .stuck
  | _, _ => .stuck
theorem oki_range1 {p : Pos} (hg : Gl X "range") (hm : X.mg "range" = none) (ha : OkD X W a fa) (hst : starEach [a] X.env = (false, eval a X.env) :: starEach [] X.env := by rfl) : OkI X W tg (.Call (.Name "range" p) [a] [] pos) (rng1 fa) := (pi_range1 hg hm (pa_cons ha pa_nil hst) hst).to fun σ H R q => by
  obtain ⟨G, ρ, F, rl, p⟩ := q
  refine ⟨G, ρ, F, rl, Post.bind p fun d ρ1 G1 H1 F1 _ rl1 st1 p1 v rv => ?_⟩
  split at p1
  · split at p1
    · rename_i hj
      cases rv
      exact ⟨_, rfl, hj.1, hj.2, p1 G1 H1 F1 rl1 .refl _ it_rng⟩
    · exact p1.elim
  · exact p1.elim
theorem oki_range2 {p : Pos} (hg : Gl X "range") (hm : X.mg "range" = none) (ha : OkD X W a fa) (hb : OkD X W b fb) (hst : starEach [a, b] X.env = (false, eval a X.env) :: starEach [b] X.env := by rfl) (hst2 : starEach [b] X.env = (false, eval b X.env) :: starEach [] X.env := by rfl) :
    OkI X W tg (.Call (.Name "range" p) [a, b] [] pos) (rng2 fa fb) := (pi_range2 hg hm (pa_cons ha (pa_cons hb pa_nil hst2) hst) (hst.trans (by rw [hst2]; rfl)) (hst2.trans rfl)).to fun σ H R q => by
  obtain ⟨G, ρ, F, rl, p⟩ := q
  refine ⟨G, ρ, F, rl, Post.bind p fun x ρ1 G1 H1 F1 _ rl1 st1 p1 v rv => ⟨G1, ρ1, F1, rl1, Post.bind p1 fun y ρ2 G2 H2 F2 _ rl2 st2 p2 u ru => ?_⟩⟩
  split at p2
  · split at p2
    · rename_i hj
      cases rv; cases ru
      exact ⟨_, _, rfl, hj, p2 G2 H2 F2 rl2 .refl _ it_rng⟩
    · exact p2.elim
  · exact p2.elim
end

/-! ### targets -/
/-- what a target does with a value: it sets slots -/
abbrev FG := D → Env → Option Env
def tgF (K : PySem.W.Frag) (mg : Str → Option Value) (io : List Nat) (g : FG) : TG := fun v σ H Q => ∃ G ρ F d, Rel K mg G H σ ρ F ∧ Rp K G v d ∧ match g d ρ with
  | some ρ' => ∀ σ' F', Rel K mg G H σ' ρ' F' → Stp F G H G H F' → σ'.length = σ.length → (∀ i ∈ io, σ'[i]? = σ[i]?) → Q σ' H
  | none => False
abbrev OkG (X : Cx) (io : List Nat) (tg : Expr) (g : FG) : Prop := PG X tg (tgF X.K X.mg io g)
theorem _root_.L2.PG.to {X : Cx} {tg : Expr} {t u : TG} (h : PG X tg t) (k : ∀ v σ H Q, u v σ H Q → t v σ H Q) : PG X tg u := ⟨fun pins s σ H v x Q I r q => h.run pins s σ H v x Q I r (k v σ H Q q)⟩
theorem _root_.L2.PGs.to {X : Cx} {tg : List Expr} {t u : TGs} (h : PGs X tg t) (k : ∀ v σ H Q, u v σ H Q → t v σ H Q) : PGs X tg u := ⟨fun pins s σ H v x Q I r q => h.run pins s σ H v x Q I r (k v σ H Q q)⟩
def nameG (i : Nat) : FG := fun d ρ => some (ρ.set i (some (.v d)))
theorem okg_name {X : Cx} {io : List Nat} {i : Nat} {x : Str} {pos : Pos} (hN : X.N.Nodup) (hi : X.N[i]? = some x) (hx : Loc X.env.scope x) (hio : (io.contains i) = false := by rfl) (hf : X.fn x = true ∨ X.env.scope.names.lookup x = some .local := by first | exact .inl rfl | exact .inr rfl | assumption) : OkG X io (.Name x pos) (nameG i) := (pg_name hN hi hx hf).to fun v σ H Q q => by
  obtain ⟨G, ρ, F, d, rl, rv, p⟩ := q
  exact p _ _ (rl.set i (.c (.val rv)) fun _ z => z.elim) (Stp.refl.set fun _ z => z.elim) (List.length_set ..) fun j hj => List.getElem?_set_ne fun e => by subst e; rw [List.contains_iff_mem.mpr hj] at hio; cases hio
/-- several targets -/
abbrev FGs := List D → Env → Option Env
def tgFs (K : PySem.W.Frag) (mg : Str → Option Value) (io : List Nat) (g : FGs) : TGs := fun vs σ H Q => ∃ G ρ F ds, Rel K mg G H σ ρ F ∧ RpL K G vs ds ∧ match g ds ρ with
  | some ρ' => ∀ σ' F', Rel K mg G H σ' ρ' F' → Stp F G H G H F' → σ'.length = σ.length → (∀ i ∈ io, σ'[i]? = σ[i]?) → Q σ' H
  | none => False
abbrev OkGs (X : Cx) (io : List Nat) (tg : List Expr) (g : FGs) : Prop := PGs X tg (tgFs X.K X.mg io g)
def nilG : FGs := fun ds ρ => match ds with
  | [] => some ρ
  | _ => none
def consG (g : FG) (gs : FGs) : FGs := fun ds ρ => match ds with
  | d :: ds => match g d ρ with
    | some ρ => gs ds ρ
    | none => none
  | [] => none
section
variable {X : Cx} {io : List Nat} {e : Expr} {es : List Expr} {g : FG} {gs : FGs}
theorem okg_nil : OkGs X io [] nilG := pgs_nil.to fun vs σ H Q q => by
  obtain ⟨G, ρ, F, ds, rl, r, p⟩ := q
  cases r with
  | nil => exact ⟨rfl, p σ F rl .refl rfl fun _ _ => rfl⟩
  | cons _ _ => exact p.elim
theorem okg_cons (h1 : OkG X io e g) (h2 : OkGs X io es gs) (hs : (assignEach (e :: es) X.env).map (·.2) = assign e X.env :: (assignEach es X.env).map (·.2) := by rfl) : OkGs X io (e :: es) (consG g gs) := (pgs_cons h1 h2 hs).to fun vs σ H Q q => by
  obtain ⟨G, ρ, F, ds, rl, r, p⟩ := q
  cases r with
  | nil => exact p.elim
  | cons r1 r2 =>
    rename_i v vs d ds
    refine ⟨v, vs, rfl, G, ρ, F, d, rl, r1, ?_⟩
    unfold consG at p
    simp only at p
    cases hg : g d ρ with
    | none => rw [hg] at p; exact p.elim
    | some ρ1 =>
      rw [hg] at p
      intro σ1 F1 rl1 st1 hl1 hσ1
      refine ⟨G, ρ1, F1, ds, rl1, r2, ?_⟩
      simp only at p
      cases hgs : gs ds ρ1 with
      | none => rw [hgs] at p; exact p.elim
      | some ρ2 =>
        rw [hgs] at p
        exact fun σ2 F2 rl2 st2 hl2 hσ2 => p σ2 F2 rl2 (st1.trans st2) (hl2.trans hl1) fun i hi => (hσ2 i hi).trans (hσ1 i hi)
def tupG (n : Nat) (gs : FGs) : FG := fun d ρ => match d with
  | .tup ds => if ds.length = n then gs ds ρ else none
  | _ => none
theorem okg_tup {k : Nat} {n : Nat} {pos : Pos} (hc : X.calm = true) (h : OkGs X io es gs) (hn : (assignEach es X.env).length = n := by rfl) (hst : (assignEach es X.env).findIdx? (·.1) = none := by rfl) : OkG X io (.Tuple es k pos) (tupG n gs) := (pg_tup hc h hn hst).to fun v σ H Q q => by
  obtain ⟨G, ρ, F, d, rl, rv, p⟩ := q
  unfold tupG at p
  cases rv with
  | tup hs r =>
    simp only at p
    split at p
    · rename_i ds ρ1 e
      split at e
      · rename_i hl
        refine ⟨_, _, rfl, rl.sub.sqt hs, r.length.trans hl, G, ρ, F, _, rl, r, ?_⟩
        rw [e]
        exact p
      · cases e
    · exact p.elim
  | _ => exact p.elim
end

/-! ### for -/
def forF (g : FG) (b : FS) : List D → FS
  | [], ρ => .nx ρ
  | d :: ds, ρ => match g d ρ with
    | some ρ => match b ρ with
      | .nx ρ => forF g b ds ρ
      | .ct ρ => forF g b ds ρ
      | .br ρ => .nx ρ
      | r => r
    | none => .stuck
def forSF (f : FE (List D)) (g : FG) (b : FS) : FS := fun ρ => bindS (f ρ) fun ds ρ => forF g b ds ρ
section
variable {X : Cx} {W : WX} {io : List Nat} {tg it : Expr} {body : List Stmt} {pos : Pos} {fi : FE (List D)} {g : FG} {b : FS}
theorem ok_for (hp : PassesOwn (model X.prog X.w) X.A X.env X.xe) (hc : X.calm = true) (hi : OkI X W tg it fi) (hg : OkG X io tg g) (hb : OkSs X W io body b)
    (hs : ∀ x, foldedSetIterable it X.env x = pure x := by intro _; rfl) : OkS X W io (.For tg it body [] pos) (forSF fi g b) := (ps_for hp hc hi hg hb hs).to fun Dn σ H q => by
  obtain ⟨G, ρ, F, rl, p⟩ := q
  refine ⟨G, ρ, F, rl, PostS.bind p fun ds ρ1 G1 H1 F1 _ rl1 st1 p1 J hJ => ?_⟩
  refine ⟨fun i m σ2 H2 => m = ds.length - i ∧ ∃ G2 ρ2 F2, Rel X.K X.mg G2 H2 σ2 ρ2 F2 ∧ Stp F1 G1 H1 G2 H2 F2 ∧ (∀ j ∈ io, σ2[j]? = σ[j]?) ∧ PostS X.K X.mg W io σ2 F2 G2 H2 Dn (forF g b (ds.drop i) ρ2), ⟨_, rfl, G1, ρ1, F1, rl1, .refl, fun _ _ => rfl, p1⟩, ?_⟩
  rintro i m σ2 H2 ⟨rfl, G2, ρ2, F2, rl2, st2, hσ2, p2⟩
  obtain ⟨h1, h2⟩ := hJ i G2 H2 st2.le rl2.sub
  by_cases hi : i < ds.length
  · have hd : ds[i]? = some ds[i] := List.getElem?_eq_getElem hi
    obtain ⟨go, yl⟩ := h1 _ hd
    refine .inr ⟨go, fun σ' H' => ∃ m', m' < ds.length - i ∧ m' = ds.length - (i + 1) ∧ ∃ G2 ρ2 F2, Rel X.K X.mg G2 H' σ' ρ2 F2 ∧ Stp F1 G1 H1 G2 H' F2 ∧ (∀ j ∈ io, σ'[j]? = σ[j]?) ∧ PostS X.K X.mg W io σ' F2 G2 H' Dn (forF g b (ds.drop (i + 1)) ρ2), fun _ _ h => h, fun x H3 hx => ?_⟩
    obtain ⟨G3, ex, rx⟩ := yl x H3 hx
    rw [List.drop_eq_getElem_cons hi] at p2
    unfold forF at p2
    refine ⟨G3, ρ2, F2, ds[i], rl2.ext ex, rx, ?_⟩
    cases eg : g ds[i] ρ2 with
    | none => rw [eg] at p2; exact p2.elim
    | some ρ4 =>
      rw [eg] at p2
      simp only at p2
      intro σ4 F4 rl4 st4 _ hσ4
      have s4 : Stp F1 G1 H1 G3 H3 F4 := (st2.trans ex.stp).trans st4
      have h4 : ∀ j ∈ io, σ4[j]? = σ[j]? := fun j hj => (hσ4 j hj).trans (hσ2 j hj)
      have s24 : Stp F2 G2 H2 G3 H3 F4 := ex.stp.trans st4
      refine ⟨G3, ρ4, F4, rl4, ?_⟩
      have lt : ds.length - (i + 1) < ds.length - i := by omega
      cases eb : b ρ4 with
      | nx ρ5 =>
        rw [eb] at p2
        exact fun σ5 G5 H5 F5 rl5 st5 hσ5 => ⟨_, lt, rfl, G5, ρ5, F5, rl5, s4.trans st5, fun j hj => (hσ5 j hj).trans (h4 j hj), PostS.after (s24.trans st5) (fun j hj => (hσ5 j hj).trans (hσ4 j hj)) p2⟩
      | ct ρ5 =>
        rw [eb] at p2
        exact fun σ5 G5 H5 F5 rl5 st5 hσ5 => ⟨_, lt, rfl, G5, ρ5, F5, rl5, s4.trans st5, fun j hj => (hσ5 j hj).trans (h4 j hj), PostS.after (s24.trans st5) (fun j hj => (hσ5 j hj).trans (hσ4 j hj)) p2⟩
      | br ρ5 => rw [eb] at p2; exact PostS.after s24 hσ4 p2
      | ret o ρ5 => rw [eb] at p2; exact PostS.after s24 hσ4 p2
      | ex e ρ5 => rw [eb] at p2; exact PostS.after s24 hσ4 p2
      | stuck => rw [eb] at p2; exact p2.elim
  · refine .inl ⟨h2 (by omega), ?_⟩
    rw [List.drop_of_length_le (by omega)] at p2
    unfold forF at p2
    exact p2 σ2 G2 H2 F2 rl2 .refl fun _ _ => rfl
end
end Fx

set_option Elab.async false
set_option linter.all false
set_option maxRecDepth 100000
set_option maxHeartbeats 1000000
/-! Fx6: defs and calls. -/
namespace Fx
open PySem L2
open PyProof.Rows (envOfC)

/-! ### the contract -/
def isV : O → Bool
  | .c (.val _) => true
  | _ => false
/-- what is no argument to be changed is a value -/
def chk (io : List Nat) : Nat → List O → Bool
  | _, [] => true
  | j, o :: os => (isV o || io.contains j) && chk io (j + 1) os
/-- the arguments' objects behind the call -/
def fin (io : List Nat) (ρ : Env) : Nat → List O → Option (List O)
  | _, [] => some []
  | j, o :: os => match (if io.contains j then (match ρ[j]? with | some (some o') => some o' | _ => none) else some o), fin io ρ (j + 1) os with
    | some a, some r => some (a :: r)
    | _, _ => none
def bodyF (io : List Nat) (os : List O) : RS → RF
  | .nx ρ => match fin io ρ 0 os with
    | some os' => .ok (.v .non) os'
    | none => .stuck
  | .ret o ρ => match fin io ρ 0 os with
    | some os' => .ok o os'
    | none => .stuck
  | .ex e ρ => match fin io ρ 0 os with
    | some os' => .ex e os'
    | none => .stuck
  | _ => .stuck
section
variable (K : PySem.W.Frag) (mg : Str → Option Value)
def PostF (vs : List V) (F : Fp) (G H : Hp) (Q : VK) (E : XK) : RF → Prop
  | .ok o os' => ∀ G' H' F' v S, Rel K mg G' H' (vs.map some) (os'.map some) F' → Stp F G H G' H' F' → OOk K mg G' H' v o S → (∀ a, S a → H a = none ∧ G' a = none ∧ H' a ≠ none ∧ ¬ F'.U a) → Q v H'
  | .ex e os' => ∀ cv d G' H' F', Rel K mg G' H' (vs.map some) (os'.map some) F' → Stp F G H G' H' F' → XOk K mg G' H' e cv d → E cv d H'
  | .stuck => False
def spF (io : List Nat) (n : Nat) (φ : List O → RF) : Sp := fun vs H Q E => vs.length = n ∧ ∃ G os F, os.length = n ∧ chk io 0 os = true ∧ Rel K mg G H (vs.map some) (os.map some) F ∧ PostF K mg vs F G H Q E (φ os)
end
abbrev FnF (P : Program) (w : World) (K : PySem.W.Frag) (mg : Str → Option Value) (base : Heap) (k : Nat) (f : Addr) (fd : FuncData) (ps : List Str) (io : List Nat) (φ : List O → RF) : Prop :=
  FnOk P w K mg base (L2.CX P w) k f fd ps (spF K mg io ps.length φ)
def startE (N : List Str) (os : List O) : Env := os.map some ++ List.replicate (N.length - os.length) none

theorem chk_get {io : List Nat} : ∀ {os : List O} {k j : Nat} {o : O}, chk io k os = true → os[j]? = some o → isV o = true ∨ (k + j) ∈ io
  | [], _, _, _, _, e => by simp at e
  | o :: os, k, 0, _, h, e => by
    cases e
    unfold chk at h
    rw [Bool.and_eq_true, Bool.or_eq_true] at h
    rcases h.1 with h | h
    · exact .inl h
    · exact .inr (List.contains_iff_mem.mp h)
  | o :: os, k, j + 1, u, h, e => by
    unfold chk at h
    rw [Bool.and_eq_true] at h
    have := chk_get (j := j) h.2 (by simpa using e)
    rwa [Nat.add_assoc, Nat.add_comm 1 j] at this
theorem fin_len {io : List Nat} {ρ : Env} : ∀ {os os' : List O} {k : Nat}, fin io ρ k os = some os' → os'.length = os.length
  | [], _, _, h => by cases h; rfl
  | o :: os, os', k, h => by
    unfold fin at h
    split at h
    · rename_i a r e1 e2
      cases h
      rw [List.length_cons, List.length_cons, fin_len e2]
    · cases h
theorem fin_get {io : List Nat} {ρ : Env} : ∀ {os os' : List O} {k j : Nat} {o : O}, fin io ρ k os = some os' → os'[j]? = some o → ((k + j) ∈ io ∧ ρ[k + j]? = some (some o)) ∨ ((k + j) ∉ io ∧ os[j]? = some o)
  | [], _, _, _, _, h, e => by cases h; simp at e
  | u :: os, os', k, j, o, h, e => by
    unfold fin at h
    split at h
    · rename_i a r e1 e2
      cases h
      cases j with
      | zero =>
        cases e
        split at e1
        · rename_i hc
          split at e1
          · rename_i o' eo
            cases e1
            exact .inl ⟨List.contains_iff_mem.mp hc, eo⟩
          · cases e1
        · rename_i hc
          cases e1
          exact .inr ⟨fun m => hc (List.contains_iff_mem.mpr m), rfl⟩
      | succ j =>
        have := fin_get (j := j) e2 (by simpa using e)
        rw [show k + 1 + j = k + (j + 1) by omega] at this
        simpa using this
    · cases h
theorem startE_get {N : List Str} {os : List O} {i : Nat} {o : O} (h : (startE N os)[i]? = some (some o)) : os[i]? = some o := by
  unfold startE at h
  by_cases hi : i < os.length
  · rw [List.getElem?_append_left (by simpa using hi), List.getElem?_map] at h
    cases e : os[i]? with
    | none => rw [e] at h; cases h
    | some u => rw [e] at h; cases h; rfl
  · rw [List.getElem?_append_right (by simpa using hi), List.getElem?_replicate] at h
    split at h <;> cases h
theorem start_get {N : List Str} {vs : List V} {i : Nat} {v : V} (h : vs[i]? = some v) : (L2.start N vs)[i]? = some (some v) := by
  unfold L2.start
  rw [List.getElem?_append_left (by simpa using (List.getElem?_eq_some_iff.mp h).1), List.getElem?_map, h]
  rfl

section
variable {P : Program} {w : World} {K : PySem.W.Frag} {mg : Str → Option Value} {base : Heap}
/-- THE RULE for a def -/
theorem fn_ok {x qual : Str} {st : Stmt} {f : Addr} {fd : FuncData} {N ps : List Str} {k : Nat} {io : List Nat} {φ : List O → RF} (F : Fun K x qual st f fd) (S : FnScope N ps (defScope st))
    (hb : ∀ (cdv : Value) (A : Around) (outer : List PySem.Env) (s : Shared) (H : Hp) (E : XK), Room k (A.deeper (envOfC qual (defScope st) s.heap.objs.size f cdv)) →
      Takes (cxOf (L2.CX P w) P w K mg base N qual (defScope st) f cdv A outer s H E) (fun cls d _ H => E cls d H) →
      PassesOwn (model P w) (cxOf (L2.CX P w) P w K mg base N qual (defScope st) f cdv A outer s H E).A (cxOf (L2.CX P w) P w K mg base N qual (defScope st) f cdv A outer s H E).env (cxOf (L2.CX P w) P w K mg base N qual (defScope st) f cdv A outer s H E).xe →
      ∃ fs, OkSs (cxOf (L2.CX P w) P w K mg base N qual (defScope st) f cdv A outer s H E) (fun cls d _ H => E cls d H) io (defBody st) fs ∧ ∀ os, os.length = ps.length → chk io 0 os = true → φ os ≠ .stuck → bodyF io os (fs (startE N os)) = φ os) :
    FnF P w K mg base (k + 1) f fd ps io φ := by
  refine F.okX S (fun vs H Q E h => h.1) (fun cdv A outer s H vs Q E hr h => ?_)
  obtain ⟨fs, ok, hφ⟩ := hb cdv A outer s H E hr (takes_of rfl rfl rfl rfl) (passes_of rfl)
  refine ⟨_, ok, ?_⟩
  obtain ⟨hl, G, os, F0, hl2, hck, rl, p⟩ := h
  have ns : φ os ≠ .stuck := fun e => by rw [e] at p; exact p
  rw [← hφ os hl2 hck ns] at p
  have hlN : ps.length ≤ N.length := by
    have := congrArg List.length S.pre
    rw [List.length_take] at this
    omega
  have vget : ∀ {i : Nat} {o : O}, os[i]? = some o → ∃ v, vs[i]? = some v ∧ OOk K mg G H v o (F0 i) := fun {i o} e => by
    obtain ⟨v, e1, e2⟩ := rl.ok i o (by rw [List.getElem?_map, e]; rfl)
    rw [List.getElem?_map] at e1
    cases q : vs[i]? with
    | none => rw [q] at e1; cases e1
    | some u => rw [q] at e1; cases e1; exact ⟨_, rfl, e2⟩
  have rl0 : Rel K mg G H (L2.start N vs) (startE N os) F0 := by
    refine ⟨?_, fun i o e => ?_, rl.dis, rl.out, fun i a z => ?_, rl.sub⟩
    · unfold L2.start startE
      rw [List.length_append, List.length_append, List.length_map, List.length_map, List.length_replicate, List.length_replicate, hl, hl2]
    · obtain ⟨v, e1, e2⟩ := vget (startE_get e)
      exact ⟨v, start_get e1, e2⟩
    · obtain ⟨o, e⟩ := rl.non i a z
      rw [List.getElem?_map] at e
      refine ⟨o, ?_⟩
      unfold startE
      cases q : os[i]? with
      | none => rw [q] at e; cases e
      | some u =>
        rw [q] at e; cases e
        rw [List.getElem?_append_left (by simpa using (List.getElem?_eq_some_iff.mp q).1), List.getElem?_map, q]
        rfl
  -- the arguments behind the body
  have back : ∀ {ρ' : Fx.Env} {os' : List O} {σ' : L2.St} {G' H' : Hp} {F' : Fp}, fin io ρ' 0 os = some os' → Rel K mg G' H' σ' ρ' F' → Stp F0 G H G' H' F' → (∀ i ∈ io, σ'[i]? = (L2.start N vs)[i]?) →
      ∃ F2 : Fp, Rel K mg G' H' (vs.map some) (os'.map some) F2 ∧ Stp F0 G H G' H' F2 ∧ ∀ j a, F2 j a → j ∈ io ∧ F' j a := fun {ρ' os' σ' G' H' F'} ef rl' st hσ => by
    refine ⟨fun j a => j ∈ io ∧ j < os.length ∧ F' j a, ⟨?_, fun i o e => ?_, fun i j a hij h1 h2 => rl'.dis i j a hij h1.2.2 h2.2.2, fun i a z => rl'.out i a z.2.2, fun i a z => ?_, rl'.sub⟩, ⟨st.le, st.fr, st.fresh, st.there, fun i a z => st.own i a z.2.2⟩, fun j a z => ⟨z.1, z.2.2⟩⟩
    · rw [List.length_map, List.length_map, fin_len ef, hl, hl2]
    · rw [List.getElem?_map] at e
      cases q : os'[i]? with
      | none => rw [q] at e; cases e
      | some u =>
        rw [q] at e; cases e
        have hi : i < os.length := by rw [← fin_len ef]; exact (List.getElem?_eq_some_iff.mp q).1
        rcases fin_get ef q with ⟨hm, e1⟩ | ⟨hm, e1⟩
        · rw [Nat.zero_add] at hm e1
          obtain ⟨v, e2, e3⟩ := rl'.ok i _ e1
          obtain ⟨u, hu, _⟩ := vget (List.getElem?_eq_getElem hi)
          rw [hσ i hm, start_get hu] at e2
          cases e2
          refine ⟨_, by rw [List.getElem?_map, hu]; rfl, ?_⟩
          have : (fun a => i ∈ io ∧ i < os.length ∧ F' i a) = F' i := by
            funext a
            exact propext ⟨fun h => h.2.2, fun h => ⟨hm, hi, h⟩⟩
          rw [this]
          exact e3
        · rw [Nat.zero_add] at hm
          obtain ⟨v, hv, ok2⟩ := vget e1
          refine ⟨v, by rw [List.getElem?_map, hv]; rfl, ?_⟩
          have hv2 := (chk_get hck e1).resolve_right (by rw [Nat.zero_add]; exact hm)
          have : (fun a => i ∈ io ∧ i < os.length ∧ F' i a) = fun _ => False := by
            funext a
            exact propext ⟨fun h => hm h.1, fun h => h.elim⟩
          rw [this]
          generalize F0 i = S0 at ok2
          cases ok2 with
          | c ok2 =>
            cases ok2 with
            | val r => exact .c (.val (r.mono st.le))
            | _ => cases hv2
          | ins _ => cases hv2
    · obtain ⟨o, e⟩ := rl'.non i a z.2.2
      have hi : i < os'.length := by rw [fin_len ef]; exact z.2.1
      exact ⟨os'[i], by rw [List.getElem?_map, List.getElem?_eq_getElem hi]; rfl⟩
  refine ⟨G, startE N os, F0, rl0, ?_⟩
  generalize hr : fs (startE N os) = r at p
  cases r with
  | nx ρ' =>
    simp only [bodyF] at p
    split at p
    · rename_i os' ef
      intro σ' G' H' F' rl' st hσ
      obtain ⟨F2, r2, s2, _⟩ := back ef rl' st hσ
      exact p G' H' F2 .non _ r2 s2 (.c (.val .non)) fun _ z => z.elim
    · exact p.elim
  | ret o ρ' =>
    simp only [bodyF] at p
    split at p
    · rename_i os' ef
      intro σ' G' H' F' v S' rl' st hσ ok z
      obtain ⟨F2, r2, s2, n2⟩ := back ef rl' st hσ
      exact p G' H' F2 v S' r2 s2 ok fun a q => ⟨(z a q).1, (z a q).2.1, (z a q).2.2.1, fun ⟨j, y⟩ => (z a q).2.2.2 j (n2 j a y).1 (n2 j a y).2⟩
    · exact p.elim
  | ex e ρ' =>
    simp only [bodyF] at p
    split at p
    · rename_i os' ef
      intro cv d σ' G' H' F' rl' st hσ x
      obtain ⟨F2, r2, s2, _⟩ := back ef rl' st hσ
      exact p cv d G' H' F2 r2 s2 x
    · exact p.elim
  | br _ => exact p.elim
  | ct _ => exact p.elim
  | stuck => exact p.elim
end
end Fx

set_option Elab.async false
set_option linter.all false
set_option maxRecDepth 100000
set_option maxHeartbeats 1000000
/-! Fx7: calls of defs. -/
namespace Fx
open PySem L2
open PyProof.Rows (envOfC)

inductive PlsOk (K : PySem.W.Frag) (G : Hp) (σ : L2.St) : List V → List Pl → Prop
  | nil : PlsOk K G σ [] []
  | cons {v : V} {vs : List V} {p : Pl} {ps : List Pl} : PlOk K G σ v p → PlsOk K G σ vs ps → PlsOk K G σ (v :: vs) (p :: ps)
theorem PlsOk.length {K : PySem.W.Frag} {G : Hp} {σ : L2.St} : ∀ {vs : List V} {ps : List Pl}, PlsOk K G σ vs ps → vs.length = ps.length
  | _, _, .nil => rfl
  | _, _, .cons _ t => congrArg (· + 1) t.length
theorem PlsOk.get {K : PySem.W.Frag} {G : Hp} {σ : L2.St} : ∀ {vs : List V} {ps : List Pl} {i : Nat} {p : Pl}, PlsOk K G σ vs ps → ps[i]? = some p → ∃ v, vs[i]? = some v ∧ PlOk K G σ v p
  | _, _, _, _, .nil, e => by simp at e
  | _, _, 0, _, .cons h _, e => by cases e; exact ⟨_, rfl, h⟩
  | _, _, i + 1, _, .cons _ t, e => t.get (i := i) (by simpa using e)
theorem PlsOk.append {K : PySem.W.Frag} {G : Hp} {σ : L2.St} : ∀ {vs ws : List V} {ps qs : List Pl}, PlsOk K G σ vs ps → PlsOk K G σ ws qs → PlsOk K G σ (vs ++ ws) (ps ++ qs)
  | _, _, _, _, .nil, s => s
  | _, _, _, _, .cons h t, s => .cons h (t.append s)
theorem PlsOk.mono {K : PySem.W.Frag} {G G' : Hp} {σ : L2.St} (l : Le G G') : ∀ {vs : List V} {ps : List Pl}, PlsOk K G σ vs ps → PlsOk K G' σ vs ps
  | _, _, .nil => .nil
  | _, _, .cons h t => .cons (PlOk.mono l h) (t.mono l)
def Pl.geto : Pl → Env → Option O
  | .v x, _ => some (.v x)
  | .sl i, ρ => match ρ[i]? with
    | some (some o) => some o
    | _ => none
def getAll : List Pl → Env → Option (List O)
  | [], _ => some []
  | p :: ps, ρ => match p.geto ρ, getAll ps ρ with
    | some o, some os => some (o :: os)
    | _, _ => none
def putAll : List Pl → List O → Env → Env
  | .sl i :: ps, o :: os, ρ => (putAll ps os ρ).set i (some o)
  | .v _ :: ps, _ :: os, ρ => putAll ps os ρ
  | _, _, ρ => ρ
def slots : List Pl → List Nat
  | [] => []
  | .sl i :: ps => i :: slots ps
  | .v _ :: ps => slots ps
theorem getAll_get : ∀ {ps : List Pl} {ρ : Env} {os : List O} {j : Nat} {o : O}, getAll ps ρ = some os → os[j]? = some o → ∃ p, ps[j]? = some p ∧ p.geto ρ = some o
  | [], _, _, _, _, h, e => by cases h; simp at e
  | p :: ps, ρ, os, j, o, h, e => by
    unfold getAll at h
    split at h
    · rename_i a r e1 e2
      cases h
      cases j with
      | zero => cases e; exact ⟨p, rfl, e1⟩
      | succ j =>
        obtain ⟨q, h1, h2⟩ := getAll_get (j := j) e2 (by simpa using e)
        exact ⟨q, by simpa using h1, h2⟩
    · cases h
theorem getAll_len : ∀ {ps : List Pl} {ρ : Env} {os : List O}, getAll ps ρ = some os → os.length = ps.length
  | [], _, _, h => by cases h; rfl
  | p :: ps, ρ, os, h => by
    unfold getAll at h
    split at h
    · rename_i a r e1 e2
      cases h
      rw [List.length_cons, List.length_cons, getAll_len e2]
    · cases h
theorem mem_slots : ∀ {ps : List Pl} {i : Nat}, i ∈ slots ps ↔ ∃ j : Nat, ps[j]? = some (Pl.sl i)
  | [], i => by simp [slots]
  | .sl k :: ps, i => by
    unfold slots
    rw [List.mem_cons, mem_slots (ps := ps)]
    constructor
    · rintro (rfl | ⟨j, h⟩)
      · exact ⟨0, rfl⟩
      · exact ⟨j + 1, by simpa using h⟩
    · rintro ⟨j, h⟩
      cases j with
      | zero => cases h; exact .inl rfl
      | succ j => exact .inr ⟨j, by simpa using h⟩
  | .v x :: ps, i => by
    unfold slots
    rw [mem_slots (ps := ps)]
    constructor
    · rintro ⟨j, h⟩
      exact ⟨j + 1, by simpa using h⟩
    · rintro ⟨j, h⟩
      cases j with
      | zero => cases h
      | succ j => exact ⟨j, by simpa using h⟩
theorem slots_inj : ∀ {ps : List Pl} {i j k : Nat}, (slots ps).Nodup → ps[j]? = some (.sl i) → ps[k]? = some (.sl i) → j = k
  | [], _, _, _, _, h, _ => by simp at h
  | p :: ps, i, 0, 0, _, _, _ => rfl
  | p :: ps, i, 0, k + 1, n, h1, h2 => by
    cases h1
    unfold slots at n
    exact absurd (mem_slots.mpr ⟨k, by simpa using h2⟩) (List.nodup_cons.mp n).1
  | p :: ps, i, j + 1, 0, n, h1, h2 => by
    cases h2
    unfold slots at n
    exact absurd (mem_slots.mpr ⟨j, by simpa using h1⟩) (List.nodup_cons.mp n).1
  | .sl _ :: ps, i, j + 1, k + 1, n, h1, h2 => by
    unfold slots at n
    rw [slots_inj (j := j) (k := k) (List.nodup_cons.mp n).2 (by simpa using h1) (by simpa using h2)]
  | .v _ :: ps, i, j + 1, k + 1, n, h1, h2 => by
    unfold slots at n
    rw [slots_inj (j := j) (k := k) n (by simpa using h1) (by simpa using h2)]
theorem putAll_len : ∀ {ps : List Pl} {os : List O} {ρ : Env}, (putAll ps os ρ).length = ρ.length
  | [], _, _ => by simp [putAll]
  | .sl _ :: _, [], _ => by simp [putAll]
  | .v _ :: _, [], _ => by simp [putAll]
  | .sl i :: ps, o :: os, ρ => by unfold putAll; rw [List.length_set, putAll_len]
  | .v _ :: ps, o :: os, ρ => by unfold putAll; exact putAll_len
theorem putAll_out : ∀ {ps : List Pl} {os : List O} {ρ : Env} {i : Nat}, i ∉ slots ps → (putAll ps os ρ)[i]? = ρ[i]?
  | [], _, _, _, _ => by simp [putAll]
  | .sl _ :: _, [], _, _, _ => by simp [putAll]
  | .v _ :: _, [], _, _, _ => by simp [putAll]
  | .sl k :: ps, o :: os, ρ, i, h => by
    unfold slots at h
    unfold putAll
    rw [List.getElem?_set_ne (fun e => h (by rw [e]; exact List.mem_cons_self)), putAll_out fun m => h (List.mem_cons_of_mem _ m)]
  | .v _ :: ps, o :: os, ρ, i, h => by
    unfold slots at h
    unfold putAll
    exact putAll_out h
theorem putAll_in : ∀ {ps : List Pl} {os : List O} {ρ : Env} {i j : Nat} {o : O}, (slots ps).Nodup → ps[j]? = some (.sl i) → os[j]? = some o → i < ρ.length → (putAll ps os ρ)[i]? = some (some o)
  | [], _, _, _, _, _, _, h, _, _ => by simp at h
  | _ :: _, [], _, _, _, _, _, _, h, _ => by simp at h
  | .sl k :: ps, o' :: os, ρ, i, 0, o, n, h1, h2, hl => by
    cases h1; cases h2
    unfold putAll
    exact List.getElem?_set_self (by rw [putAll_len]; exact hl)
  | .v k :: ps, o' :: os, ρ, i, 0, o, n, h1, h2, hl => by cases h1
  | .sl k :: ps, o' :: os, ρ, i, j + 1, o, n, h1, h2, hl => by
    unfold slots at n
    unfold putAll
    have hm : i ∈ slots ps := mem_slots.mpr ⟨j, by simpa using h1⟩
    rw [List.getElem?_set_ne (fun e => (List.nodup_cons.mp n).1 (by rw [e]; exact hm))]
    exact putAll_in (j := j) (List.nodup_cons.mp n).2 (by simpa using h1) (by simpa using h2) hl
  | .v k :: ps, o' :: os, ρ, i, j + 1, o, n, h1, h2, hl => by
    unfold slots at n
    unfold putAll
    exact putAll_in (j := j) n (by simpa using h1) (by simpa using h2) hl

/-! ### argument lists -/
def tPls (K : PySem.W.Frag) (mg : Str → Option Value) (W : WX) (f : FE (List Pl)) : TA := fun σ H Q => ∃ G ρ F, Rel K mg G H σ ρ F ∧ Post K mg W σ F G H (fun ps G' H' => ∀ vs, PlsOk K G' σ vs ps → Q vs H') (f ρ)
abbrev OkAs (X : Cx) (W : WX) (es : List Expr) (f : FE (List Pl)) : Prop := PA X es (tPls X.K X.mg W f)
def nilA : FE (List Pl) := fun ρ => .ok [] ρ
def consA (f : FE Pl) (g : FE (List Pl)) : FE (List Pl) := fun ρ => (f ρ).bind fun x ρ => (g ρ).bind fun xs ρ => .ok (x :: xs) ρ
section
variable {X : Cx} {W : WX} {e : Expr} {es : List Expr} {f : FE Pl} {g : FE (List Pl)}
theorem oka_nil : OkAs X W [] nilA := pa_nil.to fun σ H Q h => by
  obtain ⟨G, ρ, F, rl, p⟩ := h
  exact p G H F rl .refl [] .nil
theorem oka_cons (ha : OkB X W e f) (hs : OkAs X W es g) (hst : starEach (e :: es) X.env = (false, eval e X.env) :: starEach es X.env := by rfl) : OkAs X W (e :: es) (consA f g) := by
  refine (pa_cons ha hs hst).to fun σ H Q h => ?_
  obtain ⟨G, ρ, F, rl, p⟩ := h
  refine ⟨G, ρ, F, rl, Post.bind p fun x ρ1 G1 H1 F1 _ rl1 st1 p1 v rv => ⟨G1, ρ1, F1, rl1, Post.bind p1 fun xs ρ2 G2 H2 F2 _ rl2 st2 p2 vs rvs => ?_⟩⟩
  exact p2 G2 H2 F2 rl2 .refl (v :: vs) (.cons (rv.mono st2.le) rvs)
end

/-! ### the call -/
/-- perm: how the values as they are evaluated come to the parameters -/
def callP (io : List Nat) (φ : List O → RF) (pls : List Pl) (ρ : Env) : R O := match getAll pls ρ with
  | some os => if (slots pls).Nodup ∧ chk io 0 os = true then (match φ os with
    | .ok o os' => .ok o (putAll pls os' ρ)
    | .ex e os' => .ex e (putAll pls os' ρ)
    | .stuck => .stuck) else .stuck
  | none => .stuck
def callF (io : List Nat) (φ : List O → RF) (f : FE (List Pl)) : FE O := fun ρ => (f ρ).bind fun pls ρ => callP io φ pls ρ
section
variable {K : PySem.W.Frag} {mg : Str → Option Value} {G H : Hp} {σ : L2.St} {ρ : Env} {F : Fp}
/-- the callee's view -/
def subF (pls : List Pl) (F : Fp) : Fp := fun j a => ∃ i, pls[j]? = some (.sl i) ∧ F i a
theorem Rel.sub1 (rl : Rel K mg G H σ ρ F) {vs : List V} {pls : List Pl} {os : List O} (h : PlsOk K G σ vs pls) (eg : getAll pls ρ = some os) (nd : (slots pls).Nodup) : Rel K mg G H (vs.map some) (os.map some) (subF pls F) := by
  refine ⟨?_, fun j o e => ?_, fun j k a hjk ⟨i, e1, z1⟩ ⟨i', e2, z2⟩ => ?_, fun j a ⟨i, _, z⟩ => rl.out i a z, fun j a ⟨i, e, z⟩ => ?_, rl.sub⟩
  · rw [List.length_map, List.length_map, h.length, getAll_len eg]
  · rw [List.getElem?_map] at e
    cases q : os[j]? with
    | none => rw [q] at e; cases e
    | some u =>
      rw [q] at e; cases e
      obtain ⟨p, hp, ho⟩ := getAll_get eg q
      obtain ⟨v, hv, pv⟩ := h.get hp
      refine ⟨v, by rw [List.getElem?_map, hv]; rfl, ?_⟩
      cases p with
      | v x =>
        cases ho
        have : subF pls F j = fun _ => False := by
          funext a
          exact propext ⟨fun ⟨i, e, _⟩ => (by rw [hp] at e; cases e), fun z => z.elim⟩
        rw [this]
        exact .c (.val pv)
      | sl i =>
        have ho' : (match ρ[i]? with | some (some o) => some o | _ => none) = some o := ho
        have e1 : ρ[i]? = some (some o) := by
          split at ho'
          · rename_i q; cases ho'; exact q
          · cases ho'
        obtain ⟨u, e2, ok⟩ := rl.ok i o e1
        rw [show σ[i]? = some (some v) from pv] at e2
        cases e2
        have : subF pls F j = F i := by
          funext a
          exact propext ⟨fun ⟨i', e, z⟩ => (by rw [hp] at e; cases e; exact z), fun z => ⟨i, hp, z⟩⟩
        rw [this]
        exact ok
  · by_cases hi : i = i'
    · subst hi; exact hjk (slots_inj nd e1 e2)
    · exact rl.dis i i' a hi z1 z2
  · have hj : j < os.length := by rw [getAll_len eg]; exact (List.getElem?_eq_some_iff.mp e).1
    exact ⟨os[j], by rw [List.getElem?_map, List.getElem?_eq_getElem hj]; rfl⟩
/-- the caller's view behind the call -/
def supF (pls : List Pl) (F Fc : Fp) : Fp := fun i a => (∃ j, pls[j]? = some (.sl i) ∧ Fc j a) ∨ (i ∉ slots pls ∧ F i a)
theorem Rel.sup1 (rl : Rel K mg G H σ ρ F) {vs : List V} {pls : List Pl} {os os' : List O} (h : PlsOk K G σ vs pls) (eg : getAll pls ρ = some os) (nd : (slots pls).Nodup) {G' H' : Hp} {Fc : Fp} (rc : Rel K mg G' H' (vs.map some) (os'.map some) Fc)
    (st : Stp (subF pls F) G H G' H' Fc) : Rel K mg G' H' σ (putAll pls os' ρ) (supF pls F Fc) ∧ Stp F G H G' H' (supF pls F Fc) ∧ ∀ a, Fc.U a → ∀ i, i ∉ slots pls → ¬ F i a := by
  have len : os'.length = pls.length := by
    have := rc.len
    rw [List.length_map, List.length_map] at this
    rw [← this, h.length]
  have apart : ∀ {i j : Nat} {a : Addr}, i ∉ slots pls → F i a → ¬ Fc j a := fun {i j a} hi z zc => by
    rcases st.own j a zc with ⟨k, e, z2⟩ | hn
    · exact rl.dis i k a (fun e2 => hi (by rw [e2]; exact mem_slots.mpr ⟨j, e⟩)) z z2
    · exact (rl.out i a z).2 hn
  have notin : ∀ {i : Nat} {a : Addr}, i ∉ slots pls → F i a → ¬ (subF pls F).U a := fun {i a} hi z ⟨j, k, e, z2⟩ => rl.dis i k a (fun e2 => hi (by rw [e2]; exact mem_slots.mpr ⟨j, e⟩)) z z2
  refine ⟨⟨by rw [putAll_len]; exact rl.len, fun i o e => ?_, fun i k a hik h1 h2 => ?_, fun i a z => ?_, fun i a z => ?_, rc.sub⟩, ⟨st.le, fun a o e n => st.fr a o e fun ⟨j, i, e1, z⟩ => n ⟨i, z⟩, fun a e g n => st.fresh a e g fun ⟨j, i, e1, z⟩ => n ⟨i, z⟩, st.there, fun i a z => ?_⟩, fun a ⟨j, z⟩ i hi y => apart hi y z⟩
  · by_cases hi : i ∈ slots pls
    · obtain ⟨j, hj⟩ := mem_slots.mp hi
      have hjl : j < os'.length := by rw [len]; exact (List.getElem?_eq_some_iff.mp hj).1
      have hiρ : i < ρ.length := by
        have := (List.getElem?_eq_some_iff.mp e).1
        rwa [putAll_len] at this
      rw [putAll_in nd hj (List.getElem?_eq_getElem hjl) hiρ] at e
      cases e
      obtain ⟨v, e1, ok⟩ := rc.ok j os'[j] (by rw [List.getElem?_map, List.getElem?_eq_getElem hjl]; rfl)
      obtain ⟨u, hu, pu⟩ := h.get hj
      rw [List.getElem?_map, hu] at e1
      cases e1
      refine ⟨_, pu, ?_⟩
      have : supF pls F Fc i = Fc j := by
        funext a
        exact propext ⟨fun z => z.elim (fun ⟨k, e, z⟩ => by rw [slots_inj nd hj e]; exact z) fun z => absurd hi z.1, fun z => .inl ⟨j, hj, z⟩⟩
      rw [this]
      exact ok
    · rw [putAll_out hi] at e
      obtain ⟨v, e1, ok⟩ := rl.ok i o e
      refine ⟨v, e1, ?_⟩
      have : supF pls F Fc i = F i := by
        funext a
        exact propext ⟨fun z => z.elim (fun ⟨k, e, _⟩ => absurd (mem_slots.mpr ⟨k, e⟩) hi) fun z => z.2, fun z => .inr ⟨hi, z⟩⟩
      rw [this]
      exact ok.mono st.le fun a u z q => st.fr a u q (notin hi z)
  · rcases h1 with ⟨j, e1, z1⟩ | ⟨n1, z1⟩
    · rcases h2 with ⟨l, e2, z2⟩ | ⟨n2, z2⟩
      · exact rc.dis j l a (fun e => hik (by subst e; rw [e1] at e2; cases e2; rfl)) z1 z2
      · exact apart n2 z2 z1
    · rcases h2 with ⟨l, e2, z2⟩ | ⟨n2, z2⟩
      · exact apart n1 z1 z2
      · exact rl.dis i k a hik z1 z2
  · rcases z with ⟨j, e, z⟩ | ⟨n, z⟩
    · exact rc.out j a z
    · exact ⟨st.fresh a (rl.out i a z).2 (rl.out i a z).1 (notin n z), st.there a (rl.out i a z).2⟩
  · rcases z with ⟨j, e, z⟩ | ⟨n, z⟩
    · obtain ⟨v, hv, pv⟩ := h.get e
      obtain ⟨o, eo⟩ := rc.non j a z
      rw [List.getElem?_map] at eo
      cases q : os'[j]? with
      | none => rw [q] at eo; cases eo
      | some u =>
        have hi : i < ρ.length := by
          rw [← rl.len]
          exact (List.getElem?_eq_some_iff.mp (show σ[i]? = some (some v) from pv)).1
        exact ⟨_, putAll_in nd e q hi⟩
    · rw [putAll_out n]; exact rl.non i a z
  · rcases z with ⟨j, e, z⟩ | ⟨n, z⟩
    · rcases st.own j a z with ⟨k, e2, z2⟩ | hn
      · rw [e] at e2; cases e2; exact .inl z2
      · exact .inr hn
    · exact .inl z
/-- the call, by the contract -/
theorem call_sp {W : WX} {io : List Nat} {n : Nat} {φ : List O → RF} {vs : List V} {pls : List Pl} {Q : VK} (rl : Rel K mg G H σ ρ F) (h : PlsOk K G σ vs pls) (hn : pls.length = n) (p : PostO K mg W σ F G H Q (callP io φ pls ρ)) : spF K mg io n φ vs H Q (WE W σ) := by
  unfold callP at p
  cases eg : getAll pls ρ with
  | none => rw [eg] at p; exact p.elim
  | some os =>
    rw [eg] at p
    simp only at p
    split at p
    · rename_i hc
      refine ⟨h.length.trans hn, G, os, subF pls F, (getAll_len eg).trans hn, hc.2, rl.sub1 h eg hc.1, ?_⟩
      cases hφ : φ os with
      | ok o os' =>
        rw [hφ] at p
        intro G' H' Fc v S rc st ok z
        obtain ⟨r2, s2, ap⟩ := rl.sup1 h eg hc.1 rc st
        refine p G' H' _ v S r2 s2 ok fun a q => ⟨(z a q).1, (z a q).2.1, (z a q).2.2.1, ?_⟩
        rintro ⟨i, ⟨j, _, y⟩ | ⟨_, y⟩⟩
        · exact (z a q).2.2.2 ⟨j, y⟩
        · exact (rl.out i a y).2 (z a q).1
      | ex e os' =>
        rw [hφ] at p
        intro cv d G' H' Fc rc st x
        obtain ⟨r2, s2, _⟩ := rl.sup1 h eg hc.1 rc st
        exact p cv d G' H' _ r2 s2 x
      | stuck => rw [hφ] at p; exact p.elim
    · exact p.elim
end
section
variable {X : Cx} {W : WX} {k : Nat} {f : Addr} {fd : FuncData} {ps : List Str} {io : List Nat} {φ : List O → RF} {x : Str} {p pos : Pos} {e : Expr} {es : List Expr} {g : FE (List Pl)}
theorem t_call {K : PySem.W.Frag} {mg : Str → Option Value} {σ : L2.St} {H : Hp} {Q : VK} {n : Nat} (hn : ∀ ρ pls ρ', g ρ = .ok pls ρ' → pls.length = n) (h : tO K mg W (callF io φ g) σ H Q) : tCallS (spF K mg io n φ) (WE W) (tPls K mg W g) σ H Q := by
  obtain ⟨G, ρ, F, rl, p⟩ := h
  exact ⟨G, ρ, F, rl, PostO.bind p fun pls ρ1 G1 H1 F1 e1 rl1 st1 p1 vs rv => call_sp rl1 rv (hn _ _ _ e1) p1⟩
theorem consA_len {f : FE Pl} {g : FE (List Pl)} {n : Nat} (h : ∀ ρ pls ρ', g ρ = .ok pls ρ' → pls.length = n) : ∀ ρ pls ρ', consA f g ρ = .ok pls ρ' → pls.length = n + 1 := fun ρ pls ρ' e => by
  unfold consA at e
  cases h1 : f ρ with
  | ok x ρ1 =>
    rw [h1] at e
    simp only [R.bind] at e
    cases h2 : g ρ1 with
    | ok xs ρ2 => rw [h2] at e; cases e; rw [List.length_cons, h _ _ _ h2]
    | ex _ _ => rw [h2] at e; cases e
    | stuck => rw [h2] at e; cases e
  | ex _ _ => rw [h1] at e; cases e
  | stuck => rw [h1] at e; cases e
theorem nilA_len : ∀ ρ pls ρ', nilA ρ = .ok pls ρ' → pls.length = 0 := fun ρ pls ρ' e => by cases e; rfl
/-- f(e, ..) -/
theorem ok_call (F : FnF X.prog X.w X.K X.mg X.base k f fd ps io φ) (tk : Takes X W) (hr : Room k X.A) (hg : Gl X x) (hm : X.mg x = some (.ref f)) (hk : PySem.W.keepIn X.K (.ref f) = true) (hb : Binds X.K fd ps []) (ha : OkAs X W (e :: es) g)
    (hn : ∀ ρ pls ρ', g ρ = .ok pls ρ' → pls.length = ps.length) (hdb : (x == ("__debug__" : Str)) = false := by decide) (he : starEach (e :: es) X.env = (false, eval e X.env) :: starEach es X.env := by rfl) (hpl : (backTo pos (starEach es X.env)).any (·.1) = false := by rfl) :
    OkO X W (.Call (.Name x p) (e :: es) [] pos) (callF io φ g) := (pe_callS F hr hg hm hk hb (passAt tk) ha hdb he hpl).to fun σ H Q h => t_call hn h
end
end Fx

set_option Elab.async false
set_option linter.all false
set_option maxRecDepth 100000
set_option maxHeartbeats 1000000
/-! Fx8: lists that are changed, comprehensions, keywords, built-in calls. -/
namespace Fx
open PySem L2
open PyProof.Rows (envOfC)

/-! ### an object of one's own changes -/
theorem Rel.mut {K : PySem.W.Frag} {mg : Str → Option Value} {G H : Hp} {σ : L2.St} {ρ : Env} {F : Fp} (rl : Rel K mg G H σ ρ F) {i : Nat} {p : Addr} {o : HO} {c : C1} (hσ : σ[i]? = some (some (.ref p))) (hF : ∀ a, F i a ↔ a = p)
    (ok : C1Ok K G (upd H p o) (.ref p) c fun a => a = p) : Rel K mg G (upd H p o) σ (ρ.set i (some (.c c))) F ∧ Stp F G H G (upd H p o) F := by
  have hp : F i p := (hF p).mpr rfl
  have ne : ∀ {j : Nat} {a : Addr}, j ≠ i → F j a → a ≠ p := fun {j a} hj z e => rl.dis j i a hj z ((hF a).mpr e)
  have hl : i < ρ.length := by rw [← rl.len]; exact (List.getElem?_eq_some_iff.mp hσ).1
  refine ⟨⟨by rw [List.length_set]; exact rl.len, fun j u e => ?_, rl.dis, fun j a z => ?_, fun j a z => ?_, fun a u e => ?_⟩, ⟨Le.refl _, fun a u e n => ?_, fun _ _ g _ => g, fun a h => ?_, fun _ _ z => .inl z⟩⟩
  · by_cases hj : j = i
    · subst hj
      rw [List.getElem?_set_self hl] at e
      cases e
      refine ⟨_, hσ, ?_⟩
      have : F j = fun a => a = p := by
        funext a
        exact propext (hF a)
      rw [this]
      exact .c ok
    · rw [List.getElem?_set_ne (Ne.symm hj)] at e
      obtain ⟨v, e1, e2⟩ := rl.ok j u e
      exact ⟨v, e1, e2.mono (Le.refl _) fun a x z q => by rw [upd_ne (ne hj z)]; exact q⟩
  · refine ⟨(rl.out j a z).1, ?_⟩
    by_cases ha : a = p
    · rw [ha, upd_same]; exact fun e => nomatch e
    · rw [upd_ne ha]; exact (rl.out j a z).2
  · by_cases hj : j = i
    · subst hj; exact ⟨_, List.getElem?_set_self hl⟩
    · obtain ⟨u, e⟩ := rl.non j a z
      exact ⟨u, by rw [List.getElem?_set_ne (Ne.symm hj)]; exact e⟩
  · rw [upd_ne fun z => by rw [z, (rl.out i p hp).1] at e; cases e]
    exact rl.sub a u e
  · rw [upd_ne fun z => n ⟨i, by rw [z]; exact hp⟩]
    exact e
  · by_cases ha : a = p
    · rw [ha, upd_same]; exact fun e => nomatch e
    · rw [upd_ne ha]; exact h
theorem Rel.lst {K : PySem.W.Frag} {mg : Str → Option Value} {G H : Hp} {σ : L2.St} {ρ : Env} {F : Fp} (rl : Rel K mg G H σ ρ F) {i : Nat} {ds : List D} (e : ρ[i]? = some (some (.c (.lst ds)))) :
    ∃ p vs, σ[i]? = some (some (.ref p)) ∧ H p = some (.lst vs) ∧ RpL K G vs ds ∧ ∀ a, F i a ↔ a = p := by
  obtain ⟨v, e1, ok⟩ := rl.ok i _ e
  generalize hF : F i = S at ok
  cases ok with
  | c ok =>
    cases ok with
    | lst h r => exact ⟨_, _, e1, h, r, fun a => by simp⟩
/-- the list of one's own that a base names -/
def ownL (p : Pl) (ρ : Env) : Option (Nat × List D) := match p with
  | .sl i => match ρ[i]? with
    | some (some (.c (.lst xs))) => some (i, xs)
    | _ => none
  | .v _ => none
theorem ownL_eq {p : Pl} {ρ : Env} {i : Nat} {xs : List D} (h : ownL p ρ = some (i, xs)) : p = .sl i ∧ ρ[i]? = some (some (.c (.lst xs))) := by
  unfold ownL at h
  split at h
  · split at h
    · rename_i e
      cases h
      exact ⟨rfl, e⟩
    · cases h
  · cases h
theorem Rel.ownL {K : PySem.W.Frag} {mg : Str → Option Value} {G H : Hp} {σ : L2.St} {ρ : Env} {F : Fp} (rl : Rel K mg G H σ ρ F) {p : Pl} {v : V} {i : Nat} {ds : List D} (pu : PlOk K G σ v p) (h : Fx.ownL p ρ = some (i, ds)) :
    ∃ q vs, v = .ref q ∧ H q = some (.lst vs) ∧ RpL K G vs ds ∧ ∀ (o : HO) (ds' : List D), C1Ok K G (upd H q o) (.ref q) (.lst ds') (fun a => a = q) → Rel K mg G (upd H q o) σ (ρ.set i (some (.c (.lst ds')))) F ∧ Stp F G H G (upd H q o) F := by
  obtain ⟨rfl, e⟩ := ownL_eq h
  obtain ⟨q, vs, e2, e3, r, hF⟩ := rl.lst e
  rw [show σ[i]? = some (some v) from pu] at e2
  cases e2
  exact ⟨q, vs, rfl, e3, r, fun o ds' ok => rl.mut pu hF ok⟩
/-- x[k] = e -/
def setItF (f : FE Pl) (fi fe : FE D) : FS := fun ρ => bindS (fe ρ) fun d ρ => bindS (f ρ) fun pl ρ => bindS (fi ρ) fun k ρ => match ownL pl ρ, k with
  | some (i, xs), .int k => match ixN xs.length k with
    | some j => .nx (ρ.set i (some (.c (.lst (xs.set j d)))))
    | none => .stuck
  | _, _ => .stuck
def appF (f : FE Pl) (fe : FE D) : FS := fun ρ => bindS (f ρ) fun pl ρ => match ownL pl ρ with
  | some _ => bindS (fe ρ) fun d ρ => (match ownL pl ρ with
    | some (i, xs) => if xs.length < sizeLine then .nx (ρ.set i (some (.c (.lst (xs ++ [d]))))) else .stuck
    | none => .stuck)
  | none => .stuck
section
variable {X : Cx} {W : WX} {io : List Nat} {e a b : Expr} {es : List Expr} {pos : Pos} {fa fb fe fi : FE D} {f : FE Pl}
theorem ok_setIt {k : Expr} {p2 : Pos} (hb : OkB X W b f) (hi : OkD X W k fi) (he : OkD X W e fe)
    (ha : ∀ v, assign (.Subscript b k p2) X.env v = (do
      let ov ← holding [v] (eval b X.env)
      let iv ← holding [v, ov] (eval k X.env)
      standAt p2
      holding [v, ov, iv] (setItem ov iv v)
      release [v, ov, iv] []) := by intro _; rfl)
    (hs : swapsWithSole [.Subscript b k p2] e pos.line X.env = pure false := by rfl) (hw : swappedStores [.Subscript b k p2] e X.env = pure none := by rfl) (h1 : (assignEach [.Subscript b k p2] X.env).map (·.2) = [assign (.Subscript b k p2) X.env] := by rfl) :
    OkS X W io (.Assign [.Subscript b k p2] e pos) (setItF f fi fe) := (ps_asg he (pg_sub hb hi set_list ha) hs hw h1).to fun Dn σ H q => by
  obtain ⟨G, ρ, F, rl, p⟩ := q
  refine ⟨G, ρ, F, rl, PostS.bind p fun d ρ1 G1 H1 F1 _ rl1 st1 p1 v rv => ⟨G1, ρ1, F1, rl1, PostS.bind p1 fun pl ρ2 G2 H2 F2 _ rl2 st2 p2 u pu => ⟨G2, ρ2, F2, rl2, PostS.bind p2 fun k ρ3 G3 H3 F3 _ rl3 st3 p3 w rw => ?_⟩⟩⟩
  cases eo : ownL pl ρ3 with
  | none => simp only [eo] at p3; exact p3.elim
  | some ix =>
    obtain ⟨i, xs⟩ := ix
    simp only [eo] at p3
    obtain ⟨q, vs, rfl, e3, r, up⟩ := rl3.ownL (PlOk.mono st3.le pu) eo
    cases rw with
    | int kk =>
      cases hj : ixN xs.length kk with
      | none => simp only [hj] at p3; exact p3.elim
      | some j =>
        simp only [hj] at p3
        refine ⟨q, vs, kk, j, rfl, rfl, e3, by rw [r.length]; exact hj, ?_⟩
        obtain ⟨r4, s4⟩ := up (.lst (vs.set j v)) (xs.set j d) (.lst upd_same (r.set (rv.mono (st2.le.trans st3.le)) j))
        exact p3 σ G3 _ F3 r4 s4 fun _ _ => rfl
    | _ => exact p3.elim
theorem ok_append {apos cpos : Pos} (hb : OkB X W b f) (he : OkD X W e fe)
    (hbase : attributeBase b "append" X.env (eval b X.env) = eval b X.env := by rfl)
    (hfew : ((backTo cpos (starEach [e] X.env)).all (fun x => !x.1) && (backToKw cpos (keywordEach [] X.env)).all (fun x => x.1.isSome)
      && decide ([e].length + ([] : List Keyword).length + (if ([] : List Keyword).isEmpty then 0 else 1) < 30)) = true := by rfl)
    (hline : (apos.endLine == cpos.line) = true := by rfl) (hst : starEach [e] X.env = (false, eval e X.env) :: starEach [] X.env := by rfl) (hplain : (backTo cpos (starEach [] X.env)).any (·.1) = false := by rfl)
    (hs : swapsWith (.Call (.Attribute b "append" apos) [e] [] cpos) none pos.line X.env = pure false := by rfl) :
    OkS X W io (.Expr (.Call (.Attribute b "append" apos) [e] [] cpos) pos) (appF f fe) :=
  (ps_expr (pe_bm PySem.F.plainAttrs_list PySem.F.slot_list_append PySem.F.type_list_append mt_append hb (pa_cons he pa_nil hst) hbase hfew hline hst hplain) hs).to fun Dn σ H q => by
  obtain ⟨G, ρ, F, rl, p⟩ := q
  refine ⟨G, ρ, F, rl, PostS.bind p fun pl ρ1 G1 H1 F1 e0 rl1 st1 p1 u pu => ?_⟩
  cases eo : ownL pl ρ1 with
  | none => rw [eo] at p1; exact p1.elim
  | some ix =>
    obtain ⟨i, xs⟩ := ix
    rw [eo] at p1
    obtain ⟨q, vs, rfl, e3, r, up⟩ := rl1.ownL pu eo
    refine ⟨.inl ⟨rfl, vs, .inl (.inl e3)⟩, G1, ρ1, F1, rl1, PostS.bind p1 fun d ρ2 G2 H2 F2 _ rl2 st2 p2 v rv => ?_⟩
    cases eo2 : ownL pl ρ2 with
    | none => rw [eo2] at p2; exact p2.elim
    | some ix2 =>
      obtain ⟨i2, ys⟩ := ix2
      simp only [eo2] at p2
      obtain ⟨q2, ws, e4, e5, r2, up2⟩ := rl2.ownL (PlOk.mono st2.le pu) eo2
      cases e4
      split at p2
      · rename_i hl
        refine ⟨q, ws, v, rfl, rfl, e5, by rw [r2.length]; exact hl, ?_⟩
        obtain ⟨r4, s4⟩ := up2 (.lst (ws ++ [v])) (ys ++ [d]) (.lst upd_same (r2.append (.cons rv .nil)))
        exact p2 σ G2 _ F2 r4 s4 fun _ _ => rfl
      · exact p2.elim

/-! ### a slot's object becomes a value -/
def varFzF (i : Nat) : FE D := fun ρ => match ρ[i]? with
  | some (some o) => match frz o with
    | some d => .ok d (ρ.set i (some (.v d)))
    | none => .stuck
  | _ => .stuck
theorem ok_varFz (i : Nat) {x : Str} (hN : X.N[i]? = some x := by rfl) (hv : Vis X.env.scope x := by first | exact Or.inl rfl | exact Or.inr (Or.inl rfl) | exact Or.inr (Or.inr rfl)) (hd : (x == ("__debug__" : Str)) = false := by decide)
    (hcd : (x == ("__classdict__" : Str)) = false := by decide) : OkD X W (.Name x pos) (varFzF i) := by
  refine (pe_var (i := i) hN hv hd hcd).to fun σ H Q h => ?_
  obtain ⟨G, ρ, F, rl, p⟩ := h
  unfold varFzF at p
  split at p
  · rename_i o e
    cases ef : frz o with
    | none => rw [ef] at p; exact p.elim
    | some d =>
      rw [ef] at p
      obtain ⟨v, e1, ok⟩ := rl.ok i o e
      refine ⟨v, e1, ?_⟩
      have hl : i < ρ.length := (List.getElem?_eq_some_iff.mp e).1
      -- forget the slot, freeze, store the value
      have rl0 : Rel X.K X.mg G H σ (ρ.set i none) (fun j a => j ≠ i ∧ F j a) := by
        refine ⟨by rw [List.length_set]; exact rl.len, fun j u e2 => ?_, fun j k a hjk h1 h2 => rl.dis j k a hjk h1.2 h2.2, fun j a h1 => rl.out j a h1.2, fun j a h1 => ?_, rl.sub⟩
        · by_cases hj : j = i
          · subst hj; rw [List.getElem?_set_self hl] at e2; cases e2
          · rw [List.getElem?_set_ne (Ne.symm hj)] at e2
            obtain ⟨w, e3, e4⟩ := rl.ok j u e2
            refine ⟨w, e3, ?_⟩
            have : (fun a => j ≠ i ∧ F j a) = F j := by
              funext a
              exact propext ⟨fun h => h.2, fun h => ⟨hj, h⟩⟩
            rw [this]
            exact e4
        · obtain ⟨u, e2⟩ := rl.non j a h1.2
          exact ⟨u, by rw [List.getElem?_set_ne (Ne.symm h1.1)]; exact e2⟩
      obtain ⟨G2, r2, q2, s2⟩ := frz_ok rl0 ok ef fun a z => ⟨(rl.out i a z).1, fun ⟨j, hj, z2⟩ => rl.dis j i a hj z2 z⟩
      have st0 : Stp F G H G H (fun j a => j ≠ i ∧ F j a) := ⟨Le.refl _, fun _ _ h _ => h, fun _ _ h _ => h, fun _ h => h, fun j a z => .inl z.2⟩
      have r3 := r2.set i (v := v) (.c (.val q2)) (S := fun _ => False) fun _ z => z.elim
      rw [List.set_set] at r3
      have hσ : σ.set i (some v) = σ := by
        refine List.ext_getElem? fun j => ?_
        by_cases hj : j = i
        · subst hj
          rw [List.getElem?_set_self (by rw [rl.len]; exact hl), e1]
        · rw [List.getElem?_set_ne (Ne.symm hj)]
      rw [hσ] at r3
      exact p G2 H _ r3 ((s2 F G H st0 fun a z => .inr ⟨i, z⟩).set fun _ z => z.elim) v q2
  · exact p.elim
end
end Fx

set_option Elab.async false
set_option linter.all false
set_option maxRecDepth 100000
set_option maxHeartbeats 1000000
/-! Fx9: comprehensions. -/
namespace Fx
open PySem L2
open PyProof.Rows (envOfC)

def wipeE (ρ : Env) : List Nat → Env
  | [] => ρ
  | v :: vs => (wipeE ρ vs).set v none
def restE (ρ ρ' : Env) : List Nat → Env
  | [] => ρ'
  | v :: vs => match ρ[v]? with
    | some x => (restE ρ ρ' vs).set v x
    | none => restE ρ ρ' vs
def plainVs (ρ : Env) (vs : List Nat) : Bool := vs.all fun v => match ρ[v]? with
  | some (some o) => isV o
  | _ => true
def compGo (vs : List Nat) (g : FG) (ft : FE Bool) (fe : FE D) : List D → Env → R (List D)
  | [], ρ => .ok [] ρ
  | d :: ds, ρ => match g d (wipeE ρ vs) with
    | some ρ1 => (ft ρ1).bind fun b ρ2 => if b = true then (fe ρ2).bind fun y ρ3 => (compGo vs g ft fe ds (restE ρ ρ3 vs)).bind fun ys ρ4 => .ok (y :: ys) ρ4 else compGo vs g ft fe ds (restE ρ ρ2 vs)
    | none => .stuck
def yesF : FE Bool := fun ρ => .ok true ρ
def noEx {α : Type} (f : FE α) : FE α := fun ρ => match f ρ with
  | .ex _ _ => .stuck
  | r => r
def lcF (fi : FE (List D)) (vs : List Nat) (g : FG) (ft : FE Bool) (fe : FE D) : FE O := fun ρ => (fi ρ).bind fun ds ρ => if ds.length < sizeLine ∧ plainVs ρ vs = true then (compGo vs g (noEx ft) (noEx fe) ds ρ).bind fun ys ρ => .ok (.c (.lst ys)) ρ else .stuck

theorem wipeE_len (ρ : Env) : ∀ vs, (wipeE ρ vs).length = ρ.length
  | [] => rfl
  | v :: vs => by unfold wipeE; rw [List.length_set, wipeE_len ρ vs]
theorem wipeE_some {ρ : Env} {i : Nat} {o : O} : ∀ {vs : List Nat}, (wipeE ρ vs)[i]? = some (some o) → ρ[i]? = some (some o) ∧ i ∉ vs
  | [], h => ⟨h, by simp⟩
  | v :: vs, h => by
    unfold wipeE at h
    by_cases hi : v = i
    · subst hi
      by_cases hv : v < (wipeE ρ vs).length
      · rw [List.getElem?_set_self hv] at h; cases h
      · rw [List.getElem?_eq_none (by simpa using hv)] at h; cases h
    · rw [List.getElem?_set_ne hi] at h
      obtain ⟨h1, h2⟩ := wipeE_some h
      exact ⟨h1, by simp only [List.mem_cons, not_or]; exact ⟨fun e => hi e.symm, h2⟩⟩
theorem wipeE_out {ρ : Env} {i : Nat} : ∀ {vs : List Nat}, i ∉ vs → (wipeE ρ vs)[i]? = ρ[i]?
  | [], _ => rfl
  | v :: vs, h => by
    unfold wipeE
    rw [List.getElem?_set_ne (fun e => h (by rw [e]; exact List.mem_cons_self)), wipeE_out fun m => h (List.mem_cons_of_mem _ m)]
theorem restE_len (ρ ρ' : Env) : ∀ vs, (restE ρ ρ' vs).length = ρ'.length
  | [] => rfl
  | v :: vs => by
    unfold restE
    split
    · rw [List.length_set, restE_len ρ ρ' vs]
    · exact restE_len ρ ρ' vs
theorem restE_out {ρ ρ' : Env} {i : Nat} : ∀ {vs : List Nat}, i ∉ vs → (restE ρ ρ' vs)[i]? = ρ'[i]?
  | [], _ => rfl
  | v :: vs, h => by
    unfold restE
    have h1 : v ≠ i := fun e => h (by rw [e]; exact List.mem_cons_self)
    have h2 : i ∉ vs := fun m => h (List.mem_cons_of_mem _ m)
    split
    · rw [List.getElem?_set_ne h1, restE_out h2]
    · exact restE_out h2
theorem restE_in {ρ ρ' : Env} {i : Nat} (hl : ρ'.length = ρ.length) : ∀ {vs : List Nat}, i ∈ vs → (restE ρ ρ' vs)[i]? = ρ[i]?
  | v :: vs, h => by
    unfold restE
    by_cases hv : v = i
    · subst hv
      cases e : ρ[v]? with
      | none =>
        simp only
        rw [List.getElem?_eq_none_iff] at e ⊢
        rw [restE_len, hl]
        exact e
      | some x =>
        simp only
        exact List.getElem?_set_self (by rw [restE_len, hl]; exact (List.getElem?_eq_some_iff.mp e).1)
    · have h2 : i ∈ vs := by
        rcases List.mem_cons.mp h with e | e
        · exact absurd e.symm hv
        · exact e
      split
      · rw [List.getElem?_set_ne hv]; exact restE_in hl h2
      · exact restE_in hl h2
theorem wipe_len (σ : L2.St) : ∀ vs, (wipe σ vs).length = σ.length
  | [] => rfl
  | v :: vs => by unfold wipe; rw [List.length_set, wipe_len σ vs]
theorem wipe_at {σ : L2.St} {i : Nat} : ∀ {vs : List Nat}, i ∈ vs → (wipe σ vs)[i]? = (σ[i]?).map fun _ => none
  | v :: vs, h => by
    unfold wipe
    by_cases hv : v = i
    · subst hv
      by_cases hl : v < σ.length
      · rw [List.getElem?_set_self (by rw [wipe_len]; exact hl), List.getElem?_eq_getElem hl]; rfl
      · rw [List.getElem?_eq_none (by rw [List.length_set, wipe_len]; omega), List.getElem?_eq_none (by omega)]; rfl
    · have h2 : i ∈ vs := by
        rcases List.mem_cons.mp h with e | e
        · exact absurd e.symm hv
        · exact e
      rw [List.getElem?_set_ne hv]
      exact wipe_at h2
section
variable {K : PySem.W.Frag} {mg : Str → Option Value} {G H : Hp} {σ : L2.St} {ρ : Env} {F : Fp}
theorem Rel.plainF (rl : Rel K mg G H σ ρ F) {vs : List Nat} (h : plainVs ρ vs = true) {i : Nat} {a : Addr} (z : F i a) : i ∉ vs := fun hi => by
  obtain ⟨o, e⟩ := rl.non i a z
  have := List.all_eq_true.mp h i hi
  rw [e] at this
  obtain ⟨v, _, ok⟩ := rl.ok i o e
  generalize F i = S at z ok
  cases ok with
  | c ok =>
    cases ok with
    | val _ => exact z
    | _ => cases this
  | ins _ => cases this
theorem Rel.wipe (rl : Rel K mg G H σ ρ F) {vs : List Nat} (h : plainVs ρ vs = true) : Rel K mg G H (L2.wipe σ vs) (wipeE ρ vs) F where
  len := by rw [wipe_len, wipeE_len]; exact rl.len
  ok := fun i o e => by
    obtain ⟨e1, hi⟩ := wipeE_some e
    obtain ⟨v, e2, ok⟩ := rl.ok i o e1
    exact ⟨v, by rw [wipe_out hi]; exact e2, ok⟩
  dis := rl.dis
  out := rl.out
  non := fun i a z => by
    obtain ⟨o, e⟩ := rl.non i a z
    exact ⟨o, by rw [wipeE_out (rl.plainF h z)]; exact e⟩
  sub := rl.sub
/-- back in the def -/
theorem Rel.rest {G' H' : Hp} {σ' : L2.St} {ρ' : Env} {F' : Fp} (rl : Rel K mg G H σ ρ F) {vs : List Nat} (h : plainVs ρ vs = true) (rl' : Rel K mg G' H' σ' ρ' F') (hw : L2.wipe σ' vs = L2.wipe σ vs) (le : Le G G') : Rel K mg G' H' σ (restE ρ ρ' vs) (fun i a => i ∉ vs ∧ F' i a) where
  len := by
    have := congrArg List.length hw
    rw [wipe_len, wipe_len] at this
    rw [restE_len, ← rl'.len, this]
  ok := fun i o e => by
    have hl : ρ'.length = ρ.length := by
      have := congrArg List.length hw
      rw [wipe_len, wipe_len] at this
      rw [← rl'.len, this, rl.len]
    by_cases hi : i ∈ vs
    · rw [restE_in hl hi] at e
      obtain ⟨v, e1, ok⟩ := rl.ok i o e
      refine ⟨v, e1, ?_⟩
      have hv := List.all_eq_true.mp h i hi
      rw [e] at hv
      have : (fun a => i ∉ vs ∧ F' i a) = fun _ => False := by
        funext a
        exact propext ⟨fun z => z.1 hi, fun z => z.elim⟩
      rw [this]
      generalize F i = S at ok
      cases ok with
      | c ok =>
        cases ok with
        | val r => exact .c (.val (r.mono le))
        | _ => cases hv
      | ins _ => cases hv
    · rw [restE_out hi] at e
      obtain ⟨v, e1, ok⟩ := rl'.ok i o e
      refine ⟨v, ?_, ?_⟩
      · rw [← wipe_out (σ := σ) hi, ← hw, wipe_out hi]; exact e1
      · have : (fun a => i ∉ vs ∧ F' i a) = F' i := by
          funext a
          exact propext ⟨fun z => z.2, fun z => ⟨hi, z⟩⟩
        rw [this]
        exact ok
  dis := fun i j a hij h1 h2 => rl'.dis i j a hij h1.2 h2.2
  out := fun i a z => rl'.out i a z.2
  non := fun i a z => by
    obtain ⟨o, e⟩ := rl'.non i a z.2
    exact ⟨o, by rw [restE_out z.1]; exact e⟩
  sub := rl'.sub
end
theorem plain_rest {ρ ρ' : Env} {vs : List Nat} (hl : ρ'.length = ρ.length) (h : plainVs ρ vs = true) : plainVs (restE ρ ρ' vs) vs = true := List.all_eq_true.mpr fun v hv => by
  rw [restE_in hl hv]
  exact List.all_eq_true.mp h v hv
theorem _root_.L2.PTs.to {X : Cx} {es : List Expr} {t u : TT} (h : PTs X es t) (k : ∀ σ H Q, u σ H Q → t σ H Q) : PTs X es u := ⟨fun pins s σ H Q I q => h.run pins s σ H Q I (k σ H Q q)⟩
abbrev W0 : WX := fun _ _ _ _ => False
abbrev OkTs (X : Cx) (W : WX) (es : List Expr) (f : FE Bool) : Prop := PTs X es (tT X.K X.mg W f)
theorem okts_nil {X : Cx} {W : WX} : OkTs X W [] yesF := pts_nil.to fun σ H Q h => by
  obtain ⟨G, ρ, F, rl, p⟩ := h
  exact p G H F rl .refl
theorem okts_one {X : Cx} {W : WX} {e : Expr} {f : FE Bool} (h : OkT X W e f) : OkTs X W [e] f := pts_one h

section
variable {K : PySem.W.Frag} {mg : Str → Option Value} {W : WX} {G H G1 H1 : Hp} {σ : L2.St} {F F1 : Fp}
theorem post_noEx {α : Type} {good : α → Hp → Hp → Prop} {f : FE α} {ρ : Env} (h : Post K mg W σ F G H good (noEx f ρ)) : Post K mg W0 σ F G H good (f ρ) := by
  unfold noEx at h
  cases e : f ρ with
  | ok a ρ' => rw [e] at h; exact h
  | ex x ρ' => rw [e] at h; exact h.elim
  | stuck => rw [e] at h; exact h
/-- what is wanted behind the loop, in the middle of it -/
theorem t_lc {n : Nat} {fi : FE (List D)} {vs io : List Nat} {g : FG} {ft : FE Bool} {fe : FE D} {Q : VK} (hio : ∀ i, i < n → i ∈ vs ∨ i ∈ io) (h : tO K mg W (lcF fi vs g ft fe) σ H Q) (hn : σ.length = n) :
    tLc (tI K mg W fi) (tgF K mg io g) (tT K mg W0 ft) (tD K mg W0 fe) vs σ H Q := by
  obtain ⟨G, ρ, F, rl, p⟩ := h
  refine ⟨G, ρ, F, rl, PostO.bind p fun ds ρ1 G1 H1 F1 _ rl1 st1 p1 J hJ D hD => ?_⟩
  split at p1
  · rename_i hc
    obtain ⟨hlen, hpl⟩ := hc
    refine ⟨fun i m H2 => m = ds.length - i ∧ ∃ G2 ρ2 F2 acc accd, Rel K mg G2 H2 σ ρ2 F2 ∧ Stp F1 G1 H1 G2 H2 F2 ∧ H2 D = some (.lst acc) ∧ RpL K G2 acc accd ∧ G2 D = none ∧ ¬ F2.U D ∧ accd.length ≤ i ∧ plainVs ρ2 vs = true ∧
      PostO K mg W σ F1 G1 H1 Q ((compGo vs g (noEx ft) (noEx fe) (ds.drop i) ρ2).bind fun ys ρ => .ok (.c (.lst (accd ++ ys))) ρ), ⟨_, rfl, ?_⟩, ?_⟩
    · obtain ⟨r2, s2, o2, z2⟩ := new_lst (ds := []) (vs := []) rl1 .nil hD
      exact ⟨G1, ρ1, F1, [], [], r2, s2, upd_same, .nil, rl1.sub.back hD, fun ⟨i, z⟩ => (rl1.out i D z).2 hD, Nat.le_refl _, hpl, p1⟩
    · rintro i m H2 ⟨rfl, G2, ρ2, F2, acc, accd, rl2, st2, eD, ra, gD, nD, hal, hp2, p2⟩
      obtain ⟨h1, h2⟩ := hJ i G2 H2 st2.le rl2.sub
      by_cases hi : i < ds.length
      · have hd : ds[i]? = some ds[i] := List.getElem?_eq_getElem hi
        obtain ⟨go, yl⟩ := h1 _ hd
        refine .inr ⟨go, fun H' => ∃ m', m' < ds.length - i ∧ m' = ds.length - (i + 1) ∧ ∃ G2 ρ2 F2 acc accd, Rel K mg G2 H' σ ρ2 F2 ∧ Stp F1 G1 H1 G2 H' F2 ∧ H' D = some (.lst acc) ∧ RpL K G2 acc accd ∧ G2 D = none ∧ ¬ F2.U D ∧ accd.length ≤ i + 1 ∧ plainVs ρ2 vs = true ∧
          PostO K mg W σ F1 G1 H1 Q ((compGo vs g (noEx ft) (noEx fe) (ds.drop (i + 1)) ρ2).bind fun ys ρ => .ok (.c (.lst (accd ++ ys))) ρ), fun _ h => h, fun x H3 hx => ?_⟩
        obtain ⟨G3, ex, rx⟩ := yl x H3 hx
        rw [List.drop_eq_getElem_cons hi] at p2
        unfold compGo at p2
        have rl3 : Rel K mg G3 H3 (L2.wipe σ vs) (wipeE ρ2 vs) F2 := (rl2.ext ex).wipe hp2
        refine ⟨G3, wipeE ρ2 vs, F2, ds[i], rl3, rx, ?_⟩
        cases eg : g ds[i] (wipeE ρ2 vs) with
        | none => rw [eg] at p2; exact p2.elim
        | some ρ4 =>
          rw [eg] at p2
          simp only at p2
          intro σ4 F4 rl4 st4 hl4 hσ4
          have hw : L2.wipe σ4 vs = L2.wipe σ vs := by
            have l4 : σ4.length = σ.length := by rw [hl4, wipe_len]
            refine List.ext_getElem? fun j => ?_
            by_cases hj : j ∈ vs
            · rw [wipe_at hj, wipe_at hj]
              by_cases hjl : j < σ.length
              · rw [List.getElem?_eq_getElem hjl, List.getElem?_eq_getElem (by omega)]; rfl
              · rw [List.getElem?_eq_none (by omega), List.getElem?_eq_none (by omega)]
            · rw [wipe_out hj, wipe_out hj]
              by_cases hjl : j < σ.length
              · have hj2 : j ∈ io := (hio j (by rw [← hn]; exact hjl)).resolve_left hj
                rw [hσ4 j hj2, wipe_out hj]
              · rw [List.getElem?_eq_none (by omega), List.getElem?_eq_none (by omega)]
          have s24 : Stp F2 G2 H2 G3 H3 F4 := ex.stp.trans st4
          have lt : ds.length - (i + 1) < ds.length - i := by omega
          -- D through a step
          have keepD : ∀ {G5 H5 : Hp} {F5 : Fp}, Stp F2 G2 H2 G5 H5 F5 → H5 D = some (.lst acc) ∧ G5 D = none ∧ ¬ F5.U D := fun {G5 H5 F5} s => by
            have hne : H2 D ≠ none := by rw [eD]; exact fun e => nomatch e
            refine ⟨s.fr D _ eD nD, s.fresh D hne gD nD, fun ⟨k, z⟩ => ?_⟩
            rcases s.own k D z with z | z
            · exact nD ⟨k, z⟩
            · exact hne z
          have lenW : (wipeE ρ2 vs).length = ρ2.length := wipeE_len ρ2 vs
          -- the turn's end, from a state of the block
          have fin : ∀ {G5 H5 : Hp} {ρ5 : Env} {F5 : Fp}, Rel K mg G5 H5 σ4 ρ5 F5 → Stp F2 G2 H2 G5 H5 F5 → Rel K mg G5 H5 σ (restE ρ2 ρ5 vs) (fun i a => i ∉ vs ∧ F5 i a) ∧ Stp F1 G1 H1 G5 H5 (fun i a => i ∉ vs ∧ F5 i a) ∧ plainVs (restE ρ2 ρ5 vs) vs = true := fun {G5 H5 ρ5 F5} rl5 s5 => by
            refine ⟨rl2.rest hp2 rl5 hw s5.le, ?_, ?_⟩
            · have s := st2.trans s5
              exact ⟨s.le, s.fr, s.fresh, s.there, fun k a z => s.own k a z.2⟩
            · refine plain_rest ?_ hp2
              have := rl5.len
              rw [← this, hl4, wipe_len, rl2.len]
          refine ⟨by exact hw, G3, ρ4, F4, rl4, ?_⟩
          have pt : Post K mg W0 σ4 F4 G3 H3 (fun b G5 H5 => ∃ ρ5 F5, ft ρ4 = .ok b ρ5 ∧ Rel K mg G5 H5 σ4 ρ5 F5 ∧ Stp F4 G3 H3 G5 H5 F5) (ft ρ4) := by
            unfold noEx at p2
            cases eft : ft ρ4 with
            | ok b ρ5 => exact fun G5 H5 F5 rl5 st5 => ⟨ρ5, F5, rfl, rl5, st5⟩
            | ex x ρ5 => rw [eft] at p2; exact p2.elim
            | stuck => rw [eft] at p2; exact p2.elim
          cases eft : ft ρ4 with
          | ex x ρ5 => simp only [noEx, eft] at p2; exact p2.elim
          | stuck => simp only [noEx, eft] at p2; exact p2.elim
          | ok b ρ5 =>
            intro G5 H5 F5 rl5 st5
            have s5 : Stp F2 G2 H2 G5 H5 F5 := s24.trans st5
            simp only [noEx, eft, R.bind] at p2
            cases b with
            | false =>
              simp only [Bool.false_eq_true, if_false] at p2
              refine iteF ?_
              obtain ⟨d1, d2, d3⟩ := keepD s5
              obtain ⟨f1, f2, f3⟩ := fin rl5 s5
              exact ⟨_, lt, rfl, G5, _, _, acc, accd, f1, f2, d1, ra.mono s5.le, d2, fun ⟨k, z⟩ => d3 ⟨k, z.2⟩, by omega, f3, p2⟩
            | true =>
              simp only [if_true] at p2
              refine iteT ⟨G5, ρ5, F5, rl5, ?_⟩
              cases efe : fe ρ5 with
              | ex x ρ6 => simp only [efe] at p2; exact p2.elim
              | stuck => simp only [efe] at p2; exact p2.elim
              | ok y ρ6 =>
                intro G6 H6 F6 rl6 st6 w rw'
                simp only [efe] at p2
                have s6 : Stp F2 G2 H2 G6 H6 F6 := s5.trans st6
                obtain ⟨d1, d2, d3⟩ := keepD s6
                obtain ⟨f1, f2, f3⟩ := fin rl6 s6
                refine ⟨acc, d1, by rw [ra.length]; omega, _, lt, rfl, G6, restE ρ2 ρ6 vs, fun i a => i ∉ vs ∧ F6 i a, acc ++ [w], accd ++ [y], ?_, ?_, upd_same, (ra.mono s6.le).append (.cons rw' .nil), d2, fun ⟨k, z⟩ => d3 ⟨k, z.2⟩, by rw [List.length_append]; exact Nat.succ_le_succ hal, f3, ?_⟩
                · refine ⟨f1.len, fun j o e => ?_, f1.dis, fun j a z => ⟨(f1.out j a z).1, ?_⟩, f1.non, fun a u e => ?_⟩
                  · obtain ⟨v, e1, e2⟩ := f1.ok j o e
                    exact ⟨v, e1, e2.mono (Le.refl _) fun a u z q => by rw [upd_ne fun e => d3 ⟨j, by rw [← e]; exact z.2⟩]; exact q⟩
                  · by_cases ha : a = D
                    · rw [ha, upd_same]; exact fun e => nomatch e
                    · rw [upd_ne ha]; exact (f1.out j a z).2
                  · rw [upd_ne fun z => by rw [z, d2] at e; cases e]
                    exact f1.sub a u e
                · refine ⟨f2.le, fun a u e n => ?_, f2.fresh, fun a h => ?_, f2.own⟩
                  · rw [upd_ne fun z => by rw [z, hD] at e; cases e]
                    exact f2.fr a u e n
                  · by_cases ha : a = D
                    · rw [ha, upd_same]; exact fun e => nomatch e
                    · rw [upd_ne ha]; exact f2.there a h
                · simp only [R.bind] at p2 ⊢
                  cases eg2 : compGo vs g (noEx ft) (noEx fe) (ds.drop (i + 1)) (restE ρ2 ρ6 vs) with
                  | ok ys ρ7 =>
                    have e1 : compGo vs g (fun ρ => noEx ft ρ) (fun ρ => noEx fe ρ) (ds.drop (i + 1)) (restE ρ2 ρ6 vs) = .ok ys ρ7 := eg2
                    simp only [eg2] at p2 ⊢
                    rw [List.append_assoc]
                    exact p2
                  | ex x ρ7 => simp only [eg2] at p2 ⊢; exact p2
                  | stuck => simp only [eg2] at p2; exact p2.elim
      · refine .inl ⟨h2 (by omega), ?_⟩
        rw [List.drop_of_length_le (by omega)] at p2
        unfold compGo at p2
        simp only [R.bind, List.append_nil] at p2
        exact p2 G2 H2 F2 (.ref D) (fun a => a = D) rl2 st2 (.c (.lst eD ra)) fun a e => by
          subst e
          exact ⟨hD, gD, (by rw [eD]; exact fun e => (nomatch e)), nD⟩
  · exact p1.elim
end
section
variable {X : Cx} {W : WX} {elt tg iter : Expr} {ifs : List Expr} {scope : Scope} {own : List (Str × Nat)} {pos : Pos} {fi : FE (List D)} {g : FG} {ft : FE Bool} {fe : FE D} {io : List Nat}
theorem tO_len {K : PySem.W.Frag} {mg : Str → Option Value} {f : FE O} {σ : L2.St} {H : Hp} {Q : VK} (h : tO K mg W f σ H Q) : ∃ n, σ.length = n := ⟨_, rfl⟩
/-- [elt for tg in iter if ..] -/
theorem ok_lc (hc : X.calm = true) (hN : X.N.Nodup) (hi : OkI X W tg iter fi) (ok : BlkOk X.N X.env.scope scope own)
    (hio : ∀ i, i < X.N.length → i ∈ own.map (·.2) ∨ i ∈ io)
    (hg : ∀ (s : Shared) (H : Hp) (C : Addr) (cl : List (Str × Addr)) (fp : List Addr), OkG (X.blk s H scope (compEnvC scope cl C X.env) fp) io tg g)
    (ht : ∀ (s : Shared) (H : Hp) (C : Addr) (cl : List (Str × Addr)) (fp : List Addr), OkTs (X.blk s H scope (compEnvC scope cl C X.env) fp) W0 ifs ft)
    (he : ∀ (s : Shared) (H : Hp) (C : Addr) (cl : List (Str × Addr)) (fp : List Addr), OkD (X.blk s H scope (compEnvC scope cl C X.env) fp) W0 elt fe)
    (hs : ∀ x, foldedSetIterable iter X.env x = pure x := by intro _; rfl) : OkO X W (.ListComp elt [⟨tg, iter, ifs, 0⟩] scope pos) (lcF fi (own.map (·.2)) g ft fe) :=
  ⟨fun pins s σ H Q I h => (pe_lc (g := tgF X.K X.mg io g) (tt := tT X.K X.mg W0 ft) (te := tD X.K X.mg W0 fe) hc hN hi ok hg ht he hs).run pins s σ H Q I (t_lc hio h I.len)⟩
theorem ok_setLc {i : Nat} {y : Str} {py spos : Pos} {io' : List Nat} (hc : X.calm = true) (hN : X.N.Nodup) (hyi : X.N[i]? = some y) (hy : X.env.scope.names.lookup y = some .local) (hio' : (io'.contains i) = false)
    (hsw : swapsWith (.ListComp elt [⟨tg, iter, ifs, 0⟩] scope pos) (some (.Name y py)) spos.line X.env = pure true) (hi : OkI X W tg iter fi) (ok : BlkOk X.N X.env.scope scope own)
    (hio : ∀ i, i < X.N.length → i ∈ own.map (·.2) ∨ i ∈ io)
    (hg : ∀ (s : Shared) (H : Hp) (C : Addr) (cl : List (Str × Addr)) (fp : List Addr), OkG (X.blk s H scope (compEnvC scope cl C X.env) fp) io tg g)
    (ht : ∀ (s : Shared) (H : Hp) (C : Addr) (cl : List (Str × Addr)) (fp : List Addr), OkTs (X.blk s H scope (compEnvC scope cl C X.env) fp) W0 ifs ft)
    (he : ∀ (s : Shared) (H : Hp) (C : Addr) (cl : List (Str × Addr)) (fp : List Addr), OkD (X.blk s H scope (compEnvC scope cl C X.env) fp) W0 elt fe)
    (hs : ∀ x, foldedSetIterable iter X.env x = pure x := by intro _; rfl) : OkS X W io' (.Assign [.Name y py] (.ListComp elt [⟨tg, iter, ifs, 0⟩] scope pos) spos) (setOF i (lcF fi (own.map (·.2)) g ft fe)) := by
  have ps := ps_setLc (X := X) (i := i) (py := py) (pos := pos) (spos := spos) (g := tgF X.K X.mg io g) (tt := tT X.K X.mg W0 ft) (te := tD X.K X.mg W0 fe) hc hN hyi hy hsw hi ok hg ht he hs
  refine ⟨fun pins s σ H Dn I h => ps.run pins s σ H Dn I ?_⟩
  have ne : ∀ j ∈ io', j ≠ i := fun j hj e => by subst e; rw [List.contains_iff_mem.mpr hj] at hio'; cases hio'
  obtain ⟨G, ρ, F, rl, p⟩ := h
  refine t_lc hio (n := X.N.length) ⟨G, ρ, F, rl, PostS.bindO p fun o ρ1 G1 H1 F1 v S _ rl1 st1 ok z p1 => ?_⟩ I.len
  exact p1 _ G1 H1 _ (rl1.set i ok fun a q => ⟨(z a q).2.1, (z a q).2.2.1, fun j _ y => (z a q).2.2.2 ⟨j, y⟩⟩) (st1.set fun a q => .inl (z a q).1) fun j hj => List.getElem?_set_ne (ne j hj).symm
end
end Fx

set_option Elab.async false
set_option linter.all false
set_option maxRecDepth 100000
set_option maxHeartbeats 1000000
/-! Fx10: built-in calls, is, isinstance, keywords, texts. -/
namespace Fx
open PySem L2
open PyProof.Rows (envOfC)

/-! ### is -/
def isBD (n : Bool) : D → D → Option D
  | .bl a, .bl b => some (.bl (if n then !decide (a = b) else decide (a = b)))
  | _, _ => none
def isND (n : Bool) : D → D → Option D
  | .non, .non => some (.bl (if n then false else true))
  | _, .non => some (.bl (if n then true else false))
  | _, _ => none
section
variable {K : PySem.W.Frag}
theorem v2_isB : V2 K rIsB (isBD false) := fun G H x y a b z Q s ra rb e q => by
  cases ra <;> cases rb <;> cases e
  exact ⟨_, _, rfl, rfl, q _ G H (.refl s) (.bl _)⟩
theorem v2_notB : V2 K rNotB (isBD true) := fun G H x y a b z Q s ra rb e q => by
  cases ra <;> cases rb <;> cases e
  exact ⟨_, _, rfl, rfl, q _ G H (.refl s) (.bl _)⟩
end
section
variable {X : Cx} {W : WX} {e a b c : Expr} {es : List Expr} {pos : Pos} {fa fb fc : FE D} {f : FE Pl}
theorem ok_isB (ha : OkD X W a fa) (hb : OkD X W b fb) : OkD X W (.Compare a [.Is] [b] pos) (op2F (isBD false) fa fb) := ok_cmp op_isBl v2_isB ha hb (nomark _)
theorem ok_notB (ha : OkD X W a fa) (hb : OkD X W b fb) : OkD X W (.Compare a [.IsNot] [b] pos) (op2F (isBD true) fa fb) := ok_cmp op_notBl v2_notB ha hb (nomark _)
/-! is None, of any base -/
def isNoneD (n : Bool) : C1 → Option D
  | .val .non => some (.bl (!n))
  | _ => some (.bl n)
theorem b1_isN {K : PySem.W.Frag} {n : Bool} : B1 K (fun x H Q => Q (.bl (if n then !decide (x = .non) else decide (x = .non))) H) (isNoneD n) := fun G H v c S z Q s ok e q => by
  have key : ∀ (b : Bool), decide (v = .non) = b → z = .bl (if n then !b else b) → Q (.bl (if n then !decide (v = .non) else decide (v = .non))) H := fun b h1 h2 => by
    rw [h1]
    subst h2
    exact q _ G H (.refl s) (.bl _)
  cases ok with
  | val r => cases r <;> cases e <;> first | exact key true rfl (by cases n <;> rfl) | exact key false rfl (by cases n <;> rfl)
  | lst _ _ => cases e; exact key false rfl (by cases n <;> rfl)
  | dk _ _ => cases e; exact key false rfl (by cases n <;> rfl)
  | dt _ _ => cases e; exact key false rfl (by cases n <;> rfl)
theorem ok_isN {j pos'} (ha : OkB X W a f) : OkD X W (.Compare a [.Is] [.Constant .none j pos'] pos) (b1F (isNoneD false) f) := (pe_cmp (pc_isN ha) rfl).to fun σ H Q h => t_b1 (r := fun x H Q => Q (.bl (decide (x = .non))) H) b1_isN h
theorem ok_notN {j pos'} (ha : OkB X W a f) : OkD X W (.Compare a [.IsNot] [.Constant .none j pos'] pos) (b1F (isNoneD true) f) := (pe_cmp (pc_notN ha) rfl).to fun σ H Q h => t_b1 (r := fun x H Q => Q (.bl (!decide (x = .non))) H) b1_isN h

/-! ### chains -/
theorem t_chain {K : PySem.W.Frag} {mg : Str → Option Value} {σ : L2.St} {H : Hp} {Q : VK} {r r' : R2} {g g' : D → D → Option D} (hv : V2 K r g) (hv' : V2 K r' g') (h : tD K mg W (chainF g g' fa fb fc) σ H Q) : tChain r r' (tD K mg W fa) (tD K mg W fb) (tD K mg W fc) σ H Q := by
  obtain ⟨G, ρ, F, rl, p⟩ := h
  refine ⟨G, ρ, F, rl, Post.bind p fun x ρ1 G1 H1 F1 _ rl1 st1 p1 v rv => ⟨G1, ρ1, F1, rl1, Post.bind p1 fun y ρ2 G2 H2 F2 _ rl2 st2 p2 u ru => ?_⟩⟩
  split at p2
  · rename_i eg
    refine hv G2 H2 v u x y _ _ rl2.sub (rv.mono st2.le) ru eg fun w G3 H3 ex rw => ?_
    cases rw
    refine ⟨true, rfl, iteT ⟨G3, ρ2, F2, rl2.ext ex, Post.bind (Post.after ex.stp p2) fun z ρ4 G4 H4 F4 _ rl4 st4 p4 t rt => ?_⟩⟩
    cases eg' : g' y z with
    | none => simp only [eg'] at p4; exact p4.elim
    | some d =>
      simp only [eg'] at p4
      exact hv' G4 H4 u t y z d Q rl4.sub (ru.mono (ex.le.trans st4.le)) rt eg' fun w G5 H5 ex5 rw => p4 G5 H5 F4 (rl4.ext ex5) ex5.stp w rw
  · rename_i eg
    refine hv G2 H2 v u x y _ _ rl2.sub (rv.mono st2.le) ru eg fun w G3 H3 ex rw => ?_
    cases rw
    exact ⟨false, rfl, iteF (p2 G3 H3 F2 (rl2.ext ex) ex.stp _ (.bl _))⟩
  · exact p2.elim
theorem ok_chain {op op' : CmpOp} {r r' : R2} {g g' : D → D → Option D} (ho : OpR X (compareOp op) r) (hv : V2 X.K r g) (ho' : OpR X (compareOp op') r') (hv' : V2 X.K r' g') (ha : OkD X W a fa) (hb : OkD X W b fb) (hc : OkD X W c fc)
    (hm : lastMarks [op, op'] [b, c] = false := by with_unfolding_all rfl) : OkD X W (.Compare a [op, op'] [b, c] pos) (chainF g g' fa fb fc) := (pe_chain ho ho' ha hb hc hm).to fun σ H Q h => t_chain hv hv' h
theorem okt_chain {op op' : CmpOp} {r r' : R2} {g g' : D → D → Option D} (ho : OpR X (compareOp op) r) (hv : V2 X.K r g) (ho' : OpR X (compareOp op') r') (hv' : V2 X.K r' g') (ha : OkD X W a fa) (hb : OkD X W b fb) (hc : OkD X W c fc)
    (hm : lastMarks [op, op'] [b, c] = false := by with_unfolding_all rfl) : OkT X W (.Compare a [op, op'] [b, c] pos) (testF (chainF g g' fa fb fc)) := (pt_chain ho ho' ha hb hc hm).to fun σ H Q h => t_chain hv hv' (tD_tTest h)

/-! ### calls of built-ins -/
theorem t_cb1 {K : PySem.W.Frag} {mg : Str → Option Value} {σ : L2.St} {H : Hp} {Q : VK} {r : List V → Hp → VK → Prop} {g : C1 → Option D} (hv : B1 K (fun x H Q => r [x] H Q) g) (h : tD K mg W (b1F g f) σ H Q) : tCB r (tCons (tB K mg W f) tNil) σ H Q := t_b1 hv h
theorem ok_cb1 {x : Str} {p : Pos} {id : String} {r : List V → Hp → VK → Prop} {g : C1 → Option D} (hc : CallR X (.builtin id) r) (hv : B1 X.K (fun x H Q => r [x] H Q) g) (hg : Gl X x) (hm : X.mg x = none) (hb : bootBuiltins x = some (.builtin id)) (ha : OkB X W a f)
    (hn : x ≠ "__name__" := by decide) (hdb : (x == ("__debug__" : Str)) = false := by decide) (hst : starEach [a] X.env = (false, eval a X.env) :: starEach [] X.env := by rfl) : OkD X W (.Call (.Name x p) [a] [] pos) (b1F g f) :=
  (pe_callB hc hg hm hb (pa_cons ha pa_nil hst) hn hdb hst rfl).to fun σ H Q h => t_cb1 hv h
theorem ok_ct1 {x : Str} {p : Pos} {id : String} {r : List V → Hp → VK → Prop} {g : C1 → Option D} (hc : CallR X (.type id) r) (hv : B1 X.K (fun x H Q => r [x] H Q) g) (hg : Gl X x) (hm : X.mg x = none) (hb : bootBuiltins x = some (.type id)) (ha : OkB X W a f)
    (hn : x ≠ "__name__" := by decide) (hdb : (x == ("__debug__" : Str)) = false := by decide) (hst : starEach [a] X.env = (false, eval a X.env) :: starEach [] X.env := by rfl) : OkD X W (.Call (.Name x p) [a] [] pos) (b1F g f) :=
  (pe_callTy hc hg hm hb (pa_cons ha pa_nil hst) hn hdb hst rfl).to fun σ H Q h => t_cb1 hv h
def intD : C1 → Option D
  | .val (.int i) => some (.int i)
  | .val (.bl b) => some (.int (if b then 1 else 0))
  | _ => none
def absD : C1 → Option D
  | .val (.int i) => some (.int (if i < 0 then -i else i))
  | _ => none
def tupleD (c : C1) : Option D := (c.seq?).map .tup
def unbl : D → Option Bool
  | .bl b => some b
  | _ => none
def unint : D → Option Int
  | .int b => some b
  | _ => none
def allD (c : C1) : Option D := match c.lst? with
  | some xs => (xs.mapM unbl).map fun bs => .bl (bs.all id)
  | none => none
def anyD (c : C1) : Option D := match c.lst? with
  | some xs => (xs.mapM unbl).map fun bs => .bl (bs.any id)
  | none => none
def sumD (c : C1) : Option D := match c.lst? with
  | some xs => (xs.mapM unint).map fun bs => .int bs.sum
  | none => none
theorem rp_bls {K : PySem.W.Frag} {G : Hp} : ∀ {vs : List V} {ds : List D} {bs : List Bool}, RpL K G vs ds → ds.mapM unbl = some bs → vs = bs.map V.bl
  | _, _, _, .nil, e => by cases e; rfl
  | _, _, bs, .cons (d := d) (ds := ds) h r, e => by
    rw [List.mapM_cons] at e
    cases h with
    | bl b =>
      cases hm : ds.mapM unbl with
      | none => rw [hm] at e; cases e
      | some cs => rw [hm] at e; cases e; rw [rp_bls r hm]; rfl
    | _ => cases e
theorem rp_ints {K : PySem.W.Frag} {G : Hp} : ∀ {vs : List V} {ds : List D} {bs : List Int}, RpL K G vs ds → ds.mapM unint = some bs → vs = bs.map V.int
  | _, _, _, .nil, e => by cases e; rfl
  | _, _, bs, .cons (d := d) (ds := ds) h r, e => by
    rw [List.mapM_cons] at e
    cases h with
    | int b =>
      cases hm : ds.mapM unint with
      | none => rw [hm] at e; cases e
      | some cs => rw [hm] at e; cases e; rw [rp_ints r hm]; rfl
    | _ => cases e
section
variable {K : PySem.W.Frag}
theorem b1_int : B1 K (fun x H Q => (∃ i, [x] = [V.int i] ∧ Q (.int i) H) ∨ ∃ k, [x] = [V.bl k] ∧ Q (.int (if k then 1 else 0)) H) intD := fun G H v c S z Q s ok e q => by
  cases ok with
  | val r =>
    cases r <;> cases e
    · exact .inr ⟨_, rfl, q _ G H (.refl s) (.int _)⟩
    · exact .inl ⟨_, rfl, q _ G H (.refl s) (.int _)⟩
  | _ => cases e
theorem b1_abs : B1 K (fun x H Q => ∃ i, [x] = [V.int i] ∧ Q (.int (if i < 0 then -i else i)) H) absD := fun G H v c S z Q s ok e q => by
  cases ok with
  | val r =>
    cases r <;> cases e
    exact ⟨_, rfl, q _ G H (.refl s) (.int _)⟩
  | _ => cases e
theorem b1_tuple : B1 K (fun x H Q => ∃ p ys, [x] = [V.ref p] ∧ ((SqL K H p ys ∧ ∀ l, H l = none → Q (.ref l) (upd H l (.tup ys))) ∨ (SqT K H p ys ∧ Q (.ref p) H))) tupleD := fun G H v c S z Q s ok e q => by
  unfold tupleD at e
  have hl : ∀ ds, c.lst? = some ds → z = .tup ds → ∃ p ys, [v] = [V.ref p] ∧ ((SqL K H p ys ∧ ∀ l, H l = none → Q (.ref l) (upd H l (.tup ys))) ∨ (SqT K H p ys ∧ Q (.ref p) H)) := fun ds h hz => by
    subst hz
    obtain ⟨p, vs, rfl, hs, r⟩ := ok.lst? s h
    refine ⟨p, vs, rfl, .inl ⟨hs, fun l hl => ?_⟩⟩
    have ex : Ext G H (upd G l (.tup vs)) (upd H l (.tup vs)) := .new s hl
    exact q _ _ _ ex (.tup (.inl (.inl upd_same)) (r.mono ex.le))
  cases ok with
  | val r =>
    cases r with
    | lst _ _ => cases e; exact hl _ rfl rfl
    | tup h r => cases e; exact ⟨_, _, rfl, .inr ⟨s.sqt h, q _ G H (.refl s) (.tup h r)⟩⟩
    | _ => cases e
  | lst _ _ => cases e; exact hl _ rfl rfl
  | _ => cases e
theorem b1_all : B1 K (fun x H Q => rAll K [x] H Q) allD := fun G H v c S z Q s ok e q => by
  unfold allD at e
  cases h : c.lst? with
  | none => rw [h] at e; cases e
  | some xs =>
    rw [h] at e
    obtain ⟨p, vs, rfl, hs, r⟩ := ok.lst? s h
    cases hm : xs.mapM unbl with
    | none => simp only [hm] at e; cases e
    | some bs =>
      simp only [hm] at e
      cases e
      refine ⟨p, bs, rfl, ?_, q _ G H (.refl s) (.bl _)⟩
      rw [← rp_bls r hm]
      exact hs
theorem b1_any : B1 K (fun x H Q => rAny K [x] H Q) anyD := fun G H v c S z Q s ok e q => by
  unfold anyD at e
  cases h : c.lst? with
  | none => rw [h] at e; cases e
  | some xs =>
    rw [h] at e
    obtain ⟨p, vs, rfl, hs, r⟩ := ok.lst? s h
    cases hm : xs.mapM unbl with
    | none => simp only [hm] at e; cases e
    | some bs =>
      simp only [hm] at e
      cases e
      refine ⟨p, bs, rfl, ?_, q _ G H (.refl s) (.bl _)⟩
      rw [← rp_bls r hm]
      exact hs
theorem b1_sum : B1 K (fun x H Q => rSum K [x] H Q) sumD := fun G H v c S z Q s ok e q => by
  unfold sumD at e
  cases h : c.lst? with
  | none => rw [h] at e; cases e
  | some xs =>
    rw [h] at e
    obtain ⟨p, vs, rfl, hs, r⟩ := ok.lst? s h
    cases hm : xs.mapM unint with
    | none => simp only [hm] at e; cases e
    | some bs =>
      simp only [hm] at e
      cases e
      refine ⟨p, bs, rfl, ?_, q _ G H (.refl s) (.int _)⟩
      rw [← rp_ints r hm]
      exact hs
end
theorem ok_intc {p : Pos} (hg : Gl X "int") (hm : X.mg "int" = none) (ha : OkB X W a f) (hst : starEach [a] X.env = (false, eval a X.env) :: starEach [] X.env := by rfl) : OkD X W (.Call (.Name "int" p) [a] [] pos) (b1F intD f) := ok_ct1 call_int1 b1_int hg hm (by decide +kernel) ha (by decide) (by decide) hst
theorem ok_abs {p : Pos} (hg : Gl X "abs") (hm : X.mg "abs" = none) (ha : OkB X W a f) (hst : starEach [a] X.env = (false, eval a X.env) :: starEach [] X.env := by rfl) : OkD X W (.Call (.Name "abs" p) [a] [] pos) (b1F absD f) := ok_cb1 call_abs b1_abs hg hm (by decide +kernel) ha (by decide) (by decide) hst
theorem ok_tuplec {p : Pos} (hg : Gl X "tuple") (hm : X.mg "tuple" = none) (ha : OkB X W a f) (hst : starEach [a] X.env = (false, eval a X.env) :: starEach [] X.env := by rfl) : OkD X W (.Call (.Name "tuple" p) [a] [] pos) (b1F tupleD f) := ok_ct1 call_tuple_of b1_tuple hg hm (by decide +kernel) ha (by decide) (by decide) hst
theorem ok_all {p : Pos} (hc : X.calm = true) (hg : Gl X "all") (hm : X.mg "all" = none) (ha : OkB X W a f) (hst : starEach [a] X.env = (false, eval a X.env) :: starEach [] X.env := by rfl) : OkD X W (.Call (.Name "all" p) [a] [] pos) (b1F allD f) := ok_cb1 (cr_all hc) b1_all hg hm (by decide +kernel) ha (by decide) (by decide) hst
theorem ok_any {p : Pos} (hc : X.calm = true) (hg : Gl X "any") (hm : X.mg "any" = none) (ha : OkB X W a f) (hst : starEach [a] X.env = (false, eval a X.env) :: starEach [] X.env := by rfl) : OkD X W (.Call (.Name "any" p) [a] [] pos) (b1F anyD f) := ok_cb1 (cr_any hc) b1_any hg hm (by decide +kernel) ha (by decide) (by decide) hst
theorem ok_sum {p : Pos} (hc : X.calm = true) (hg : Gl X "sum") (hm : X.mg "sum" = none) (ha : OkB X W a f) (hst : starEach [a] X.env = (false, eval a X.env) :: starEach [] X.env := by rfl) : OkD X W (.Call (.Name "sum" p) [a] [] pos) (b1F sumD f) := ok_cb1 (cr_sum hc) b1_sum hg hm (by decide +kernel) ha (by decide) (by decide) hst
/-! gcd -/
def gcdD : List D → Option D
  | [.int a, .int b] => some (.int (Nat.gcd a.natAbs b.natAbs : Nat))
  | _ => none
theorem vn_gcd {K : PySem.W.Frag} : VN K rGcd gcdD := fun G H xs as z Q s r e q => by
  cases r with
  | nil => cases e
  | cons h r =>
    cases r with
    | nil => cases h <;> cases e
    | cons h2 r =>
      cases r with
      | nil => cases h <;> cases h2 <;> cases e <;> exact ⟨_, _, rfl, q _ G H (.refl s) (.int _)⟩
      | cons _ _ => cases h <;> cases h2 <;> cases e
theorem ok_gcd {x : Str} {p : Pos} {fs : FE (List D)} (hg : Gl X x) (hm : X.mg x = some (.builtin "math.gcd")) (ha : OkDs X W (e :: es) fs) (hdb : (x == ("__debug__" : Str)) = false := by decide)
    (he : starEach (e :: es) X.env = (false, eval e X.env) :: starEach es X.env := by rfl) (hpl : (backTo pos (starEach es X.env)).any (·.1) = false := by rfl) : OkD X W (.Call (.Name x p) (e :: es) [] pos) (opNF gcdD fs) :=
  (pe_callBfun cr_gcd hg hm ha hdb he hpl).to fun σ H Q h => t_opN vn_gcd h

/-! ### isinstance of a built-in class -/
def tyN : C1 → Option String
  | .val .non => some "NoneType"
  | .val (.bl _) => some "bool"
  | .val (.int _) => some "int"
  | .val (.str _) => some "str"
  | .val (.tup _) => some "tuple"
  | .val (.lst _) => some "list"
  | .lst _ => some "list"
  | .dk _ => some "dict"
  | .dt _ => some "dict"
  | _ => none
theorem C1Ok.tyX {K : PySem.W.Frag} {G H : Hp} {v : V} {c : C1} {S : Addr → Prop} {t : String} (s : Le G H) (h : C1Ok K G H v c S) (e : tyN c = some t) : TyX K H v (.type t) := by
  have sq : ∀ {a : Addr} {vs : List V}, SqT K G a vs → TyX K H (.ref a) (.type "tuple") := fun {a vs} h => by
    rcases h with (h | ⟨o, h⟩) | ⟨o, its, n, hk, hc, _⟩
    · exact .base (.tup (s _ _ h))
    · exact .fTuple (s _ _ h)
    · exact .kTuple hk hc
  have sl : ∀ {a : Addr} {vs : List V}, SqL K G a vs → TyX K H (.ref a) (.type "list") := fun {a vs} h => by
    rcases h with (h | ⟨o, h⟩) | ⟨o, its, n, hk, hc, _⟩
    · exact .base (.lst (s _ _ h))
    · exact .base (.frz (s _ _ h))
    · exact .kList hk hc
  cases h with
  | val r =>
    cases r with
    | non => cases e; exact .base .non
    | bl b => cases e; exact .base (.bl b)
    | int i => cases e; exact .base (.int i)
    | str x => cases e; exact .base (.str x)
    | tup h _ => cases e; exact sq h
    | lst h _ => cases e; exact sl h
    | dk _ _ => cases e
    | dt _ _ => cases e
  | lst h _ => cases e; exact .base (.lst h)
  | dk h _ => cases e; exact .base (.dK h)
  | dt h _ => cases e; exact .base (.dT h)
/-- the answer, by the type's name -/
def isiD (T : String) (c : C1) : Option D := match tyN c with
  | some t => some (.bl (if T = "int" then decide (t = "int" ∨ t = "bool") else decide (t = T)))
  | none => none
def okT (T : String) : Prop := ∀ t ∈ ["NoneType", "bool", "int", "str", "tuple", "list", "dict"], kitB t T = some (if T = "int" then decide (t = "int" ∨ t = "bool") else decide (t = T))
theorem okT_int : okT "int" := by unfold okT; decide +kernel
theorem okT_bool : okT "bool" := by unfold okT; decide +kernel
theorem okT_str : okT "str" := by unfold okT; decide +kernel
theorem okT_tuple : okT "tuple" := by unfold okT; decide +kernel
theorem okT_list : okT "list" := by unfold okT; decide +kernel
theorem okT_dict : okT "dict" := by unfold okT; decide +kernel
theorem tyN_mem {c : C1} {t : String} (h : tyN c = some t) : t ∈ ["NoneType", "bool", "int", "str", "tuple", "list", "dict"] := by
  unfold tyN at h
  split at h <;> cases h <;> simp
theorem ok_isi {T : String} {x : Str} {p p2 : Pos} (hT : okT T) (hg : Gl X "isinstance") (hm : X.mg "isinstance" = none) (hgT : Gl X x) (hmT : X.mg x = none) (hbT : bootBuiltins x = some (.type T)) (ha : OkB X W a f)
    (hn : x ≠ "__name__" := by decide) (hdb : (x == ("__debug__" : Str)) = false := by decide) (hst : starEach [a, .Name x p2] X.env = (false, eval a X.env) :: starEach [.Name x p2] X.env := by rfl) :
    OkD X W (.Call (.Name "isinstance" p) [a, .Name x p2] [] pos) (b1F (isiD T) f) := by
  refine (pe_callB call_isi hg hm (by decide +kernel) (pa_cons ha (pa_cons (pe_bltn (v := .ty T) hgT hmT hbT rfl hn hdb) pa_nil) hst) (by decide) (by decide) hst rfl).to fun σ H Q h => ?_
  refine t_b1 (r := fun x H Q => rIsi X.K [x, .ty T] H Q) (fun G H v c S z Q s ok e q => ?_) h
  unfold isiD at e
  cases ht : tyN c with
  | none => rw [ht] at e; cases e
  | some t =>
    rw [ht] at e
    cases e
    exact ⟨v, .ty T, .type t, .type T, _, rfl, .ty T, ok.tyX s ht, kit_ty (hT t (tyN_mem ht)), q _ G H (.refl s) (.bl _)⟩
end
end Fx

set_option Elab.async false
set_option linter.all false
set_option maxRecDepth 100000
set_option maxHeartbeats 1000000
/-! Fx11: slices, list(..), keyword calls, sums of texts and tuples. -/
namespace Fx
open PySem L2
open PyProof.Rows (envOfC)

/-! ### slices -/
abbrev FOp := FE (Option Int)
def tOp' (K : PySem.W.Frag) (mg : Str → Option Value) (W : WX) (f : FOp) : TO := fun σ H Q => ∃ G ρ F, Rel K mg G H σ ρ F ∧ Post K mg W σ F G H (fun o _ H' => Q o H') (f ρ)
abbrev OkP (X : Cx) (W : WX) (e : Option Expr) (f : FOp) : Prop := PO X e (tOp' X.K X.mg W f)
theorem _root_.L2.PO.to {X : Cx} {e : Option Expr} {t u : TO} (h : PO X e t) (k : ∀ σ H Q, u σ H Q → t σ H Q) : PO X e u := ⟨fun pins s σ H Q I q => h.run pins s σ H Q I (k σ H Q q)⟩
def noP : FOp := fun ρ => .ok none ρ
def someP (f : FE D) : FOp := fun ρ => (f ρ).bind fun d ρ => match d with
  | .int i => .ok (some i) ρ
  | _ => .stuck
def cutL {α : Type} (xs : List α) (lo hi : Option Int) : List α := (xs.drop (HT.sIx xs.length 0 lo)).take (HT.sIx xs.length xs.length hi - HT.sIx xs.length 0 lo)
theorem RpL.cut {K : PySem.W.Frag} {G : Hp} {vs : List V} {ds : List D} (r : RpL K G vs ds) (lo hi : Option Int) : RpL K G (cutV vs lo hi) (cutL ds lo hi) := by
  unfold cutV cutL
  rw [r.length]
  exact (r.drop _).take _
section
variable {X : Cx} {W : WX} {e a b : Expr} {es : List Expr} {lo hi : Option Expr} {pos p2 : Pos} {fa fb : FE D} {f : FE Pl} {fl fh : FOp}
theorem okp_none : OkP X W none noP := po_none.to fun σ H Q h => by
  obtain ⟨G, ρ, F, rl, p⟩ := h
  exact p G H F rl .refl
theorem okp_some (h : OkD X W e fa) : OkP X W (some e) (someP fa) := (po_some h).to fun σ H Q q => by
  obtain ⟨G, ρ, F, rl, p⟩ := q
  refine ⟨G, ρ, F, rl, Post.bind p fun d ρ1 G1 H1 F1 _ rl1 st1 p1 v rv => ?_⟩
  cases rv with
  | int i => exact ⟨i, rfl, p1 G1 H1 F1 rl1 .refl⟩
  | _ => exact p1.elim
/-- a slice of a list: a new list -/
def slLF (f : FE Pl) (fl fh : FOp) : FE O := fun ρ => (f ρ).bind fun pl ρ => (fl ρ).bind fun lo ρ => (fh ρ).bind fun hi ρ => match (pl.get ρ).bind C1.lst? with
  | some xs => .ok (.c (.lst (cutL xs lo hi))) ρ
  | none => .stuck
theorem ok_slL (hb : OkB X W a f) (hl : OkP X W lo fl) (hh : OkP X W hi fh) : OkO X W (.Subscript a (.Slice lo hi none p2) pos) (slLF f fl fh) := (pe_slice sl_list hb hl hh).to fun σ H Q q => by
  obtain ⟨G, ρ, F, rl, p⟩ := q
  refine ⟨G, ρ, F, rl, PostO.bind p fun pl ρ1 G1 H1 F1 _ rl1 st1 p1 v pv => ⟨G1, ρ1, F1, rl1, PostO.bind p1 fun l ρ2 G2 H2 F2 _ rl2 st2 p2 => ⟨G2, ρ2, F2, rl2, PostO.bind p2 fun u ρ3 G3 H3 F3 _ rl3 st3 p3 => ?_⟩⟩⟩
  cases eg : pl.get ρ3 with
  | none => rw [eg] at p3; exact p3.elim
  | some c =>
    rw [eg] at p3
    simp only [Option.bind] at p3
    cases el : c.lst? with
    | none => rw [el] at p3; exact p3.elim
    | some xs =>
      rw [el] at p3
      obtain ⟨S, ok⟩ := rl3.pl (PlOk.mono (st2.le.trans st3.le) pv) eg
      obtain ⟨q, vs, rfl, hs, r⟩ := ok.lst? rl3.sub el
      refine ⟨q, vs, rfl, hs, fun p hp => ?_⟩
      obtain ⟨r2, s2, o2, z2⟩ := new_lst rl3 (r.cut l u) hp
      exact p3 _ _ F3 _ _ r2 s2 o2 z2
/-- a slice of a text -/
def slSF (fa : FE D) (fl fh : FOp) : FE D := fun ρ => (fa ρ).bind fun d ρ => (fl ρ).bind fun lo ρ => (fh ρ).bind fun hi ρ => match d with
  | .str z => if z.length ≤ sizeLine then .ok (.str (cutS z lo hi)) ρ else .stuck
  | _ => .stuck
theorem ok_slS (ha : OkD X W a fa) (hl : OkP X W lo fl) (hh : OkP X W hi fh) : OkD X W (.Subscript a (.Slice lo hi none p2) pos) (slSF fa fl fh) := (pe_slice sl_str ha hl hh).to fun σ H Q q => by
  obtain ⟨G, ρ, F, rl, p⟩ := q
  refine ⟨G, ρ, F, rl, Post.bind p fun d ρ1 G1 H1 F1 _ rl1 st1 p1 v rv => ⟨G1, ρ1, F1, rl1, Post.bind p1 fun l ρ2 G2 H2 F2 _ rl2 st2 p2 => ⟨G2, ρ2, F2, rl2, Post.bind p2 fun u ρ3 G3 H3 F3 _ rl3 st3 p3 => ?_⟩⟩⟩
  cases rv with
  | str z =>
    simp only at p3
    split at p3
    · rename_i hz
      exact ⟨z, rfl, hz, p3 G3 H3 F3 rl3 .refl _ (.str _)⟩
    · exact p3.elim
  | _ => exact p3.elim
/-- a slice of a tuple -/
def slTF (fa : FE D) (fl fh : FOp) : FE D := fun ρ => (fa ρ).bind fun d ρ => (fl ρ).bind fun lo ρ => (fh ρ).bind fun hi ρ => match d with
  | .tup xs => .ok (.tup (cutL xs lo hi)) ρ
  | _ => .stuck
theorem cut_whole {α : Type} {xs : List α} {lo hi : Option Int} (h : HT.sIx xs.length 0 lo = 0 ∧ HT.sIx xs.length xs.length hi = xs.length) : cutL xs lo hi = xs := by
  unfold cutL
  rw [h.1, h.2]
  simp
theorem ok_slT (ha : OkD X W a fa) (hl : OkP X W lo fl) (hh : OkP X W hi fh) : OkD X W (.Subscript a (.Slice lo hi none p2) pos) (slTF fa fl fh) := (pe_slice sl_tupA ha hl hh).to fun σ H Q q => by
  obtain ⟨G, ρ, F, rl, p⟩ := q
  refine ⟨G, ρ, F, rl, Post.bind p fun d ρ1 G1 H1 F1 _ rl1 st1 p1 v rv => ⟨G1, ρ1, F1, rl1, Post.bind p1 fun l ρ2 G2 H2 F2 _ rl2 st2 p2 => ⟨G2, ρ2, F2, rl2, Post.bind p2 fun u ρ3 G3 H3 F3 _ rl3 st3 p3 => ?_⟩⟩⟩
  cases rv with
  | tup h r =>
    simp only at p3
    have le := st2.le.trans st3.le
    refine ⟨_, _, rfl, rl3.sub.sqt (le.sqt h), fun hw => ?_, fun hw p hp => ?_⟩
    · rw [cut_whole (by rw [← r.length]; exact hw)] at p3
      exact p3 G3 H3 F3 rl3 .refl _ (.tup (le.sqt h) (r.mono le))
    · have rc := (r.mono le).cut l u
      revert rc
      generalize cutV _ l u = cv
      intro rc
      have ex : Ext G3 H3 (upd G3 p (.tup cv)) (upd H3 p (.tup cv)) := .new rl3.sub hp
      exact p3 _ _ F3 (rl3.ext ex) ex.stp _ (.tup (.inl (.inl upd_same)) (rc.mono ex.le))
  | _ => exact p3.elim
/-- x[::-1] of a list -/
def revLF (f : FE Pl) : FE O := fun ρ => (f ρ).bind fun pl ρ => match (pl.get ρ).bind C1.lst? with
  | some xs => .ok (.c (.lst xs.reverse)) ρ
  | none => .stuck
theorem t_newL {K : PySem.W.Frag} {mg : Str → Option Value} {σ : L2.St} {H : Hp} {Q : VK} {g : List D → List D} {gV : List V → List V} (hg : ∀ G vs ds, RpL K G vs ds → RpL K G (gV vs) (g ds))
    (h : tO K mg W (fun ρ => (f ρ).bind fun pl ρ => match (pl.get ρ).bind C1.seq? with | some xs => .ok (.c (.lst (g xs))) ρ | none => .stuck) σ H Q) :
    tB K mg W f σ H fun x H1 => ∃ p ys, x = .ref p ∧ (SqL K H1 p ys ∨ SqT K H1 p ys) ∧ ∀ l, H1 l = none → Q (.ref l) (upd H1 l (.lst (gV ys))) := by
  obtain ⟨G, ρ, F, rl, p⟩ := h
  refine ⟨G, ρ, F, rl, PostO.bind p fun pl ρ1 G1 H1 F1 _ rl1 st1 p1 v pv => ?_⟩
  cases eg : pl.get ρ1 with
  | none => rw [eg] at p1; exact p1.elim
  | some c =>
    rw [eg] at p1
    simp only [Option.bind] at p1
    cases el : c.seq? with
    | none => rw [el] at p1; exact p1.elim
    | some xs =>
      rw [el] at p1
      obtain ⟨S, ok⟩ := rl1.pl pv eg
      obtain ⟨q, vs, rfl, hs, r⟩ := ok.seq? rl1.sub el
      refine ⟨q, vs, rfl, hs, fun p hp => ?_⟩
      obtain ⟨r2, s2, o2, z2⟩ := new_lst rl1 (hg _ _ _ r) hp
      exact p1 _ _ F1 _ _ r2 s2 o2 z2
theorem ok_revL {k : Nat} {p1 p2 p3 : Pos} (hb : OkB X W a f) : OkO X W (.Subscript a (.Slice none none (some (.UnaryOp .USub (.Constant (.int 1) k p1) p2)) p3) pos) (revLF f) := (pe_revL hb).to fun σ H Q q => by
  obtain ⟨G, ρ, F, rl, p⟩ := q
  refine ⟨G, ρ, F, rl, PostO.bind p fun pl ρ1 G1 H1 F1 _ rl1 st1 p1 v pv => ?_⟩
  cases eg : pl.get ρ1 with
  | none => rw [eg] at p1; exact p1.elim
  | some c =>
    rw [eg] at p1
    simp only [Option.bind] at p1
    cases el : c.lst? with
    | none => rw [el] at p1; exact p1.elim
    | some xs =>
      rw [el] at p1
      obtain ⟨S, ok⟩ := rl1.pl pv eg
      obtain ⟨q, vs, rfl, hs, r⟩ := ok.lst? rl1.sub el
      refine ⟨q, vs, rfl, hs, fun p hp => ?_⟩
      obtain ⟨r2, s2, o2, z2⟩ := new_lst rl1 r.rev hp
      exact p1 _ _ F1 _ _ r2 s2 o2 z2
/-- list(x) -/
def listF (f : FE Pl) : FE O := fun ρ => (f ρ).bind fun pl ρ => match (pl.get ρ).bind C1.seq? with
  | some xs => .ok (.c (.lst xs)) ρ
  | none => .stuck
theorem ok_listc {p : Pos} (hg : Gl X "list") (hm : X.mg "list" = none) (ha : OkB X W a f) (hst : starEach [a] X.env = (false, eval a X.env) :: starEach [] X.env := by rfl) : OkO X W (.Call (.Name "list" p) [a] [] pos) (listF f) :=
  (pe_callTy call_list_of hg hm (by decide +kernel) (pa_cons ha pa_nil hst) (by decide) (by decide) hst rfl).to fun σ H Q h => by
  have h2 := t_newL (g := fun x => x) (gV := fun x => x) (fun _ _ _ r => r) h
  obtain ⟨G, ρ, F, rl, p⟩ := h2
  refine ⟨G, ρ, F, rl, ?_⟩
  cases hr : f ρ with
  | ok x ρ1 =>
    rw [hr] at p
    intro G1 H1 F1 rl1 st1 v rv
    obtain ⟨q, ys, e, hs, k⟩ := p G1 H1 F1 rl1 st1 v rv
    exact ⟨q, ys, by rw [e], hs, k⟩
  | ex e ρ1 => rw [hr] at p; exact p
  | stuck => rw [hr] at p; exact p

/-! ### sums of texts, of tuples -/
def addSD : D → D → Option D
  | .str a, .str b => if a.length + b.length ≤ sizeLine then some (.str (a ++ b)) else none
  | _, _ => none
theorem v2_addS {K : PySem.W.Frag} : V2 K (fun x y H Q => ∃ i j, x = .str i ∧ y = .str j ∧ i.length + j.length ≤ sizeLine ∧ Q (.str (i ++ j)) H) addSD := fun G H x y a b z Q s ra rb e q => by
  unfold addSD at e
  split at e
  · split at e
    · rename_i h
      cases ra; cases rb; cases e
      exact ⟨_, _, rfl, rfl, h, q _ G H (.refl s) (.str _)⟩
    · cases e
  · cases e
theorem ok_addS (ha : OkD X W a fa) (hb : OkD X W b fb) : OkD X W (.BinOp a .Add b pos) (op2F addSD fa fb) := ok_op op_add_str v2_addS ha hb
def addTD : D → D → Option D
  | .tup a, .tup b => if a.length + b.length ≤ sizeLine then some (.tup (a ++ b)) else none
  | _, _ => none
theorem v2_addT {K : PySem.W.Frag} : V2 K (rCatA K) addTD := fun G H x y a b z Q s ra rb e q => by
  unfold addTD at e
  split at e
  · split at e
    · rename_i h
      cases ra with
      | tup h1 r1 =>
        cases rb with
        | tup h2 r2 =>
          cases e
          refine ⟨_, _, _, _, rfl, rfl, s.sqt h1, s.sqt h2, by rw [r1.length, r2.length]; exact h, fun e => ?_, fun _ e => ?_, fun _ _ p hp => ?_⟩
          · subst e
            cases r1
            exact q _ G H (.refl s) (.tup h2 r2)
          · subst e
            cases r2
            rw [List.append_nil] at q
            exact q _ G H (.refl s) (.tup h1 r1)
          · exact q _ _ _ (.new s hp) (.tup (.inl (.inl upd_same)) ((r1.append r2).mono (Ext.new s hp).le))
    · cases e
  · cases e
theorem ok_addT (ha : OkD X W a fa) (hb : OkD X W b fb) : OkD X W (.BinOp a .Add b pos) (op2F addTD fa fb) := ok_op op_catA v2_addT ha hb
end

/-! ### calls with keywords -/
structure OkKs (X : Cx) (W : WX) (kws : List Keyword) (f : FE (List Pl)) : Prop where
  pk : PK X kws (tPls X.K X.mg W f)
section
variable {X : Cx} {W : WX} {k : Nat} {f : Addr} {fd : FuncData} {ps ks : List Str} {io : List Nat} {φ : List O → RF} {x : Str} {p pos kpos : Pos} {e : Expr} {es : List Expr} {kws : List Keyword} {g gk : FE (List Pl)} {fb : FE Pl} {nm : Option Str}
theorem _root_.L2.PK.to {t u : TA} (h : PK X kws t) (k : ∀ σ H Q, u σ H Q → t σ H Q) : PK X kws u := ⟨fun pos pins s σ H Q I q => h.run pos pins s σ H Q I (k σ H Q q)⟩
theorem okk_nil : OkKs X W [] nilA := ⟨pk_nil.to fun σ H Q h => by
  obtain ⟨G, ρ, F, rl, p⟩ := h
  exact p G H F rl .refl [] .nil⟩
theorem okk_cons (ha : OkB X W e fb) (hs : OkKs X W kws g) : OkKs X W (⟨nm, e, kpos⟩ :: kws) (consA fb g) := ⟨(pk_cons ha hs.pk).to fun σ H Q h => by
  obtain ⟨G, ρ, F, rl, p⟩ := h
  refine ⟨G, ρ, F, rl, Post.bind p fun x ρ1 G1 H1 F1 _ rl1 st1 p1 v rv => ⟨G1, ρ1, F1, rl1, Post.bind p1 fun xs ρ2 G2 H2 F2 _ rl2 st2 p2 vs rvs => ?_⟩⟩
  exact p2 G2 H2 F2 rl2 .refl (v :: vs) (.cons (rv.mono st2.le) rvs)⟩
/-- how keywords come to the parameters: π puts the values (those by position, those by keyword) in order -/
structure KPerm (fd : FuncData) (ps ks : List Str) (π : ∀ {α : Type}, List α → List α → List α) : Prop where
  to : ∀ (s : Shared) (us ws : List Value), (π us ws).length = ps.length → BindsTo s fd ⟨us, ks.zip ws⟩ (ps.zip (π us ws))
  rel : ∀ {α β : Type} (R : α → β → Prop) {a b : List α} {c d : List β}, Paired R a c → Paired R b d → Paired R (π a b) (π c d)
def callKF (io : List Nat) (φ : List O → RF) (π : ∀ {α : Type}, List α → List α → List α) (n : Nat) (f fk : FE (List Pl)) : FE O := fun ρ => (f ρ).bind fun xs ρ => (fk ρ).bind fun ys ρ => if (π xs ys).length = n then callP io φ (π xs ys) ρ else .stuck
theorem PlsOk.paired {K : PySem.W.Frag} {G : Hp} {σ : L2.St} : ∀ {vs : List V} {ps : List Pl}, PlsOk K G σ vs ps → Paired (PlOk K G σ) vs ps
  | _, _, .nil => .nil
  | _, _, .cons h t => .cons h t.paired
theorem PlsOk.of {K : PySem.W.Frag} {G : Hp} {σ : L2.St} : ∀ {vs : List V} {ps : List Pl}, Paired (PlOk K G σ) vs ps → PlsOk K G σ vs ps
  | _, _, .nil => .nil
  | _, _, .cons h t => .cons h (PlsOk.of t)
theorem run_fnKS {π : ∀ {α : Type}, List α → List α → List α} {sp : Sp} {E : L2.St → XK} {CX : CXT} {pins : List (Addr × Obj)} {σ : L2.St} {H : Hp} {s : Shared} {Q : VK} {us ws : List Value} {vs zs : List V} (F : FnOk X.prog X.w X.K X.mg X.base CX k f fd ps sp) (hr : Room k X.A) (hb : KPerm fd ps ks π) (hx : PassesAt CX X σ (E σ))
    (I : Inv X pins σ H s) (r : Vals vs us) (rz : Vals zs ws) (h : sp (π vs zs) H Q (E σ)) : wpAny (model X.prog X.w) X.A (call (.ref f) us (ks.zip ws)) (EP X pins σ Q) X.xe s := by
  have r2 : Vals (π vs zs) (π us ws) := hb.rel _ r rz
  have hl : (π us ws).length = ps.length := by rw [← r2.length]; exact F.len _ _ _ _ h
  refine wpAny_call (codeAny_mono (F.run X.A X.stack s H ⟨us, ks.zip ws⟩ (π us ws) (π vs zs) Q (E σ) hr I.env0 (hb.to s us ws hl) r2 h) fun r s' hq => ?_)
  cases r with
  | error e => exact hx pins H s e s' I hq
  | ok fl =>
    cases fl with
    | ret u => exact I.after hq
    | next => exact False.elim hq
    | brk => exact False.elim hq
    | cont => exact False.elim hq
/-- f(k = v, ..), f(e, .., k = v, ..) -/
theorem ok_callK {π : ∀ {α : Type}, List α → List α → List α} (F : FnF X.prog X.w X.K X.mg X.base k f fd ps io φ) (tk : Takes X W) (hr : Room k X.A) (hg : Gl X x) (hm : X.mg x = some (.ref f)) (hk : PySem.W.keepIn X.K (.ref f) = true) (hb : KPerm fd ps ks π)
    (ha : OkAs X W (e :: es) g) (hkw : OkKs X W kws gk) (hall : (backToKw pos (keywordEach kws X.env)).all (·.1.isSome) = true := by rfl) (hks : (backToKw pos (keywordEach kws X.env)).filterMap (·.1) = ks := by rfl)
    (hdb : (x == ("__debug__" : Str)) = false := by decide) (he : starEach (e :: es) X.env = (false, eval e X.env) :: starEach es X.env := by rfl)
    (hpl : ((backTo pos (starEach (e :: es) X.env)).any (·.1) || (backToKw pos (keywordEach kws X.env)).any (·.1.isNone)) = false := by rfl) : OkO X W (.Call (.Name x p) (e :: es) kws pos) (callKF io φ π ps.length g gk) := by
  refine ⟨fun pins s σ H Q I h => ?_⟩
  obtain ⟨G, ρ, F0, rl, q⟩ := h
  refine wpAny_Call_Name_kw (ld_glob I hg hm ?_ hdb)
  refine PySem.W.callWith_KW (h₀ := X.base) I.ok.mod.kin hk hall (thn (ha.run pos pins s σ H _ I ⟨G, ρ, F0, rl, PostO.bind q fun xs ρ1 G1 H1 F1 _ rl1 st1 p1 vs rv => (⟨G1, ρ1, F1, rl1, rv, p1⟩ : ∃ G1 ρ1 F1, Rel X.K X.mg G1 H1 σ ρ1 F1 ∧ PlsOk X.K G1 σ vs xs ∧ PostO X.K X.mg W σ F1 G1 H1 Q ((gk ρ1).bind fun ys ρ => if (π xs ys).length = ps.length then callP io φ (π xs ys) ρ else .stuck)) |> fun z => (⟨xs, z⟩ : ∃ xs, _)⟩) fun us s1 ⟨vs, H1, I1, r, z⟩ => ?_) hpl he
  obtain ⟨xs, G1, ρ1, F1, rl1, rv, p1⟩ := z
  refine thn (hkw.pk.run pos pins s1 σ H1 _ I1 ⟨G1, ρ1, F1, rl1, PostO.bind p1 fun ys ρ2 G2 H2 F2 _ rl2 st2 p2 zs rz => (⟨ys, G2, ρ2, F2, rl2, rv.mono st2.le, rz, p2⟩ : ∃ ys G2 ρ2 F2, Rel X.K X.mg G2 H2 σ ρ2 F2 ∧ PlsOk X.K G2 σ vs xs ∧ PlsOk X.K G2 σ zs ys ∧ PostO X.K X.mg W σ F2 G2 H2 Q (if (π xs ys).length = ps.length then callP io φ (π xs ys) ρ2 else .stuck))⟩) fun ws s2 ⟨zs, H2, I2, rz, z⟩ => ⟨I2.kIn, ?_⟩
  obtain ⟨ys, G2, ρ2, F2, rl2, rv2, rz2, p2⟩ := z
  rw [hks]
  split at p2
  · rename_i hn
    exact run_fnKS F hr hb (passAt tk σ) I2 r rz (call_sp rl2 (PlsOk.of (hb.rel _ rv2.paired rz2.paired)) hn p2)
  · exact p2.elim
theorem ok_callK0 {π : ∀ {α : Type}, List α → List α → List α} (F : FnF X.prog X.w X.K X.mg X.base k f fd ps io φ) (tk : Takes X W) (hr : Room k X.A) (hg : Gl X x) (hm : X.mg x = some (.ref f)) (hk : PySem.W.keepIn X.K (.ref f) = true) (hb : KPerm fd ps ks π)
    (hkw : OkKs X W kws gk) (hall : (backToKw pos (keywordEach kws X.env)).all (·.1.isSome) = true := by rfl) (hks : (backToKw pos (keywordEach kws X.env)).filterMap (·.1) = ks := by rfl)
    (hdb : (x == ("__debug__" : Str)) = false := by decide) (hpl : ((backTo pos (starEach [] X.env)).any (·.1) || (backToKw pos (keywordEach kws X.env)).any (·.1.isNone)) = false := by rfl) : OkO X W (.Call (.Name x p) [] kws pos) (callKF io φ π ps.length nilA gk) := by
  refine ⟨fun pins s σ H Q I h => ?_⟩
  obtain ⟨G, ρ, F0, rl, q⟩ := h
  refine wpAny_Call_Name_kw (ld_glob I hg hm ?_ hdb)
  refine PySem.W.callWith_KW0 (h₀ := X.base) I.ok.mod.kin hk hall (thn (hkw.pk.run pos pins s σ H _ I ⟨G, ρ, F0, rl, PostO.bind (r := gk ρ) q fun ys ρ2 G2 H2 F2 _ rl2 st2 p2 zs rz => (⟨ys, G2, ρ2, F2, rl2, rz, p2⟩ : ∃ ys G2 ρ2 F2, Rel X.K X.mg G2 H2 σ ρ2 F2 ∧ PlsOk X.K G2 σ zs ys ∧ PostO X.K X.mg W σ F2 G2 H2 Q (if (π [] ys).length = ps.length then callP io φ (π [] ys) ρ2 else .stuck))⟩) fun ws s2 ⟨zs, H2, I2, rz, z⟩ => ⟨I2.kIn, ?_⟩) hpl
  obtain ⟨ys, G2, ρ2, F2, rl2, rz2, p2⟩ := z
  rw [hks]
  split at p2
  · rename_i hn
    exact run_fnKS (us := []) (vs := []) F hr hb (passAt tk σ) I2 .nil rz (call_sp rl2 (PlsOk.of (hb.rel _ .nil rz2.paired)) hn p2)
  · exact p2.elim
end
end Fx

set_option Elab.async false
set_option linter.all false
set_option maxRecDepth 100000
set_option maxHeartbeats 1000000
/-! Fx12: rules in one for several kinds; targets in assignments; what a caller knows of a def. -/
namespace Fx
open PySem L2
open PyProof.Rows (envOfC)

theorem OpR_or {X : Cx} {f : Value → Value → Sem Value} {r r' : R2} (h : OpR X f r) (h' : OpR X f r') : OpR X f (fun x y H Q => r x y H Q ∨ r' x y H Q) := fun pins s σ H x y v u Q I rx ry q => by
  rcases q with q | q
  · exact h pins s σ H x y v u Q I rx ry q
  · exact h' pins s σ H x y v u Q I rx ry q
/-- g, else g' -/
def orD (g g' : D → D → Option D) : D → D → Option D := fun a b => match g a b with
  | some z => some z
  | none => g' a b
theorem v2_or {K : PySem.W.Frag} {r r' : R2} {g g' : D → D → Option D} (h : V2 K r g) (h' : V2 K r' g') : V2 K (fun x y H Q => r x y H Q ∨ r' x y H Q) (orD g g') := fun G H x y a b z Q s ra rb e q => by
  unfold orD at e
  cases eg : g a b with
  | some w => rw [eg] at e; cases e; exact .inl (h G H x y a b _ Q s ra rb eg q)
  | none => rw [eg] at e; exact .inr (h' G H x y a b z Q s ra rb e q)
/-- + of ints, texts, tuples -/
def plusD : D → D → Option D
  | .int i, .int j => some (.int (i + j))
  | .str a, .str b => if a.length + b.length ≤ sizeLine then some (.str (a ++ b)) else none
  | .tup a, .tup b => if a.length + b.length ≤ sizeLine then some (.tup (a ++ b)) else none
  | _, _ => none
theorem plusD_eq (a b : D) : plusD a b = orD addD (orD addSD addTD) a b := by
  cases a <;> cases b <;> first | rfl | (simp only [plusD, orD, iiD, addSD, addTD]; split <;> rfl)
theorem plus_fun : plusD = orD addD (orD addSD addTD) := by
  funext a b
  exact plusD_eq a b
section
variable {X : Cx} {W : WX} {io : List Nat} {e a b tg : Expr} {pos : Pos} {fa fb : FE D} {f : FE Pl}
theorem ok_plus (ha : OkD X W a fa) (hb : OkD X W b fb) : OkD X W (.BinOp a .Add b pos) (op2F plusD fa fb) := by
  rw [plus_fun]
  exact ok_op (OpR_or op_add (OpR_or op_add_str op_catA)) (v2_or v2_ii (v2_or v2_addS v2_addT)) ha hb
/-! is None, as a test -/
theorem okt_isN {j pos'} (ha : OkB X W a f) : OkT X W (.Compare a [.Is] [.Constant .none j pos'] pos) (testF (b1F (isNoneD false) f)) := (pt_cmp (pc_isN ha) rfl).to fun σ H Q h => t_b1 (r := fun x H Q => Q (.bl (decide (x = .non))) H) b1_isN (tD_tTest h)
theorem okt_notN {j pos'} (ha : OkB X W a f) : OkT X W (.Compare a [.IsNot] [.Constant .none j pos'] pos) (testF (b1F (isNoneD true) f)) := (pt_cmp (pc_notN ha) rfl).to fun σ H Q h => t_b1 (r := fun x H Q => Q (.bl (!decide (x = .non))) H) b1_isN (tD_tTest h)
/-! slices of any kind, as values -/
def slD (c : C1) (lo hi : Option Int) : Option D := match c with
  | .lst xs => some (.lst (cutL xs lo hi))
  | .val (.lst xs) => some (.lst (cutL xs lo hi))
  | .val (.tup xs) => some (.tup (cutL xs lo hi))
  | .val (.str z) => if z.length ≤ sizeLine then some (.str (cutS z lo hi)) else none
  | _ => none
def slF (f : FE Pl) (fl fh : FOp) : FE D := fun ρ => (f ρ).bind fun pl ρ => (fl ρ).bind fun lo ρ => (fh ρ).bind fun hi ρ => match pl.get ρ with
  | some c => optR (slD c lo hi) ρ
  | none => .stuck
theorem ok_sl {lo hi : Option Expr} {p2 : Pos} {fl fh : FOp} (hb : OkB X W a f) (hl : OkP X W lo fl) (hh : OkP X W hi fh) : OkD X W (.Subscript a (.Slice lo hi none p2) pos) (slF f fl fh) := (pe_slice (sl_list.or (sl_str.or sl_tupA)) hb hl hh).to fun σ H Q q => by
  obtain ⟨G, ρ, F, rl, p⟩ := q
  refine ⟨G, ρ, F, rl, Post.bind p fun pl ρ1 G1 H1 F1 _ rl1 st1 p1 v pv => ⟨G1, ρ1, F1, rl1, Post.bind p1 fun l ρ2 G2 H2 F2 _ rl2 st2 p2 => ⟨G2, ρ2, F2, rl2, Post.bind p2 fun u ρ3 G3 H3 F3 _ rl3 st3 p3 => ?_⟩⟩⟩
  cases eg : pl.get ρ3 with
  | none => rw [eg] at p3; exact p3.elim
  | some c =>
    rw [eg] at p3
    obtain ⟨S, ok⟩ := rl3.pl (PlOk.mono (st2.le.trans st3.le) pv) eg
    have key : ∀ ds, c.lst? = some ds → (∀ G' H' F', Rel X.K X.mg G' H' σ ρ3 F' → Stp F3 G3 H3 G' H' F' → ∀ v, Rp X.K G' v (.lst (cutL ds l u)) → Q v H') → rSlL X.K v l u H3 Q := fun ds hc k => by
      obtain ⟨q, vs, rfl, hs, r⟩ := ok.lst? rl3.sub hc
      refine ⟨q, vs, rfl, hs, fun p hp => ?_⟩
      have ex : Ext G3 H3 (upd G3 p (.lst (cutV vs l u))) (upd H3 p (.lst (cutV vs l u))) := .new rl3.sub hp
      exact k _ _ F3 (rl3.ext ex) ex.stp _ (.lst (.inl (.inl upd_same)) ((r.cut l u).mono ex.le))
    cases ok with
    | lst h r => exact .inl (key _ rfl p3)
    | dk _ _ => exact p3.elim
    | dt _ _ => exact p3.elim
    | val r =>
      cases r with
      | lst h r => exact .inl (key _ rfl p3)
      | str z =>
        simp only [slD] at p3
        split at p3
        · rename_i hz
          exact .inr (.inl ⟨z, rfl, hz, p3 G3 H3 F3 rl3 .refl _ (.str _)⟩)
        · exact p3.elim
      | tup h r =>
        refine .inr (.inr ⟨_, _, rfl, rl3.sub.sqt h, fun hw => ?_, fun hw p hp => ?_⟩)
        · simp only [slD, cut_whole (show HT.sIx _ 0 l = 0 ∧ HT.sIx _ _ u = _ by rw [← r.length]; exact hw)] at p3
          exact p3 G3 H3 F3 rl3 .refl _ (.tup h r)
        · have rc := r.cut l u
          revert rc
          generalize cutV _ l u = cv
          intro rc
          have ex : Ext G3 H3 (upd G3 p (.tup cv)) (upd H3 p (.tup cv)) := .new rl3.sub hp
          exact p3 _ _ F3 (rl3.ext ex) ex.stp _ (.tup (.inl (.inl upd_same)) (rc.mono ex.le))
      | _ => exact p3.elim

/-! ### target = value -/
def asgF (f : FE D) (g : FG) : FS := fun ρ => bindS (f ρ) fun d ρ => match g d ρ with
  | some ρ => .nx ρ
  | none => .stuck
theorem ok_asg {g : FG} (he : OkD X W e fa) (hg : OkG X io tg g) (hs : swapsWithSole [tg] e pos.line X.env = pure false := by rfl) (hw : swappedStores [tg] e X.env = pure none := by rfl)
    (h1 : (assignEach [tg] X.env).map (·.2) = [assign tg X.env] := by rfl) : OkS X W io (.Assign [tg] e pos) (asgF fa g) := (ps_asg he hg hs hw h1).to fun Dn σ H q => by
  obtain ⟨G, ρ, F, rl, p⟩ := q
  refine ⟨G, ρ, F, rl, PostS.bind p fun d ρ1 G1 H1 F1 _ rl1 st1 p1 v rv => ⟨G1, ρ1, F1, d, rl1, rv, ?_⟩⟩
  cases eg : g d ρ1 with
  | none => rw [eg] at p1; exact p1.elim
  | some ρ2 =>
    rw [eg] at p1
    exact fun σ' F' rl' st' _ hσ => p1 σ' G1 H1 F' rl' st' hσ

/-! ### what a caller knows of a def -/
structure Cal (P : Program) (w : World) (K : PySem.W.Frag) (mg : Str → Option Value) (base : Heap) (k : Nat) (x : Str) (f : Addr) (fd : FuncData) (ps : List Str) (io : List Nat) (φ : List O → RF) : Prop where
  fn : FnF P w K mg base k f fd ps io φ
  bd : Binds K fd ps []
  gl : mg x = some (.ref f)
  kp : PySem.W.keepIn K (.ref f) = true
theorem ok_cal {x : Str} {p : Pos} {es : List Expr} {k j : Nat} {f : Addr} {fd : FuncData} {ps : List Str} {jo : List Nat} {φ : List O → RF} {g : FE (List Pl)} (C : Cal X.prog X.w X.K X.mg X.base k x f fd ps jo φ) (tk : Takes X W) (hr : Room j X.A) (hg : Gl X x) (ha : OkAs X W (e :: es) g)
    (hn : ∀ ρ pls ρ', g ρ = .ok pls ρ' → pls.length = ps.length) (hk : k ≤ j := by decide) (hdb : (x == ("__debug__" : Str)) = false := by decide) (he : starEach (e :: es) X.env = (false, eval e X.env) :: starEach es X.env := by rfl) (hpl : (backTo pos (starEach es X.env)).any (·.1) = false := by rfl) :
    OkO X W (.Call (.Name x p) (e :: es) [] pos) (callF jo φ g) := ok_call C.fn tk (hr.mono hk) hg C.gl C.kp C.bd ha hn hdb he hpl
theorem ok_calK {π : ∀ {α : Type}, List α → List α → List α} {x : Str} {p : Pos} {es : List Expr} {kws : List Keyword} {ks : List Str} {k j : Nat} {f : Addr} {fd : FuncData} {ps : List Str} {jo : List Nat} {φ : List O → RF} {g gk : FE (List Pl)} (C : Cal X.prog X.w X.K X.mg X.base k x f fd ps jo φ) (hb : KPerm fd ps ks π) (tk : Takes X W) (hr : Room j X.A) (hg : Gl X x)
    (ha : OkAs X W (e :: es) g) (hkw : OkKs X W kws gk) (hk : k ≤ j := by decide) (hall : (backToKw pos (keywordEach kws X.env)).all (·.1.isSome) = true := by rfl) (hks : (backToKw pos (keywordEach kws X.env)).filterMap (·.1) = ks := by rfl)
    (hdb : (x == ("__debug__" : Str)) = false := by decide) (he : starEach (e :: es) X.env = (false, eval e X.env) :: starEach es X.env := by rfl)
    (hpl : ((backTo pos (starEach (e :: es) X.env)).any (·.1) || (backToKw pos (keywordEach kws X.env)).any (·.1.isNone)) = false := by rfl) : OkO X W (.Call (.Name x p) (e :: es) kws pos) (callKF jo φ π ps.length g gk) :=
  ok_callK C.fn tk (hr.mono hk) hg C.gl C.kp hb ha hkw hall hks hdb he hpl
theorem ok_calK0 {π : ∀ {α : Type}, List α → List α → List α} {x : Str} {p : Pos} {kws : List Keyword} {ks : List Str} {k j : Nat} {f : Addr} {fd : FuncData} {ps : List Str} {jo : List Nat} {φ : List O → RF} {gk : FE (List Pl)} (C : Cal X.prog X.w X.K X.mg X.base k x f fd ps jo φ) (hb : KPerm fd ps ks π) (tk : Takes X W) (hr : Room j X.A) (hg : Gl X x)
    (hkw : OkKs X W kws gk) (hk : k ≤ j := by decide) (hall : (backToKw pos (keywordEach kws X.env)).all (·.1.isSome) = true := by rfl) (hks : (backToKw pos (keywordEach kws X.env)).filterMap (·.1) = ks := by rfl)
    (hdb : (x == ("__debug__" : Str)) = false := by decide) (hpl : ((backTo pos (starEach [] X.env)).any (·.1) || (backToKw pos (keywordEach kws X.env)).any (·.1.isNone)) = false := by rfl) : OkO X W (.Call (.Name x p) [] kws pos) (callKF jo φ π ps.length nilA gk) :=
  ok_callK0 C.fn tk (hr.mono hk) hg C.gl C.kp hb hkw hall hks hdb hpl
end
end Fx

set_option Elab.async false
set_option linter.all false
set_option maxRecDepth 100000
set_option maxHeartbeats 1000000
/-! Fx13: the law's end. -/
namespace Fx
open PySem L2
open PyProof.Rows (envOfC)

def spLaw (K : PySem.W.Frag) : Sp := fun vs H Q _ => ∃ (a : Addr) (ns : List Int), vs = [.ref a] ∧ SqL K H a (ns.map V.int) ∧ ns.length ≤ 63 ∧ ∀ H', Q (.bl true) H'
theorem rpl_ints {K : PySem.W.Frag} {G : Hp} : ∀ ns : List Int, RpL K G (ns.map V.int) (ns.map D.int)
  | [] => .nil
  | n :: ns => .cons (.int n) (rpl_ints ns)
theorem law_sp {K : PySem.W.Frag} {mg : Str → Option Value} {φ : List O → RF} (hl : ∀ ns : List Int, ns.length ≤ 63 → ∃ os', φ [.v (.lst (ns.map .int))] = .ok (.v (.bl true)) os') : ∀ vs H Q E, spLaw K vs H Q E → spF K mg [] 1 φ vs H Q E := fun vs H Q E h => by
  obtain ⟨a, ns, rfl, hS, hn, q⟩ := h
  obtain ⟨os', e⟩ := hl ns hn
  refine ⟨rfl, H, [.v (.lst (ns.map .int))], fun _ _ => False, rfl, rfl, ⟨rfl, fun i o h => ?_, fun _ _ _ _ z => z.elim, fun _ _ z => z.elim, fun _ _ z => z.elim, Le.refl _⟩, ?_⟩
  · match i, h with
    | 0, h => cases h; exact ⟨_, rfl, .c (.val (.lst hS (rpl_ints ns)))⟩
    | i + 1, h => simp at h
  · show PostF K mg _ _ H H Q E (φ _)
    rw [e]
    intro G' H' F' v S rl st ok z
    cases ok with
    | c ok =>
      cases ok with
      | val r => cases r; exact q H'
theorem cx_none {P : Program} {w : World} {outer : List PySem.Env} {H : Hp} {s : Shared} {e : Value} {s' : Shared} (h : L2.CX P w outer H s (fun _ _ _ => False) e s') : False := by
  obtain ⟨_, _, _, _, _, _, _, _, _, _, _, _, z⟩ := h
  exact z
/-- a tuple of the module's top -/
theorem rc_tup {K : PySem.W.Frag} {a : Addr} {o : Obj} {its : Array Value} {n : Nat} {xs : List V} {ds : List D} (lk : K.lookup a = some o) (h1 : o.cls = .type "tuple") (h2 : o.data = .seq its n) (hs : its.size ≤ sizeLine) (hv : Vals xs its.toList) (hr : ∀ G, RpL K G xs ds) : ∀ G, Rp K G (.ref a) (.tup ds) :=
  fun G => .tup (.inr ⟨o, its, n, lk, h1, h2, hs, hv⟩) (hr G)
/-! ### keywords put in order -/
def permG {A : Type} (m n : Nat) (ix : List Nat) (xs ys : List A) : List A := if xs.length = m ∧ ys.length = n then ix.filterMap fun i => (xs ++ ys)[i]? else []
theorem permG_len {A : Type} {m n k : Nat} {ix : List Nat} {xs ys : List A} (h : (permG m n ix xs ys).length = k) (hk : 0 < k) : xs.length = m ∧ ys.length = n := by
  unfold permG at h
  by_cases q : xs.length = m ∧ ys.length = n
  · exact q
  · rw [if_neg q] at h
    exact absurd h (Nat.ne_of_lt hk)
theorem paired_get {A B : Type} {R : A → B → Prop} : ∀ {a : List A} {b : List B}, Paired R a b → ∀ i : Nat, (∃ (x : A) (y : B), a[i]? = some x ∧ b[i]? = some y ∧ R x y) ∨ (a[i]? = none ∧ b[i]? = none)
  | _, _, .nil, i => .inr ⟨by simp, by simp⟩
  | _, _, .cons r t, 0 => .inl ⟨_, _, rfl, rfl, r⟩
  | _, _, .cons r t, i + 1 => by simpa using paired_get t i
theorem paired_app {A B : Type} {R : A → B → Prop} : ∀ {a c : List A} {b d : List B}, Paired R a b → Paired R c d → Paired R (a ++ c) (b ++ d)
  | _, _, _, _, .nil, s => s
  | _, _, _, _, .cons r t, s => .cons r (paired_app t s)
theorem permG_rel {A B : Type} {R : A → B → Prop} {m n : Nat} {ix : List Nat} {a b : List A} {c d : List B} (h1 : Paired R a c) (h2 : Paired R b d) : Paired R (permG m n ix a b) (permG m n ix c d) := by
  have l1 : a.length = c.length := Paired.length h1
  have l2 : b.length = d.length := Paired.length h2
  unfold permG
  rw [l1, l2]
  split
  · have h := paired_app h1 h2
    generalize a ++ b = p at h
    generalize c ++ d = q at h
    induction ix with
    | nil => exact .nil
    | cons i ix ih =>
      rw [List.filterMap_cons, List.filterMap_cons]
      rcases paired_get h i with ⟨x, y, e1, e2, r⟩ | ⟨e1, e2⟩
      · rw [e1, e2]; exact .cons r ih
      · rw [e1, e2]; exact ih
  · exact .nil
end Fx

set_option Elab.async false
set_option linter.all false
set_option maxRecDepth 100000
set_option maxHeartbeats 1000000
/-! Fx14: the readings, run. -/
namespace Fx
open PySem L2

section
variable {α β : Type} {ρ ρ' : Env} {f g : FS} {fa fb fc : FE D} {fo fo' : FE O} {ft fu : FE Bool} {fs : FE (List D)} {fp : FE Pl} {fps : FE (List Pl)} {fl fh : FOp}
@[simp] theorem e_bind_ok {a : α} {k : α → Env → R β} : R.bind (.ok a ρ) k = k a ρ := id rfl
@[simp] theorem e_bind_ex {e : Exn} {k : α → Env → R β} : R.bind (.ex e ρ) k = .ex e ρ := id rfl
@[simp] theorem e_bind_stuck {k : α → Env → R β} : R.bind .stuck k = .stuck := id rfl
@[simp] theorem e_bindS_ok {a : α} {k : α → Env → RS} : bindS (.ok a ρ) k = k a ρ := id rfl
@[simp] theorem e_bindS_ex {e : Exn} {k : α → Env → RS} : bindS (.ex e ρ) k = .ex e ρ := id rfl
@[simp] theorem e_bindS_stuck {k : α → Env → RS} : bindS .stuck k = .stuck := id rfl
/-- one statement behind another, at a known outcome -/
def RS.seq (r : RS) (g : FS) : RS := match r with
  | .nx ρ => g ρ
  | r => r
@[simp] theorem e_seq : seqF f g ρ = (f ρ).seq g := id rfl
@[simp] theorem e_seq_nx : (RS.nx ρ).seq g = g ρ := id rfl
@[simp] theorem e_seq_ret {o : O} : (RS.ret o ρ).seq g = .ret o ρ := id rfl
@[simp] theorem e_seq_br : (RS.br ρ).seq g = .br ρ := id rfl
@[simp] theorem e_seq_ct : (RS.ct ρ).seq g = .ct ρ := id rfl
@[simp] theorem e_seq_ex {e : Exn} : (RS.ex e ρ).seq g = .ex e ρ := id rfl
@[simp] theorem e_seq_stuck : RS.stuck.seq g = .stuck := id rfl
@[simp] theorem e_next : nextF ρ = .nx ρ := rfl
@[simp] theorem e_var {i : Nat} : varF i ρ = match ρ[i]? with | some (some (.c (.val d))) => .ok d ρ | _ => .stuck := rfl
@[simp] theorem e_c {d : D} : cF d ρ = .ok d ρ := rfl
@[simp] theorem e_bS {i : Nat} : bS i ρ = match ρ[i]? with | some (some _) => .ok (.sl i) ρ | _ => .stuck := rfl
@[simp] theorem e_bD : bD fa ρ = (fa ρ).bind fun d ρ => .ok (.v d) ρ := rfl
@[simp] theorem e_val : valF fa ρ = (fa ρ).bind fun d ρ => .ok (.v d) ρ := rfl
@[simp] theorem e_frz : frzF fo ρ = (fo ρ).bind fun o ρ => optR (frz o) ρ := rfl
@[simp] theorem e_frz1 {d : D} : frz (.c (.val d)) = some d := rfl
@[simp] theorem e_frz2 {xs : List D} : frz (.c (.lst xs)) = some (.lst xs) := rfl
@[simp] theorem e_frz3 {xs} : frz (.c (.dk xs)) = some (.dk xs) := rfl
@[simp] theorem e_frz4 {xs} : frz (.c (.dt xs)) = some (.dt xs) := rfl
@[simp] theorem e_op1 {g : D → Option D} : op1F g fa ρ = (fa ρ).bind fun x ρ => optR (g x) ρ := rfl
@[simp] theorem e_op2 {g : D → D → Option D} : op2F g fa fb ρ = (fa ρ).bind fun x ρ => (fb ρ).bind fun y ρ => optR (g x y) ρ := rfl
@[simp] theorem e_opN {g : List D → Option D} : opNF g fs ρ = (fs ρ).bind fun x ρ => optR (g x) ρ := rfl
@[simp] theorem e_b1 {g : C1 → Option D} : b1F g fp ρ = (fp ρ).bind fun p ρ => match p.get ρ with | some c => optR (g c) ρ | none => .stuck := rfl
@[simp] theorem e_b2 {g : C1 → D → Option D} : b2F g fp fa ρ = (fp ρ).bind fun p ρ => (fa ρ).bind fun k ρ => match p.get ρ with | some c => optR (g c k) ρ | none => .stuck := rfl
@[simp] theorem e_get1 {x : D} : (Pl.v x).get ρ = some (.val x) := rfl
@[simp] theorem e_get2 {i : Nat} : (Pl.sl i).get ρ = match ρ[i]? with | some (some (.c c)) => some c | _ => none := rfl
@[simp] theorem e_geto1 {x : D} : (Pl.v x).geto ρ = some (.v x) := rfl
@[simp] theorem e_geto2 {i : Nat} : (Pl.sl i).geto ρ = match ρ[i]? with | some (some o) => some o | _ => none := rfl
@[simp] theorem e_optR1 {a : α} : optR (some a) ρ = .ok a ρ := rfl
@[simp] theorem e_optR2 : optR (none : Option α) ρ = .stuck := rfl
@[simp] theorem e_nil : nilF ρ = .ok [] ρ := rfl
@[simp] theorem e_cons : consF fa fs ρ = (fa ρ).bind fun x ρ => (fs ρ).bind fun xs ρ => .ok (x :: xs) ρ := rfl
@[simp] theorem e_nilA : nilA ρ = .ok [] ρ := rfl
@[simp] theorem e_consA : consA fp fps ρ = (fp ρ).bind fun x ρ => (fps ρ).bind fun xs ρ => .ok (x :: xs) ρ := rfl
theorem line_le {n : Nat} (h : n ≤ 1000000) : n ≤ sizeLine := Nat.le_trans h (by decide)
theorem line_lt {n : Nat} (h : n ≤ 1000000) : n < sizeLine := Nat.lt_of_le_of_lt h (by decide)
@[simp] theorem e_tup : tupF fs ρ = (fs ρ).bind fun xs ρ => if xs.length ≤ sizeLine then .ok (.tup xs) ρ else .stuck := id rfl
@[simp] theorem e_lst : lstF fs ρ = (fs ρ).bind fun xs ρ => if xs.length ≤ sizeLine then .ok (.c (.lst xs)) ρ else .stuck := id rfl
@[simp] theorem e_test : testF fa ρ = (fa ρ).bind fun d ρ => match d with | .bl b => .ok b ρ | _ => .stuck := rfl
@[simp] theorem e_and : andF ft fu ρ = (ft ρ).bind fun b ρ => if b = true then fu ρ else .ok false ρ := rfl
@[simp] theorem e_or : orF ft fu ρ = (ft ρ).bind fun b ρ => if b = true then .ok true ρ else fu ρ := rfl
@[simp] theorem e_not : notF ft ρ = (ft ρ).bind fun b ρ => .ok (!b) ρ := rfl
@[simp] theorem e_andV : andVF fa fb ρ = (fa ρ).bind fun d ρ => match d with | .bl true => fb ρ | .bl false => .ok (.bl false) ρ | _ => .stuck := rfl
@[simp] theorem e_orV : orVF fa fb ρ = (fa ρ).bind fun d ρ => match d with | .bl true => .ok (.bl true) ρ | .bl false => fb ρ | _ => .stuck := rfl
@[simp] theorem e_notV : notVF fa ρ = (fa ρ).bind fun d ρ => match d with | .bl b => .ok (.bl (!b)) ρ | _ => .stuck := rfl
@[simp] theorem e_if {α : Type} {f g : FE α} : ifF ft f g ρ = (ft ρ).bind fun b ρ => if b = true then f ρ else g ρ := rfl
@[simp] theorem e_chain {g g' : D → D → Option D} : chainF g g' fa fb fc ρ = (fa ρ).bind fun x ρ => (fb ρ).bind fun y ρ => match g x y with
  | some (.bl true) => (fc ρ).bind fun z ρ => optR (g' y z) ρ
  | some (.bl false) => .ok (.bl false) ρ
  | _ => .stuck := rfl
@[simp] theorem e_ret : retF fa ρ = bindS (fa ρ) fun d ρ => .ret (.v d) ρ := rfl
@[simp] theorem e_retO : retOF fo ρ = bindS (fo ρ) fun d ρ => .ret d ρ := rfl
@[simp] theorem e_drop : dropF fa ρ = bindS (fa ρ) fun _ ρ => .nx ρ := rfl
@[simp] theorem e_ifS : ifSF ft f g ρ = bindS (ft ρ) fun b ρ => if b = true then f ρ else g ρ := rfl
@[simp] theorem e_set {i : Nat} : setF i fa ρ = bindS (fa ρ) fun d ρ => .nx (ρ.set i (some (.v d))) := rfl
@[simp] theorem e_setO {i : Nat} : setOF i fo ρ = bindS (fo ρ) fun o ρ => .nx (ρ.set i (some o)) := rfl
@[simp] theorem e_par2 {i j : Nat} : par2F i j fs ρ = bindS (fs ρ) fun ds ρ => match ds with | [a, b] => .nx ((ρ.set i (some (.v a))).set j (some (.v b))) | _ => .stuck := rfl
@[simp] theorem e_aug {g : D → D → Option D} {i : Nat} : augF g i fa ρ = match ρ[i]? with
  | some (some (.c (.val x))) => bindS (fa ρ) fun y ρ => match g x y with
    | some z => .nx (ρ.set i (some (.v z)))
    | none => .stuck
  | _ => .stuck := rfl
@[simp] theorem e_asg {g : FG} : asgF fa g ρ = bindS (fa ρ) fun d ρ => match g d ρ with | some ρ => .nx ρ | none => .stuck := rfl
@[simp] theorem e_setIt {fi fe : FE D} : setItF fp fi fe ρ = bindS (fe ρ) fun d ρ => bindS (fp ρ) fun pl ρ => bindS (fi ρ) fun k ρ => match ownL pl ρ, k with
  | some (i, xs), .int k => match ixN xs.length k with
    | some j => .nx (ρ.set i (some (.c (.lst (xs.set j d)))))
    | none => .stuck
  | _, _ => .stuck := rfl
@[simp] theorem e_app : appF fp fa ρ = bindS (fp ρ) fun pl ρ => match ownL pl ρ with
  | some _ => bindS (fa ρ) fun d ρ => (match ownL pl ρ with
    | some (i, xs) => if xs.length < sizeLine then .nx (ρ.set i (some (.c (.lst (xs ++ [d]))))) else .stuck
    | none => .stuck)
  | none => .stuck := id rfl
@[simp] theorem e_ownL {i : Nat} : ownL (.sl i) ρ = match ρ[i]? with | some (some (.c (.lst xs))) => some (i, xs) | _ => none := rfl
@[simp] theorem e_varFz {i : Nat} : varFzF i ρ = match ρ[i]? with
  | some (some o) => match frz o with
    | some d => .ok d (ρ.set i (some (.v d)))
    | none => .stuck
  | _ => .stuck := rfl
@[simp] theorem e_forS {fi : FE (List D)} {g : FG} {b : FS} : forSF fi g b ρ = bindS (fi ρ) fun ds ρ => forF g b ds ρ := rfl
@[simp] theorem e_itL : itL fa ρ = (fa ρ).bind fun d ρ => match d with | .lst xs => .ok xs ρ | _ => .stuck := rfl
@[simp] theorem e_itT : itT fa ρ = (fa ρ).bind fun d ρ => match d with | .tup xs => .ok xs ρ | _ => .stuck := rfl
/-- a range's end, judged (the test is kept from being run) -/
noncomputable def rgo1 (d : D) (ρ : Env) : R (List D) := match d with
  | .int j => @ite _ (-(2 ^ 62) ≤ j ∧ j < 2 ^ 62) (Classical.propDecidable _) (.ok (rangeL 0 j.toNat) ρ) .stuck
  | _ => .stuck
noncomputable def rgo2 (x y : D) (ρ : Env) : R (List D) := match x, y with
  | .int i, .int j => @ite _ (-(2 ^ 62) ≤ i ∧ i < 2 ^ 62 ∧ -(2 ^ 62) ≤ j ∧ j < 2 ^ 62) (Classical.propDecidable _) (.ok (rangeL i (j - i).toNat) ρ) .stuck
  | _, _ => .stuck
theorem rgo1_eq {d : D} : rgo1 d ρ = match d with
  | .int j => if -(2 ^ 62) ≤ j ∧ j < 2 ^ 62 then .ok (rangeL 0 j.toNat) ρ else .stuck
  | _ => .stuck := by
  cases d <;> first | rfl | skip
  unfold rgo1
  dsimp only
  congr
theorem rgo2_eq {x y : D} : rgo2 x y ρ = match x, y with
  | .int i, .int j => if -(2 ^ 62) ≤ i ∧ i < 2 ^ 62 ∧ -(2 ^ 62) ≤ j ∧ j < 2 ^ 62 then .ok (rangeL i (j - i).toNat) ρ else .stuck
  | _, _ => .stuck := by
  unfold rgo2
  split
  · congr
  · rfl
@[simp] theorem e_rng1 : rng1 fa ρ = (fa ρ).bind rgo1 := by
  unfold rng1
  congr
  funext d ρ
  exact rgo1_eq.symm
@[simp] theorem e_rng2 : rng2 fa fb ρ = (fa ρ).bind fun x ρ => (fb ρ).bind fun y ρ => rgo2 x y ρ := by
  unfold rng2
  congr
  funext x ρ
  congr
  funext y ρ
  exact rgo2_eq.symm
theorem e_rgo1 {j : Int} (h : -(2 ^ 62) ≤ j ∧ j < 2 ^ 62) : rgo1 (.int j) ρ = .ok (rangeL 0 j.toNat) ρ := by
  unfold rgo1
  exact if_pos h
theorem e_rgo2 {i j : Int} (h : -(2 ^ 62) ≤ i ∧ i < 2 ^ 62 ∧ -(2 ^ 62) ≤ j ∧ j < 2 ^ 62) : rgo2 (.int i) (.int j) ρ = .ok (rangeL i (j - i).toNat) ρ := by
  unfold rgo2
  exact if_pos h
@[simp] theorem e_rgo1n {i : Int} (h0 : 0 ≤ i) (h : i ≤ 1000000) : rgo1 (.int i) ρ = .ok (rangeL 0 i.toNat) ρ := e_rgo1 (by omega)
@[simp] theorem e_rgo2n {i j : Int} (h0 : 0 ≤ i) (h : i ≤ 1000000) (h0 : 0 ≤ j) (h : j ≤ 1000000) : rgo2 (.int i) (.int j) ρ = .ok (rangeL i (j - i).toNat) ρ := e_rgo2 (by omega)
@[simp] theorem e_nameG {i : Nat} {d : D} : nameG i d ρ = some (ρ.set i (some (.v d))) := rfl
@[simp] theorem e_noP : noP ρ = .ok none ρ := rfl
@[simp] theorem e_someP : someP fa ρ = (fa ρ).bind fun d ρ => match d with | .int i => .ok (some i) ρ | _ => .stuck := rfl
@[simp] theorem e_sl : slF fp fl fh ρ = (fp ρ).bind fun pl ρ => (fl ρ).bind fun lo ρ => (fh ρ).bind fun hi ρ => match pl.get ρ with
  | some c => optR (slD c lo hi) ρ
  | none => .stuck := rfl
@[simp] theorem e_slL : slLF fp fl fh ρ = (fp ρ).bind fun pl ρ => (fl ρ).bind fun lo ρ => (fh ρ).bind fun hi ρ => match (pl.get ρ).bind C1.lst? with
  | some xs => .ok (.c (.lst (cutL xs lo hi))) ρ
  | none => .stuck := rfl
@[simp] theorem e_revL : revLF fp ρ = (fp ρ).bind fun pl ρ => match (pl.get ρ).bind C1.lst? with | some xs => .ok (.c (.lst xs.reverse)) ρ | none => .stuck := rfl
@[simp] theorem e_list : listF fp ρ = (fp ρ).bind fun pl ρ => match (pl.get ρ).bind C1.seq? with | some xs => .ok (.c (.lst xs)) ρ | none => .stuck := rfl
@[simp] theorem e_lc {fi : FE (List D)} {vs : List Nat} {g : FG} {ft : FE Bool} {fe : FE D} : lcF fi vs g ft fe ρ = (fi ρ).bind fun ds ρ => if ds.length < sizeLine ∧ plainVs ρ vs = true then (compGo vs g (noEx ft) (noEx fe) ds ρ).bind fun ys ρ => .ok (.c (.lst ys)) ρ else .stuck := id rfl
@[simp] theorem e_call {io : List Nat} {φ : List O → RF} : callF io φ fps ρ = (fps ρ).bind fun pls ρ => callP io φ pls ρ := id rfl
@[simp] theorem e_callK {io : List Nat} {φ : List O → RF} {π : ∀ {α : Type}, List α → List α → List α} {n : Nat} {fk : FE (List Pl)} : callKF io φ π n fps fk ρ = (fps ρ).bind fun xs ρ => (fk ρ).bind fun ys ρ => if (π xs ys).length = n then callP io φ (π xs ys) ρ else .stuck := id rfl
/-- a call's outcome -/
def callR (pls : List Pl) (ρ : Env) (r : RF) : R O := match r with
  | .ok o os' => .ok o (putAll pls os' ρ)
  | .ex e os' => .ex e (putAll pls os' ρ)
  | .stuck => .stuck
@[simp] theorem e_callR1 {pls : List Pl} {o : O} {os : List O} : callR pls ρ (.ok o os) = .ok o (putAll pls os ρ) := id rfl
@[simp] theorem e_callR2 {pls : List Pl} {e : Exn} {os : List O} : callR pls ρ (.ex e os) = .ex e (putAll pls os ρ) := id rfl
@[simp] theorem e_callP {io : List Nat} {φ : List O → RF} {pls : List Pl} : callP io φ pls ρ = match getAll pls ρ with
  | some os => if (slots pls).Nodup ∧ chk io 0 os = true then callR pls ρ (φ os) else .stuck
  | none => .stuck := rfl
@[simp] theorem e_getAll0 : getAll [] ρ = some [] := rfl
@[simp] theorem e_getAll1 {p : Pl} {ps : List Pl} : getAll (p :: ps) ρ = match p.geto ρ, getAll ps ρ with | some o, some os => some (o :: os) | _, _ => none := rfl
@[simp] theorem e_putAll0 {os : List O} : putAll [] os ρ = ρ := by simp [putAll]
@[simp] theorem e_putAll1 {i : Nat} {ps : List Pl} {o : O} {os : List O} : putAll (.sl i :: ps) (o :: os) ρ = (putAll ps os ρ).set i (some o) := rfl
@[simp] theorem e_putAll2 {x : D} {ps : List Pl} {o : O} {os : List O} : putAll (.v x :: ps) (o :: os) ρ = putAll ps os ρ := rfl
@[simp] theorem e_slots0 : slots [] = [] := rfl
@[simp] theorem e_slots1 {i : Nat} {ps : List Pl} : slots (.sl i :: ps) = i :: slots ps := rfl
@[simp] theorem e_slots2 {x : D} {ps : List Pl} : slots (.v x :: ps) = slots ps := rfl
@[simp] theorem e_chk0 {io : List Nat} {k : Nat} : chk io k [] = true := rfl
@[simp] theorem e_chk1 {io : List Nat} {k : Nat} {o : O} {os : List O} : chk io k (o :: os) = ((isV o || io.contains k) && chk io (k + 1) os) := rfl
@[simp] theorem e_isV {d : D} : isV (.c (.val d)) = true := rfl
@[simp] theorem e_fin0 {io : List Nat} {k : Nat} : fin io ρ k [] = some [] := rfl
@[simp] theorem e_fin1 {io : List Nat} {k : Nat} {o : O} {os : List O} : fin io ρ k (o :: os) = match (if io.contains k then (match ρ[k]? with | some (some o') => some o' | _ => none) else some o), fin io ρ (k + 1) os with
  | some a, some r => some (a :: r)
  | _, _ => none := rfl
@[simp] theorem e_body1 {io : List Nat} {os : List O} : bodyF io os (.nx ρ) = match fin io ρ 0 os with | some os' => .ok (.v .non) os' | none => .stuck := rfl
@[simp] theorem e_body2 {io : List Nat} {os : List O} {o : O} : bodyF io os (.ret o ρ) = match fin io ρ 0 os with | some os' => .ok o os' | none => .stuck := rfl
@[simp] theorem e_body3 {io : List Nat} {os : List O} {e : Exn} : bodyF io os (.ex e ρ) = match fin io ρ 0 os with | some os' => .ex e os' | none => .stuck := rfl
@[simp] theorem e_body4 {io : List Nat} {os : List O} : bodyF io os .stuck = .stuck := rfl
@[simp] theorem e_start {N : List Str} {os : List O} : startE N os = os.map some ++ List.replicate (N.length - os.length) none := rfl
@[simp] theorem e_noEx {f : FE α} : noEx f ρ = match f ρ with | .ex _ _ => .stuck | r => r := rfl
@[simp] theorem e_yes : yesF ρ = .ok true ρ := rfl
end
/-! ### values -/
@[simp] theorem v_ii {f : Int → Int → Int} {i j : Int} : iiD f (.int i) (.int j) = some (.int (f i j)) := rfl
@[simp] theorem v_iic {C : Int → Int → Prop} [∀ i j, Decidable (C i j)] {f : Int → Int → Int} {i j : Int} : iicD C f (.int i) (.int j) = if C i j then some (.int (f i j)) else none := rfl
@[simp] theorem v_ib {f : Int → Int → Bool} {i j : Int} : ibD f (.int i) (.int j) = some (.bl (f i j)) := rfl
@[simp] theorem v_i {f : Int → Int} {i : Int} : iD f (.int i) = some (.int (f i)) := rfl
@[simp] theorem v_plusI {i j : Int} : plusD (.int i) (.int j) = some (.int (i + j)) := rfl
@[simp] theorem v_plusS {i j : Str} : plusD (.str i) (.str j) = if i.length + j.length ≤ sizeLine then some (.str (i ++ j)) else none := id rfl
@[simp] theorem v_plusT {i j : List D} : plusD (.tup i) (.tup j) = if i.length + j.length ≤ sizeLine then some (.tup (i ++ j)) else none := id rfl
@[simp] theorem v_isB {n a b : Bool} : isBD n (.bl a) (.bl b) = some (.bl (if n then !decide (a = b) else decide (a = b))) := rfl
@[simp] theorem v_ixL {xs : List D} {i : Int} : ixD (.lst xs) (.int i) = L2.atI xs i := rfl
@[simp] theorem v_ixl {xs : List D} {i : Int} : ixD (.val (.lst xs)) (.int i) = L2.atI xs i := rfl
@[simp] theorem v_ixt {xs : List D} {i : Int} : ixD (.val (.tup xs)) (.int i) = L2.atI xs i := rfl
@[simp] theorem v_int1 {i : Int} : intD (.val (.int i)) = some (.int i) := rfl
@[simp] theorem v_int2 {b : Bool} : intD (.val (.bl b)) = some (.int (if b then 1 else 0)) := rfl
@[simp] theorem v_abs {i : Int} : absD (.val (.int i)) = some (.int (if i < 0 then -i else i)) := rfl
@[simp] theorem v_lenL {xs : List D} : lenD (.lst xs) = some (.int xs.length) := rfl
@[simp] theorem v_lenl {xs : List D} : lenD (.val (.lst xs)) = some (.int xs.length) := rfl
@[simp] theorem v_lent {xs : List D} : lenD (.val (.tup xs)) = some (.int xs.length) := rfl
@[simp] theorem v_gcd {i j : Int} : gcdD [.int i, .int j] = some (.int (Nat.gcd i.natAbs j.natAbs : Nat)) := rfl
@[simp] theorem v_tupl {xs : List D} : tupleD (.val (.lst xs)) = some (.tup xs) := rfl
@[simp] theorem v_tupL {xs : List D} : tupleD (.lst xs) = some (.tup xs) := rfl
@[simp] theorem v_tupt {xs : List D} : tupleD (.val (.tup xs)) = some (.tup xs) := rfl
@[simp] theorem v_slL {xs : List D} {lo hi : Option Int} : slD (.lst xs) lo hi = some (.lst (cutL xs lo hi)) := rfl
@[simp] theorem v_sll {xs : List D} {lo hi : Option Int} : slD (.val (.lst xs)) lo hi = some (.lst (cutL xs lo hi)) := rfl
@[simp] theorem v_slt {xs : List D} {lo hi : Option Int} : slD (.val (.tup xs)) lo hi = some (.tup (cutL xs lo hi)) := rfl
@[simp] theorem v_lst1 {xs : List D} : C1.lst? (.lst xs) = some xs := rfl
@[simp] theorem v_lst2 {xs : List D} : C1.lst? (.val (.lst xs)) = some xs := rfl
@[simp] theorem v_seq1 {xs : List D} : C1.seq? (.lst xs) = some xs := rfl
@[simp] theorem v_seq2 {xs : List D} : C1.seq? (.val (.lst xs)) = some xs := rfl
@[simp] theorem v_seq3 {xs : List D} : C1.seq? (.val (.tup xs)) = some xs := rfl
@[simp] theorem v_isN1 {n : Bool} : isNoneD n (.val .non) = some (.bl (!n)) := rfl
@[simp] theorem v_isN2 {n : Bool} {i : Int} : isNoneD n (.val (.int i)) = some (.bl n) := rfl
@[simp] theorem v_isN3 {n : Bool} {i : List D} : isNoneD n (.val (.tup i)) = some (.bl n) := rfl
@[simp] theorem v_isN4 {n : Bool} {i : List D} : isNoneD n (.val (.lst i)) = some (.bl n) := rfl
@[simp] theorem v_isN5 {n : Bool} {i : Str} : isNoneD n (.val (.str i)) = some (.bl n) := rfl
@[simp] theorem v_isi {T : String} {c : C1} : isiD T c = match tyN c with | some t => some (.bl (if T = "int" then decide (t = "int" ∨ t = "bool") else decide (t = T))) | none => none := rfl
@[simp] theorem v_ty1 : tyN (.val .non) = some "NoneType" := rfl
@[simp] theorem v_ty2 {b : Bool} : tyN (.val (.bl b)) = some "bool" := rfl
@[simp] theorem v_ty3 {i : Int} : tyN (.val (.int i)) = some "int" := rfl
@[simp] theorem v_ty4 {i : Str} : tyN (.val (.str i)) = some "str" := rfl
@[simp] theorem v_ty5 {i : List D} : tyN (.val (.tup i)) = some "tuple" := rfl
@[simp] theorem v_ty6 {i : List D} : tyN (.val (.lst i)) = some "list" := rfl
@[simp] theorem v_ty7 {i} : tyN (.val (.dk i)) = none := rfl
@[simp] theorem v_ty8 {i} : tyN (.val (.dt i)) = none := rfl
@[simp] theorem v_all {xs : List D} : allD (.val (.lst xs)) = (xs.mapM unbl).map fun bs => .bl (bs.all id) := rfl
@[simp] theorem v_allL {xs : List D} : allD (.lst xs) = (xs.mapM unbl).map fun bs => .bl (bs.all id) := rfl
@[simp] theorem v_atI0 {α : Type} {x : α} {xs : List α} : L2.atI (x :: xs) 0 = some x := by
  unfold L2.atI L2.ixN
  rw [if_pos (Int.le_refl 0), if_pos (by simp)]
  rfl
theorem v_atI {α : Type} {xs : List α} {i : Int} {n : Nat} (h : i = n) (hn : n < xs.length) : L2.atI xs i = xs[n]? := by
  subst h
  unfold L2.atI L2.ixN
  rw [if_pos (by omega), if_pos (by omega)]
  rfl
@[simp] theorem v_atI1 {α : Type} {x y : α} {xs : List α} : L2.atI (x :: y :: xs) 1 = some y := v_atI (n := 1) rfl (by simp)
@[simp] theorem v_atI2 {α : Type} {x y z : α} {xs : List α} : L2.atI (x :: y :: z :: xs) 2 = some z := v_atI (n := 2) rfl (by simp)
@[simp] theorem v_atI3 {α : Type} {x y z w : α} {xs : List α} : L2.atI (x :: y :: z :: w :: xs) 3 = some w := v_atI (n := 3) rfl (by simp)
theorem v_ixN {n : Nat} {i : Int} (h0 : 0 ≤ i) (hn : i < n) : L2.ixN n i = some i.toNat := by
  unfold L2.ixN
  rw [if_pos h0, if_pos hn]
/-! ### == -/
theorem v_eq {n : Bool} {a b : D} (ha : SeqAt.shaped (toPy a) = true) (hb : SeqAt.shaped (toPy b) = true) : eqD n a b = some (.bl (if n then !eqB a b else eqB a b)) := by
  unfold eqD
  rw [if_pos ⟨ha, hb⟩]
@[simp] theorem v_eqII {n : Bool} {i j : Int} : eqD n (.int i) (.int j) = some (.bl (if n then !decide (i = j) else decide (i = j))) := by
  rw [v_eq rfl rfl]
  simp [eqB, toPy, PyData.eqv, Bool.beq_eq_decide_eq]
/-! ### sizes of written numbers -/
@[simp] theorem powC_iff {i j : Int} : PowC i j ↔ 0 ≤ j ∧ j ≤ 1000000 ∧ i.natAbs < 2 ^ 64 := Iff.rfl
@[simp] theorem modC_iff {i j : Int} : ModC i j ↔ j ≠ 0 := Iff.rfl
@[simp] theorem mulC_r {i j : Int} (h : j.natAbs < 2 ^ 62) : MulC i j := .inr (.inr h)
@[simp] theorem mulC_l {i j : Int} (h : i.natAbs < 2 ^ 62) : MulC i j := .inr (.inl h)
theorem divC_of {i j : Int} (h0 : j ≠ 0) (h : j.natAbs < 2 ^ 8999) : DivC i j := ⟨h0, by
  have := (Nat.log2_lt (show j.natAbs ≠ 0 by omega)).mpr h
  omega⟩
theorem divC_s {i j : Int} (h0 : 0 < j) (h : j < 2 ^ 62) : DivC i j := divC_of (by omega) (Nat.lt_of_lt_of_le (show j.natAbs < 2 ^ 62 by omega) (Nat.pow_le_pow_right (by decide) (by decide)))
/-! ### comprehensions -/
theorem comp_map {vs : List Nat} {g : FG} {ft : FE Bool} {fe : FE D} (f : D → D) {ρ : Env} : ∀ ds : List D, (∀ d ∈ ds, ∃ ρ1 ρ2, g d (wipeE ρ vs) = some ρ1 ∧ ft ρ1 = .ok true ρ1 ∧ fe ρ1 = .ok (f d) ρ2 ∧ restE ρ ρ2 vs = ρ) →
    compGo vs g (noEx ft) (noEx fe) ds ρ = .ok (ds.map f) ρ
  | [], _ => rfl
  | d :: ds, h => by
    obtain ⟨ρ1, ρ2, h1, h2, h3, h4⟩ := h d List.mem_cons_self
    unfold compGo
    rw [h1]
    simp only [e_noEx, h2, e_bind_ok, if_true, h3, h4, comp_map f ds fun x hx => h x (List.mem_cons_of_mem _ hx), List.map_cons]
theorem cut_to {α : Type} {xs : List α} {n : Nat} (h : xs.length ≤ n) : cutL xs none (some (n : Int)) = xs := by
  unfold cutL
  rw [show HT.sIx xs.length 0 none = 0 from HT.sIx_none _ _, show HT.sIx xs.length xs.length (some (n : Int)) = min n xs.length from HT.sIx_nat _ _ _, Nat.min_eq_right h]
  simp
theorem cut_tail {α : Type} {x : α} {xs : List α} : cutL (x :: xs) (some 1) none = xs := by
  unfold cutL
  rw [show HT.sIx (x :: xs).length 0 (some 1) = min 1 (x :: xs).length from HT.sIx_nat _ _ 1, show HT.sIx (x :: xs).length (x :: xs).length none = (x :: xs).length from HT.sIx_none _ _]
  rw [show min 1 (x :: xs).length = 1 by rw [List.length_cons]; omega]
  simp
@[simp] theorem v_eqNN {n : Bool} : eqD n (.lst []) (.lst []) = some (.bl (if n then false else true)) := by
  rw [v_eq (a := .lst []) (b := .lst []) rfl rfl]
  cases n <;> rfl
@[simp] theorem toPyL_ints (ns : List Int) : toPyL (ns.map D.int) = ns.map PyData.int := by
  induction ns with
  | nil => rfl
  | cons n ns ih => rw [List.map_cons, toPyL, ih]; rfl
theorem shaped_ints (ns : List Int) : SeqAt.shaped (toPy (.lst (ns.map .int))) = true := by
  have h1 : ∀ ns : List Int, PyData.canLayAll0 (ns.map PyData.int) = true := fun ns => by
    induction ns with
    | nil => rfl
    | cons n ns ih => rw [List.map_cons]; simp only [PyData.canLayAll0, ih, PyData.canLay0, Bool.and_self]
  have h2 : ∀ ns : List Int, PyData.depthAll (ns.map PyData.int) = 0 := fun ns => by
    induction ns with
    | nil => rfl
    | cons n ns ih => rw [List.map_cons]; simp [PyData.depthAll, ih, PyData.depth]
  unfold SeqAt.shaped toPy
  rw [toPyL_ints]
  simp only [PyData.canLay0, h1, PyData.depth, h2]
  rfl
theorem v_eqNil {n : Bool} {ns : List Int} : eqD n (.lst (ns.map .int)) (.lst []) = some (.bl (if n then !ns.isEmpty else ns.isEmpty)) := by
  rw [v_eq (b := .lst []) (shaped_ints ns) rfl]
  cases ns <;> cases n <;> rfl
/-! ### loops, a turn at a time -/
theorem while_step {c : FE Bool} {b : FS} {ρ ρ1 ρ2 : Env} (ht : c ρ = .ok true ρ1) (hb : b ρ1 = .nx ρ2) : whileF c b ρ = whileF c b ρ2 := by
  rw [whileF_unfold, ht]
  simp only [e_bindS_ok, if_true, hb]
theorem while_done {c : FE Bool} {b : FS} {ρ ρ1 : Env} (ht : c ρ = .ok false ρ1) : whileF c b ρ = .nx ρ1 := by
  rw [whileF_unfold, ht]
  simp only [e_bindS_ok, Bool.false_eq_true, if_false]
theorem while_ret {c : FE Bool} {b : FS} {ρ ρ1 ρ2 : Env} {o : O} (ht : c ρ = .ok true ρ1) (hb : b ρ1 = .ret o ρ2) : whileF c b ρ = .ret o ρ2 := by
  rw [whileF_unfold, ht]
  simp only [e_bindS_ok, if_true, hb]
theorem for_nil {g : FG} {b : FS} {ρ : Env} : forF g b [] ρ = .nx ρ := rfl
theorem for_step {g : FG} {b : FS} {d : D} {ds : List D} {ρ ρ1 ρ2 : Env} (hg : g d ρ = some ρ1) (hb : b ρ1 = .nx ρ2) : forF g b (d :: ds) ρ = forF g b ds ρ2 := by
  show (match g d ρ with | some ρ => _ | none => _) = _
  rw [hg]
  simp only [hb]
theorem for_ret {g : FG} {b : FS} {d : D} {ds : List D} {ρ ρ1 ρ2 : Env} {o : O} (hg : g d ρ = some ρ1) (hb : b ρ1 = .ret o ρ2) : forF g b (d :: ds) ρ = .ret o ρ2 := by
  show (match g d ρ with | some ρ => _ | none => _) = _
  rw [hg]
  simp only [hb]
/-- over a range, by an invariant of the turn -/
theorem for_range_inv {g : FG} {b : FS} (I : Nat → Env → Prop) {lo : Int} {n : Nat} (step : ∀ i ρ, i < n → I i ρ → ∃ ρ1 ρ2, g (.int (lo + i)) ρ = some ρ1 ∧ b ρ1 = .nx ρ2 ∧ I (i + 1) ρ2) {ρ : Env} (h0 : I 0 ρ) :
    ∃ ρ', forF g b (rangeL lo n) ρ = .nx ρ' ∧ I n ρ' := by
  have key : ∀ (m i : Nat) (ρ : Env), i + m = n → I i ρ → ∃ ρ', forF g b (((List.range' i m)).map fun (k : Nat) => D.int (lo + (k : Int))) ρ = .nx ρ' ∧ I n ρ' := by
    intro m
    induction m with
    | zero =>
      intro i ρ e h
      have : i = n := by omega
      subst this
      exact ⟨ρ, rfl, h⟩
    | succ m ih =>
      intro i ρ e h
      obtain ⟨ρ1, ρ2, h1, h2, h3⟩ := step i ρ (by omega) h
      obtain ⟨ρ', h4, h5⟩ := ih (i + 1) ρ2 (by omega) h3
      refine ⟨ρ', ?_, h5⟩
      rw [List.range'_succ, List.map_cons, for_step h1 h2, h4]
  unfold rangeL
  rw [List.range_eq_range']
  exact key n 0 ρ (by omega) h0
/-- over any list, by an invariant of what is taken -/
theorem for_inv {g : FG} {b : FS} (I : List D → Env → Prop) : ∀ (ds pre : List D) (ρ : Env), I pre ρ → (∀ pre d ρ, I pre ρ → ∃ ρ1 ρ2, g d ρ = some ρ1 ∧ b ρ1 = .nx ρ2 ∧ I (pre ++ [d]) ρ2) → ∃ ρ', forF g b ds ρ = .nx ρ' ∧ I (pre ++ ds) ρ'
  | [], pre, ρ, h, _ => ⟨ρ, rfl, by rwa [List.append_nil]⟩
  | d :: ds, pre, ρ, h, step => by
    obtain ⟨ρ1, ρ2, h1, h2, h3⟩ := step pre d ρ h
    obtain ⟨ρ', h4, h5⟩ := for_inv I ds (pre ++ [d]) ρ2 h3 step
    refine ⟨ρ', by rw [for_step h1 h2, h4], ?_⟩
    rwa [List.append_assoc] at h5
end Fx

set_option Elab.async false
set_option linter.all false
set_option maxRecDepth 100000
set_option maxHeartbeats 1000000
/-! Fx15: raise of own classes, try with several clauses. -/
namespace Fx
open PySem L2

/-- an own exception class without __init__ over ValueError -/
structure ExC (K : PySem.W.Frag) (mg : Str → Option Value) (x : Str) (C : Addr) : Prop where
  m : mg x = some (.ref C)
  e : PySem.W.excIn K C [.type "ValueError", .type "Exception", .type "BaseException", .type "object"] "ValueError.__new__" = true
  k : PySem.W.keepIn K (.ref C) = true
  b : PySem.W.subIn K (.ref C) (.type "BaseException") = some true
  t : PySem.W.typeIn K (.ref C) = some (.type "type")
  d : PySem.W.isClsIn K C = true
/-- an own exception class in an except clause -/
structure ExH (K : PySem.W.Frag) (mg : Str → Option Value) (x : Str) (C : Addr) : Prop where
  m : mg x = some (.ref C)
  b : PySem.W.subIn K (.ref C) (.type "BaseException") = some true
  t : PySem.W.typeIn K (.ref C) = some (.type "type")
  d : PySem.W.isClsIn K C = true
theorem ExC.h {K : PySem.W.Frag} {mg : Str → Option Value} {x : Str} {C : Addr} (c : ExC K mg x C) : ExH K mg x C := ⟨c.m, c.b, c.t, c.d⟩
theorem ExH.exm {K : PySem.W.Frag} {mg : Str → Option Value} {x : Str} {C : Addr} (h : ExH K mg x C) {cls : Value} {b : Bool} (h4 : PySem.W.subIn K cls (.ref C) = some b) : PySem.W.exmOne K cls (.ref C) = some b := by
  have e1 : (PySem.W.subIn K (.ref C) (.type "BaseException") == some true) = true := by rw [h.b] <;> rfl
  have e2 : ((PySem.W.clsIn K C).isSome && PySem.W.typeIn K (.ref C) == some (.type "type")) = true := by
    have h2' : (PySem.W.clsIn K C).isSome = true := h.d
    rw [h2', h.t] <;> rfl
  show (if (PySem.W.subIn K (.ref C) (.type "BaseException") == some true) = true then (if ((PySem.W.clsIn K C).isSome && PySem.W.typeIn K (.ref C) == some (.type "type")) = true then PySem.W.subIn K cls (.ref C) else none) else none) = some b
  rw [if_pos e1, if_pos e2]
  exact h4
/-- which classes are below C -/
inductive TblOk (K : PySem.W.Frag) (mg : Str → Option Value) (C : Addr) : List (Str × Bool) → Prop
  | nil : TblOk K mg C []
  | cons {c : Str} {A : Addr} {b : Bool} {r : List (Str × Bool)} : mg c = some (.ref A) → PySem.W.subIn K (.ref A) (.ref C) = some b → TblOk K mg C r → TblOk K mg C ((c, b) :: r)
theorem TblOk.get {K : PySem.W.Frag} {mg : Str → Option Value} {C : Addr} {c : Str} {cv : Value} {b : Bool} (hm : mg c = some cv) : ∀ {t : List (Str × Bool)}, TblOk K mg C t → t.lookup c = some b → PySem.W.subIn K cv (.ref C) = some b
  | _, .nil, h => by cases h
  | _, .cons (c := c') h1 h2 r, h => by
    rw [List.lookup_cons] at h
    by_cases e : c = c'
    · subst e
      rw [beq_self_eq_true] at h
      cases h
      rw [hm] at h1
      cases h1
      exact h2
    · rw [beq_eq_false_iff_ne.mpr e] at h
      exact r.get hm h
def raiseF (c : Str) : FS := fun ρ => .ex ⟨c, []⟩ ρ
def handF : List (List (Str × Bool) × FS) → Exn → Env → RS
  | [], e, ρ => .ex e ρ
  | (t, g) :: r, e, ρ => match t.lookup e.cls with
    | some true => (match g ρ with
      | .ex _ _ => .stuck
      | u => u)
    | some false => handF r e ρ
    | none => .stuck
def tryF (f : FS) (hs : List (List (Str × Bool) × FS)) : FS := fun ρ => match f ρ with
  | .ex e ρ' => handF hs e ρ'
  | r => r

inductive HsOk (X : Cx) (io : List Nat) : List ExceptHandler → List (List (Str × Bool) × FS) → List (Value × (Addr → Value → Option Addr → TS)) → Prop
  | nil : HsOk X io [] [] []
  | cons {x : Str} {C : Addr} {t : List (Str × Bool)} {g : FS} {b₀ : Stmt} {suite : List Stmt} {np pos' : Pos} {hds : List ExceptHandler} {gs l} (hg : Gl X x) (hC : ExH X.K X.mg x C) (ht : TblOk X.K X.mg C t)
      (hsu : ∀ (a : Addr) (oe : Obj) (pn : List (Addr × Obj)), OkSs (X.suite a ((a, oe) :: pn)) W0 io (b₀ :: suite) g) (r : HsOk X io hds gs l) (hdb : (x == ("__debug__" : Str)) = false := by decide) :
      HsOk X io (.ExceptHandler (some (.Name x np)) none (b₀ :: suite) pos' :: hds) ((t, g) :: gs) ((.ref C, fun _ _ _ => tS X.K X.mg W0 io g) :: l)
section
variable {X : Cx} {W : WX} {io : List Nat} {pos : Pos}
theorem ok_raise {x m : Str} {j} {C : Addr} {p p2 p3 : Pos} (hc : X.calm = true) (tk : Takes X W) (hC : ExC X.K X.mg x C) (hg : Gl X x) (hdb : (x == ("__debug__" : Str)) = false := by decide) :
    OkS X W io (.Raise (some (.Call (.Name x p) [.Constant (.str m) j p2] [] p3)) none pos) (raiseF x) :=
  (ps_raise hc tk (pmk_own PySem.F.excBase_ValueError hC.e hC.m hC.k (raises_own hC.b hC.t) hg hdb)).to fun Dn σ H h => by
    obtain ⟨G, ρ, F, rl, p⟩ := h
    exact p _ none σ G H F rl .refl (fun _ _ => rfl) ⟨hC.m, .inl ⟨rfl, rfl⟩⟩
theorem HsOk.hds {hds : List ExceptHandler} {gs l} (h : HsOk X io hds gs l) : HdsOk X hds l := by
  induction h with
  | nil => exact .nil
  | cons hg hC ht hsu r hdb ih => exact .cons ⟨hg, hdb, .inl hC.m⟩ (fun a oe cls d pn _ _ => hsu a oe pn) ih
theorem handF_post {K : PySem.W.Frag} {mg : Str → Option Value} {hds : List ExceptHandler} {gs l} (h : HsOk X io hds gs l) {σ σ1 : L2.St} {F F1 : Fp} {G H G1 H1 : Hp} {Dn : Ends} {e : Exn} {ρ' : Fx.Env} {cv : Value} {d : Option Addr}
    (p : PostS X.K X.mg W io σ F G H Dn (handF gs e ρ')) (rl : Rel X.K X.mg G1 H1 σ1 ρ' F1) (st : Stp F G H G1 H1 F1) (hσ : ∀ i ∈ io, σ1[i]? = σ[i]?) (x : XOk X.K X.mg G1 H1 e cv d) : wMany X.K W Dn l cv d σ1 H1 := by
  induction h with
  | nil => exact p cv d σ1 G1 H1 F1 rl st hσ x
  | @cons x' C t g b₀ suite np pos' hds gs l hg hC ht hsu r hdb ih =>
    unfold handF at p
    cases hl : t.lookup e.cls with
    | none => rw [hl] at p; exact p.elim
    | some b =>
      rw [hl] at p
      refine ⟨b, hC.exm (ht.get x.1 hl), fun e' => ?_, fun e' => ?_⟩
      · subst e'
        intro a _
        refine ⟨G1, ρ', F1, rl, ?_⟩
        have p1 := PostS.after st hσ p
        cases hgr : g ρ' with
        | ex e2 ρ2 => simp only [hgr] at p; exact p.elim
        | nx ρ2 => simp only [hgr] at p1; exact p1
        | ret o ρ2 => simp only [hgr] at p1; exact p1
        | br ρ2 => simp only [hgr] at p1; exact p1
        | ct ρ2 => simp only [hgr] at p1; exact p1
        | stuck => simp only [hgr] at p; exact p.elim
      · subst e'
        exact ih p
theorem ok_try {body : List Stmt} {f : FS} {hds : List ExceptHandler} {h₀ : ExceptHandler} {gs l} (hs : X.stack = X.env :: X.outer) (hf : X.env.frame = some X.env.locals) (tk : Takes X W)
    (hb : ∀ (W' : WX) (pn : List (Addr × Obj)) (xe : Value → Shared → Prop), Takes (X.tr pn xe) W' → PassesOwn (model X.prog X.w) X.A X.env xe → OkSs (X.tr pn xe) W' io body f) (hh : HsOk X io (h₀ :: hds) gs l) :
    OkS X W io (.Try body (h₀ :: hds) [] [] pos) (tryF f gs) :=
  (ps_try_many (tb := fun W' => tS X.K X.mg W' io f) hs hf tk hb hh.hds).to fun Dn σ H h => by
    obtain ⟨G, ρ, F, rl, p⟩ := h
    refine ⟨G, ρ, F, rl, ?_⟩
    unfold tryF at p
    cases hr : f ρ with
    | ex e ρ' =>
      rw [hr] at p
      intro cv d σ' G' H' F' rl' st hσ x
      exact handF_post (K := X.K) (mg := X.mg) hh p rl' st hσ x
    | nx ρ' => rw [hr] at p; exact p
    | ret o ρ' => rw [hr] at p; exact p
    | br ρ' => rw [hr] at p; exact p
    | ct ρ' => rw [hr] at p; exact p
    | stuck => rw [hr] at p; exact p
end
end Fx

set_option Elab.async false
set_option linter.all false
set_option maxRecDepth 100000
set_option maxHeartbeats 1000000
/-! Fx16: try .. except X as e: y = isinstance(e, ValueError). -/
namespace Fx
open PySem L2
/-! ### try .. except X as e: y = isinstance(e, ValueError) -/
structure ExV (K : PySem.W.Frag) (D : Addr) : Prop where
  x : ExcC K D
  v : PySem.W.kitOne K (.ref D) (.type "ValueError") = some true
inductive TblV (K : PySem.W.Frag) (mg : Str → Option Value) : List (Str × Bool) → Prop
  | nil : TblV K mg []
  | yes {c : Str} {A : Addr} {r : List (Str × Bool)} : mg c = some (.ref A) → ExV K A → TblV K mg r → TblV K mg ((c, true) :: r)
  | no {c : Str} {r : List (Str × Bool)} : TblV K mg r → TblV K mg ((c, false) :: r)
theorem TblV.get {K : PySem.W.Frag} {mg : Str → Option Value} {c : Str} {cv : Value} (hm : mg c = some cv) : ∀ {t : List (Str × Bool)}, TblV K mg t → t.lookup c = some true → ∃ A, cv = .ref A ∧ ExV K A
  | _, .nil, h => by cases h
  | _, .yes (c := c') h1 h2 r, h => by
    rw [List.lookup_cons] at h
    by_cases e : c = c'
    · subst e
      rw [hm] at h1
      cases h1
      exact ⟨_, rfl, h2⟩
    · rw [beq_eq_false_iff_ne.mpr e] at h
      exact r.get hm h
  | _, .no (c := c') r, h => by
    rw [List.lookup_cons] at h
    by_cases e : c = c'
    · subst e
      rw [beq_self_eq_true] at h
      cases h
    · rw [beq_eq_false_iff_ne.mpr e] at h
      exact r.get hm h
def tryIsF (f : FS) (t : List (Str × Bool)) (i j : Nat) : FS := fun ρ => match f ρ with
  | .ex e ρ' => match t.lookup e.cls, e.fs, ρ'[i]? with
    | some true, [], some none => .nx (ρ'.set j (some (.v (.bl true))))
    | some false, _, _ => .ex e ρ'
    | _, _, _ => .stuck
  | r => r
theorem Rel.hide {K : PySem.W.Frag} {mg : Str → Option Value} {G H : Hp} {σ : L2.St} {ρ : Env} {F : Fp} (r : Rel K mg G H σ ρ F) (i : Nat) (w : Option V) (h : ρ[i]? = some none) : Rel K mg G H (σ.set i w) ρ F where
  len := by rw [List.length_set]; exact r.len
  ok := fun j o e => by
    have hj : j ≠ i := fun q => by subst q; rw [h] at e; cases e
    obtain ⟨v, e1, e2⟩ := r.ok j o e
    exact ⟨v, by rw [List.getElem?_set_ne (Ne.symm hj)]; exact e1, e2⟩
  dis := r.dis
  out := r.out
  non := r.non
  sub := r.sub
section
variable {X : Cx} {W : WX} {io : List Nat} {pos : Pos}
theorem ok_tryIs {body : List Stmt} {f : FS} {x n y : Str} {C : Addr} {t : List (Str × Bool)} {i j : Nat} {np pos' p p1 p2 p3 p4 py : Pos} (hs : X.stack = X.env :: X.outer) (hf : X.env.frame = some X.env.locals) (tk : Takes X W)
    (hN : X.N.Nodup) (hi : X.N[i]? = some n) (hln : X.env.kindOf n = some .local) (hvi : Vis X.env.scope n) (hj : X.N[j]? = some y) (hy : Loc X.env.scope y) (hij : i ≠ j) (hio : (io.contains i) = false) (hio2 : (io.contains j) = false)
    (hg : Gl X x) (hC : ExH X.K X.mg x C) (ht : TblOk X.K X.mg C t) (hv : TblV X.K X.mg t) (gi : Gl X "isinstance") (mi : X.mg "isinstance" = none) (gv : Gl X "ValueError") (mv : X.mg "ValueError" = none)
    (hfn : X.fn y = true ∨ X.env.scope.names.lookup y = some .local) (hst : starEach [.Name n p1, .Name "ValueError" p2] X.env = (false, eval (.Name n p1) X.env) :: starEach [.Name "ValueError" p2] X.env)
    (hsw : swapsWith (.Call (.Name "isinstance" p) [.Name n p1, .Name "ValueError" p2] [] p3) (some (.Name y py)) p4.line X.env = pure false)
    (hb : ∀ (W' : WX) (pn : List (Addr × Obj)) (xe : Value → Shared → Prop), Takes (X.tr pn xe) W' → PassesOwn (model X.prog X.w) X.A X.env xe → OkSs (X.tr pn xe) W' io body f)
    (hdb : (x == ("__debug__" : Str)) = false := by decide) (hd : (n == ("__debug__" : Str)) = false := by decide) (hcd : (n == ("__classdict__" : Str)) = false := by decide) :
    OkS X W io (.Try body [.ExceptHandler (some (.Name x np)) (some n) [.Assign [.Name y py] (.Call (.Name "isinstance" p) [.Name n p1, .Name "ValueError" p2] [] p3) p4] pos'] [] [] pos) (tryIsF f t i j) :=
  (ps_try_as (i := i) (tb := fun W' => tS X.K X.mg W' io f) (ts := fun a cls d => fun Dn σ H => (∃ D, cls = .ref D ∧ d = none ∧ ExV X.K D ∧ σ[i]? = some (some (.ref a))) ∧ Dn.nx (σ.set j (some (.bl true))) H) hs hf hN hi hln ⟨hg, hdb, .inl hC.m⟩ tk hb (fun a oe cls d pn hz hfd => ⟨fun pins s σ H Dn I h => by
      obtain ⟨⟨D, rfl, rfl, hx, hσ⟩, q⟩ := h
      refine (pss_one (ps_set (X := X.suite a ((a, oe) :: pn)) (i := j) hN hj hy (pe_callB (call_isE hx.x hz hfd) gi mi (by decide +kernel) (pa_cons (pe_var (i := i) hi hvi hd hcd) (pa_cons (pe_bltn (v := .ty "ValueError") gv mv (by decide +kernel) rfl) pa_nil) hst) (by decide) (by decide) hst rfl) hsw hfn)).run pins s σ H Dn I ?_
      exact ⟨_, hσ, .ty "ValueError", .type "ValueError", true, rfl, fun u r => r, hx.v, q⟩⟩)).to fun Dn σ H h => by
    obtain ⟨G, ρ, F, rl, p⟩ := h
    refine ⟨G, ρ, F, rl, ?_⟩
    unfold tryIsF at p
    cases hr : f ρ with
    | ex e ρ' =>
      rw [hr] at p
      intro cv d σ' G' H' F' rl' st hσ x
      dsimp only at p
      split at p
      · rename_i e1 e2 e3
        refine ⟨true, hC.exm (ht.get x.1 e1), fun _ a na => ?_, fun z => nomatch z⟩
        obtain ⟨A, rfl, hx⟩ := hv.get x.1 e1
        have hl : i < σ'.length := by rw [rl'.len]; exact (List.getElem?_eq_some_iff.mp e3).1
        refine ⟨⟨A, rfl, ?_, hx, List.getElem?_set_self hl⟩, ?_⟩
        · rcases x.2 with ⟨_, h⟩ | ⟨_, _, h, _⟩
          · exact h
          · exact absurd e2 h
        · have r1 := (rl'.hide i (some (.ref a)) e3).set j (v := .bl true) (o := .v (.bl true)) (S := fun _ => False) (.c (.val (.bl true))) fun _ z => z.elim
          have r2 := r1.hide i none (by rw [List.getElem?_set_ne (Ne.symm hij)]; exact e3)
          refine p _ G' H' _ r2 (st.set fun _ z => z.elim) fun k hk => ?_
          have k1 : k ≠ i := fun e => by subst e; rw [List.contains_iff_mem.mpr hk] at hio; cases hio
          have k2 : k ≠ j := fun e => by subst e; rw [List.contains_iff_mem.mpr hk] at hio2; cases hio2
          rw [List.getElem?_set_ne (Ne.symm k1), List.getElem?_set_ne (Ne.symm k2), List.getElem?_set_ne (Ne.symm k1)]
          exact hσ k hk
      · skip
        exact ⟨false, hC.exm (ht.get x.1 (by assumption)), (fun z => nomatch z), fun _ => p cv d σ' G' H' F' rl' st hσ x⟩
      · exact p.elim
    | nx ρ' => rw [hr] at p; exact p
    | ret o ρ' => rw [hr] at p; exact p
    | br ρ' => rw [hr] at p; exact p
    | ct ρ' => rw [hr] at p; exact p
    | stuck => rw [hr] at p; exact p
end
theorem kit_VE {K : PySem.W.Frag} {C : Addr} (h : PySem.W.subIn K (.ref C) (.type "ValueError") = some true) : PySem.W.kitOne K (.ref C) (.type "ValueError") = some true := by
  unfold PySem.W.kitOne
  rw [if_neg (by intro e; cases beq_iff_eq.mp e)]
  unfold PySem.W.kitCls
  dsimp only
  rw [if_pos (by decide +kernel)]
  exact h
end Fx

set_option Elab.async false
set_option linter.all false
set_option maxRecDepth 100000
set_option maxHeartbeats 4000000

namespace Pg
open PySem Fx
noncomputable section
def c_ONE : D := (.tup [(.int 1), (.int 1)])
def fs_is_int : FS :=
  (retF (andVF (b1F (isiD "int") (bS 0)) (notVF (b1F (isiD "bool") (bS 0)))))
def p_is_int (os : List O) : RF := bodyF [] os (fs_is_int (startE ["thing"] os))
def fs_is_row : FS :=
  (retF (andVF (b1F (isiD "tuple") (bS 0)) (chainF (ibD fun i j => decide (i ≤ j)) (ibD fun i j => decide (i ≤ j)) (varF 1) (b1F lenD (bS 0)) (varF 2))))
def p_is_row (os : List O) : RF := bodyF [] os (fs_is_row (startE ["thing", "least", "most"] os))
def fs_is_ratio : FS :=
  (seqF (ifSF (orF (notF (testF (frzF (callF [] p_is_row (consA (bS 0) (consA (bD (cF (.int 2))) (consA (bD (cF (.int 2))) nilA))))))) (orF (notF (testF (frzF (callF [] p_is_int (consA (bD (b2F ixD (bS 0) (cF (.int 0)))) nilA))))) (notF (testF (frzF (callF [] p_is_int (consA (bD (b2F ixD (bS 0) (cF (.int 1)))) nilA))))))) (retF (cF (.bl false))) nextF)
  (retF (andVF (op2F (ibD fun i j => decide (j < i)) (b2F ixD (bS 0) (cF (.int 1))) (cF (.int 0))) (op2F (eqD false) (opNF gcdD (consF (b2F ixD (bS 0) (cF (.int 0))) (consF (b2F ixD (bS 0) (cF (.int 1))) nilF))) (cF (.int 1))))))
def p_is_ratio (os : List O) : RF := bodyF [] os (fs_is_ratio (startE ["thing"] os))
def fs_lowest : FS :=
  (seqF (setF 2 (opNF gcdD (consF (varF 0) (consF (varF 1) nilF))))
  (seqF (ifSF (testF (op2F (ibD fun i j => decide (i < j)) (varF 1) (cF (.int 0)))) (setF 2 (op1F (iD fun i => -i) (varF 2))) nextF)
  (retF (tupF (consF (op2F fdivD (varF 0) (varF 2)) (consF (op2F fdivD (varF 1) (varF 2)) nilF))))))
def p_lowest (os : List O) : RF := bodyF [] os (fs_lowest (startE ["top", "bottom", "shared"] os))
def fs_ratio_of : FS :=
  (seqF (ifSF (orF (notF (testF (frzF (callF [] p_is_int (consA (bS 0) nilA))))) (notF (testF (frzF (callF [] p_is_int (consA (bS 1) nilA)))))) (raiseF "BadInteger") nextF)
  (seqF (ifSF (testF (op2F (eqD false) (varF 1) (cF (.int 0)))) (raiseF "ZeroBottom") nextF)
  (retF (frzF (callF [] p_lowest (consA (bS 0) (consA (bS 1) nilA)))))))
def p_ratio_of (os : List O) : RF := bodyF [] os (fs_ratio_of (startE ["top", "bottom"] os))
def k_raised_0t : FE Bool :=
  (testF (op2F (ibD fun i j => decide (j < i)) (varF 1) (cF (.int 0))))
def k_raised_0b : FS :=
  (seqF (ifSF (testF (op2F (eqD false) (op2F fmodD (varF 1) (cF (.int 2))) (cF (.int 1)))) (setF 2 (tupF (consF (op2F mulD (b2F ixD (bS 2) (cF (.int 0))) (b2F ixD (bS 3) (cF (.int 0)))) (consF (op2F mulD (b2F ixD (bS 2) (cF (.int 1))) (b2F ixD (bS 3) (cF (.int 1)))) nilF)))) nextF)
  (seqF (augF fdivD 1 (cF (.int 2)))
  (ifSF (testF (op2F (ibD fun i j => decide (j < i)) (varF 1) (cF (.int 0)))) (setF 3 (tupF (consF (op2F mulD (b2F ixD (bS 3) (cF (.int 0))) (b2F ixD (bS 3) (cF (.int 0)))) (consF (op2F mulD (b2F ixD (bS 3) (cF (.int 1))) (b2F ixD (bS 3) (cF (.int 1)))) nilF)))) nextF)))
def fs_raised : FS :=
  (seqF (par2F 2 3 (consF (cF c_ONE) (consF (varF 0) nilF)))
  (seqF (whileF k_raised_0t k_raised_0b)
  (retF (varF 2))))
def p_raised (os : List O) : RF := bodyF [] os (fs_raised (startE ["r", "k", "found", "square"] os))
def fs_need_ratio : FS :=
  (ifSF (notF (testF (frzF (callF [] p_is_ratio (consA (bS 0) nilA))))) (raiseF "BadRatio") nextF)
def p_need_ratio (os : List O) : RF := bodyF [] os (fs_need_ratio (startE ["r"] os))
def fs_ratio_power : FS :=
  (seqF (dropF (frzF (callF [] p_need_ratio (consA (bS 0) nilA))))
  (seqF (ifSF (orF (notF (testF (frzF (callF [] p_is_int (consA (bS 1) nilA))))) (testF (op2F (ibD fun i j => decide (i < j)) (varF 1) (cF (.int 0))))) (raiseF "BadPower") nextF)
  (retF (frzF (callF [] p_raised (consA (bS 0) (consA (bS 1) nilA)))))))
def p_ratio_power (os : List O) : RF := bodyF [] os (fs_ratio_power (startE ["r", "k"] os))
def k__law_well_0e : FE D :=
  (b1F intD (bS 1))
def fs__law_well : FS :=
  (retOF (lstF (consF (frzF (lcF (itL (slF (bS 0) noP (someP (cF (.int 63))))) [1] (nameG 1) yesF k__law_well_0e)) (consF (cF (.int 0)) (consF (cF (.int 40507)) nilF)))))
def p__law_well (os : List O) : RF := bodyF [] os (fs__law_well (startE ["script", "cell"] os))
def fs__law_draw : FS :=
  (seqF (ifSF (andF (testF (op2F (ibD fun i j => decide (i < j)) (b2F ixD (bS 0) (cF (.int 1))) (op2F powD (cF (.int 10)) (cF (.int 9))))) (testF (op2F (eqD true) (b2F ixD (bS 0) (cF (.int 0))) (frzF (lstF nilF))))) (seqF (setF 2 (b2F ixD (bD (b2F ixD (bS 0) (cF (.int 0)))) (cF (.int 0))))
  (seqF (setItF (bS 0) (cF (.int 0)) (slF (bD (b2F ixD (bS 0) (cF (.int 0)))) (someP (cF (.int 1))) noP))
  (seqF (setF 3 (op2F plusD (op2F mulD (cF (.int 2)) (b1F absD (bS 2))) (b1F intD (bD (op2F (ibD fun i j => decide (i < j)) (varF 2) (cF (.int 0)))))))
  (ifSF (testF (op2F (ibD fun i j => decide (j ≤ i)) (varF 3) (op2F powD (cF (.int 10)) (cF (.int 18))))) (setItF (bS 0) (cF (.int 1)) (varF 3)) (setItF (bS 0) (cF (.int 2)) (op2F fmodD (b1F intD (bD (op2F plusD (op2F plusD (op2F mulD (b2F ixD (bS 0) (cF (.int 2))) (cF (.int 48271))) (op2F mulD (varF 3) (cF (.int 69621)))) (cF (.int 17))))) (cF (.int 2147483647)))))))) nextF)
  (seqF (ifSF (testF (op2F (ibD fun i j => decide (j ≤ i)) (b2F ixD (bS 0) (cF (.int 1))) (op2F powD (cF (.int 10)) (cF (.int 9))))) (seqF (setF 4 (op2F fmodD (b1F intD (bD (b2F ixD (bS 0) (cF (.int 1))))) (varF 1)))
  (seqF (setItF (bS 0) (cF (.int 1)) (op2F fdivD (b2F ixD (bS 0) (cF (.int 1))) (varF 1)))
  (retF (varF 4)))) nextF)
  (seqF (setItF (bS 0) (cF (.int 2)) (op2F fmodD (b1F intD (bD (op2F plusD (op2F mulD (b2F ixD (bS 0) (cF (.int 2))) (cF (.int 39373))) (cF (.int 101))))) (cF (.int 2147483647))))
  (retF (op2F fmodD (b1F intD (bD (op2F fdivD (b2F ixD (bS 0) (cF (.int 2))) (cF (.int 89))))) (varF 1))))))
def p__law_draw (os : List O) : RF := bodyF [0] os (fs__law_draw (startE ["well", "many", "cell", "weight", "found"] os))
def k__law_gcd_0t : FE Bool :=
  (testF (op2F (eqD true) (varF 1) (cF (.int 0))))
def k__law_gcd_0b : FS :=
  (par2F 0 1 (consF (varF 1) (consF (op2F fmodD (b1F intD (bS 0)) (varF 1)) nilF)))
def fs__law_gcd : FS :=
  (seqF (par2F 0 1 (consF (b1F absD (bS 0)) (consF (b1F absD (bS 1)) nilF)))
  (seqF (whileF k__law_gcd_0t k__law_gcd_0b)
  (retF (varF 0))))
def p__law_gcd (os : List O) : RF := bodyF [] os (fs__law_gcd (startE ["one", "other"] os))
def fs__law_ratio : FS :=
  (seqF (ifSF (testF (op2F (ibD fun i j => decide (i < j)) (varF 1) (cF (.int 0)))) (par2F 0 1 (consF (op2F subD (cF (.int 0)) (varF 0)) (consF (op2F subD (cF (.int 0)) (varF 1)) nilF))) nextF)
  (seqF (setF 2 (frzF (callF [] p__law_gcd (consA (bS 0) (consA (bS 1) nilA)))))
  (retF (tupF (consF (op2F fdivD (varF 0) (varF 2)) (consF (op2F fdivD (varF 1) (varF 2)) nilF))))))
def p__law_ratio (os : List O) : RF := bodyF [] os (fs__law_ratio (startE ["top", "bottom", "shared"] os))
def fs__law_times : FS :=
  (retF (frzF (callF [] p__law_ratio (consA (bD (op2F mulD (b2F ixD (bS 0) (cF (.int 0))) (b2F ixD (bS 1) (cF (.int 0))))) (consA (bD (op2F mulD (b2F ixD (bS 0) (cF (.int 1))) (b2F ixD (bS 1) (cF (.int 1))))) nilA)))))
def p__law_times (os : List O) : RF := bodyF [] os (fs__law_times (startE ["r", "s"] os))
def fs__law_number : FS :=
  (seqF (setF 1 (b2F ixD (bD (frzF (lstF (consF (cF (.int 3)) (consF (cF (.int 12)) (consF (op2F powD (cF (.int 10)) (cF (.int 6))) (consF (op2F powD (cF (.int 10)) (cF (.int 30))) nilF))))))) (frzF (callF [0] p__law_draw (consA (bS 0) (consA (bD (cF (.int 4))) nilA))))))
  (retF (op2F mulD (frzF (callF [0] p__law_draw (consA (bS 0) (consA (bS 1) nilA)))) (op2F subD (cF (.int 1)) (op2F mulD (cF (.int 2)) (frzF (callF [0] p__law_draw (consA (bS 0) (consA (bD (cF (.int 2))) nilA)))))))))
def p__law_number (os : List O) : RF := bodyF [0] os (fs__law_number (startE ["well", "size"] os))
def fs_added : FS :=
  (seqF (ifSF (andF (testF (op2F (eqD false) (b2F ixD (bS 0) (cF (.int 1))) (cF (.int 1)))) (testF (op2F (eqD false) (b2F ixD (bS 1) (cF (.int 1))) (cF (.int 1))))) (retF (tupF (consF (op2F plusD (b2F ixD (bS 0) (cF (.int 0))) (b2F ixD (bS 1) (cF (.int 0)))) (consF (cF (.int 1)) nilF)))) nextF)
  (retF (frzF (callF [] p_lowest (consA (bD (op2F plusD (op2F mulD (b2F ixD (bS 0) (cF (.int 0))) (b2F ixD (bS 1) (cF (.int 1)))) (op2F mulD (b2F ixD (bS 1) (cF (.int 0))) (b2F ixD (bS 0) (cF (.int 1)))))) (consA (bD (op2F mulD (b2F ixD (bS 0) (cF (.int 1))) (b2F ixD (bS 1) (cF (.int 1))))) nilA))))))
def p_added (os : List O) : RF := bodyF [] os (fs_added (startE ["r", "s"] os))
def fs_ratio_plus : FS :=
  (seqF (dropF (frzF (callF [] p_need_ratio (consA (bS 0) nilA))))
  (seqF (dropF (frzF (callF [] p_need_ratio (consA (bS 1) nilA))))
  (retF (frzF (callF [] p_added (consA (bS 0) (consA (bS 1) nilA)))))))
def p_ratio_plus (os : List O) : RF := bodyF [] os (fs_ratio_plus (startE ["r", "s"] os))
def fs_taken : FS :=
  (retF (frzF (callF [] p_added (consA (bS 0) (consA (bD (tupF (consF (op1F (iD fun i => -i) (b2F ixD (bS 1) (cF (.int 0)))) (consF (b2F ixD (bS 1) (cF (.int 1))) nilF)))) nilA)))))
def p_taken (os : List O) : RF := bodyF [] os (fs_taken (startE ["r", "s"] os))
def fs_ratio_minus : FS :=
  (seqF (dropF (frzF (callF [] p_need_ratio (consA (bS 0) nilA))))
  (seqF (dropF (frzF (callF [] p_need_ratio (consA (bS 1) nilA))))
  (retF (frzF (callF [] p_taken (consA (bS 0) (consA (bS 1) nilA)))))))
def p_ratio_minus (os : List O) : RF := bodyF [] os (fs_ratio_minus (startE ["r", "s"] os))
def fs_multiplied : FS :=
  (seqF (ifSF (andF (testF (op2F (eqD false) (b2F ixD (bS 0) (cF (.int 1))) (cF (.int 1)))) (testF (op2F (eqD false) (b2F ixD (bS 1) (cF (.int 1))) (cF (.int 1))))) (retF (tupF (consF (op2F mulD (b2F ixD (bS 0) (cF (.int 0))) (b2F ixD (bS 1) (cF (.int 0)))) (consF (cF (.int 1)) nilF)))) nextF)
  (retF (frzF (callF [] p_lowest (consA (bD (op2F mulD (b2F ixD (bS 0) (cF (.int 0))) (b2F ixD (bS 1) (cF (.int 0))))) (consA (bD (op2F mulD (b2F ixD (bS 0) (cF (.int 1))) (b2F ixD (bS 1) (cF (.int 1))))) nilA))))))
def p_multiplied (os : List O) : RF := bodyF [] os (fs_multiplied (startE ["r", "s"] os))
def fs_ratio_times : FS :=
  (seqF (dropF (frzF (callF [] p_need_ratio (consA (bS 0) nilA))))
  (seqF (dropF (frzF (callF [] p_need_ratio (consA (bS 1) nilA))))
  (retF (frzF (callF [] p_multiplied (consA (bS 0) (consA (bS 1) nilA)))))))
def p_ratio_times (os : List O) : RF := bodyF [] os (fs_ratio_times (startE ["r", "s"] os))
def fs_inverse : FS :=
  (retF (ifF (testF (op2F (ibD fun i j => decide (j < i)) (b2F ixD (bS 0) (cF (.int 0))) (cF (.int 0)))) (tupF (consF (b2F ixD (bS 0) (cF (.int 1))) (consF (b2F ixD (bS 0) (cF (.int 0))) nilF))) (tupF (consF (op1F (iD fun i => -i) (b2F ixD (bS 0) (cF (.int 1)))) (consF (op1F (iD fun i => -i) (b2F ixD (bS 0) (cF (.int 0)))) nilF)))))
def p_inverse (os : List O) : RF := bodyF [] os (fs_inverse (startE ["r"] os))
def fs_over : FS :=
  (retF (frzF (callF [] p_multiplied (consA (bS 0) (consA (bD (frzF (callF [] p_inverse (consA (bS 1) nilA)))) nilA)))))
def p_over (os : List O) : RF := bodyF [] os (fs_over (startE ["r", "s"] os))
def fs_ratio_over : FS :=
  (seqF (dropF (frzF (callF [] p_need_ratio (consA (bS 0) nilA))))
  (seqF (dropF (frzF (callF [] p_need_ratio (consA (bS 1) nilA))))
  (seqF (ifSF (testF (op2F (eqD false) (b2F ixD (bS 1) (cF (.int 0))) (cF (.int 0)))) (raiseF "ZeroBottom") nextF)
  (retF (frzF (callF [] p_over (consA (bS 0) (consA (bS 1) nilA))))))))
def p_ratio_over (os : List O) : RF := bodyF [] os (fs_ratio_over (startE ["r", "s"] os))
def fs_ratio_compare : FS :=
  (seqF (dropF (frzF (callF [] p_need_ratio (consA (bS 0) nilA))))
  (seqF (dropF (frzF (callF [] p_need_ratio (consA (bS 1) nilA))))
  (seqF (par2F 2 3 (consF (op2F mulD (b2F ixD (bS 0) (cF (.int 0))) (b2F ixD (bS 1) (cF (.int 1)))) (consF (op2F mulD (b2F ixD (bS 1) (cF (.int 0))) (b2F ixD (bS 0) (cF (.int 1)))) nilF)))
  (retF (op2F subD (b1F intD (bD (op2F (ibD fun i j => decide (j < i)) (varF 2) (varF 3)))) (b1F intD (bD (op2F (ibD fun i j => decide (i < j)) (varF 2) (varF 3)))))))))
def p_ratio_compare (os : List O) : RF := bodyF [] os (fs_ratio_compare (startE ["r", "s", "one", "other"] os))
def fs__law_plus : FS :=
  (retF (frzF (callF [] p__law_ratio (consA (bD (op2F plusD (op2F mulD (b2F ixD (bS 0) (cF (.int 0))) (b2F ixD (bS 1) (cF (.int 1)))) (op2F mulD (b2F ixD (bS 1) (cF (.int 0))) (b2F ixD (bS 0) (cF (.int 1)))))) (consA (bD (op2F mulD (b2F ixD (bS 0) (cF (.int 1))) (b2F ixD (bS 1) (cF (.int 1))))) nilA)))))
def p__law_plus (os : List O) : RF := bodyF [] os (fs__law_plus (startE ["r", "s"] os))
end
end Pg

set_option Elab.async false
set_option linter.all false
set_option maxRecDepth 100000
set_option maxHeartbeats 4000000

namespace Pg
open PySem Fx
noncomputable section
def fs__law_call : FS :=
  (seqF (ifSF (testF (op2F (eqD false) (varF 0) (cF (.int 0)))) (retF (frzF (callF [] p_ratio_plus (consA (bS 1) (consA (bS 2) nilA))))) nextF)
  (seqF (ifSF (testF (op2F (eqD false) (varF 0) (cF (.int 1)))) (retF (frzF (callF [] p_ratio_minus (consA (bS 1) (consA (bS 2) nilA))))) nextF)
  (seqF (ifSF (testF (op2F (eqD false) (varF 0) (cF (.int 2)))) (retF (frzF (callF [] p_ratio_times (consA (bS 1) (consA (bS 2) nilA))))) nextF)
  (seqF (ifSF (testF (op2F (eqD false) (varF 0) (cF (.int 3)))) (retF (frzF (callF [] p_ratio_over (consA (bS 1) (consA (bS 2) nilA))))) nextF)
  (seqF (ifSF (testF (op2F (eqD false) (varF 0) (cF (.int 4)))) (retF (frzF (callF [] p_ratio_compare (consA (bS 1) (consA (bS 2) nilA))))) nextF)
  (seqF (ifSF (testF (op2F (eqD false) (varF 0) (cF (.int 5)))) (retF (frzF (callF [] p_ratio_power (consA (bS 1) (consA (bS 2) nilA))))) nextF)
  (retF (frzF (callF [] p_ratio_of (consA (bS 1) (consA (bS 2) nilA)))))))))))
def p__law_call (os : List O) : RF := bodyF [] os (fs__law_call (startE ["which", "one", "other"] os))
end
end Pg

set_option Elab.async false
set_option linter.all false
set_option maxRecDepth 100000
set_option maxHeartbeats 4000000

namespace K02
open PySem Fx Pg
noncomputable section
def tbl_BadInteger : List (Str × Bool) := [("BadInteger", true), ("BadPower", false), ("BadRatio", false), ("ZeroBottom", false)]
def tbl_BadPower : List (Str × Bool) := [("BadInteger", false), ("BadPower", true), ("BadRatio", false), ("ZeroBottom", false)]
def tbl_BadRatio : List (Str × Bool) := [("BadInteger", false), ("BadPower", false), ("BadRatio", true), ("ZeroBottom", false)]
def tbl_IdealError : List (Str × Bool) := [("BadInteger", true), ("BadPower", true), ("BadRatio", true), ("ZeroBottom", true)]
def tbl_ZeroBottom : List (Str × Bool) := [("BadInteger", false), ("BadPower", false), ("BadRatio", false), ("ZeroBottom", true)]
def fs__law_refusal : FS :=
  (seqF (setF 3 (cF .non))
  (seqF (tryF (dropF (frzF (callF [] p__law_call (consA (bS 0) (consA (bS 1) (consA (bS 2) nilA)))))) [(tbl_BadRatio, (setF 3 (cF (.str "ratio")))), (tbl_BadInteger, (setF 3 (cF (.str "integer")))), (tbl_BadPower, (setF 3 (cF (.str "power")))), (tbl_ZeroBottom, (setF 3 (cF (.str "zero")))), (tbl_IdealError, (setF 3 (cF (.str "other"))))])
  (retF (varF 3))))
def p__law_refusal (os : List O) : RF := bodyF [] os (fs__law_refusal (startE ["which", "one", "other", "found"] os))
def fs__law_is_base : FS :=
  (seqF (setF 3 (cF (.bl false)))
  (seqF (tryIsF (dropF (frzF (callF [] p__law_call (consA (bS 0) (consA (bS 1) (consA (bS 2) nilA)))))) tbl_IdealError 4 3)
  (retF (varF 3))))
def p__law_is_base (os : List O) : RF := bodyF [] os (fs__law_is_base (startE ["which", "one", "other", "found", "e"] os))
def k_law_1b : FS :=
  (seqF (ifSF (orF (testF (op2F (eqD true) (frzF (callF [] p__law_refusal (consA (bS 7) (consA (bS 5) (consA (bS 3) nilA))))) (cF (.str "ratio")))) (testF (op2F (eqD true) (frzF (callF [] p__law_refusal (consA (bS 7) (consA (bS 3) (consA (bS 5) nilA))))) (cF (.str "ratio"))))) (retF (cF (.bl false))) nextF)
  (ifSF (orF (testF (op2F (eqD true) (frzF (callF [] p__law_refusal (consA (bS 7) (consA (bS 5) (consA (bS 6) nilA))))) (cF (.str "ratio")))) (testF (b1F (isNoneD true) (bD (frzF (callF [] p__law_refusal (consA (bS 7) (consA (bS 3) (consA (bD (varF 3)) nilA))))))))) (retF (cF (.bl false))) nextF))
def k_law_0b : FS :=
  (seqF (par2F 5 6 (consF (b2F ixD (bS 2) (frzF (callF [0] p__law_draw (consA (bS 1) (consA (bD (b1F lenD (bS 2))) nilA))))) (consF (b2F ixD (bS 2) (frzF (callF [0] p__law_draw (consA (bS 1) (consA (bD (b1F lenD (bS 2))) nilA))))) nilF)))
  (seqF (ifSF (orF (testF (op2F (isBD true) (frzF (callF [] p_is_ratio (consA (bS 5) nilA))) (cF (.bl false)))) (testF (op2F (isBD true) (frzF (callF [] p_is_ratio (consA (bS 3) nilA))) (cF (.bl true))))) (retF (cF (.bl false))) nextF)
  (seqF (forSF (rng1 (cF (.int 5))) (nameG 7) k_law_1b)
  (seqF (setF 8 (b2F ixD (bD (frzF (lstF (consF (op1F (iD fun i => -i) (cF (.int 1))) (consF (cF (.bl true)) (consF (cF .non) (consF (cF (.str "2")) (consF (tupF (consF (cF (.int 2)) nilF)) (consF (op1F (iD fun i => -i) (op2F powD (cF (.int 10)) (cF (.int 20)))) nilF))))))))) (frzF (callF [0] p__law_draw (consA (bS 1) (consA (bD (cF (.int 6))) nilA))))))
  (seqF (ifSF (orF (testF (op2F (eqD true) (frzF (callF [] p__law_refusal (consA (bD (cF (.int 5))) (consA (bS 5) (consA (bS 8) nilA))))) (cF (.str "ratio")))) (orF (testF (op2F (eqD true) (frzF (callF [] p__law_refusal (consA (bD (cF (.int 5))) (consA (bS 3) (consA (bS 8) nilA))))) (cF (.str "power")))) (testF (b1F (isNoneD true) (bD (frzF (callF [] p__law_refusal (consA (bD (cF (.int 5))) (consA (bS 3) (consA (bD (cF (.int 3))) nilA)))))))))) (retF (cF (.bl false))) nextF)
  (seqF (setF 9 (b2F ixD (bD (frzF (lstF (consF (cF .non) (consF (cF (.bl true)) (consF (cF (.str "1")) (consF (tupF (consF (cF (.int 1)) (consF (cF (.int 1)) nilF))) (consF (frzF (lstF (consF (cF (.int 1)) nilF))) nilF)))))))) (frzF (callF [0] p__law_draw (consA (bS 1) (consA (bD (cF (.int 5))) nilA))))))
  (seqF (ifSF (orF (testF (op2F (eqD true) (frzF (callF [] p__law_refusal (consA (bD (cF (.int 6))) (consA (bS 9) (consA (bD (cF (.int 0))) nilA))))) (cF (.str "integer")))) (orF (testF (op2F (eqD true) (frzF (callF [] p__law_refusal (consA (bD (cF (.int 6))) (consA (bD (cF (.int 1))) (consA (bS 9) nilA))))) (cF (.str "integer")))) (testF (op2F (eqD true) (frzF (callF [] p__law_refusal (consA (bD (cF (.int 6))) (consA (bD (cF (.int 5))) (consA (bD (cF (.int 0))) nilA))))) (cF (.str "zero")))))) (retF (cF (.bl false))) nextF)
  (ifSF (orF (testF (op2F (eqD true) (frzF (callF [] p__law_refusal (consA (bD (cF (.int 3))) (consA (bS 3) (consA (bD (tupF (consF (cF (.int 0)) (consF (cF (.int 1)) nilF)))) nilA))))) (cF (.str "zero")))) (orF (testF (op2F (eqD true) (frzF (callF [] p__law_refusal (consA (bD (cF (.int 3))) (consA (bS 5) (consA (bD (tupF (consF (cF (.int 0)) (consF (cF (.int 1)) nilF)))) nilA))))) (cF (.str "ratio")))) (testF (b1F (isNoneD true) (bD (frzF (callF [] p__law_refusal (consA (bD (cF (.int 6))) (consA (bD (cF (.int 0))) (consA (bD (op1F (iD fun i => -i) (cF (.int 7)))) nilA)))))))))) (retF (cF (.bl false))) nextF))))))))
def fs_law : FS :=
  (seqF (setOF 1 (callF [] p__law_well (consA (bS 0) nilA)))
  (seqF (setF 2 (frzF (lstF (consF (tupF (consF (cF (.int 2)) (consF (cF (.int 4)) nilF))) (consF (tupF (consF (cF (.int 1)) (consF (cF (.int 0)) nilF))) (consF (tupF (consF (cF (.int 1)) (consF (op1F (iD fun i => -i) (cF (.int 2))) nilF))) (consF (tupF (consF (cF (.int 0)) (consF (cF (.int 2)) nilF))) (consF (frzF (lstF (consF (cF (.int 1)) (consF (cF (.int 2)) nilF)))) (consF (tupF (consF (cF (.int 1)) nilF)) (consF (tupF (consF (cF (.int 1)) (consF (cF (.int 2)) (consF (cF (.int 3)) nilF)))) (consF (cF (.int 1)) (consF (cF .non) (consF (cF (.str "1/2")) (consF (tupF (consF (cF (.bl true)) (consF (cF (.int 2)) nilF))) (consF (tupF (consF (cF (.int 1)) (consF (cF (.bl true)) nilF))) (consF (tupF (consF (tupF (consF (cF (.int 1)) (consF (cF (.int 2)) nilF))) (consF (cF (.int 3)) nilF))) nilF))))))))))))))))
  (seqF (setF 3 (tupF (consF (op2F plusD (cF (.int 1)) (op2F mulD (cF (.int 2)) (frzF (callF [0] p__law_draw (consA (bS 1) (consA (bD (cF (.int 50))) nilA)))))) (consF (cF (.int 2)) nilF))))
  (seqF (forSF (rng1 (cF (.int 6))) (nameG 4) k_law_0b)
  (retF (andVF (frzF (callF [] p__law_is_base (consA (bD (cF (.int 0))) (consA (bD (cF .non)) (consA (bS 3) nilA))))) (andVF (frzF (callF [] p__law_is_base (consA (bD (cF (.int 3))) (consA (bS 3) (consA (bD (tupF (consF (cF (.int 0)) (consF (cF (.int 1)) nilF)))) nilA))))) (andVF (frzF (callF [] p__law_is_base (consA (bD (cF (.int 5))) (consA (bS 3) (consA (bD (op1F (iD fun i => -i) (cF (.int 1)))) nilA))))) (frzF (callF [] p__law_is_base (consA (bD (cF (.int 6))) (consA (bD (cF (.str ""))) (consA (bD (cF (.int 1))) nilA)))))))))))))
def p_law (os : List O) : RF := bodyF [] os (fs_law (startE ["script", "well", "wrongs", "r", "turn", "wrong", "also", "which", "power", "number"] os))
end
end K02

set_option Elab.async false
set_option linter.all false
set_option maxRecDepth 100000
set_option maxHeartbeats 4000000

namespace K02
open PySem L2 Fx Pg
def top (i : Nat) : Stmt := PySem.Challenge.pw_idealsame_k02_ratios_refused.main.body.getD i (.Pass ⟨0, 0, 0, 0⟩)
abbrev s_is_int : Stmt := top 8
theorem sc_is_int : FnScope ["thing"] ["thing"] (defScope s_is_int) := ⟨rfl, rfl, rfl, by decide +kernel, rfl, by decide +kernel, by decide +kernel⟩
abbrev s_is_row : Stmt := top 9
theorem sc_is_row : FnScope ["thing", "least", "most"] ["thing", "least", "most"] (defScope s_is_row) := ⟨rfl, rfl, rfl, by decide +kernel, rfl, by decide +kernel, by decide +kernel⟩
abbrev s_is_ratio : Stmt := top 20
theorem sc_is_ratio : FnScope ["thing"] ["thing"] (defScope s_is_ratio) := ⟨rfl, rfl, rfl, by decide +kernel, rfl, by decide +kernel, by decide +kernel⟩
abbrev s__law_well : Stmt := top 30
theorem sc__law_well : FnScope ["script", "cell"] ["script"] (defScope s__law_well) := ⟨rfl, rfl, rfl, by decide +kernel, rfl, by decide +kernel, by decide +kernel⟩
abbrev s__law_draw : Stmt := top 31
theorem sc__law_draw : FnScope ["well", "many", "cell", "weight", "found"] ["well", "many"] (defScope s__law_draw) := ⟨rfl, rfl, rfl, by decide +kernel, rfl, by decide +kernel, by decide +kernel⟩
abbrev s_lowest : Stmt := top 12
theorem sc_lowest : FnScope ["top", "bottom", "shared"] ["top", "bottom"] (defScope s_lowest) := ⟨rfl, rfl, rfl, by decide +kernel, rfl, by decide +kernel, by decide +kernel⟩
abbrev s_ratio_of : Stmt := top 22
theorem sc_ratio_of : FnScope ["top", "bottom"] ["top", "bottom"] (defScope s_ratio_of) := ⟨rfl, rfl, rfl, by decide +kernel, rfl, by decide +kernel, by decide +kernel⟩
abbrev s_added : Stmt := top 13
theorem sc_added : FnScope ["r", "s"] ["r", "s"] (defScope s_added) := ⟨rfl, rfl, rfl, by decide +kernel, rfl, by decide +kernel, by decide +kernel⟩
abbrev s_need_ratio : Stmt := top 21
theorem sc_need_ratio : FnScope ["r"] ["r"] (defScope s_need_ratio) := ⟨rfl, rfl, rfl, by decide +kernel, rfl, by decide +kernel, by decide +kernel⟩
abbrev s_ratio_plus : Stmt := top 23
theorem sc_ratio_plus : FnScope ["r", "s"] ["r", "s"] (defScope s_ratio_plus) := ⟨rfl, rfl, rfl, by decide +kernel, rfl, by decide +kernel, by decide +kernel⟩
abbrev s_taken : Stmt := top 14
theorem sc_taken : FnScope ["r", "s"] ["r", "s"] (defScope s_taken) := ⟨rfl, rfl, rfl, by decide +kernel, rfl, by decide +kernel, by decide +kernel⟩
abbrev s_ratio_minus : Stmt := top 24
theorem sc_ratio_minus : FnScope ["r", "s"] ["r", "s"] (defScope s_ratio_minus) := ⟨rfl, rfl, rfl, by decide +kernel, rfl, by decide +kernel, by decide +kernel⟩
abbrev s_multiplied : Stmt := top 15
theorem sc_multiplied : FnScope ["r", "s"] ["r", "s"] (defScope s_multiplied) := ⟨rfl, rfl, rfl, by decide +kernel, rfl, by decide +kernel, by decide +kernel⟩
abbrev s_ratio_times : Stmt := top 25
theorem sc_ratio_times : FnScope ["r", "s"] ["r", "s"] (defScope s_ratio_times) := ⟨rfl, rfl, rfl, by decide +kernel, rfl, by decide +kernel, by decide +kernel⟩
abbrev s_inverse : Stmt := top 16
theorem sc_inverse : FnScope ["r"] ["r"] (defScope s_inverse) := ⟨rfl, rfl, rfl, by decide +kernel, rfl, by decide +kernel, by decide +kernel⟩
abbrev s_over : Stmt := top 17
theorem sc_over : FnScope ["r", "s"] ["r", "s"] (defScope s_over) := ⟨rfl, rfl, rfl, by decide +kernel, rfl, by decide +kernel, by decide +kernel⟩
abbrev s_ratio_over : Stmt := top 26
theorem sc_ratio_over : FnScope ["r", "s"] ["r", "s"] (defScope s_ratio_over) := ⟨rfl, rfl, rfl, by decide +kernel, rfl, by decide +kernel, by decide +kernel⟩
abbrev s_raised : Stmt := top 18
theorem sc_raised : FnScope ["r", "k", "found", "square"] ["r", "k"] (defScope s_raised) := ⟨rfl, rfl, rfl, by decide +kernel, rfl, by decide +kernel, by decide +kernel⟩
abbrev s_ratio_power : Stmt := top 27
theorem sc_ratio_power : FnScope ["r", "k"] ["r", "k"] (defScope s_ratio_power) := ⟨rfl, rfl, rfl, by decide +kernel, rfl, by decide +kernel, by decide +kernel⟩
abbrev s_ratio_compare : Stmt := top 28
theorem sc_ratio_compare : FnScope ["r", "s", "one", "other"] ["r", "s"] (defScope s_ratio_compare) := ⟨rfl, rfl, rfl, by decide +kernel, rfl, by decide +kernel, by decide +kernel⟩
abbrev s__law_call : Stmt := top 32
theorem sc__law_call : FnScope ["which", "one", "other"] ["which", "one", "other"] (defScope s__law_call) := ⟨rfl, rfl, rfl, by decide +kernel, rfl, by decide +kernel, by decide +kernel⟩
abbrev s__law_refusal : Stmt := top 33
theorem sc__law_refusal : FnScope ["which", "one", "other", "found"] ["which", "one", "other"] (defScope s__law_refusal) := ⟨rfl, rfl, rfl, by decide +kernel, rfl, by decide +kernel, by decide +kernel⟩
abbrev s__law_is_base : Stmt := top 34
theorem sc__law_is_base : FnScope ["which", "one", "other", "found", "e"] ["which", "one", "other"] (defScope s__law_is_base) := ⟨rfl, rfl, rfl, by decide +kernel, rfl, by decide +kernel, by decide +kernel⟩
abbrev s_law : Stmt := top 35
theorem sc_law : FnScope ["script", "well", "wrongs", "r", "turn", "wrong", "also", "which", "power", "number"] ["script"] (defScope s_law) := ⟨rfl, rfl, rfl, by decide +kernel, rfl, by decide +kernel, by decide +kernel⟩
section
variable {P : Program} {w : World} {K : PySem.W.Frag} {mg : Str → Option Value} {base : Heap}
theorem ok_is_int {f : Addr} {fd : FuncData} (F : Fun K "is_int" "is_int" s_is_int f fd) (z_bool : mg "bool" = none) (z_int : mg "int" = none) (z_isinstance : mg "isinstance" = none) :
    FnF P w K mg base 1 f fd ["thing"] [] p_is_int :=
  fn_ok F sc_is_int fun cdv A outer s H E hr tk hp => by
  have hu := hr.units
  exact ⟨fs_is_int, (oks_oneS (ok_ret (ok_and (ok_isi okT_int (by rfl) z_isinstance (by rfl) z_int (by decide +kernel) (okb_var 0)) (ok_one (ok_not (ok_isi okT_bool (by rfl) z_isinstance (by rfl) z_bool (by decide +kernel) (okb_var 0))))))), fun _ _ _ _ => rfl⟩
theorem ok_is_row {f : Addr} {fd : FuncData} (F : Fun K "is_row" "is_row" s_is_row f fd) (z_isinstance : mg "isinstance" = none) (z_len : mg "len" = none) (z_tuple : mg "tuple" = none) :
    FnF P w K mg base 1 f fd ["thing", "least", "most"] [] p_is_row :=
  fn_ok F sc_is_row fun cdv A outer s H E hr tk hp => by
  have hu := hr.units
  exact ⟨fs_is_row, (oks_oneS (ok_ret (ok_and (ok_isi okT_tuple (by rfl) z_isinstance (by rfl) z_tuple (by decide +kernel) (okb_var 0)) (ok_one (ok_chain op_le v2_ib op_le v2_ib (ok_var 1) (ok_len (by rfl) z_len (okb_var 0)) (ok_var 2)))))), fun _ _ _ _ => rfl⟩
theorem ok_is_ratio {f : Addr} {fd : FuncData} (F : Fun K "is_ratio" "is_ratio" s_is_ratio f fd) {f_is_int : Addr} {d_is_int : FuncData} (C_is_int : Cal P w K mg base 1 "is_int" f_is_int d_is_int ["thing"] [] p_is_int) {f_is_row : Addr} {d_is_row : FuncData} (C_is_row : Cal P w K mg base 1 "is_row" f_is_row d_is_row ["thing", "least", "most"] [] p_is_row) (gg_gcd : mg "gcd" = some (.builtin "math.gcd")) :
    FnF P w K mg base 2 f fd ["thing"] [] p_is_ratio :=
  fn_ok F sc_is_ratio fun cdv A outer s H E hr tk hp => by
  have hu := hr.units
  exact ⟨fs_is_ratio, (oks_consS (ok_ifS (okt_w (okw_or (okt_not (okt_val (OkO.toD (ok_cal C_is_row tk hr (by rfl) (oka_cons (okb_var 0) (oka_cons (OkD.toB ok_int) (oka_cons (OkD.toB ok_int) oka_nil))) (consA_len (consA_len (consA_len nilA_len))))))) (okw_or (okt_not (okt_val (OkO.toD (ok_cal C_is_int tk hr (by rfl) (oka_cons (OkD.toB (ok_ix (okb_var 0) ok_int)) oka_nil) (consA_len nilA_len))))) (okw_or1 (okt_not (okt_val (OkO.toD (ok_cal C_is_int tk hr (by rfl) (oka_cons (OkD.toB (ok_ix (okb_var 0) ok_int)) oka_nil) (consA_len nilA_len))))))))) (oks_oneS (ok_ret ok_bl)) oks_nilS)
  (oks_oneS (ok_ret (ok_and (ok_cmp op_gt v2_ib (ok_ix (okb_var 0) ok_int) ok_int (nomark _)) (ok_one (ok_cmp (op_eqD hu) v2_eq (ok_gcd (by rfl) gg_gcd (oks_cons (ok_ix (okb_var 0) ok_int) (oks_cons (ok_ix (okb_var 0) ok_int) oks_nil))) ok_int (nomark _))))))), fun _ _ _ _ => rfl⟩
theorem ok__law_well {f : Addr} {fd : FuncData} (F : Fun K "_law_well" "_law_well" s__law_well f fd) (z_int : mg "int" = none) :
    FnF P w K mg base 1 f fd ["script"] [] p__law_well :=
  fn_ok F sc__law_well fun cdv A outer s H E hr tk hp => by
  have hu := hr.units
  exact ⟨fs__law_well, (oks_oneS (ok_retO (ok_lst (oks_cons (OkO.toD (ok_lc (own := [("cell", 1)]) (io := [0]) rfl sc__law_well.nd (oki_list (ok_sl (okb_var 0) okp_none (okp_some ok_int))) (blkOk_by (own := [("cell", 1)]) (N := ["script", "cell"]) (sc := defScope s__law_well) (by decide +kernel)) (show ∀ i : Nat, i < 2 → i ∈ [1] ∨ i ∈ [0] by decide +kernel) (fun _ _ _ _ _ => (okg_name (i := 1) (io := [0]) sc__law_well.nd rfl (Or.inl rfl))) (fun _ _ _ _ _ => okts_nil) (fun _ _ _ _ _ => (ok_intc (by rfl) z_int (okb_var 1))))) (oks_cons ok_int (oks_cons ok_int oks_nil)))))), fun _ _ _ _ => rfl⟩
theorem ok__law_draw {f : Addr} {fd : FuncData} (F : Fun K "_law_draw" "_law_draw" s__law_draw f fd) (z_abs : mg "abs" = none) (z_int : mg "int" = none) :
    FnF P w K mg base 1 f fd ["well", "many"] [0] p__law_draw :=
  fn_ok F sc__law_draw fun cdv A outer s H E hr tk hp => by
  have hu := hr.units
  exact ⟨fs__law_draw, (oks_consS (ok_ifS (okt_w (okw_and (okt_cmp op_lt v2_ib (ok_ix (okb_var 0) ok_int) (ok_pow ok_int ok_int) (nomark _)) (okw_and1 (okt_cmp (op_neD hu) v2_ne (ok_ix (okb_var 0) ok_int) (OkO.toD (ok_lst oks_nil)) (nomark _))))) (oks_consS (ok_set (i := 2) (io := [0]) sc__law_draw.nd rfl (Or.inl rfl) (ok_ix (OkD.toB (ok_ix (okb_var 0) ok_int)) ok_int))
  (oks_consS (ok_setIt (okb_var 0) ok_int (ok_sl (OkD.toB (ok_ix (okb_var 0) ok_int)) (okp_some ok_int) okp_none))
  (oks_consS (ok_set (i := 3) (io := [0]) sc__law_draw.nd rfl (Or.inl rfl) (ok_plus (ok_mul ok_int (ok_abs (by rfl) z_abs (okb_var 2))) (ok_intc (by rfl) z_int (OkD.toB (ok_cmp op_lt v2_ib (ok_var 2) ok_int (nomark _))))))
  (oks_oneS (ok_ifS (okt_cmp op_ge v2_ib (ok_var 3) (ok_pow ok_int ok_int) (nomark _)) (oks_oneS (ok_setIt (okb_var 0) ok_int (ok_var 3))) (oks_oneS (ok_setIt (okb_var 0) ok_int (ok_mod (ok_intc (by rfl) z_int (OkD.toB (ok_plus (ok_plus (ok_mul (ok_ix (okb_var 0) ok_int) ok_int) (ok_mul (ok_var 3) ok_int)) ok_int))) ok_int)))))))) oks_nilS)
  (oks_consS (ok_ifS (okt_cmp op_ge v2_ib (ok_ix (okb_var 0) ok_int) (ok_pow ok_int ok_int) (nomark _)) (oks_consS (ok_set (i := 4) (io := [0]) sc__law_draw.nd rfl (Or.inl rfl) (ok_mod (ok_intc (by rfl) z_int (OkD.toB (ok_ix (okb_var 0) ok_int))) (ok_var 1)))
  (oks_consS (ok_setIt (okb_var 0) ok_int (ok_fdiv (ok_ix (okb_var 0) ok_int) (ok_var 1)))
  (oks_oneS (ok_ret (ok_var 4))))) oks_nilS)
  (oks_consS (ok_setIt (okb_var 0) ok_int (ok_mod (ok_intc (by rfl) z_int (OkD.toB (ok_plus (ok_mul (ok_ix (okb_var 0) ok_int) ok_int) ok_int))) ok_int))
  (oks_oneS (ok_ret (ok_mod (ok_intc (by rfl) z_int (OkD.toB (ok_fdiv (ok_ix (okb_var 0) ok_int) ok_int))) (ok_var 1))))))), fun _ _ _ _ => rfl⟩
theorem ok_lowest {f : Addr} {fd : FuncData} (F : Fun K "lowest" "lowest" s_lowest f fd) (gg_gcd : mg "gcd" = some (.builtin "math.gcd")) :
    FnF P w K mg base 1 f fd ["top", "bottom"] [] p_lowest :=
  fn_ok F sc_lowest fun cdv A outer s H E hr tk hp => by
  have hu := hr.units
  exact ⟨fs_lowest, (oks_consS (ok_set (i := 2) (io := []) sc_lowest.nd rfl (Or.inl rfl) (ok_gcd (by rfl) gg_gcd (oks_cons (ok_var 0) (oks_cons (ok_var 1) oks_nil))))
  (oks_consS (ok_ifS (okt_cmp op_lt v2_ib (ok_var 1) ok_int (nomark _)) (oks_oneS (ok_set (i := 2) (io := []) sc_lowest.nd rfl (Or.inl rfl) (ok_neg (ok_var 2)))) oks_nilS)
  (oks_oneS (ok_ret (ok_tup (oks_cons (ok_fdiv (ok_var 0) (ok_var 2)) (oks_cons (ok_fdiv (ok_var 1) (ok_var 2)) oks_nil))))))), fun _ _ _ _ => rfl⟩
theorem ok_ratio_of {f : Addr} {fd : FuncData} (F : Fun K "ratio_of" "ratio_of" s_ratio_of f fd) {x_BadInteger : Addr} {x_ZeroBottom : Addr} {f_is_int : Addr} {d_is_int : FuncData} (C_is_int : Cal P w K mg base 1 "is_int" f_is_int d_is_int ["thing"] [] p_is_int) {f_lowest : Addr} {d_lowest : FuncData} (C_lowest : Cal P w K mg base 1 "lowest" f_lowest d_lowest ["top", "bottom"] [] p_lowest) (X_BadInteger : ExC K mg "BadInteger" x_BadInteger) (X_ZeroBottom : ExC K mg "ZeroBottom" x_ZeroBottom) :
    FnF P w K mg base 2 f fd ["top", "bottom"] [] p_ratio_of :=
  fn_ok F sc_ratio_of fun cdv A outer s H E hr tk hp => by
  have hu := hr.units
  exact ⟨fs_ratio_of, (oks_consS (ok_ifS (okt_w (okw_or (okt_not (okt_val (OkO.toD (ok_cal C_is_int tk hr (by rfl) (oka_cons (okb_var 0) oka_nil) (consA_len nilA_len))))) (okw_or1 (okt_not (okt_val (OkO.toD (ok_cal C_is_int tk hr (by rfl) (oka_cons (okb_var 1) oka_nil) (consA_len nilA_len)))))))) (oks_oneS (ok_raise rfl tk X_BadInteger (by rfl))) oks_nilS)
  (oks_consS (ok_ifS (okt_cmp (op_eqD hu) v2_eq (ok_var 1) ok_int (nomark _)) (oks_oneS (ok_raise rfl tk X_ZeroBottom (by rfl))) oks_nilS)
  (oks_oneS (ok_ret (OkO.toD (ok_cal C_lowest tk hr (by rfl) (oka_cons (okb_var 0) (oka_cons (okb_var 1) oka_nil)) (consA_len (consA_len nilA_len)))))))), fun _ _ _ _ => rfl⟩
theorem ok_added {f : Addr} {fd : FuncData} (F : Fun K "added" "added" s_added f fd) {f_lowest : Addr} {d_lowest : FuncData} (C_lowest : Cal P w K mg base 1 "lowest" f_lowest d_lowest ["top", "bottom"] [] p_lowest) :
    FnF P w K mg base 2 f fd ["r", "s"] [] p_added :=
  fn_ok F sc_added fun cdv A outer s H E hr tk hp => by
  have hu := hr.units
  exact ⟨fs_added, (oks_consS (ok_ifS (okt_w (okw_and (okt_cmp (op_eqD hu) v2_eq (ok_ix (okb_var 0) ok_int) ok_int (nomark _)) (okw_and1 (okt_cmp (op_eqD hu) v2_eq (ok_ix (okb_var 1) ok_int) ok_int (nomark _))))) (oks_oneS (ok_ret (ok_tup (oks_cons (ok_plus (ok_ix (okb_var 0) ok_int) (ok_ix (okb_var 1) ok_int)) (oks_cons ok_int oks_nil))))) oks_nilS)
  (oks_oneS (ok_ret (OkO.toD (ok_cal C_lowest tk hr (by rfl) (oka_cons (OkD.toB (ok_plus (ok_mul (ok_ix (okb_var 0) ok_int) (ok_ix (okb_var 1) ok_int)) (ok_mul (ok_ix (okb_var 1) ok_int) (ok_ix (okb_var 0) ok_int)))) (oka_cons (OkD.toB (ok_mul (ok_ix (okb_var 0) ok_int) (ok_ix (okb_var 1) ok_int))) oka_nil)) (consA_len (consA_len nilA_len))))))), fun _ _ _ _ => rfl⟩
theorem ok_need_ratio {f : Addr} {fd : FuncData} (F : Fun K "need_ratio" "need_ratio" s_need_ratio f fd) {x_BadRatio : Addr} {f_is_ratio : Addr} {d_is_ratio : FuncData} (C_is_ratio : Cal P w K mg base 2 "is_ratio" f_is_ratio d_is_ratio ["thing"] [] p_is_ratio) (X_BadRatio : ExC K mg "BadRatio" x_BadRatio) :
    FnF P w K mg base 3 f fd ["r"] [] p_need_ratio :=
  fn_ok F sc_need_ratio fun cdv A outer s H E hr tk hp => by
  have hu := hr.units
  exact ⟨fs_need_ratio, (oks_oneS (ok_ifS (okt_not (okt_val (OkO.toD (ok_cal C_is_ratio tk hr (by rfl) (oka_cons (okb_var 0) oka_nil) (consA_len nilA_len))))) (oks_oneS (ok_raise rfl tk X_BadRatio (by rfl))) oks_nilS)), fun _ _ _ _ => rfl⟩
theorem ok_ratio_plus {f : Addr} {fd : FuncData} (F : Fun K "ratio_plus" "ratio_plus" s_ratio_plus f fd) {f_added : Addr} {d_added : FuncData} (C_added : Cal P w K mg base 2 "added" f_added d_added ["r", "s"] [] p_added) {f_need_ratio : Addr} {d_need_ratio : FuncData} (C_need_ratio : Cal P w K mg base 3 "need_ratio" f_need_ratio d_need_ratio ["r"] [] p_need_ratio) :
    FnF P w K mg base 4 f fd ["r", "s"] [] p_ratio_plus :=
  fn_ok F sc_ratio_plus fun cdv A outer s H E hr tk hp => by
  have hu := hr.units
  exact ⟨fs_ratio_plus, (oks_consS (ok_expr (OkO.toD (ok_cal C_need_ratio tk hr (by rfl) (oka_cons (okb_var 0) oka_nil) (consA_len nilA_len))))
  (oks_consS (ok_expr (OkO.toD (ok_cal C_need_ratio tk hr (by rfl) (oka_cons (okb_var 1) oka_nil) (consA_len nilA_len))))
  (oks_oneS (ok_ret (OkO.toD (ok_cal C_added tk hr (by rfl) (oka_cons (okb_var 0) (oka_cons (okb_var 1) oka_nil)) (consA_len (consA_len nilA_len)))))))), fun _ _ _ _ => rfl⟩
theorem ok_taken {f : Addr} {fd : FuncData} (F : Fun K "taken" "taken" s_taken f fd) {f_added : Addr} {d_added : FuncData} (C_added : Cal P w K mg base 2 "added" f_added d_added ["r", "s"] [] p_added) :
    FnF P w K mg base 3 f fd ["r", "s"] [] p_taken :=
  fn_ok F sc_taken fun cdv A outer s H E hr tk hp => by
  have hu := hr.units
  exact ⟨fs_taken, (oks_oneS (ok_ret (OkO.toD (ok_cal C_added tk hr (by rfl) (oka_cons (okb_var 0) (oka_cons (OkD.toB (ok_tup (oks_cons (ok_neg (ok_ix (okb_var 1) ok_int)) (oks_cons (ok_ix (okb_var 1) ok_int) oks_nil)))) oka_nil)) (consA_len (consA_len nilA_len)))))), fun _ _ _ _ => rfl⟩
theorem ok_ratio_minus {f : Addr} {fd : FuncData} (F : Fun K "ratio_minus" "ratio_minus" s_ratio_minus f fd) {f_need_ratio : Addr} {d_need_ratio : FuncData} (C_need_ratio : Cal P w K mg base 3 "need_ratio" f_need_ratio d_need_ratio ["r"] [] p_need_ratio) {f_taken : Addr} {d_taken : FuncData} (C_taken : Cal P w K mg base 3 "taken" f_taken d_taken ["r", "s"] [] p_taken) :
    FnF P w K mg base 4 f fd ["r", "s"] [] p_ratio_minus :=
  fn_ok F sc_ratio_minus fun cdv A outer s H E hr tk hp => by
  have hu := hr.units
  exact ⟨fs_ratio_minus, (oks_consS (ok_expr (OkO.toD (ok_cal C_need_ratio tk hr (by rfl) (oka_cons (okb_var 0) oka_nil) (consA_len nilA_len))))
  (oks_consS (ok_expr (OkO.toD (ok_cal C_need_ratio tk hr (by rfl) (oka_cons (okb_var 1) oka_nil) (consA_len nilA_len))))
  (oks_oneS (ok_ret (OkO.toD (ok_cal C_taken tk hr (by rfl) (oka_cons (okb_var 0) (oka_cons (okb_var 1) oka_nil)) (consA_len (consA_len nilA_len)))))))), fun _ _ _ _ => rfl⟩
theorem ok_multiplied {f : Addr} {fd : FuncData} (F : Fun K "multiplied" "multiplied" s_multiplied f fd) {f_lowest : Addr} {d_lowest : FuncData} (C_lowest : Cal P w K mg base 1 "lowest" f_lowest d_lowest ["top", "bottom"] [] p_lowest) :
    FnF P w K mg base 2 f fd ["r", "s"] [] p_multiplied :=
  fn_ok F sc_multiplied fun cdv A outer s H E hr tk hp => by
  have hu := hr.units
  exact ⟨fs_multiplied, (oks_consS (ok_ifS (okt_w (okw_and (okt_cmp (op_eqD hu) v2_eq (ok_ix (okb_var 0) ok_int) ok_int (nomark _)) (okw_and1 (okt_cmp (op_eqD hu) v2_eq (ok_ix (okb_var 1) ok_int) ok_int (nomark _))))) (oks_oneS (ok_ret (ok_tup (oks_cons (ok_mul (ok_ix (okb_var 0) ok_int) (ok_ix (okb_var 1) ok_int)) (oks_cons ok_int oks_nil))))) oks_nilS)
  (oks_oneS (ok_ret (OkO.toD (ok_cal C_lowest tk hr (by rfl) (oka_cons (OkD.toB (ok_mul (ok_ix (okb_var 0) ok_int) (ok_ix (okb_var 1) ok_int))) (oka_cons (OkD.toB (ok_mul (ok_ix (okb_var 0) ok_int) (ok_ix (okb_var 1) ok_int))) oka_nil)) (consA_len (consA_len nilA_len))))))), fun _ _ _ _ => rfl⟩
theorem ok_ratio_times {f : Addr} {fd : FuncData} (F : Fun K "ratio_times" "ratio_times" s_ratio_times f fd) {f_multiplied : Addr} {d_multiplied : FuncData} (C_multiplied : Cal P w K mg base 2 "multiplied" f_multiplied d_multiplied ["r", "s"] [] p_multiplied) {f_need_ratio : Addr} {d_need_ratio : FuncData} (C_need_ratio : Cal P w K mg base 3 "need_ratio" f_need_ratio d_need_ratio ["r"] [] p_need_ratio) :
    FnF P w K mg base 4 f fd ["r", "s"] [] p_ratio_times :=
  fn_ok F sc_ratio_times fun cdv A outer s H E hr tk hp => by
  have hu := hr.units
  exact ⟨fs_ratio_times, (oks_consS (ok_expr (OkO.toD (ok_cal C_need_ratio tk hr (by rfl) (oka_cons (okb_var 0) oka_nil) (consA_len nilA_len))))
  (oks_consS (ok_expr (OkO.toD (ok_cal C_need_ratio tk hr (by rfl) (oka_cons (okb_var 1) oka_nil) (consA_len nilA_len))))
  (oks_oneS (ok_ret (OkO.toD (ok_cal C_multiplied tk hr (by rfl) (oka_cons (okb_var 0) (oka_cons (okb_var 1) oka_nil)) (consA_len (consA_len nilA_len)))))))), fun _ _ _ _ => rfl⟩
theorem ok_inverse {f : Addr} {fd : FuncData} (F : Fun K "inverse" "inverse" s_inverse f fd)  :
    FnF P w K mg base 1 f fd ["r"] [] p_inverse :=
  fn_ok F sc_inverse fun cdv A outer s H E hr tk hp => by
  have hu := hr.units
  exact ⟨fs_inverse, (oks_oneS (ok_ret (ok_if (okt_cmp op_gt v2_ib (ok_ix (okb_var 0) ok_int) ok_int (nomark _)) (ok_tup (oks_cons (ok_ix (okb_var 0) ok_int) (oks_cons (ok_ix (okb_var 0) ok_int) oks_nil))) (ok_tup (oks_cons (ok_neg (ok_ix (okb_var 0) ok_int)) (oks_cons (ok_neg (ok_ix (okb_var 0) ok_int)) oks_nil)))))), fun _ _ _ _ => rfl⟩
theorem ok_over {f : Addr} {fd : FuncData} (F : Fun K "over" "over" s_over f fd) {f_inverse : Addr} {d_inverse : FuncData} (C_inverse : Cal P w K mg base 1 "inverse" f_inverse d_inverse ["r"] [] p_inverse) {f_multiplied : Addr} {d_multiplied : FuncData} (C_multiplied : Cal P w K mg base 2 "multiplied" f_multiplied d_multiplied ["r", "s"] [] p_multiplied) :
    FnF P w K mg base 3 f fd ["r", "s"] [] p_over :=
  fn_ok F sc_over fun cdv A outer s H E hr tk hp => by
  have hu := hr.units
  exact ⟨fs_over, (oks_oneS (ok_ret (OkO.toD (ok_cal C_multiplied tk hr (by rfl) (oka_cons (okb_var 0) (oka_cons (OkD.toB (OkO.toD (ok_cal C_inverse tk hr (by rfl) (oka_cons (okb_var 1) oka_nil) (consA_len nilA_len)))) oka_nil)) (consA_len (consA_len nilA_len)))))), fun _ _ _ _ => rfl⟩
theorem ok_ratio_over {f : Addr} {fd : FuncData} (F : Fun K "ratio_over" "ratio_over" s_ratio_over f fd) {x_ZeroBottom : Addr} {f_need_ratio : Addr} {d_need_ratio : FuncData} (C_need_ratio : Cal P w K mg base 3 "need_ratio" f_need_ratio d_need_ratio ["r"] [] p_need_ratio) {f_over : Addr} {d_over : FuncData} (C_over : Cal P w K mg base 3 "over" f_over d_over ["r", "s"] [] p_over) (X_ZeroBottom : ExC K mg "ZeroBottom" x_ZeroBottom) :
    FnF P w K mg base 4 f fd ["r", "s"] [] p_ratio_over :=
  fn_ok F sc_ratio_over fun cdv A outer s H E hr tk hp => by
  have hu := hr.units
  exact ⟨fs_ratio_over, (oks_consS (ok_expr (OkO.toD (ok_cal C_need_ratio tk hr (by rfl) (oka_cons (okb_var 0) oka_nil) (consA_len nilA_len))))
  (oks_consS (ok_expr (OkO.toD (ok_cal C_need_ratio tk hr (by rfl) (oka_cons (okb_var 1) oka_nil) (consA_len nilA_len))))
  (oks_consS (ok_ifS (okt_cmp (op_eqD hu) v2_eq (ok_ix (okb_var 1) ok_int) ok_int (nomark _)) (oks_oneS (ok_raise rfl tk X_ZeroBottom (by rfl))) oks_nilS)
  (oks_oneS (ok_ret (OkO.toD (ok_cal C_over tk hr (by rfl) (oka_cons (okb_var 0) (oka_cons (okb_var 1) oka_nil)) (consA_len (consA_len nilA_len))))))))), fun _ _ _ _ => rfl⟩
theorem ok_raised {f : Addr} {fd : FuncData} (F : Fun K "raised" "raised" s_raised f fd) {a_ONE : V} {u_ONE : Value} (gc_ONE : mg "ONE" = some u_ONE) (rc_ONE : ∀ G, Rp K G a_ONE c_ONE) (rv_ONE : RelV a_ONE u_ONE) :
    FnF P w K mg base 1 f fd ["r", "k"] [] p_raised :=
  fn_ok F sc_raised fun cdv A outer s H E hr tk hp => by
  have hu := hr.units
  exact ⟨fs_raised, (oks_consS (ok_par2 (i := 2) (j := 3) (io := []) rfl sc_raised.nd rfl rfl (by decide) rfl rfl rfl (oks_cons (ok_glob (by rfl) gc_ONE rv_ONE rc_ONE) (oks_cons (ok_var 0) oks_nil)) (by rfl))
  (oks_consS (ok_while hp (okt_cmp op_gt v2_ib (ok_var 1) ok_int (nomark _)) (oks_consS (ok_ifS (okt_cmp (op_eqD hu) v2_eq (ok_mod (ok_var 1) ok_int) ok_int (nomark _)) (oks_oneS (ok_set (i := 2) (io := []) sc_raised.nd rfl (Or.inl rfl) (ok_tup (oks_cons (ok_mul (ok_ix (okb_var 2) ok_int) (ok_ix (okb_var 3) ok_int)) (oks_cons (ok_mul (ok_ix (okb_var 2) ok_int) (ok_ix (okb_var 3) ok_int)) oks_nil))))) oks_nilS)
  (oks_consS (ok_aug (i := 1) (io := []) sc_raised.nd rfl (Or.inl rfl) o_ifdiv v2_iic ok_int)
  (oks_oneS (ok_ifS (okt_cmp op_gt v2_ib (ok_var 1) ok_int (nomark _)) (oks_oneS (ok_set (i := 3) (io := []) sc_raised.nd rfl (Or.inl rfl) (ok_tup (oks_cons (ok_mul (ok_ix (okb_var 3) ok_int) (ok_ix (okb_var 3) ok_int)) (oks_cons (ok_mul (ok_ix (okb_var 3) ok_int) (ok_ix (okb_var 3) ok_int)) oks_nil))))) oks_nilS)))))
  (oks_oneS (ok_ret (ok_var 2))))), fun _ _ _ _ => rfl⟩
theorem ok_ratio_power {f : Addr} {fd : FuncData} (F : Fun K "ratio_power" "ratio_power" s_ratio_power f fd) {x_BadPower : Addr} {f_is_int : Addr} {d_is_int : FuncData} (C_is_int : Cal P w K mg base 1 "is_int" f_is_int d_is_int ["thing"] [] p_is_int) {f_need_ratio : Addr} {d_need_ratio : FuncData} (C_need_ratio : Cal P w K mg base 3 "need_ratio" f_need_ratio d_need_ratio ["r"] [] p_need_ratio) {f_raised : Addr} {d_raised : FuncData} (C_raised : Cal P w K mg base 1 "raised" f_raised d_raised ["r", "k"] [] p_raised) (X_BadPower : ExC K mg "BadPower" x_BadPower) :
    FnF P w K mg base 4 f fd ["r", "k"] [] p_ratio_power :=
  fn_ok F sc_ratio_power fun cdv A outer s H E hr tk hp => by
  have hu := hr.units
  exact ⟨fs_ratio_power, (oks_consS (ok_expr (OkO.toD (ok_cal C_need_ratio tk hr (by rfl) (oka_cons (okb_var 0) oka_nil) (consA_len nilA_len))))
  (oks_consS (ok_ifS (okt_w (okw_or (okt_not (okt_val (OkO.toD (ok_cal C_is_int tk hr (by rfl) (oka_cons (okb_var 1) oka_nil) (consA_len nilA_len))))) (okw_or1 (okt_cmp op_lt v2_ib (ok_var 1) ok_int (nomark _))))) (oks_oneS (ok_raise rfl tk X_BadPower (by rfl))) oks_nilS)
  (oks_oneS (ok_ret (OkO.toD (ok_cal C_raised tk hr (by rfl) (oka_cons (okb_var 0) (oka_cons (okb_var 1) oka_nil)) (consA_len (consA_len nilA_len)))))))), fun _ _ _ _ => rfl⟩
theorem ok_ratio_compare {f : Addr} {fd : FuncData} (F : Fun K "ratio_compare" "ratio_compare" s_ratio_compare f fd) {f_need_ratio : Addr} {d_need_ratio : FuncData} (C_need_ratio : Cal P w K mg base 3 "need_ratio" f_need_ratio d_need_ratio ["r"] [] p_need_ratio) (z_int : mg "int" = none) :
    FnF P w K mg base 4 f fd ["r", "s"] [] p_ratio_compare :=
  fn_ok F sc_ratio_compare fun cdv A outer s H E hr tk hp => by
  have hu := hr.units
  exact ⟨fs_ratio_compare, (oks_consS (ok_expr (OkO.toD (ok_cal C_need_ratio tk hr (by rfl) (oka_cons (okb_var 0) oka_nil) (consA_len nilA_len))))
  (oks_consS (ok_expr (OkO.toD (ok_cal C_need_ratio tk hr (by rfl) (oka_cons (okb_var 1) oka_nil) (consA_len nilA_len))))
  (oks_consS (ok_par2 (i := 2) (j := 3) (io := []) rfl sc_ratio_compare.nd rfl rfl (by decide) rfl rfl rfl (oks_cons (ok_mul (ok_ix (okb_var 0) ok_int) (ok_ix (okb_var 1) ok_int)) (oks_cons (ok_mul (ok_ix (okb_var 1) ok_int) (ok_ix (okb_var 0) ok_int)) oks_nil)) (by rfl))
  (oks_oneS (ok_ret (ok_sub (ok_intc (by rfl) z_int (OkD.toB (ok_cmp op_gt v2_ib (ok_var 2) (ok_var 3) (nomark _)))) (ok_intc (by rfl) z_int (OkD.toB (ok_cmp op_lt v2_ib (ok_var 2) (ok_var 3) (nomark _)))))))))), fun _ _ _ _ => rfl⟩
theorem ok__law_call {f : Addr} {fd : FuncData} (F : Fun K "_law_call" "_law_call" s__law_call f fd) {f_ratio_compare : Addr} {d_ratio_compare : FuncData} (C_ratio_compare : Cal P w K mg base 4 "ratio_compare" f_ratio_compare d_ratio_compare ["r", "s"] [] p_ratio_compare) {f_ratio_minus : Addr} {d_ratio_minus : FuncData} (C_ratio_minus : Cal P w K mg base 4 "ratio_minus" f_ratio_minus d_ratio_minus ["r", "s"] [] p_ratio_minus) {f_ratio_of : Addr} {d_ratio_of : FuncData} (C_ratio_of : Cal P w K mg base 2 "ratio_of" f_ratio_of d_ratio_of ["top", "bottom"] [] p_ratio_of) {f_ratio_over : Addr} {d_ratio_over : FuncData} (C_ratio_over : Cal P w K mg base 4 "ratio_over" f_ratio_over d_ratio_over ["r", "s"] [] p_ratio_over) {f_ratio_plus : Addr} {d_ratio_plus : FuncData} (C_ratio_plus : Cal P w K mg base 4 "ratio_plus" f_ratio_plus d_ratio_plus ["r", "s"] [] p_ratio_plus) {f_ratio_power : Addr} {d_ratio_power : FuncData} (C_ratio_power : Cal P w K mg base 4 "ratio_power" f_ratio_power d_ratio_power ["r", "k"] [] p_ratio_power) {f_ratio_times : Addr} {d_ratio_times : FuncData} (C_ratio_times : Cal P w K mg base 4 "ratio_times" f_ratio_times d_ratio_times ["r", "s"] [] p_ratio_times) :
    FnF P w K mg base 5 f fd ["which", "one", "other"] [] p__law_call :=
  fn_ok F sc__law_call fun cdv A outer s H E hr tk hp => by
  have hu := hr.units
  exact ⟨fs__law_call, (oks_consS (ok_ifS (okt_cmp (op_eqD hu) v2_eq (ok_var 0) ok_int (nomark _)) (oks_oneS (ok_ret (OkO.toD (ok_cal C_ratio_plus tk hr (by rfl) (oka_cons (okb_var 1) (oka_cons (okb_var 2) oka_nil)) (consA_len (consA_len nilA_len)))))) oks_nilS)
  (oks_consS (ok_ifS (okt_cmp (op_eqD hu) v2_eq (ok_var 0) ok_int (nomark _)) (oks_oneS (ok_ret (OkO.toD (ok_cal C_ratio_minus tk hr (by rfl) (oka_cons (okb_var 1) (oka_cons (okb_var 2) oka_nil)) (consA_len (consA_len nilA_len)))))) oks_nilS)
  (oks_consS (ok_ifS (okt_cmp (op_eqD hu) v2_eq (ok_var 0) ok_int (nomark _)) (oks_oneS (ok_ret (OkO.toD (ok_cal C_ratio_times tk hr (by rfl) (oka_cons (okb_var 1) (oka_cons (okb_var 2) oka_nil)) (consA_len (consA_len nilA_len)))))) oks_nilS)
  (oks_consS (ok_ifS (okt_cmp (op_eqD hu) v2_eq (ok_var 0) ok_int (nomark _)) (oks_oneS (ok_ret (OkO.toD (ok_cal C_ratio_over tk hr (by rfl) (oka_cons (okb_var 1) (oka_cons (okb_var 2) oka_nil)) (consA_len (consA_len nilA_len)))))) oks_nilS)
  (oks_consS (ok_ifS (okt_cmp (op_eqD hu) v2_eq (ok_var 0) ok_int (nomark _)) (oks_oneS (ok_ret (OkO.toD (ok_cal C_ratio_compare tk hr (by rfl) (oka_cons (okb_var 1) (oka_cons (okb_var 2) oka_nil)) (consA_len (consA_len nilA_len)))))) oks_nilS)
  (oks_consS (ok_ifS (okt_cmp (op_eqD hu) v2_eq (ok_var 0) ok_int (nomark _)) (oks_oneS (ok_ret (OkO.toD (ok_cal C_ratio_power tk hr (by rfl) (oka_cons (okb_var 1) (oka_cons (okb_var 2) oka_nil)) (consA_len (consA_len nilA_len)))))) oks_nilS)
  (oks_oneS (ok_ret (OkO.toD (ok_cal C_ratio_of tk hr (by rfl) (oka_cons (okb_var 1) (oka_cons (okb_var 2) oka_nil)) (consA_len (consA_len nilA_len)))))))))))), fun _ _ _ _ => rfl⟩
theorem ok__law_refusal {f : Addr} {fd : FuncData} (F : Fun K "_law_refusal" "_law_refusal" s__law_refusal f fd) {x_BadInteger : Addr} {x_BadPower : Addr} {x_BadRatio : Addr} {x_IdealError : Addr} {x_ZeroBottom : Addr} {f__law_call : Addr} {d__law_call : FuncData} (C__law_call : Cal P w K mg base 5 "_law_call" f__law_call d__law_call ["which", "one", "other"] [] p__law_call) (H_BadInteger : ExH K mg "BadInteger" x_BadInteger) (H_BadPower : ExH K mg "BadPower" x_BadPower) (H_BadRatio : ExH K mg "BadRatio" x_BadRatio) (H_IdealError : ExH K mg "IdealError" x_IdealError) (H_ZeroBottom : ExH K mg "ZeroBottom" x_ZeroBottom) (T_BadInteger : TblOk K mg x_BadInteger tbl_BadInteger) (T_BadPower : TblOk K mg x_BadPower tbl_BadPower) (T_BadRatio : TblOk K mg x_BadRatio tbl_BadRatio) (T_IdealError : TblOk K mg x_IdealError tbl_IdealError) (T_ZeroBottom : TblOk K mg x_ZeroBottom tbl_ZeroBottom) :
    FnF P w K mg base 6 f fd ["which", "one", "other"] [] p__law_refusal :=
  fn_ok F sc__law_refusal fun cdv A outer s H E hr tk hp => by
  have hu := hr.units
  exact ⟨fs__law_refusal, (oks_consS (ok_set (i := 3) (io := []) sc__law_refusal.nd rfl (Or.inl rfl) ok_non)
  (oks_consS (ok_try rfl rfl tk (fun _ _ _ tk hp => (oks_oneS (ok_expr (OkO.toD (ok_cal C__law_call tk hr (by rfl) (oka_cons (okb_var 0) (oka_cons (okb_var 1) (oka_cons (okb_var 2) oka_nil))) (consA_len (consA_len (consA_len nilA_len)))))))) (.cons (by rfl) H_BadRatio T_BadRatio (fun _ _ _ => (oks_oneS (ok_set (i := 3) (io := []) sc__law_refusal.nd rfl (Or.inl rfl) ok_str))) (.cons (by rfl) H_BadInteger T_BadInteger (fun _ _ _ => (oks_oneS (ok_set (i := 3) (io := []) sc__law_refusal.nd rfl (Or.inl rfl) ok_str))) (.cons (by rfl) H_BadPower T_BadPower (fun _ _ _ => (oks_oneS (ok_set (i := 3) (io := []) sc__law_refusal.nd rfl (Or.inl rfl) ok_str))) (.cons (by rfl) H_ZeroBottom T_ZeroBottom (fun _ _ _ => (oks_oneS (ok_set (i := 3) (io := []) sc__law_refusal.nd rfl (Or.inl rfl) ok_str))) (.cons (by rfl) H_IdealError T_IdealError (fun _ _ _ => (oks_oneS (ok_set (i := 3) (io := []) sc__law_refusal.nd rfl (Or.inl rfl) ok_str))) .nil))))))
  (oks_oneS (ok_ret (ok_var 3))))), fun _ _ _ _ => rfl⟩
theorem ok__law_is_base {f : Addr} {fd : FuncData} (F : Fun K "_law_is_base" "_law_is_base" s__law_is_base f fd) {x_IdealError : Addr} {f__law_call : Addr} {d__law_call : FuncData} (C__law_call : Cal P w K mg base 5 "_law_call" f__law_call d__law_call ["which", "one", "other"] [] p__law_call) (H_IdealError : ExH K mg "IdealError" x_IdealError) (T_IdealError : TblOk K mg x_IdealError tbl_IdealError) (V_V : TblV K mg tbl_IdealError) (z_ValueError : mg "ValueError" = none) (z_isinstance : mg "isinstance" = none) :
    FnF P w K mg base 6 f fd ["which", "one", "other"] [] p__law_is_base :=
  fn_ok F sc__law_is_base fun cdv A outer s H E hr tk hp => by
  have hu := hr.units
  exact ⟨fs__law_is_base, (oks_consS (ok_set (i := 3) (io := []) sc__law_is_base.nd rfl (Or.inl rfl) ok_bl)
  (oks_consS (ok_tryIs (i := 4) (j := 3) rfl rfl tk sc__law_is_base.nd rfl rfl (Or.inl rfl) rfl (Or.inl rfl) (by decide) rfl rfl (by rfl) H_IdealError T_IdealError V_V (by rfl) z_isinstance (by rfl) z_ValueError (Or.inl rfl) rfl rfl (fun _ _ _ tk hp => (oks_oneS (ok_expr (OkO.toD (ok_cal C__law_call tk hr (by rfl) (oka_cons (okb_var 0) (oka_cons (okb_var 1) (oka_cons (okb_var 2) oka_nil))) (consA_len (consA_len (consA_len nilA_len)))))))))
  (oks_oneS (ok_ret (ok_var 3))))), fun _ _ _ _ => rfl⟩
theorem ok_law {f : Addr} {fd : FuncData} (F : Fun K "law" "law" s_law f fd) {f__law_draw : Addr} {d__law_draw : FuncData} (C__law_draw : Cal P w K mg base 1 "_law_draw" f__law_draw d__law_draw ["well", "many"] [0] p__law_draw) {f__law_is_base : Addr} {d__law_is_base : FuncData} (C__law_is_base : Cal P w K mg base 6 "_law_is_base" f__law_is_base d__law_is_base ["which", "one", "other"] [] p__law_is_base) {f__law_refusal : Addr} {d__law_refusal : FuncData} (C__law_refusal : Cal P w K mg base 6 "_law_refusal" f__law_refusal d__law_refusal ["which", "one", "other"] [] p__law_refusal) {f__law_well : Addr} {d__law_well : FuncData} (C__law_well : Cal P w K mg base 1 "_law_well" f__law_well d__law_well ["script"] [] p__law_well) {f_is_ratio : Addr} {d_is_ratio : FuncData} (C_is_ratio : Cal P w K mg base 2 "is_ratio" f_is_ratio d_is_ratio ["thing"] [] p_is_ratio) (z_len : mg "len" = none) (z_range : mg "range" = none) :
    FnF P w K mg base 7 f fd ["script"] [] p_law :=
  fn_ok F sc_law fun cdv A outer s H E hr tk hp => by
  have hu := hr.units
  exact ⟨fs_law, (oks_consS (ok_setO (i := 1) (io := []) sc_law.nd rfl (Or.inl rfl) (ok_cal C__law_well tk hr (by rfl) (oka_cons (okb_var 0) oka_nil) (consA_len nilA_len)))
  (oks_consS (ok_set (i := 2) (io := []) sc_law.nd rfl (Or.inl rfl) (OkO.toD (ok_lst (oks_cons (ok_tup (oks_cons ok_int (oks_cons ok_int oks_nil))) (oks_cons (ok_tup (oks_cons ok_int (oks_cons ok_int oks_nil))) (oks_cons (ok_tup (oks_cons ok_int (oks_cons (ok_neg ok_int) oks_nil))) (oks_cons (ok_tup (oks_cons ok_int (oks_cons ok_int oks_nil))) (oks_cons (OkO.toD (ok_lst (oks_cons ok_int (oks_cons ok_int oks_nil)))) (oks_cons (ok_tup (oks_cons ok_int oks_nil)) (oks_cons (ok_tup (oks_cons ok_int (oks_cons ok_int (oks_cons ok_int oks_nil)))) (oks_cons ok_int (oks_cons ok_non (oks_cons ok_str (oks_cons (ok_tup (oks_cons ok_bl (oks_cons ok_int oks_nil))) (oks_cons (ok_tup (oks_cons ok_int (oks_cons ok_bl oks_nil))) (oks_cons (ok_tup (oks_cons (ok_tup (oks_cons ok_int (oks_cons ok_int oks_nil))) (oks_cons ok_int oks_nil))) oks_nil))))))))))))))))
  (oks_consS (ok_set (i := 3) (io := []) sc_law.nd rfl (Or.inl rfl) (ok_tup (oks_cons (ok_plus ok_int (ok_mul ok_int (OkO.toD (ok_cal C__law_draw tk hr (by rfl) (oka_cons (okb_var 1) (oka_cons (OkD.toB ok_int) oka_nil)) (consA_len (consA_len nilA_len)))))) (oks_cons ok_int oks_nil))))
  (oks_consS (ok_for hp rfl (oki_range1 (by rfl) z_range ok_int) (okg_name (i := 4) (io := []) sc_law.nd rfl (Or.inl rfl)) (oks_consS (ok_par2 (i := 5) (j := 6) (io := []) rfl sc_law.nd rfl rfl (by decide) rfl rfl rfl (oks_cons (ok_ix (okb_var 2) (OkO.toD (ok_cal C__law_draw tk hr (by rfl) (oka_cons (okb_var 1) (oka_cons (OkD.toB (ok_len (by rfl) z_len (okb_var 2))) oka_nil)) (consA_len (consA_len nilA_len))))) (oks_cons (ok_ix (okb_var 2) (OkO.toD (ok_cal C__law_draw tk hr (by rfl) (oka_cons (okb_var 1) (oka_cons (OkD.toB (ok_len (by rfl) z_len (okb_var 2))) oka_nil)) (consA_len (consA_len nilA_len))))) oks_nil)) (by rfl))
  (oks_consS (ok_ifS (okt_w (okw_or (okt_cmp op_notBl v2_notB (OkO.toD (ok_cal C_is_ratio tk hr (by rfl) (oka_cons (okb_var 5) oka_nil) (consA_len nilA_len))) ok_bl (nomark _)) (okw_or1 (okt_cmp op_notBl v2_notB (OkO.toD (ok_cal C_is_ratio tk hr (by rfl) (oka_cons (okb_var 3) oka_nil) (consA_len nilA_len))) ok_bl (nomark _))))) (oks_oneS (ok_ret ok_bl)) oks_nilS)
  (oks_consS (ok_for hp rfl (oki_range1 (by rfl) z_range ok_int) (okg_name (i := 7) (io := []) sc_law.nd rfl (Or.inl rfl)) (oks_consS (ok_ifS (okt_w (okw_or (okt_cmp (op_neD hu) v2_ne (OkO.toD (ok_cal C__law_refusal tk hr (by rfl) (oka_cons (okb_var 7) (oka_cons (okb_var 5) (oka_cons (okb_var 3) oka_nil))) (consA_len (consA_len (consA_len nilA_len))))) ok_str (nomark _)) (okw_or1 (okt_cmp (op_neD hu) v2_ne (OkO.toD (ok_cal C__law_refusal tk hr (by rfl) (oka_cons (okb_var 7) (oka_cons (okb_var 3) (oka_cons (okb_var 5) oka_nil))) (consA_len (consA_len (consA_len nilA_len))))) ok_str (nomark _))))) (oks_oneS (ok_ret ok_bl)) oks_nilS)
  (oks_oneS (ok_ifS (okt_w (okw_or (okt_cmp (op_neD hu) v2_ne (OkO.toD (ok_cal C__law_refusal tk hr (by rfl) (oka_cons (okb_var 7) (oka_cons (okb_var 5) (oka_cons (okb_var 6) oka_nil))) (consA_len (consA_len (consA_len nilA_len))))) ok_str (nomark _)) (okw_or1 (okt_notN (OkD.toB (OkO.toD (ok_cal C__law_refusal tk hr (by rfl) (oka_cons (okb_var 7) (oka_cons (okb_var 3) (oka_cons (OkD.toB (ok_var 3)) oka_nil))) (consA_len (consA_len (consA_len nilA_len)))))))))) (oks_oneS (ok_ret ok_bl)) oks_nilS))))
  (oks_consS (ok_set (i := 8) (io := []) sc_law.nd rfl (Or.inl rfl) (ok_ix (OkD.toB (OkO.toD (ok_lst (oks_cons (ok_neg ok_int) (oks_cons ok_bl (oks_cons ok_non (oks_cons ok_str (oks_cons (ok_tup (oks_cons ok_int oks_nil)) (oks_cons (ok_neg (ok_pow ok_int ok_int)) oks_nil))))))))) (OkO.toD (ok_cal C__law_draw tk hr (by rfl) (oka_cons (okb_var 1) (oka_cons (OkD.toB ok_int) oka_nil)) (consA_len (consA_len nilA_len))))))
  (oks_consS (ok_ifS (okt_w (okw_or (okt_cmp (op_neD hu) v2_ne (OkO.toD (ok_cal C__law_refusal tk hr (by rfl) (oka_cons (OkD.toB ok_int) (oka_cons (okb_var 5) (oka_cons (okb_var 8) oka_nil))) (consA_len (consA_len (consA_len nilA_len))))) ok_str (nomark _)) (okw_or (okt_cmp (op_neD hu) v2_ne (OkO.toD (ok_cal C__law_refusal tk hr (by rfl) (oka_cons (OkD.toB ok_int) (oka_cons (okb_var 3) (oka_cons (okb_var 8) oka_nil))) (consA_len (consA_len (consA_len nilA_len))))) ok_str (nomark _)) (okw_or1 (okt_notN (OkD.toB (OkO.toD (ok_cal C__law_refusal tk hr (by rfl) (oka_cons (OkD.toB ok_int) (oka_cons (okb_var 3) (oka_cons (OkD.toB ok_int) oka_nil))) (consA_len (consA_len (consA_len nilA_len))))))))))) (oks_oneS (ok_ret ok_bl)) oks_nilS)
  (oks_consS (ok_set (i := 9) (io := []) sc_law.nd rfl (Or.inl rfl) (ok_ix (OkD.toB (OkO.toD (ok_lst (oks_cons ok_non (oks_cons ok_bl (oks_cons ok_str (oks_cons (ok_tup (oks_cons ok_int (oks_cons ok_int oks_nil))) (oks_cons (OkO.toD (ok_lst (oks_cons ok_int oks_nil))) oks_nil)))))))) (OkO.toD (ok_cal C__law_draw tk hr (by rfl) (oka_cons (okb_var 1) (oka_cons (OkD.toB ok_int) oka_nil)) (consA_len (consA_len nilA_len))))))
  (oks_consS (ok_ifS (okt_w (okw_or (okt_cmp (op_neD hu) v2_ne (OkO.toD (ok_cal C__law_refusal tk hr (by rfl) (oka_cons (OkD.toB ok_int) (oka_cons (okb_var 9) (oka_cons (OkD.toB ok_int) oka_nil))) (consA_len (consA_len (consA_len nilA_len))))) ok_str (nomark _)) (okw_or (okt_cmp (op_neD hu) v2_ne (OkO.toD (ok_cal C__law_refusal tk hr (by rfl) (oka_cons (OkD.toB ok_int) (oka_cons (OkD.toB ok_int) (oka_cons (okb_var 9) oka_nil))) (consA_len (consA_len (consA_len nilA_len))))) ok_str (nomark _)) (okw_or1 (okt_cmp (op_neD hu) v2_ne (OkO.toD (ok_cal C__law_refusal tk hr (by rfl) (oka_cons (OkD.toB ok_int) (oka_cons (OkD.toB ok_int) (oka_cons (OkD.toB ok_int) oka_nil))) (consA_len (consA_len (consA_len nilA_len))))) ok_str (nomark _)))))) (oks_oneS (ok_ret ok_bl)) oks_nilS)
  (oks_oneS (ok_ifS (okt_w (okw_or (okt_cmp (op_neD hu) v2_ne (OkO.toD (ok_cal C__law_refusal tk hr (by rfl) (oka_cons (OkD.toB ok_int) (oka_cons (okb_var 3) (oka_cons (OkD.toB (ok_tup (oks_cons ok_int (oks_cons ok_int oks_nil)))) oka_nil))) (consA_len (consA_len (consA_len nilA_len))))) ok_str (nomark _)) (okw_or (okt_cmp (op_neD hu) v2_ne (OkO.toD (ok_cal C__law_refusal tk hr (by rfl) (oka_cons (OkD.toB ok_int) (oka_cons (okb_var 5) (oka_cons (OkD.toB (ok_tup (oks_cons ok_int (oks_cons ok_int oks_nil)))) oka_nil))) (consA_len (consA_len (consA_len nilA_len))))) ok_str (nomark _)) (okw_or1 (okt_notN (OkD.toB (OkO.toD (ok_cal C__law_refusal tk hr (by rfl) (oka_cons (OkD.toB ok_int) (oka_cons (OkD.toB ok_int) (oka_cons (OkD.toB (ok_neg ok_int)) oka_nil))) (consA_len (consA_len (consA_len nilA_len))))))))))) (oks_oneS (ok_ret ok_bl)) oks_nilS))))))))))
  (oks_oneS (ok_ret (ok_and (OkO.toD (ok_cal C__law_is_base tk hr (by rfl) (oka_cons (OkD.toB ok_int) (oka_cons (OkD.toB ok_non) (oka_cons (okb_var 3) oka_nil))) (consA_len (consA_len (consA_len nilA_len))))) (ok_and (OkO.toD (ok_cal C__law_is_base tk hr (by rfl) (oka_cons (OkD.toB ok_int) (oka_cons (okb_var 3) (oka_cons (OkD.toB (ok_tup (oks_cons ok_int (oks_cons ok_int oks_nil)))) oka_nil))) (consA_len (consA_len (consA_len nilA_len))))) (ok_and (OkO.toD (ok_cal C__law_is_base tk hr (by rfl) (oka_cons (OkD.toB ok_int) (oka_cons (okb_var 3) (oka_cons (OkD.toB (ok_neg ok_int)) oka_nil))) (consA_len (consA_len (consA_len nilA_len))))) (ok_one (OkO.toD (ok_cal C__law_is_base tk hr (by rfl) (oka_cons (OkD.toB ok_int) (oka_cons (OkD.toB ok_str) (oka_cons (OkD.toB ok_int) oka_nil))) (consA_len (consA_len (consA_len nilA_len))))))))))))))), fun _ _ _ _ => rfl⟩
/-- what the top has left -/
theorem all_mk {h : Heap} {fa : Addr} (X : K.In h) (Gn : h.Ns mainGlobals mg) (hfa : mg "law" = some (.ref fa)) {f_is_int : Addr} {d_is_int : FuncData} (F_is_int : Fun K "is_int" "is_int" s_is_int f_is_int d_is_int) (g_is_int : PySem.W.nsIn K mainGlobals "is_int" = some (some (.ref f_is_int)))
    {f_is_row : Addr} {d_is_row : FuncData} (F_is_row : Fun K "is_row" "is_row" s_is_row f_is_row d_is_row) (g_is_row : PySem.W.nsIn K mainGlobals "is_row" = some (some (.ref f_is_row)))
    {f_is_ratio : Addr} {d_is_ratio : FuncData} (F_is_ratio : Fun K "is_ratio" "is_ratio" s_is_ratio f_is_ratio d_is_ratio) (g_is_ratio : PySem.W.nsIn K mainGlobals "is_ratio" = some (some (.ref f_is_ratio)))
    {f__law_well : Addr} {d__law_well : FuncData} (F__law_well : Fun K "_law_well" "_law_well" s__law_well f__law_well d__law_well) (g__law_well : PySem.W.nsIn K mainGlobals "_law_well" = some (some (.ref f__law_well)))
    {f__law_draw : Addr} {d__law_draw : FuncData} (F__law_draw : Fun K "_law_draw" "_law_draw" s__law_draw f__law_draw d__law_draw) (g__law_draw : PySem.W.nsIn K mainGlobals "_law_draw" = some (some (.ref f__law_draw)))
    {f_lowest : Addr} {d_lowest : FuncData} (F_lowest : Fun K "lowest" "lowest" s_lowest f_lowest d_lowest) (g_lowest : PySem.W.nsIn K mainGlobals "lowest" = some (some (.ref f_lowest)))
    {f_ratio_of : Addr} {d_ratio_of : FuncData} (F_ratio_of : Fun K "ratio_of" "ratio_of" s_ratio_of f_ratio_of d_ratio_of) (g_ratio_of : PySem.W.nsIn K mainGlobals "ratio_of" = some (some (.ref f_ratio_of)))
    {f_added : Addr} {d_added : FuncData} (F_added : Fun K "added" "added" s_added f_added d_added) (g_added : PySem.W.nsIn K mainGlobals "added" = some (some (.ref f_added)))
    {f_need_ratio : Addr} {d_need_ratio : FuncData} (F_need_ratio : Fun K "need_ratio" "need_ratio" s_need_ratio f_need_ratio d_need_ratio) (g_need_ratio : PySem.W.nsIn K mainGlobals "need_ratio" = some (some (.ref f_need_ratio)))
    {f_ratio_plus : Addr} {d_ratio_plus : FuncData} (F_ratio_plus : Fun K "ratio_plus" "ratio_plus" s_ratio_plus f_ratio_plus d_ratio_plus) (g_ratio_plus : PySem.W.nsIn K mainGlobals "ratio_plus" = some (some (.ref f_ratio_plus)))
    {f_taken : Addr} {d_taken : FuncData} (F_taken : Fun K "taken" "taken" s_taken f_taken d_taken) (g_taken : PySem.W.nsIn K mainGlobals "taken" = some (some (.ref f_taken)))
    {f_ratio_minus : Addr} {d_ratio_minus : FuncData} (F_ratio_minus : Fun K "ratio_minus" "ratio_minus" s_ratio_minus f_ratio_minus d_ratio_minus) (g_ratio_minus : PySem.W.nsIn K mainGlobals "ratio_minus" = some (some (.ref f_ratio_minus)))
    {f_multiplied : Addr} {d_multiplied : FuncData} (F_multiplied : Fun K "multiplied" "multiplied" s_multiplied f_multiplied d_multiplied) (g_multiplied : PySem.W.nsIn K mainGlobals "multiplied" = some (some (.ref f_multiplied)))
    {f_ratio_times : Addr} {d_ratio_times : FuncData} (F_ratio_times : Fun K "ratio_times" "ratio_times" s_ratio_times f_ratio_times d_ratio_times) (g_ratio_times : PySem.W.nsIn K mainGlobals "ratio_times" = some (some (.ref f_ratio_times)))
    {f_inverse : Addr} {d_inverse : FuncData} (F_inverse : Fun K "inverse" "inverse" s_inverse f_inverse d_inverse) (g_inverse : PySem.W.nsIn K mainGlobals "inverse" = some (some (.ref f_inverse)))
    {f_over : Addr} {d_over : FuncData} (F_over : Fun K "over" "over" s_over f_over d_over) (g_over : PySem.W.nsIn K mainGlobals "over" = some (some (.ref f_over)))
    {f_ratio_over : Addr} {d_ratio_over : FuncData} (F_ratio_over : Fun K "ratio_over" "ratio_over" s_ratio_over f_ratio_over d_ratio_over) (g_ratio_over : PySem.W.nsIn K mainGlobals "ratio_over" = some (some (.ref f_ratio_over)))
    {f_raised : Addr} {d_raised : FuncData} (F_raised : Fun K "raised" "raised" s_raised f_raised d_raised) (g_raised : PySem.W.nsIn K mainGlobals "raised" = some (some (.ref f_raised)))
    {f_ratio_power : Addr} {d_ratio_power : FuncData} (F_ratio_power : Fun K "ratio_power" "ratio_power" s_ratio_power f_ratio_power d_ratio_power) (g_ratio_power : PySem.W.nsIn K mainGlobals "ratio_power" = some (some (.ref f_ratio_power)))
    {f_ratio_compare : Addr} {d_ratio_compare : FuncData} (F_ratio_compare : Fun K "ratio_compare" "ratio_compare" s_ratio_compare f_ratio_compare d_ratio_compare) (g_ratio_compare : PySem.W.nsIn K mainGlobals "ratio_compare" = some (some (.ref f_ratio_compare)))
    {f__law_call : Addr} {d__law_call : FuncData} (F__law_call : Fun K "_law_call" "_law_call" s__law_call f__law_call d__law_call) (g__law_call : PySem.W.nsIn K mainGlobals "_law_call" = some (some (.ref f__law_call)))
    {f__law_refusal : Addr} {d__law_refusal : FuncData} (F__law_refusal : Fun K "_law_refusal" "_law_refusal" s__law_refusal f__law_refusal d__law_refusal) (g__law_refusal : PySem.W.nsIn K mainGlobals "_law_refusal" = some (some (.ref f__law_refusal)))
    {f__law_is_base : Addr} {d__law_is_base : FuncData} (F__law_is_base : Fun K "_law_is_base" "_law_is_base" s__law_is_base f__law_is_base d__law_is_base) (g__law_is_base : PySem.W.nsIn K mainGlobals "_law_is_base" = some (some (.ref f__law_is_base)))
    {f_law : Addr} {d_law : FuncData} (F_law : Fun K "law" "law" s_law f_law d_law) (g_law : PySem.W.nsIn K mainGlobals "law" = some (some (.ref f_law)))
    (z_ValueError : PySem.W.nsIn K mainGlobals "ValueError" = some none)
    (z_abs : PySem.W.nsIn K mainGlobals "abs" = some none)
    (z_bool : PySem.W.nsIn K mainGlobals "bool" = some none)
    (z_int : PySem.W.nsIn K mainGlobals "int" = some none)
    (z_isinstance : PySem.W.nsIn K mainGlobals "isinstance" = some none)
    (z_len : PySem.W.nsIn K mainGlobals "len" = some none)
    (z_range : PySem.W.nsIn K mainGlobals "range" = some none)
    (z_tuple : PySem.W.nsIn K mainGlobals "tuple" = some none)
    (gg_gcd : PySem.W.nsIn K mainGlobals "gcd" = some (some (.builtin "math.gcd")))
    {a_ONE : V} {u_ONE : Value} (gc_ONE : PySem.W.nsIn K mainGlobals "ONE" = some (some u_ONE)) (rv_ONE : RelV a_ONE u_ONE) (rc_ONE : ∀ G, Rp K G a_ONE c_ONE)
    {x_BadInteger : Addr} (gx_BadInteger : PySem.W.nsIn K mainGlobals "BadInteger" = some (some (.ref x_BadInteger))) (xb_BadInteger : PySem.W.subIn K (.ref x_BadInteger) (.type "BaseException") = some true) (xt_BadInteger : PySem.W.typeIn K (.ref x_BadInteger) = some (.type "type")) (xd_BadInteger : PySem.W.isClsIn K x_BadInteger = true)
    {x_BadPower : Addr} (gx_BadPower : PySem.W.nsIn K mainGlobals "BadPower" = some (some (.ref x_BadPower))) (xb_BadPower : PySem.W.subIn K (.ref x_BadPower) (.type "BaseException") = some true) (xt_BadPower : PySem.W.typeIn K (.ref x_BadPower) = some (.type "type")) (xd_BadPower : PySem.W.isClsIn K x_BadPower = true)
    {x_BadRatio : Addr} (gx_BadRatio : PySem.W.nsIn K mainGlobals "BadRatio" = some (some (.ref x_BadRatio))) (xb_BadRatio : PySem.W.subIn K (.ref x_BadRatio) (.type "BaseException") = some true) (xt_BadRatio : PySem.W.typeIn K (.ref x_BadRatio) = some (.type "type")) (xd_BadRatio : PySem.W.isClsIn K x_BadRatio = true)
    {x_IdealError : Addr} (gx_IdealError : PySem.W.nsIn K mainGlobals "IdealError" = some (some (.ref x_IdealError))) (xb_IdealError : PySem.W.subIn K (.ref x_IdealError) (.type "BaseException") = some true) (xt_IdealError : PySem.W.typeIn K (.ref x_IdealError) = some (.type "type")) (xd_IdealError : PySem.W.isClsIn K x_IdealError = true)
    {x_ZeroBottom : Addr} (gx_ZeroBottom : PySem.W.nsIn K mainGlobals "ZeroBottom" = some (some (.ref x_ZeroBottom))) (xb_ZeroBottom : PySem.W.subIn K (.ref x_ZeroBottom) (.type "BaseException") = some true) (xt_ZeroBottom : PySem.W.typeIn K (.ref x_ZeroBottom) = some (.type "type")) (xd_ZeroBottom : PySem.W.isClsIn K x_ZeroBottom = true)
    (xe_BadInteger : PySem.W.excIn K x_BadInteger [.type "ValueError", .type "Exception", .type "BaseException", .type "object"] "ValueError.__new__" = true) (xk_BadInteger : PySem.W.keepIn K (.ref x_BadInteger) = true)
    (xe_BadPower : PySem.W.excIn K x_BadPower [.type "ValueError", .type "Exception", .type "BaseException", .type "object"] "ValueError.__new__" = true) (xk_BadPower : PySem.W.keepIn K (.ref x_BadPower) = true)
    (xe_BadRatio : PySem.W.excIn K x_BadRatio [.type "ValueError", .type "Exception", .type "BaseException", .type "object"] "ValueError.__new__" = true) (xk_BadRatio : PySem.W.keepIn K (.ref x_BadRatio) = true)
    (xe_ZeroBottom : PySem.W.excIn K x_ZeroBottom [.type "ValueError", .type "Exception", .type "BaseException", .type "object"] "ValueError.__new__" = true) (xk_ZeroBottom : PySem.W.keepIn K (.ref x_ZeroBottom) = true)
    (xs_BadInteger_BadInteger : PySem.W.subIn K (.ref x_BadInteger) (.ref x_BadInteger) = some true)
    (xs_BadPower_BadInteger : PySem.W.subIn K (.ref x_BadPower) (.ref x_BadInteger) = some false)
    (xs_BadRatio_BadInteger : PySem.W.subIn K (.ref x_BadRatio) (.ref x_BadInteger) = some false)
    (xs_ZeroBottom_BadInteger : PySem.W.subIn K (.ref x_ZeroBottom) (.ref x_BadInteger) = some false)
    (xs_BadInteger_BadPower : PySem.W.subIn K (.ref x_BadInteger) (.ref x_BadPower) = some false)
    (xs_BadPower_BadPower : PySem.W.subIn K (.ref x_BadPower) (.ref x_BadPower) = some true)
    (xs_BadRatio_BadPower : PySem.W.subIn K (.ref x_BadRatio) (.ref x_BadPower) = some false)
    (xs_ZeroBottom_BadPower : PySem.W.subIn K (.ref x_ZeroBottom) (.ref x_BadPower) = some false)
    (xs_BadInteger_BadRatio : PySem.W.subIn K (.ref x_BadInteger) (.ref x_BadRatio) = some false)
    (xs_BadPower_BadRatio : PySem.W.subIn K (.ref x_BadPower) (.ref x_BadRatio) = some false)
    (xs_BadRatio_BadRatio : PySem.W.subIn K (.ref x_BadRatio) (.ref x_BadRatio) = some true)
    (xs_ZeroBottom_BadRatio : PySem.W.subIn K (.ref x_ZeroBottom) (.ref x_BadRatio) = some false)
    (xs_BadInteger_IdealError : PySem.W.subIn K (.ref x_BadInteger) (.ref x_IdealError) = some true)
    (xs_BadPower_IdealError : PySem.W.subIn K (.ref x_BadPower) (.ref x_IdealError) = some true)
    (xs_BadRatio_IdealError : PySem.W.subIn K (.ref x_BadRatio) (.ref x_IdealError) = some true)
    (xs_ZeroBottom_IdealError : PySem.W.subIn K (.ref x_ZeroBottom) (.ref x_IdealError) = some true)
    (xs_BadInteger_ZeroBottom : PySem.W.subIn K (.ref x_BadInteger) (.ref x_ZeroBottom) = some false)
    (xs_BadPower_ZeroBottom : PySem.W.subIn K (.ref x_BadPower) (.ref x_ZeroBottom) = some false)
    (xs_BadRatio_ZeroBottom : PySem.W.subIn K (.ref x_BadRatio) (.ref x_ZeroBottom) = some false)
    (xs_ZeroBottom_ZeroBottom : PySem.W.subIn K (.ref x_ZeroBottom) (.ref x_ZeroBottom) = some true)
    (xx_BadInteger : ExcC K x_BadInteger) (xv_BadInteger : PySem.W.subIn K (.ref x_BadInteger) (.type "ValueError") = some true)
    (xx_BadPower : ExcC K x_BadPower) (xv_BadPower : PySem.W.subIn K (.ref x_BadPower) (.type "ValueError") = some true)
    (xx_BadRatio : ExcC K x_BadRatio) (xv_BadRatio : PySem.W.subIn K (.ref x_BadRatio) (.type "ValueError") = some true)
    (xx_ZeroBottom : ExcC K x_ZeroBottom) (xv_ZeroBottom : PySem.W.subIn K (.ref x_ZeroBottom) (.type "ValueError") = some true)
    (hl : ∀ ns : List Int, ns.length ≤ 63 → ∃ os', p_law [.v (.lst (ns.map .int))] = .ok (.v (.bl true)) os') :
    ∃ fd : FuncData, (∀ (s : Shared) (v : Value), BindsTo s fd ⟨[v], []⟩ [("script", v)]) ∧ ∀ base : Heap, K.In base → base.Ns mainGlobals mg → FnOk P w K mg base (L2.CX P w) 7 fa fd ["script"] (spLaw K) := by
  have e := hfa.symm.trans (PySem.W.mg_of X Gn g_law)
  cases e
  refine ⟨d_law, fun s v => ?_, fun base _ _ => ?_⟩
  · obtain ⟨oc, od, kV, doc, pm, an, cdv, ct, osl, rfl, _, _⟩ := F_law.ex
    exact .of_eq rfl
  have z_ValueError := PySem.W.mg_none_of X Gn z_ValueError
  have z_abs := PySem.W.mg_none_of X Gn z_abs
  have z_bool := PySem.W.mg_none_of X Gn z_bool
  have z_int := PySem.W.mg_none_of X Gn z_int
  have z_isinstance := PySem.W.mg_none_of X Gn z_isinstance
  have z_len := PySem.W.mg_none_of X Gn z_len
  have z_range := PySem.W.mg_none_of X Gn z_range
  have z_tuple := PySem.W.mg_none_of X Gn z_tuple
  have gg_gcd := PySem.W.mg_of X Gn gg_gcd
  have gc_ONE := PySem.W.mg_of X Gn gc_ONE
  have X_BadInteger : ExC K mg "BadInteger" x_BadInteger := ⟨PySem.W.mg_of X Gn gx_BadInteger, xe_BadInteger, xk_BadInteger, xb_BadInteger, xt_BadInteger, xd_BadInteger⟩
  have X_BadPower : ExC K mg "BadPower" x_BadPower := ⟨PySem.W.mg_of X Gn gx_BadPower, xe_BadPower, xk_BadPower, xb_BadPower, xt_BadPower, xd_BadPower⟩
  have X_BadRatio : ExC K mg "BadRatio" x_BadRatio := ⟨PySem.W.mg_of X Gn gx_BadRatio, xe_BadRatio, xk_BadRatio, xb_BadRatio, xt_BadRatio, xd_BadRatio⟩
  have X_ZeroBottom : ExC K mg "ZeroBottom" x_ZeroBottom := ⟨PySem.W.mg_of X Gn gx_ZeroBottom, xe_ZeroBottom, xk_ZeroBottom, xb_ZeroBottom, xt_ZeroBottom, xd_ZeroBottom⟩
  have H_BadInteger : ExH K mg "BadInteger" x_BadInteger := ⟨PySem.W.mg_of X Gn gx_BadInteger, xb_BadInteger, xt_BadInteger, xd_BadInteger⟩
  have H_BadPower : ExH K mg "BadPower" x_BadPower := ⟨PySem.W.mg_of X Gn gx_BadPower, xb_BadPower, xt_BadPower, xd_BadPower⟩
  have H_BadRatio : ExH K mg "BadRatio" x_BadRatio := ⟨PySem.W.mg_of X Gn gx_BadRatio, xb_BadRatio, xt_BadRatio, xd_BadRatio⟩
  have H_IdealError : ExH K mg "IdealError" x_IdealError := ⟨PySem.W.mg_of X Gn gx_IdealError, xb_IdealError, xt_IdealError, xd_IdealError⟩
  have H_ZeroBottom : ExH K mg "ZeroBottom" x_ZeroBottom := ⟨PySem.W.mg_of X Gn gx_ZeroBottom, xb_ZeroBottom, xt_ZeroBottom, xd_ZeroBottom⟩
  have T_BadInteger : TblOk K mg x_BadInteger tbl_BadInteger := (.cons (PySem.W.mg_of X Gn gx_BadInteger) xs_BadInteger_BadInteger (.cons (PySem.W.mg_of X Gn gx_BadPower) xs_BadPower_BadInteger (.cons (PySem.W.mg_of X Gn gx_BadRatio) xs_BadRatio_BadInteger (.cons (PySem.W.mg_of X Gn gx_ZeroBottom) xs_ZeroBottom_BadInteger .nil))))
  have T_BadPower : TblOk K mg x_BadPower tbl_BadPower := (.cons (PySem.W.mg_of X Gn gx_BadInteger) xs_BadInteger_BadPower (.cons (PySem.W.mg_of X Gn gx_BadPower) xs_BadPower_BadPower (.cons (PySem.W.mg_of X Gn gx_BadRatio) xs_BadRatio_BadPower (.cons (PySem.W.mg_of X Gn gx_ZeroBottom) xs_ZeroBottom_BadPower .nil))))
  have T_BadRatio : TblOk K mg x_BadRatio tbl_BadRatio := (.cons (PySem.W.mg_of X Gn gx_BadInteger) xs_BadInteger_BadRatio (.cons (PySem.W.mg_of X Gn gx_BadPower) xs_BadPower_BadRatio (.cons (PySem.W.mg_of X Gn gx_BadRatio) xs_BadRatio_BadRatio (.cons (PySem.W.mg_of X Gn gx_ZeroBottom) xs_ZeroBottom_BadRatio .nil))))
  have T_IdealError : TblOk K mg x_IdealError tbl_IdealError := (.cons (PySem.W.mg_of X Gn gx_BadInteger) xs_BadInteger_IdealError (.cons (PySem.W.mg_of X Gn gx_BadPower) xs_BadPower_IdealError (.cons (PySem.W.mg_of X Gn gx_BadRatio) xs_BadRatio_IdealError (.cons (PySem.W.mg_of X Gn gx_ZeroBottom) xs_ZeroBottom_IdealError .nil))))
  have T_ZeroBottom : TblOk K mg x_ZeroBottom tbl_ZeroBottom := (.cons (PySem.W.mg_of X Gn gx_BadInteger) xs_BadInteger_ZeroBottom (.cons (PySem.W.mg_of X Gn gx_BadPower) xs_BadPower_ZeroBottom (.cons (PySem.W.mg_of X Gn gx_BadRatio) xs_BadRatio_ZeroBottom (.cons (PySem.W.mg_of X Gn gx_ZeroBottom) xs_ZeroBottom_ZeroBottom .nil))))
  have V_V : TblV K mg tbl_IdealError := (.yes (PySem.W.mg_of X Gn gx_BadInteger) ⟨xx_BadInteger, kit_VE xv_BadInteger⟩ (.yes (PySem.W.mg_of X Gn gx_BadPower) ⟨xx_BadPower, kit_VE xv_BadPower⟩ (.yes (PySem.W.mg_of X Gn gx_BadRatio) ⟨xx_BadRatio, kit_VE xv_BadRatio⟩ (.yes (PySem.W.mg_of X Gn gx_ZeroBottom) ⟨xx_ZeroBottom, kit_VE xv_ZeroBottom⟩ .nil))))
  have O_is_int : FnF P w K mg base 1 f_is_int d_is_int ["thing"] [] p_is_int := ok_is_int F_is_int (z_bool := z_bool) (z_int := z_int) (z_isinstance := z_isinstance)
  have C_is_int : Cal P w K mg base 1 "is_int" f_is_int d_is_int ["thing"] [] p_is_int := ⟨O_is_int, F_is_int.binds (ps := ["thing"]) fun _ _ _ _ _ _ us hl => (match us, hl with | [_], _ => rfl), PySem.W.mg_of X Gn g_is_int, F_is_int.kp⟩
  have O_is_row : FnF P w K mg base 1 f_is_row d_is_row ["thing", "least", "most"] [] p_is_row := ok_is_row F_is_row (z_isinstance := z_isinstance) (z_len := z_len) (z_tuple := z_tuple)
  have C_is_row : Cal P w K mg base 1 "is_row" f_is_row d_is_row ["thing", "least", "most"] [] p_is_row := ⟨O_is_row, F_is_row.binds (ps := ["thing", "least", "most"]) fun _ _ _ _ _ _ us hl => (match us, hl with | [_, _, _], _ => rfl), PySem.W.mg_of X Gn g_is_row, F_is_row.kp⟩
  have O_is_ratio : FnF P w K mg base 2 f_is_ratio d_is_ratio ["thing"] [] p_is_ratio := ok_is_ratio F_is_ratio (C_is_int := C_is_int) (C_is_row := C_is_row) (gg_gcd := gg_gcd)
  have C_is_ratio : Cal P w K mg base 2 "is_ratio" f_is_ratio d_is_ratio ["thing"] [] p_is_ratio := ⟨O_is_ratio, F_is_ratio.binds (ps := ["thing"]) fun _ _ _ _ _ _ us hl => (match us, hl with | [_], _ => rfl), PySem.W.mg_of X Gn g_is_ratio, F_is_ratio.kp⟩
  have O__law_well : FnF P w K mg base 1 f__law_well d__law_well ["script"] [] p__law_well := ok__law_well F__law_well (z_int := z_int)
  have C__law_well : Cal P w K mg base 1 "_law_well" f__law_well d__law_well ["script"] [] p__law_well := ⟨O__law_well, F__law_well.binds (ps := ["script"]) fun _ _ _ _ _ _ us hl => (match us, hl with | [_], _ => rfl), PySem.W.mg_of X Gn g__law_well, F__law_well.kp⟩
  have O__law_draw : FnF P w K mg base 1 f__law_draw d__law_draw ["well", "many"] [0] p__law_draw := ok__law_draw F__law_draw (z_abs := z_abs) (z_int := z_int)
  have C__law_draw : Cal P w K mg base 1 "_law_draw" f__law_draw d__law_draw ["well", "many"] [0] p__law_draw := ⟨O__law_draw, F__law_draw.binds (ps := ["well", "many"]) fun _ _ _ _ _ _ us hl => (match us, hl with | [_, _], _ => rfl), PySem.W.mg_of X Gn g__law_draw, F__law_draw.kp⟩
  have O_lowest : FnF P w K mg base 1 f_lowest d_lowest ["top", "bottom"] [] p_lowest := ok_lowest F_lowest (gg_gcd := gg_gcd)
  have C_lowest : Cal P w K mg base 1 "lowest" f_lowest d_lowest ["top", "bottom"] [] p_lowest := ⟨O_lowest, F_lowest.binds (ps := ["top", "bottom"]) fun _ _ _ _ _ _ us hl => (match us, hl with | [_, _], _ => rfl), PySem.W.mg_of X Gn g_lowest, F_lowest.kp⟩
  have O_ratio_of : FnF P w K mg base 2 f_ratio_of d_ratio_of ["top", "bottom"] [] p_ratio_of := ok_ratio_of F_ratio_of (C_is_int := C_is_int) (C_lowest := C_lowest) (X_BadInteger := X_BadInteger) (X_ZeroBottom := X_ZeroBottom)
  have C_ratio_of : Cal P w K mg base 2 "ratio_of" f_ratio_of d_ratio_of ["top", "bottom"] [] p_ratio_of := ⟨O_ratio_of, F_ratio_of.binds (ps := ["top", "bottom"]) fun _ _ _ _ _ _ us hl => (match us, hl with | [_, _], _ => rfl), PySem.W.mg_of X Gn g_ratio_of, F_ratio_of.kp⟩
  have O_added : FnF P w K mg base 2 f_added d_added ["r", "s"] [] p_added := ok_added F_added (C_lowest := C_lowest)
  have C_added : Cal P w K mg base 2 "added" f_added d_added ["r", "s"] [] p_added := ⟨O_added, F_added.binds (ps := ["r", "s"]) fun _ _ _ _ _ _ us hl => (match us, hl with | [_, _], _ => rfl), PySem.W.mg_of X Gn g_added, F_added.kp⟩
  have O_need_ratio : FnF P w K mg base 3 f_need_ratio d_need_ratio ["r"] [] p_need_ratio := ok_need_ratio F_need_ratio (C_is_ratio := C_is_ratio) (X_BadRatio := X_BadRatio)
  have C_need_ratio : Cal P w K mg base 3 "need_ratio" f_need_ratio d_need_ratio ["r"] [] p_need_ratio := ⟨O_need_ratio, F_need_ratio.binds (ps := ["r"]) fun _ _ _ _ _ _ us hl => (match us, hl with | [_], _ => rfl), PySem.W.mg_of X Gn g_need_ratio, F_need_ratio.kp⟩
  have O_ratio_plus : FnF P w K mg base 4 f_ratio_plus d_ratio_plus ["r", "s"] [] p_ratio_plus := ok_ratio_plus F_ratio_plus (C_added := C_added) (C_need_ratio := C_need_ratio)
  have C_ratio_plus : Cal P w K mg base 4 "ratio_plus" f_ratio_plus d_ratio_plus ["r", "s"] [] p_ratio_plus := ⟨O_ratio_plus, F_ratio_plus.binds (ps := ["r", "s"]) fun _ _ _ _ _ _ us hl => (match us, hl with | [_, _], _ => rfl), PySem.W.mg_of X Gn g_ratio_plus, F_ratio_plus.kp⟩
  have O_taken : FnF P w K mg base 3 f_taken d_taken ["r", "s"] [] p_taken := ok_taken F_taken (C_added := C_added)
  have C_taken : Cal P w K mg base 3 "taken" f_taken d_taken ["r", "s"] [] p_taken := ⟨O_taken, F_taken.binds (ps := ["r", "s"]) fun _ _ _ _ _ _ us hl => (match us, hl with | [_, _], _ => rfl), PySem.W.mg_of X Gn g_taken, F_taken.kp⟩
  have O_ratio_minus : FnF P w K mg base 4 f_ratio_minus d_ratio_minus ["r", "s"] [] p_ratio_minus := ok_ratio_minus F_ratio_minus (C_need_ratio := C_need_ratio) (C_taken := C_taken)
  have C_ratio_minus : Cal P w K mg base 4 "ratio_minus" f_ratio_minus d_ratio_minus ["r", "s"] [] p_ratio_minus := ⟨O_ratio_minus, F_ratio_minus.binds (ps := ["r", "s"]) fun _ _ _ _ _ _ us hl => (match us, hl with | [_, _], _ => rfl), PySem.W.mg_of X Gn g_ratio_minus, F_ratio_minus.kp⟩
  have O_multiplied : FnF P w K mg base 2 f_multiplied d_multiplied ["r", "s"] [] p_multiplied := ok_multiplied F_multiplied (C_lowest := C_lowest)
  have C_multiplied : Cal P w K mg base 2 "multiplied" f_multiplied d_multiplied ["r", "s"] [] p_multiplied := ⟨O_multiplied, F_multiplied.binds (ps := ["r", "s"]) fun _ _ _ _ _ _ us hl => (match us, hl with | [_, _], _ => rfl), PySem.W.mg_of X Gn g_multiplied, F_multiplied.kp⟩
  have O_ratio_times : FnF P w K mg base 4 f_ratio_times d_ratio_times ["r", "s"] [] p_ratio_times := ok_ratio_times F_ratio_times (C_multiplied := C_multiplied) (C_need_ratio := C_need_ratio)
  have C_ratio_times : Cal P w K mg base 4 "ratio_times" f_ratio_times d_ratio_times ["r", "s"] [] p_ratio_times := ⟨O_ratio_times, F_ratio_times.binds (ps := ["r", "s"]) fun _ _ _ _ _ _ us hl => (match us, hl with | [_, _], _ => rfl), PySem.W.mg_of X Gn g_ratio_times, F_ratio_times.kp⟩
  have O_inverse : FnF P w K mg base 1 f_inverse d_inverse ["r"] [] p_inverse := ok_inverse F_inverse 
  have C_inverse : Cal P w K mg base 1 "inverse" f_inverse d_inverse ["r"] [] p_inverse := ⟨O_inverse, F_inverse.binds (ps := ["r"]) fun _ _ _ _ _ _ us hl => (match us, hl with | [_], _ => rfl), PySem.W.mg_of X Gn g_inverse, F_inverse.kp⟩
  have O_over : FnF P w K mg base 3 f_over d_over ["r", "s"] [] p_over := ok_over F_over (C_inverse := C_inverse) (C_multiplied := C_multiplied)
  have C_over : Cal P w K mg base 3 "over" f_over d_over ["r", "s"] [] p_over := ⟨O_over, F_over.binds (ps := ["r", "s"]) fun _ _ _ _ _ _ us hl => (match us, hl with | [_, _], _ => rfl), PySem.W.mg_of X Gn g_over, F_over.kp⟩
  have O_ratio_over : FnF P w K mg base 4 f_ratio_over d_ratio_over ["r", "s"] [] p_ratio_over := ok_ratio_over F_ratio_over (C_need_ratio := C_need_ratio) (C_over := C_over) (X_ZeroBottom := X_ZeroBottom)
  have C_ratio_over : Cal P w K mg base 4 "ratio_over" f_ratio_over d_ratio_over ["r", "s"] [] p_ratio_over := ⟨O_ratio_over, F_ratio_over.binds (ps := ["r", "s"]) fun _ _ _ _ _ _ us hl => (match us, hl with | [_, _], _ => rfl), PySem.W.mg_of X Gn g_ratio_over, F_ratio_over.kp⟩
  have O_raised : FnF P w K mg base 1 f_raised d_raised ["r", "k"] [] p_raised := ok_raised F_raised (gc_ONE := gc_ONE) (rc_ONE := rc_ONE) (rv_ONE := rv_ONE)
  have C_raised : Cal P w K mg base 1 "raised" f_raised d_raised ["r", "k"] [] p_raised := ⟨O_raised, F_raised.binds (ps := ["r", "k"]) fun _ _ _ _ _ _ us hl => (match us, hl with | [_, _], _ => rfl), PySem.W.mg_of X Gn g_raised, F_raised.kp⟩
  have O_ratio_power : FnF P w K mg base 4 f_ratio_power d_ratio_power ["r", "k"] [] p_ratio_power := ok_ratio_power F_ratio_power (C_is_int := C_is_int) (C_need_ratio := C_need_ratio) (C_raised := C_raised) (X_BadPower := X_BadPower)
  have C_ratio_power : Cal P w K mg base 4 "ratio_power" f_ratio_power d_ratio_power ["r", "k"] [] p_ratio_power := ⟨O_ratio_power, F_ratio_power.binds (ps := ["r", "k"]) fun _ _ _ _ _ _ us hl => (match us, hl with | [_, _], _ => rfl), PySem.W.mg_of X Gn g_ratio_power, F_ratio_power.kp⟩
  have O_ratio_compare : FnF P w K mg base 4 f_ratio_compare d_ratio_compare ["r", "s"] [] p_ratio_compare := ok_ratio_compare F_ratio_compare (C_need_ratio := C_need_ratio) (z_int := z_int)
  have C_ratio_compare : Cal P w K mg base 4 "ratio_compare" f_ratio_compare d_ratio_compare ["r", "s"] [] p_ratio_compare := ⟨O_ratio_compare, F_ratio_compare.binds (ps := ["r", "s"]) fun _ _ _ _ _ _ us hl => (match us, hl with | [_, _], _ => rfl), PySem.W.mg_of X Gn g_ratio_compare, F_ratio_compare.kp⟩
  have O__law_call : FnF P w K mg base 5 f__law_call d__law_call ["which", "one", "other"] [] p__law_call := ok__law_call F__law_call (C_ratio_compare := C_ratio_compare) (C_ratio_minus := C_ratio_minus) (C_ratio_of := C_ratio_of) (C_ratio_over := C_ratio_over) (C_ratio_plus := C_ratio_plus) (C_ratio_power := C_ratio_power) (C_ratio_times := C_ratio_times)
  have C__law_call : Cal P w K mg base 5 "_law_call" f__law_call d__law_call ["which", "one", "other"] [] p__law_call := ⟨O__law_call, F__law_call.binds (ps := ["which", "one", "other"]) fun _ _ _ _ _ _ us hl => (match us, hl with | [_, _, _], _ => rfl), PySem.W.mg_of X Gn g__law_call, F__law_call.kp⟩
  have O__law_refusal : FnF P w K mg base 6 f__law_refusal d__law_refusal ["which", "one", "other"] [] p__law_refusal := ok__law_refusal F__law_refusal (C__law_call := C__law_call) (H_BadInteger := H_BadInteger) (H_BadPower := H_BadPower) (H_BadRatio := H_BadRatio) (H_IdealError := H_IdealError) (H_ZeroBottom := H_ZeroBottom) (T_BadInteger := T_BadInteger) (T_BadPower := T_BadPower) (T_BadRatio := T_BadRatio) (T_IdealError := T_IdealError) (T_ZeroBottom := T_ZeroBottom)
  have C__law_refusal : Cal P w K mg base 6 "_law_refusal" f__law_refusal d__law_refusal ["which", "one", "other"] [] p__law_refusal := ⟨O__law_refusal, F__law_refusal.binds (ps := ["which", "one", "other"]) fun _ _ _ _ _ _ us hl => (match us, hl with | [_, _, _], _ => rfl), PySem.W.mg_of X Gn g__law_refusal, F__law_refusal.kp⟩
  have O__law_is_base : FnF P w K mg base 6 f__law_is_base d__law_is_base ["which", "one", "other"] [] p__law_is_base := ok__law_is_base F__law_is_base (C__law_call := C__law_call) (H_IdealError := H_IdealError) (T_IdealError := T_IdealError) (V_V := V_V) (z_ValueError := z_ValueError) (z_isinstance := z_isinstance)
  have C__law_is_base : Cal P w K mg base 6 "_law_is_base" f__law_is_base d__law_is_base ["which", "one", "other"] [] p__law_is_base := ⟨O__law_is_base, F__law_is_base.binds (ps := ["which", "one", "other"]) fun _ _ _ _ _ _ us hl => (match us, hl with | [_, _, _], _ => rfl), PySem.W.mg_of X Gn g__law_is_base, F__law_is_base.kp⟩
  have O_law := ok_law (P := P) (w := w) (base := base) F_law (C__law_draw := C__law_draw) (C__law_is_base := C__law_is_base) (C__law_refusal := C__law_refusal) (C__law_well := C__law_well) (C_is_ratio := C_is_ratio) (z_len := z_len) (z_range := z_range)
  exact O_law.imp (law_sp hl)
end
end K02

set_option Elab.async false
set_option linter.all false
set_option maxRecDepth 100000
set_option maxHeartbeats 1000000
/-! Fx17: raise and try, run; texts compared. -/
namespace Fx
open PySem L2
section
variable {ρ : Env} {f g : FS} {e : Exn} {o : O} {hs : List (List (Str × Bool) × FS)} {t : List (Str × Bool)} {i j : Nat}
@[simp] theorem e_raise {c : Str} : raiseF c ρ = .ex ⟨c, []⟩ ρ := rfl
/-- what the clauses make of an outcome -/
def tryH (hs : List (List (Str × Bool) × FS)) (r : RS) : RS := match r with
  | .ex e ρ' => handF hs e ρ'
  | r => r
theorem e_try : tryF f hs ρ = tryH hs (f ρ) := by
  unfold tryF tryH
  cases f ρ <;> rfl
@[simp] theorem e_tryH_nx : tryH hs (.nx ρ) = .nx ρ := id rfl
@[simp] theorem e_tryH_ret : tryH hs (.ret o ρ) = .ret o ρ := id rfl
@[simp] theorem e_tryH_ex : tryH hs (.ex e ρ) = handF hs e ρ := id rfl
/-- a clause's suite, that raises nothing -/
def RS.calm (r : RS) : RS := match r with
  | .ex _ _ => .stuck
  | r => r
@[simp] theorem e_calm_nx : (RS.nx ρ).calm = .nx ρ := id rfl
@[simp] theorem e_calm_ret : (RS.ret o ρ).calm = .ret o ρ := id rfl
@[simp] theorem e_calm_ct : (RS.ct ρ).calm = .ct ρ := id rfl
@[simp] theorem e_calm_br : (RS.br ρ).calm = .br ρ := id rfl
theorem hand_yes (h : t.lookup e.cls = some true) : handF ((t, g) :: hs) e ρ = (g ρ).calm := by
  show (match t.lookup e.cls with | some true => _ | some false => _ | none => _) = _
  rw [h]
  unfold RS.calm
  cases g ρ <;> rfl
theorem hand_no (h : t.lookup e.cls = some false) : handF ((t, g) :: hs) e ρ = handF hs e ρ := by
  show (match t.lookup e.cls with | some true => _ | some false => _ | none => _) = _
  rw [h]
theorem tryIs_ex {c : Str} {ρ' : Env} (hf : f ρ = .ex ⟨c, []⟩ ρ') (ht : t.lookup c = some true) (hi : ρ'[i]? = some none) : tryIsF f t i j ρ = .nx (ρ'.set j (some (.v (.bl true)))) := by
  unfold tryIsF
  rw [hf]
  simp only [ht, hi]
end
@[simp] theorem v_eqSS {n : Bool} {a b : Str} (ha : PyData.strOk a = true) (hb : PyData.strOk b = true) : eqD n (.str a) (.str b) = some (.bl (if n then !decide (a = b) else decide (a = b))) := by
  rw [v_eq (by simp [SeqAt.shaped, toPy, PyData.canLay0, ha, PyData.depth]) (by simp [SeqAt.shaped, toPy, PyData.canLay0, hb, PyData.depth])]
  simp [eqB, toPy, PyData.eqv, Bool.beq_eq_decide_eq]
end Fx

set_option Elab.async false
set_option linter.all false
/-! Rt: ratios, plain mathematics. -/
namespace Rt
/-- in lowest terms, the bottom above 0 -/
def lowP (a b : Int) : Int × Int := let g : Int := (Nat.gcd a.natAbs b.natAbs : Nat); if b < 0 then (a.fdiv (-g), b.fdiv (-g)) else (a.fdiv g, b.fdiv g)
structure IsR (p : Int × Int) : Prop where
  pos : 0 < p.2
  cop : Nat.gcd p.1.natAbs p.2.natAbs = 1
theorem lowP_eq {a b : Int} (hb : b ≠ 0) : ∃ g x y : Int, 0 < g ∧ a = g * x ∧ b = g * y ∧ lowP a b = (x, y) ∧ IsR (x, y) ∨ (0 < g ∧ a = g * (-x) ∧ b = g * (-y) ∧ lowP a b = (x, y) ∧ IsR (x, y)) := by
  have hg : 0 < Nat.gcd a.natAbs b.natAbs := Nat.gcd_pos_of_pos_right _ (by omega)
  have hc := Nat.coprime_div_gcd_div_gcd hg
  generalize hG : Nat.gcd a.natAbs b.natAbs = G at *
  have d1 : (G : Int) ∣ a := by rw [← hG]; exact Int.ofNat_dvd_left.mpr (Nat.gcd_dvd_left _ _)
  have d2 : (G : Int) ∣ b := by rw [← hG]; exact Int.ofNat_dvd_left.mpr (Nat.gcd_dvd_right _ _)
  obtain ⟨x, ex⟩ := d1
  obtain ⟨y, ey⟩ := d2
  have gpos : (0 : Int) < G := by omega
  have gne : (G : Int) ≠ 0 := by omega
  have c2 : Nat.gcd x.natAbs y.natAbs = 1 := by
    have h1 : a.natAbs = G * x.natAbs := by rw [ex, Int.natAbs_mul]; rfl
    have h2 : b.natAbs = G * y.natAbs := by rw [ey, Int.natAbs_mul]; rfl
    rw [h1, h2, Nat.mul_div_cancel_left _ hg, Nat.mul_div_cancel_left _ hg] at hc
    exact hc
  have hL : lowP a b = if b < 0 then (a.fdiv (-(G : Int)), b.fdiv (-(G : Int))) else (a.fdiv (G : Int), b.fdiv (G : Int)) := by
    unfold lowP
    rw [hG]
  by_cases h : b < 0
  · refine ⟨G, -x, -y, .inr ⟨gpos, by rw [Int.neg_neg]; exact ex, by rw [Int.neg_neg]; exact ey, ?_, ⟨?_, ?_⟩⟩⟩
    · rw [hL, if_pos h]
      have e1 : a = -(G : Int) * -x := by rw [ex, Int.neg_mul_neg]
      have e2 : b = -(G : Int) * -y := by rw [ey, Int.neg_mul_neg]
      have n : -(G : Int) ≠ 0 := by omega
      rw [show a.fdiv (-(G : Int)) = -x by rw [e1]; exact Int.mul_fdiv_cancel_left _ n, show b.fdiv (-(G : Int)) = -y by rw [e2]; exact Int.mul_fdiv_cancel_left _ n]
    · show 0 < -y
      rw [ey] at h
      have : y < 0 := by
        refine Classical.byContradiction fun hy => ?_
        have := Int.mul_nonneg (Int.le_of_lt gpos) (show 0 ≤ y by omega)
        omega
      omega
    · show Nat.gcd (-x).natAbs (-y).natAbs = 1
      rw [Int.natAbs_neg, Int.natAbs_neg]
      exact c2
  · refine ⟨G, x, y, .inl ⟨gpos, ex, ey, ?_, ⟨?_, c2⟩⟩⟩
    · rw [hL, if_neg h, show a.fdiv (G : Int) = x by rw [ex]; exact Int.mul_fdiv_cancel_left _ gne, show b.fdiv (G : Int) = y by rw [ey]; exact Int.mul_fdiv_cancel_left _ gne]
    · show 0 < y
      refine Classical.byContradiction fun hy => ?_
      have h3 : y ≤ 0 := by omega
      have h4 : (G : Int) * y ≤ 0 := Int.mul_nonpos_of_nonneg_of_nonpos (Int.le_of_lt gpos) h3
      omega
theorem low_isR {a b : Int} (hb : b ≠ 0) : IsR (lowP a b) := by
  obtain ⟨g, x, y, h | h⟩ := lowP_eq (a := a) hb
  · rw [h.2.2.2.1]; exact h.2.2.2.2
  · rw [h.2.2.2.1]; exact h.2.2.2.2
theorem low_cross {a b : Int} (hb : b ≠ 0) : (lowP a b).1 * b = a * (lowP a b).2 := by
  obtain ⟨g, x, y, ⟨_, h1, h2, h3, _⟩ | ⟨_, h1, h2, h3, _⟩⟩ := lowP_eq (a := a) hb
  · rw [h3]; grind
  · rw [h3]; grind
theorem low_le1 {a b : Int} (hb : b ≠ 0) : (lowP a b).1.natAbs ≤ a.natAbs := by
  have key : ∀ g x : Int, 0 < g → x.natAbs ≤ (g * x).natAbs := fun g x h => by
    rw [Int.natAbs_mul]
    exact Nat.le_mul_of_pos_left _ (by omega)
  obtain ⟨g, x, y, ⟨h0, h1, h2, h3, _⟩ | ⟨h0, h1, h2, h3, _⟩⟩ := lowP_eq (a := a) hb
  · rw [h3, h1]; exact key g x h0
  · rw [h3, h1]
    have := key g (-x) h0
    rwa [Int.natAbs_neg] at this
theorem low_le2 {a b : Int} (hb : b ≠ 0) : (lowP a b).2.natAbs ≤ b.natAbs := by
  have key : ∀ g x : Int, 0 < g → x.natAbs ≤ (g * x).natAbs := fun g x h => by
    rw [Int.natAbs_mul]
    exact Nat.le_mul_of_pos_left _ (by omega)
  obtain ⟨g, x, y, ⟨h0, h1, h2, h3, _⟩ | ⟨h0, h1, h2, h3, _⟩⟩ := lowP_eq (a := a) hb
  · rw [h3, h2]; exact key g y h0
  · rw [h3, h2]
    have := key g (-y) h0
    rwa [Int.natAbs_neg] at this
/-- there is one ratio for each number -/
theorem uniq {p q : Int × Int} (hp : IsR p) (hq : IsR q) (h : p.1 * q.2 = q.1 * p.2) : p = q := by
  obtain ⟨a, b⟩ := p
  obtain ⟨c, d⟩ := q
  have hp1 : 0 < b := hp.pos
  have hq1 : 0 < d := hq.pos
  have hp2 : Nat.Coprime a.natAbs b.natAbs := hp.cop
  have hq2 : Nat.Coprime c.natAbs d.natAbs := hq.cop
  simp only at h
  have h1 : a.natAbs * d.natAbs = c.natAbs * b.natAbs := by rw [← Int.natAbs_mul, ← Int.natAbs_mul, h]
  have bd : b.natAbs ∣ d.natAbs := hp2.symm.dvd_of_dvd_mul_left ⟨c.natAbs, by rw [h1, Nat.mul_comm]⟩
  have db : d.natAbs ∣ b.natAbs := hq2.symm.dvd_of_dvd_mul_left ⟨a.natAbs, by rw [← h1, Nat.mul_comm]⟩
  have e : b.natAbs = d.natAbs := Nat.dvd_antisymm bd db
  have e2 : b = d := by omega
  subst e2
  have e3 : a = c := Int.eq_of_mul_eq_mul_right (by omega) h
  rw [e3]
theorem low_of {p : Int × Int} (hp : IsR p) {a b : Int} (hb : b ≠ 0) (h : p.1 * b = a * p.2) : lowP a b = p := by
  refine uniq (low_isR hb) hp ?_
  have h1 := low_cross (a := a) hb
  have : ((lowP a b).1 * p.2) * b = (p.1 * (lowP a b).2) * b := by grind
  exact Int.eq_of_mul_eq_mul_right hb this
theorem low_self {p : Int × Int} (hp : IsR p) : lowP p.1 p.2 = p := low_of hp (by have := hp.pos; omega) rfl
theorem low_one (a : Int) : lowP a 1 = (a, 1) := low_of (p := (a, 1)) ⟨by show (0 : Int) < 1; decide, by show Nat.gcd a.natAbs 1 = 1; simp⟩ (by decide) (by simp)
theorem isR_neg {p : Int × Int} (hp : IsR p) : IsR (-p.1, p.2) := ⟨hp.pos, by show Nat.gcd (-p.1).natAbs p.2.natAbs = 1; rw [Int.natAbs_neg]; exact hp.cop⟩
def addP (r s : Int × Int) : Int × Int := lowP (r.1 * s.2 + s.1 * r.2) (r.2 * s.2)
def mulP (r s : Int × Int) : Int × Int := lowP (r.1 * s.1) (r.2 * s.2)
def negP (r : Int × Int) : Int × Int := (-r.1, r.2)
theorem bot_ne {r s : Int × Int} (hr : IsR r) (hs : IsR s) : r.2 * s.2 ≠ 0 := by
  have h1 := hr.pos
  have h2 := hs.pos
  exact Int.mul_ne_zero (by omega) (by omega)
theorem add_isR {r s : Int × Int} (hr : IsR r) (hs : IsR s) : IsR (addP r s) := low_isR (bot_ne hr hs)
theorem mul_isR {r s : Int × Int} (hr : IsR r) (hs : IsR s) : IsR (mulP r s) := low_isR (bot_ne hr hs)
theorem add_cross {r s : Int × Int} (hr : IsR r) (hs : IsR s) : (addP r s).1 * (r.2 * s.2) = (r.1 * s.2 + s.1 * r.2) * (addP r s).2 := low_cross (bot_ne hr hs)
theorem mul_cross {r s : Int × Int} (hr : IsR r) (hs : IsR s) : (mulP r s).1 * (r.2 * s.2) = (r.1 * s.1) * (mulP r s).2 := low_cross (bot_ne hr hs)
theorem add_one {a b : Int} : addP (a, 1) (b, 1) = (a + b, 1) := by
  show lowP (a * 1 + b * 1) (1 * 1) = _
  rw [Int.mul_one, Int.mul_one, Int.mul_one]
  exact low_one _
theorem mul_one {a b : Int} : mulP (a, 1) (b, 1) = (a * b, 1) := by
  show lowP (a * b) (1 * 1) = _
  rw [Int.mul_one]
  exact low_one _
theorem add_of {r s p : Int × Int} (hr : IsR r) (hs : IsR s) (hp : IsR p) (h : p.1 * (r.2 * s.2) = (r.1 * s.2 + s.1 * r.2) * p.2) : addP r s = p := low_of hp (bot_ne hr hs) h
theorem mul_of {r s p : Int × Int} (hr : IsR r) (hs : IsR s) (hp : IsR p) (h : p.1 * (r.2 * s.2) = (r.1 * s.1) * p.2) : mulP r s = p := low_of hp (bot_ne hr hs) h
theorem sub_add {r s : Int × Int} (hr : IsR r) (hs : IsR s) : addP (addP r (negP s)) s = r := by
  have hn : IsR (negP s) := isR_neg hs
  have hp := add_isR hr hn
  have h1 := add_cross hr hn
  refine add_of hp hs hr ?_
  have hr2 := hr.pos
  have hs2 := hs.pos
  have hne : r.2 * s.2 ≠ 0 := bot_ne hr hs
  have e1 : (negP s).1 = -s.1 := rfl
  have e2 : (negP s).2 = s.2 := rfl
  rw [e1, e2] at h1
  generalize addP r (negP s) = p at *
  refine Int.eq_of_mul_eq_mul_right hne ?_
  grind
theorem mul_div {r s : Int × Int} (hr : IsR r) (hs : IsR s) (h0 : s.1 ≠ 0) : mulP (lowP (r.1 * s.2) (r.2 * s.1)) s = r := by
  have hb : r.2 * s.1 ≠ 0 := Int.mul_ne_zero (by have := hr.pos; omega) h0
  have hp := low_isR (a := r.1 * s.2) hb
  have h1 := low_cross (a := r.1 * s.2) hb
  refine mul_of hp hs hr ?_
  generalize lowP (r.1 * s.2) (r.2 * s.1) = p at *
  refine Int.eq_of_mul_eq_mul_right hb ?_
  grind
def invP (r : Int × Int) : Int × Int := if 0 < r.1 then (r.2, r.1) else (-r.2, -r.1)
theorem inv_isR {r : Int × Int} (hr : IsR r) (h0 : r.1 ≠ 0) : IsR (invP r) := by
  unfold invP
  have h1 := hr.cop
  have h2 := hr.pos
  split
  · rename_i h
    exact ⟨h, by show Nat.gcd r.2.natAbs r.1.natAbs = 1; rw [Nat.gcd_comm]; exact h1⟩
  · rename_i h
    refine ⟨by show 0 < -r.1; omega, ?_⟩
    show Nat.gcd (-r.2).natAbs (-r.1).natAbs = 1
    rw [Int.natAbs_neg, Int.natAbs_neg, Nat.gcd_comm]
    exact h1
theorem over_eq {r s : Int × Int} (hr : IsR r) (hs : IsR s) (h0 : s.1 ≠ 0) : mulP r (invP s) = lowP (r.1 * s.2) (r.2 * s.1) := by
  have hb : r.2 * s.1 ≠ 0 := Int.mul_ne_zero (by have := hr.pos; omega) h0
  have hi := inv_isR hs h0
  refine mul_of hr hi (low_isR hb) ?_
  have h1 := low_cross (a := r.1 * s.2) hb
  generalize lowP (r.1 * s.2) (r.2 * s.1) = p at *
  unfold invP
  split
  · exact h1
  · show p.1 * (r.2 * -s.1) = r.1 * -s.2 * p.2
    grind
theorem pow_isR {r : Int × Int} (hr : IsR r) (k : Nat) : IsR (r.1 ^ k, r.2 ^ k) := by
  refine ⟨Int.pow_pos hr.pos, ?_⟩
  show Nat.gcd (r.1 ^ k).natAbs (r.2 ^ k).natAbs = 1
  rw [Int.natAbs_pow, Int.natAbs_pow]
  exact Nat.Coprime.pow k k hr.cop
theorem pow_mul {r : Int × Int} (hr : IsR r) (k : Nat) : mulP (r.1 ^ k, r.2 ^ k) r = (r.1 ^ (k + 1), r.2 ^ (k + 1)) := by
  refine mul_of (pow_isR hr k) hr (pow_isR hr (k + 1)) ?_
  show r.1 ^ (k + 1) * (r.2 ^ k * r.2) = r.1 ^ k * r.1 * r.2 ^ (k + 1)
  rw [Int.pow_succ, Int.pow_succ]
end Rt

set_option Elab.async false
set_option linter.all false
set_option maxRecDepth 100000
set_option maxHeartbeats 4000000
/-! ratios: what the program's functions give. -/
namespace Pg
open PySem Fx Rt
/-- a ratio as a value -/
abbrev rD (p : Int × Int) : D := .tup [.int p.1, .int p.2]
/-- below 2 ^ n -/
def Sz (n : Nat) (i : Int) : Prop := i.natAbs < 2 ^ n
theorem Sz.log {n : Nat} {i : Int} (h : Sz n i) (hn : 0 < n) : i.natAbs.log2 < n := by
  by_cases h0 : i.natAbs = 0
  · rw [h0]; exact hn
  · exact (Nat.log2_lt h0).mpr h
theorem Sz.mono {n m : Nat} {i : Int} (h : Sz n i) (hm : n ≤ m) : Sz m i := Nat.lt_of_lt_of_le h (Nat.pow_le_pow_right (by decide) hm)
theorem Sz.mul {n m : Nat} {i j : Int} (h : Sz n i) (h2 : Sz m j) : Sz (n + m) (i * j) := by
  unfold Sz at *
  rw [Int.natAbs_mul, Nat.pow_add]
  exact Nat.mul_lt_mul'' h h2
theorem Sz.add {n : Nat} {i j : Int} (h : Sz n i) (h2 : Sz n j) : Sz (n + 1) (i + j) := by
  unfold Sz at *
  rw [Nat.pow_succ]
  have := Int.natAbs_add_le i j
  omega
theorem Sz.neg {n : Nat} {i : Int} (h : Sz n i) : Sz n (-i) := by unfold Sz at *; rwa [Int.natAbs_neg]
theorem Sz.of_le {n : Nat} {i j : Int} (h : Sz n j) (hl : i.natAbs ≤ j.natAbs) : Sz n i := Nat.lt_of_le_of_lt hl h
theorem mulC_sz {n m : Nat} {i j : Int} (h : Sz n i) (h2 : Sz m j) (hs : n + m ≤ 100000000) (hn : 0 < n := by decide) (hm : 0 < m := by decide) : MulC i j := by
  have a := h.log hn
  have b := h2.log hm
  exact .inl (by omega)
/-- both parts of a ratio -/
structure RSz (n : Nat) (p : Int × Int) : Prop where
  top : Sz n p.1
  bot : Sz n p.2
theorem RSz.mono {n m : Nat} {p : Int × Int} (h : RSz n p) (hm : n ≤ m) : RSz m p := ⟨h.top.mono hm, h.bot.mono hm⟩
theorem low_sz {n m : Nat} {a b : Int} (hb : b ≠ 0) (ha : Sz n a) (hb2 : Sz m b) : Sz n (lowP a b).1 ∧ Sz m (lowP a b).2 := ⟨ha.of_le (low_le1 hb), hb2.of_le (low_le2 hb)⟩
theorem add_sz {n : Nat} {r s : Int × Int} (hr : IsR r) (hs : IsR s) (h1 : RSz n r) (h2 : RSz n s) : RSz (n + n + 1) (addP r s) := by
  have := low_sz (bot_ne hr hs) ((h1.top.mul h2.bot).add (h2.top.mul h1.bot)) (h1.bot.mul h2.bot)
  exact ⟨this.1, this.2.mono (by omega)⟩
theorem mul_sz {n m : Nat} {r s : Int × Int} (hr : IsR r) (hs : IsR s) (h1 : RSz n r) (h2 : RSz m s) : RSz (n + m) (mulP r s) := by
  have := low_sz (bot_ne hr hs) (h1.top.mul h2.top) (h1.bot.mul h2.bot)
  exact ⟨this.1, this.2⟩

theorem is_int_v (d : D) : p_is_int [.v d] = match tyN (.val d) with | some t => .ok (.v (.bl (decide (t = "int")))) [.v d] | none => .stuck := by
  cases d <;> simp [p_is_int, fs_is_int]
@[simp] theorem is_int_int (i : Int) : p_is_int [.v (.int i)] = .ok (.v (.bl true)) [.v (.int i)] := by rw [is_int_v]; rfl
@[simp] theorem lowest_v {a b : Int} (hb : b ≠ 0) (hl : b.natAbs.log2 < 9000) : p_lowest [.v (.int a), .v (.int b)] = .ok (.v (rD (lowP a b))) [.v (.int a), .v (.int b)] := by
  have hg : Nat.gcd a.natAbs b.natAbs ≠ 0 := Nat.pos_iff_ne_zero.mp (Nat.gcd_pos_of_pos_right _ (by omega))
  have hle : Nat.gcd a.natAbs b.natAbs ≤ b.natAbs := Nat.gcd_le_right _ (by omega)
  have hlog : (Nat.gcd a.natAbs b.natAbs).log2 < 9000 := by
    rw [Nat.log2_lt hg]
    rw [Nat.log2_lt (by omega)] at hl
    omega
  have hd1 : DivC a ((Nat.gcd a.natAbs b.natAbs : Nat) : Int) := ⟨by omega, by simpa using hlog⟩
  have hd2 : DivC b ((Nat.gcd a.natAbs b.natAbs : Nat) : Int) := ⟨by omega, by simpa using hlog⟩
  have hd3 : DivC a (-((Nat.gcd a.natAbs b.natAbs : Nat) : Int)) := ⟨by omega, by simpa using hlog⟩
  have hd4 : DivC b (-((Nat.gcd a.natAbs b.natAbs : Nat) : Int)) := ⟨by omega, by simpa using hlog⟩
  by_cases h : b < 0
  · simp [p_lowest, fs_lowest, h, hd3, hd4, line_le, lowP]
  · simp [p_lowest, fs_lowest, h, hd1, hd2, line_le, lowP]

theorem log_of {n : Nat} {i : Int} (h : Sz n i) (hn : 0 < n) (h9 : n ≤ 9000) : i.natAbs.log2 < 9000 := Nat.lt_of_lt_of_le (h.log hn) h9
@[simp] theorem is_ratio_r {p : Int × Int} (hp : IsR p) : p_is_ratio [.v (rD p)] = .ok (.v (.bl true)) [.v (rD p)] := by
  have h1 := hp.pos
  have h2 := hp.cop
  simp [p_is_ratio, fs_is_ratio, p_is_row, fs_is_row, h1, h2]
@[simp] theorem need_ratio_r {p : Int × Int} (hp : IsR p) : p_need_ratio [.v (rD p)] = .ok (.v .non) [.v (rD p)] := by
  simp [p_need_ratio, fs_need_ratio, hp]
theorem added_r {r s : Int × Int} (hr : IsR r) (hs : IsR s) (h1 : RSz 4000 r) (h2 : RSz 4000 s) : p_added [.v (rD r), .v (rD s)] = .ok (.v (rD (addP r s))) [.v (rD r), .v (rD s)] := by
  have m1 : MulC r.1 s.2 := mulC_sz h1.top h2.bot (by decide)
  have m2 : MulC s.1 r.2 := mulC_sz h2.top h1.bot (by decide)
  have m3 : MulC r.2 s.2 := mulC_sz h1.bot h2.bot (by decide)
  have hb := bot_ne hr hs
  have hl : (r.2 * s.2).natAbs.log2 < 9000 := log_of (h1.bot.mul h2.bot) (by decide) (by decide)
  obtain ⟨a, b⟩ := r
  obtain ⟨c, d⟩ := s
  by_cases e1 : b = 1
  · by_cases e2 : d = 1
    · subst e1; subst e2
      simp [p_added, fs_added, line_le, add_one]
    · subst e1
      simp only at m1 m2 m3 hb hl
      simp [p_added, fs_added, e2, m1, m2, m3] 
      simp at hb hl
      simp [hb, hl, addP]
  · simp only at m1 m2 m3 hb hl
    simp [p_added, fs_added, e1, m1, m2, m3, hb, hl, addP]

theorem multiplied_r {r s : Int × Int} (hr : IsR r) (hs : IsR s) (h1 : RSz 4000 r) (h2 : RSz 4000 s) : p_multiplied [.v (rD r), .v (rD s)] = .ok (.v (rD (mulP r s))) [.v (rD r), .v (rD s)] := by
  have m1 : MulC r.1 s.1 := mulC_sz h1.top h2.top (by decide)
  have m3 : MulC r.2 s.2 := mulC_sz h1.bot h2.bot (by decide)
  have hb := bot_ne hr hs
  have hl : (r.2 * s.2).natAbs.log2 < 9000 := log_of (h1.bot.mul h2.bot) (by decide) (by decide)
  obtain ⟨a, b⟩ := r
  obtain ⟨c, d⟩ := s
  simp only at m1 m3 hb hl
  by_cases e1 : b = 1
  · by_cases e2 : d = 1
    · subst e1; subst e2
      simp [p_multiplied, fs_multiplied, line_le, Rt.mul_one, m1]
    · subst e1
      simp [p_multiplied, fs_multiplied, e2, m1, m3]
      simp at hb hl
      simp [hb, hl, mulP]
  · simp [p_multiplied, fs_multiplied, e1, m1, m3, hb, hl, mulP]
theorem taken_r {r s : Int × Int} (hr : IsR r) (hs : IsR s) (h1 : RSz 4000 r) (h2 : RSz 4000 s) : p_taken [.v (rD r), .v (rD s)] = .ok (.v (rD (addP r (negP s)))) [.v (rD r), .v (rD s)] := by
  have e := added_r hr (isR_neg hs) h1 (s := (-s.1, s.2)) ⟨h2.top.neg, h2.bot⟩
  simp only [rD] at e
  simp [p_taken, fs_taken, line_le, e, negP]
theorem inverse_r {r : Int × Int} : p_inverse [.v (rD r)] = .ok (.v (rD (invP r))) [.v (rD r)] := by
  by_cases h : 0 < r.1
  · simp [p_inverse, fs_inverse, line_le, h, invP]
  · simp [p_inverse, fs_inverse, line_le, h, invP]
theorem inv_sz {n : Nat} {r : Int × Int} (h : RSz n r) : RSz n (invP r) := by
  unfold invP
  split
  · exact ⟨h.bot, h.top⟩
  · exact ⟨h.bot.neg, h.top.neg⟩
theorem over_r {r s : Int × Int} (hr : IsR r) (hs : IsR s) (h0 : s.1 ≠ 0) (h1 : RSz 4000 r) (h2 : RSz 4000 s) : p_over [.v (rD r), .v (rD s)] = .ok (.v (rD (lowP (r.1 * s.2) (r.2 * s.1)))) [.v (rD r), .v (rD s)] := by
  have e := multiplied_r hr (inv_isR hs h0) h1 (inv_sz h2)
  have e2 := @inverse_r s
  simp only [rD] at e e2
  simp [p_over, fs_over, e, e2, over_eq hr hs h0]
theorem half_lt {k : Nat} (h : 0 < k) : k / 2 < k := Nat.div_lt_self h (by decide)
theorem pow_half (x : Int) (k : Nat) : x ^ k = (if k % 2 = 1 then x else 1) * (x * x) ^ (k / 2) := by
  have e : x * x = x ^ 2 := by rw [Int.pow_succ, Int.pow_succ, Int.pow_zero, Int.one_mul]
  rw [e, ← Int.pow_mul]
  split
  · rw [Int.mul_comm, ← Int.pow_succ]
    congr 1
    omega
  · rw [Int.one_mul]
    congr 1
    omega
theorem raised_loop (N : Nat) (hN : N ≤ 100000000) (r : D) : ∀ (k a m : Nat) (f s : Int × Int), RSz a f → RSz m s → 0 < a → 0 < m → a + m * k ≤ N →
    ∃ s', whileF k_raised_0t k_raised_0b [some (.v r), some (.v (.int k)), some (.v (rD f)), some (.v (rD s))] = .nx [some (.v r), some (.v (.int 0)), some (.v (rD (f.1 * s.1 ^ k, f.2 * s.2 ^ k))), some (.v s')] := by
  intro k
  induction k using Nat.strongRecOn with
  | ind k ih =>
    intro a m f s hf hs ha hm hk
    by_cases h0 : k = 0
    · subst h0
      refine ⟨rD s, ?_⟩
      rw [while_done (ρ1 := [some (.v r), some (.v (.int 0)), some (.v (rD f)), some (.v (rD s))]) (by simp [k_raised_0t])]
      simp
    · have hpos : 0 < k := Nat.pos_of_ne_zero h0
      have hmk : m ≤ m * k := Nat.le_mul_of_pos_right _ hpos
      have mf1 : MulC f.1 s.1 := mulC_sz hf.top hs.top (by omega) ha hm
      have mf2 : MulC f.2 s.2 := mulC_sz hf.bot hs.bot (by omega) ha hm
      have hdiv : ((k : Int).fdiv 2) = ((k / 2 : Nat) : Int) := by rw [Int.fdiv_eq_ediv_of_nonneg _ (by decide)]; omega
      have hmod : ((k : Int).fmod 2) = ((k % 2 : Nat) : Int) := by rw [Int.fmod_eq_emod_of_nonneg _ (by decide)]; omega
      have hDiv : DivC (k : Int) 2 := ⟨by decide, by decide⟩
      have hMod : ModC (k : Int) 2 := by show (2 : Int) ≠ 0; decide
      have ht : k_raised_0t [some (.v r), some (.v (.int k)), some (.v (rD f)), some (.v (rD s))] = .ok true [some (.v r), some (.v (.int k)), some (.v (rD f)), some (.v (rD s))] := by
        simp [k_raised_0t, hpos]
      -- what is found behind the turn
      obtain ⟨f', a', hf', ha', hb1, hpw, hle⟩ : ∃ (f' : Int × Int) (a' : Nat), RSz a' f' ∧ 0 < a' ∧ (∀ (t : FS), (ifSF (testF (op2F (eqD false) (op2F fmodD (varF 1) (cF (.int 2))) (cF (.int 1)))) (setF 2 (tupF (consF (op2F mulD (b2F ixD (bS 2) (cF (.int 0))) (b2F ixD (bS 3) (cF (.int 0)))) (consF (op2F mulD (b2F ixD (bS 2) (cF (.int 1))) (b2F ixD (bS 3) (cF (.int 1)))) nilF)))) nextF) [some (.v r), some (.v (.int k)), some (.v (rD f)), some (.v (rD s))] = .nx [some (.v r), some (.v (.int k)), some (.v (rD f')), some (.v (rD s))])
          ∧ (f'.1 * (s.1 * s.1) ^ (k / 2), f'.2 * (s.2 * s.2) ^ (k / 2)) = (f.1 * s.1 ^ k, f.2 * s.2 ^ k) ∧ a' + (m + m) * (k / 2) ≤ N := by
        have hmm : (m + m) * (k / 2) = m * (2 * (k / 2)) := by rw [← Nat.two_mul, Nat.mul_assoc, Nat.mul_left_comm]
        by_cases ho : k % 2 = 1
        · refine ⟨(f.1 * s.1, f.2 * s.2), a + m, ⟨hf.top.mul hs.top, hf.bot.mul hs.bot⟩, by omega, fun _ => ?_, ?_, ?_⟩
          · simp [hMod, hmod, ho, mf1, mf2, line_le, -Int.natCast_emod]
          · rw [pow_half s.1 k, pow_half s.2 k, if_pos ho, if_pos ho, Int.mul_assoc, Int.mul_assoc]
          · have hk2 : 2 * (k / 2) + 1 = k := by omega
            have : m * k = m * (2 * (k / 2)) + m := by rw [← Nat.mul_succ, Nat.succ_eq_add_one, hk2]
            omega
        · have ho0 : k % 2 = 0 := by omega
          refine ⟨f, a, hf, ha, fun _ => ?_, ?_, ?_⟩
          · simp [hMod, hmod, ho0, -Int.natCast_emod]
          · rw [pow_half s.1 k, pow_half s.2 k, if_neg ho, if_neg ho, Int.one_mul, Int.one_mul]
          · have hk2 : 2 * (k / 2) = k := by omega
            rw [hmm, hk2]
            exact hk
      by_cases hz : 2 ≤ k
      · have hm2 : m * 2 ≤ m * k := Nat.mul_le_mul_left _ hz
        have ms1 : MulC s.1 s.1 := mulC_sz hs.top hs.top (by omega) hm hm
        have ms2 : MulC s.2 s.2 := mulC_sz hs.bot hs.bot (by omega) hm hm
        have hb : k_raised_0b [some (.v r), some (.v (.int k)), some (.v (rD f)), some (.v (rD s))] = .nx [some (.v r), some (.v (.int (k / 2 : Nat))), some (.v (rD f')), some (.v (rD (s.1 * s.1, s.2 * s.2)))] := by
          unfold k_raised_0b
          rw [e_seq, hb1 nextF]
          have h2 : (2 : Nat) ≤ k := hz
          simp [hDiv, hdiv, ms1, ms2, line_le, h2, -Int.natCast_ediv]
        rw [while_step ht hb]
        obtain ⟨s', h⟩ := ih (k / 2) (half_lt hpos) a' (m + m) f' (s.1 * s.1, s.2 * s.2) hf' ⟨hs.top.mul hs.top, hs.bot.mul hs.bot⟩ ha' (by omega) hle
        exact ⟨s', by rw [h, ← hpw]⟩
      · have hz0 : k / 2 = 0 := by omega
        have hb : k_raised_0b [some (.v r), some (.v (.int k)), some (.v (rD f)), some (.v (rD s))] = .nx [some (.v r), some (.v (.int 0)), some (.v (rD f')), some (.v (rD s))] := by
          unfold k_raised_0b
          rw [e_seq, hb1 nextF]
          simp [hDiv, hdiv, hz0, -Int.natCast_ediv]
        rw [while_step ht hb, while_done (ρ1 := [some (.v r), some (.v (.int 0)), some (.v (rD f')), some (.v (rD s))]) (by simp [k_raised_0t])]
        rw [hz0] at hpw
        simp only [Int.pow_zero, Int.mul_one] at hpw
        exact ⟨rD s, by rw [← hpw]⟩
theorem raised_r {r : Int × Int} {n k : Nat} (h : RSz n r) (hn : 0 < n) (hk : 1 + n * k ≤ 100000000) : p_raised [.v (rD r), .v (.int k)] = .ok (.v (rD (r.1 ^ k, r.2 ^ k))) [.v (rD r), .v (.int k)] := by
  obtain ⟨s', e⟩ := raised_loop 100000000 (Nat.le_refl _) (rD r) k 1 n (1, 1) r ⟨by unfold Sz; decide, by unfold Sz; decide⟩ h (by decide) hn hk
  simp only [Int.one_mul] at e
  simp only [rD] at e
  simp [p_raised, fs_raised, c_ONE, e]
/-! the doors -/
section
variable {r s : Int × Int} (hr : IsR r) (hs : IsR s) (h1 : RSz 4000 r) (h2 : RSz 4000 s)
include hr hs h1 h2
theorem ratio_plus_r : p_ratio_plus [.v (rD r), .v (rD s)] = .ok (.v (rD (addP r s))) [.v (rD r), .v (rD s)] := by
  have e := added_r hr hs h1 h2
  simp only [rD] at e
  simp [p_ratio_plus, fs_ratio_plus, hr, hs, e]
theorem ratio_minus_r : p_ratio_minus [.v (rD r), .v (rD s)] = .ok (.v (rD (addP r (negP s)))) [.v (rD r), .v (rD s)] := by
  have e := taken_r hr hs h1 h2
  simp only [rD] at e
  simp [p_ratio_minus, fs_ratio_minus, hr, hs, e]
theorem ratio_times_r : p_ratio_times [.v (rD r), .v (rD s)] = .ok (.v (rD (mulP r s))) [.v (rD r), .v (rD s)] := by
  have e := multiplied_r hr hs h1 h2
  simp only [rD] at e
  simp [p_ratio_times, fs_ratio_times, hr, hs, e]
theorem ratio_over_r (h0 : s.1 ≠ 0) : p_ratio_over [.v (rD r), .v (rD s)] = .ok (.v (rD (lowP (r.1 * s.2) (r.2 * s.1)))) [.v (rD r), .v (rD s)] := by
  have e := over_r hr hs h0 h1 h2
  simp only [rD] at e
  simp [p_ratio_over, fs_ratio_over, hr, hs, e, h0]
theorem ratio_compare_r : p_ratio_compare [.v (rD r), .v (rD s)] = .ok (.v (.int ((if s.1 * r.2 < r.1 * s.2 then 1 else 0) - (if r.1 * s.2 < s.1 * r.2 then 1 else 0)))) [.v (rD r), .v (rD s)] := by
  have m1 : MulC r.1 s.2 := mulC_sz h1.top h2.bot (by decide)
  have m2 : MulC s.1 r.2 := mulC_sz h2.top h1.bot (by decide)
  simp [p_ratio_compare, fs_ratio_compare, hr, hs, m1, m2]
end
theorem ratio_power_r {r : Int × Int} {n k : Nat} (hr : IsR r) (h : RSz n r) (hn : 0 < n) (hk : 1 + n * k ≤ 100000000) : p_ratio_power [.v (rD r), .v (.int k)] = .ok (.v (rD (r.1 ^ k, r.2 ^ k))) [.v (rD r), .v (.int k)] := by
  have e := raised_r h hn hk
  simp only [rD] at e
  have h0 : ¬ (k : Int) < 0 := by omega
  simp [p_ratio_power, fs_ratio_power, hr, e, h0]
theorem ratio_of_r {a b : Int} (hb : b ≠ 0) (hl : b.natAbs.log2 < 9000) : p_ratio_of [.v (.int a), .v (.int b)] = .ok (.v (rD (lowP a b))) [.v (.int a), .v (.int b)] := by
  simp [p_ratio_of, fs_ratio_of, hb, hl]
end Pg

set_option Elab.async false
set_option linter.all false
set_option maxRecDepth 100000
set_option maxHeartbeats 4000000
/-! the laws' helpers: draws, the laws' own ratios. -/
namespace Pg
open PySem Fx Rt
abbrev WL (cells : List Int) (a b : Int) : O := .c (.lst [.lst (cells.map .int), .int a, .int b])
theorem law_well_v {ns : List Int} (h : ns.length ≤ 63) : p__law_well [.v (.lst (ns.map .int))] = .ok (WL ns 0 40507) [.v (.lst (ns.map .int))] := by
  have hc : cutL (ns.map D.int) none (some ((63 : Nat) : Int)) = ns.map .int := cut_to (by rw [List.length_map]; exact h)
  have hc' : cutL (ns.map D.int) none (some 63) = ns.map .int := hc
  have hl : ns.length < sizeLine := line_lt (by omega)
  have hm := comp_map (vs := [1]) (g := nameG 1) (ft := yesF) (fe := k__law_well_0e) (fun d => d) (ρ := [some (.v (.lst (ns.map .int))), none]) (ns.map .int) fun d hd => by
    obtain ⟨n, _, rfl⟩ := List.mem_map.mp hd
    refine ⟨[some (.v (.lst (ns.map .int))), some (.v (.int n))], [some (.v (.lst (ns.map .int))), some (.v (.int n))], rfl, rfl, ?_, rfl⟩
    simp [k__law_well_0e]
  rw [List.map_id'] at hm
  simp [p__law_well, fs__law_well, hc', hl, hm, plainVs, line_le]
/-- a cell's weight -/
def wt (c : Int) : Int := 2 * (if c < 0 then -c else c) + (if c < 0 then 1 else 0)
theorem fmod_range {x m : Int} (h : 0 < m) : 0 ≤ x.fmod m ∧ x.fmod m < m := ⟨Int.fmod_nonneg_of_pos _ h, Int.fmod_lt_of_pos _ h⟩
theorem law_draw_v {cells : List Int} {a b many : Int} (h0 : 0 < many) (hl : many < 10 ^ 100) : ∃ x cells' a' b', p__law_draw [WL cells a b, .v (.int many)] = .ok (.v (.int x)) [WL cells' a' b', .v (.int many)] ∧ 0 ≤ x ∧ x < many := by
  have hdm : ∀ y, DivC y many := fun y => divC_of (by omega) (Nat.lt_of_lt_of_le (show many.natAbs < 10 ^ 100 by omega) (by
    have : (10 : Nat) ^ 100 ≤ 2 ^ 400 := by decide
    exact Nat.le_trans this (Nat.pow_le_pow_right (by decide) (by decide))))
  have hd89 : ∀ y, DivC y 89 := fun y => divC_s (by decide) (by decide)
  have hm0 : many ≠ 0 := by omega
  -- the cell
  have s1 : ∃ cells1 a1 b1 x2 x3, (ifSF (andF (testF (op2F (ibD fun i j => decide (i < j)) (b2F ixD (bS 0) (cF (.int 1))) (op2F powD (cF (.int 10)) (cF (.int 9))))) (testF (op2F (eqD true) (b2F ixD (bS 0) (cF (.int 0))) (frzF (lstF nilF))))) (seqF (setF 2 (b2F ixD (bD (b2F ixD (bS 0) (cF (.int 0)))) (cF (.int 0))))
      (seqF (setItF (bS 0) (cF (.int 0)) (slF (bD (b2F ixD (bS 0) (cF (.int 0)))) (someP (cF (.int 1))) noP))
      (seqF (setF 3 (op2F plusD (op2F mulD (cF (.int 2)) (b1F absD (bS 2))) (b1F intD (bD (op2F (ibD fun i j => decide (i < j)) (varF 2) (cF (.int 0)))))))
      (ifSF (testF (op2F (ibD fun i j => decide (j ≤ i)) (varF 3) (op2F powD (cF (.int 10)) (cF (.int 18))))) (setItF (bS 0) (cF (.int 1)) (varF 3)) (setItF (bS 0) (cF (.int 2)) (op2F fmodD (b1F intD (bD (op2F plusD (op2F plusD (op2F mulD (b2F ixD (bS 0) (cF (.int 2))) (cF (.int 48271))) (op2F mulD (varF 3) (cF (.int 69621)))) (cF (.int 17))))) (cF (.int 2147483647)))))))) nextF)
      [some (WL cells a b), some (.v (.int many)), none, none, none] = .nx [some (WL cells1 a1 b1), some (.v (.int many)), x2, x3, none] := by
    by_cases ha : a < 1000000000
    · cases cells with
      | nil => exact ⟨[], a, b, none, none, by simp [ha, line_le, v_eqNil (ns := [])]⟩
      | cons c cs =>
        have he := v_eqNil (n := true) (ns := c :: cs)
        simp only [List.map_cons, List.isEmpty_cons] at he
        have hct : cutL (D.int c :: cs.map .int) (some 1) none = cs.map .int := cut_tail
        have hx0 : L2.ixN 3 0 = some 0 := by decide
        have hx1 : L2.ixN 3 1 = some 1 := by decide
        have hx2 : L2.ixN 3 2 = some 2 := by decide
        have hwt : 2 * (if c < 0 then -c else c) + (if c < 0 then 1 else 0) = wt c := rfl
        by_cases hw : (1000000000000000000 : Int) ≤ wt c
        · refine ⟨cs, wt c, b, some (.v (.int c)), some (.v (.int (wt c))), ?_⟩
          simp [ha, line_le, he, hct, hx0, hx1, hx2, hw, hwt]
        · refine ⟨cs, a, (b * 48271 + wt c * 69621 + 17).fmod 2147483647, some (.v (.int c)), some (.v (.int (wt c))), ?_⟩
          simp [ha, line_le, he, hct, hx0, hx1, hx2, hw, hwt]
    · exact ⟨cells, a, b, none, none, by simp [ha, line_le]⟩
  obtain ⟨cells1, a1, b1, x2, x3, e1⟩ := s1
  have hx1 : L2.ixN 3 1 = some 1 := by decide
  have hx2 : L2.ixN 3 2 = some 2 := by decide
  have hst : startE ["well", "many", "cell", "weight", "found"] [WL cells a b, O.v (.int many)] = [some (WL cells a b), some (.v (.int many)), none, none, none] := rfl
  unfold p__law_draw
  rw [hst]
  unfold fs__law_draw
  rw [e_seq, e1, e_seq_nx]
  by_cases ha : (1000000000 : Int) ≤ a1
  · refine ⟨a1.fmod many, cells1, a1.fdiv many, b1, ?_, (fmod_range h0).1, (fmod_range h0).2⟩
    simp [ha, line_le, hx1, hx2, hm0, hdm]
  · refine ⟨_, cells1, a1, (b1 * 39373 + 101).fmod 2147483647, ?_, (fmod_range (x := ((b1 * 39373 + 101).fmod 2147483647).fdiv 89) h0).1, (fmod_range h0).2⟩
    simp [ha, line_le, hx1, hx2, hm0, hdm, hd89]

theorem gcd_loop : ∀ (b a : Nat), whileF k__law_gcd_0t k__law_gcd_0b [some (.v (.int a)), some (.v (.int b))] = .nx [some (.v (.int (Nat.gcd a b : Nat))), some (.v (.int 0))] := by
  intro b
  induction b using Nat.strongRecOn with
  | ind b ih =>
    intro a
    by_cases h0 : b = 0
    · subst h0
      rw [while_done (ρ1 := [some (.v (.int a)), some (.v (.int 0))]) (by simp [k__law_gcd_0t])]
      simp
    · have hm : ((a : Int).fmod b) = ((a % b : Nat) : Int) := by rw [Int.fmod_eq_emod_of_nonneg _ (by omega)]; omega
      have ht : k__law_gcd_0t [some (.v (.int a)), some (.v (.int b))] = .ok true [some (.v (.int a)), some (.v (.int b))] := by simp [k__law_gcd_0t, h0]
      have hb : k__law_gcd_0b [some (.v (.int a)), some (.v (.int b))] = .nx [some (.v (.int b)), some (.v (.int (a % b : Nat)))] := by
        simp [k__law_gcd_0b, h0, hm, -Int.natCast_emod]
      rw [while_step ht hb, ih (a % b) (Nat.mod_lt _ (Nat.pos_of_ne_zero h0)) b, Nat.gcd_comm b, ← Nat.gcd_rec, Nat.gcd_comm]
theorem abs_if (a : Int) : (if a < 0 then -a else a) = (a.natAbs : Int) := by
  split <;> omega
@[simp] theorem law_gcd_v {a b : Int} : p__law_gcd [.v (.int a), .v (.int b)] = .ok (.v (.int (Nat.gcd a.natAbs b.natAbs : Nat))) [.v (.int a), .v (.int b)] := by
  have e := gcd_loop b.natAbs a.natAbs
  simp [p__law_gcd, fs__law_gcd, abs_if, e]
theorem low_neg {a b : Int} (hb : b ≠ 0) : lowP (-a) (-b) = lowP a b := by
  refine low_of (low_isR hb) (by omega) ?_
  have := low_cross (a := a) hb
  rw [Int.mul_neg, Int.neg_mul, this]
theorem low_pos {a b : Int} (hb : 0 < b) : lowP a b = (a.fdiv (Nat.gcd a.natAbs b.natAbs : Nat), b.fdiv (Nat.gcd a.natAbs b.natAbs : Nat)) := by
  unfold lowP
  rw [if_neg (by omega)]
theorem law_ratio_v {a b : Int} (hb : b ≠ 0) (hl : b.natAbs.log2 < 9000) : p__law_ratio [.v (.int a), .v (.int b)] = .ok (.v (rD (lowP a b))) [.v (.int a), .v (.int b)] := by
  have hg : Nat.gcd a.natAbs b.natAbs ≠ 0 := Nat.pos_iff_ne_zero.mp (Nat.gcd_pos_of_pos_right _ (by omega))
  have hle : Nat.gcd a.natAbs b.natAbs ≤ b.natAbs := Nat.gcd_le_right _ (by omega)
  have hlog : (Nat.gcd a.natAbs b.natAbs).log2 < 9000 := by
    rw [Nat.log2_lt hg]
    rw [Nat.log2_lt (by omega)] at hl
    omega
  have hd : ∀ y, DivC y ((Nat.gcd a.natAbs b.natAbs : Nat) : Int) := fun y => ⟨by omega, by simpa using hlog⟩
  by_cases h : b < 0
  · have e := low_pos (a := -a) (b := -b) (by omega)
    rw [low_neg hb, Int.natAbs_neg, Int.natAbs_neg] at e
    simp [p__law_ratio, fs__law_ratio, h, hd, line_le, e]
  · have e := low_pos (a := a) (b := b) (by omega)
    simp [p__law_ratio, fs__law_ratio, h, hd, line_le, e]
section
variable {r s : Int × Int} (hr : IsR r) (hs : IsR s)
include hr hs
theorem law_plus_r (h1 : RSz 4000 r) (h2 : RSz 4000 s) : p__law_plus [.v (rD r), .v (rD s)] = .ok (.v (rD (addP r s))) [.v (rD r), .v (rD s)] := by
  have m1 : MulC r.1 s.2 := mulC_sz h1.top h2.bot (by decide)
  have m2 : MulC s.1 r.2 := mulC_sz h2.top h1.bot (by decide)
  have m3 : MulC r.2 s.2 := mulC_sz h1.bot h2.bot (by decide)
  have e := law_ratio_v (a := r.1 * s.2 + s.1 * r.2) (bot_ne hr hs) (log_of (h1.bot.mul h2.bot) (by decide) (by decide))
  simp [p__law_plus, fs__law_plus, m1, m2, m3, e, addP]
theorem law_times_r {n : Nat} (hn : 0 < n) (hn2 : n ≤ 8000) (h1 : RSz n r) (h2 : RSz 1000 s) : p__law_times [.v (rD r), .v (rD s)] = .ok (.v (rD (mulP r s))) [.v (rD r), .v (rD s)] := by
  have m1 : MulC r.1 s.1 := mulC_sz h1.top h2.top (by omega) hn
  have m3 : MulC r.2 s.2 := mulC_sz h1.bot h2.bot (by omega) hn
  have e := law_ratio_v (a := r.1 * s.1) (bot_ne hr hs) (log_of (h1.bot.mul h2.bot) (by omega) (by omega))
  simp [p__law_times, fs__law_times, m1, m3, e, mulP]
end
theorem law_number_v {cells : List Int} {a b : Int} : ∃ x cells' a' b', p__law_number [WL cells a b] = .ok (.v (.int x)) [WL cells' a' b'] ∧ Sz 100 x := by
  obtain ⟨i, c1, a1, b1, e1, hi0, hi4⟩ := law_draw_v (cells := cells) (a := a) (b := b) (many := 4) (by decide) (by decide)
  obtain ⟨sz, hsz, hsz0, hsz1⟩ : ∃ sz : Int, L2.atI [D.int 3, D.int 12, D.int (10 ^ 6), D.int (10 ^ 30)] i = some (.int sz) ∧ 0 < sz ∧ sz ≤ 10 ^ 30 := by
    have : i = 0 ∨ i = 1 ∨ i = 2 ∨ i = 3 := by omega
    rcases this with rfl | rfl | rfl | rfl
    · exact ⟨3, by simp, by decide, by decide⟩
    · exact ⟨12, by simp, by decide, by decide⟩
    · exact ⟨10 ^ 6, by simp, by decide, by decide⟩
    · exact ⟨10 ^ 30, by simp, by decide, by decide⟩
  obtain ⟨x, c2, a2, b2, e2, hx0, hx1⟩ := law_draw_v (cells := c1) (a := a1) (b := b1) (many := sz) hsz0 (by omega)
  obtain ⟨y, c3, a3, b3, e3, hy0, hy1⟩ := law_draw_v (cells := c2) (a := a2) (b := b2) (many := 2) (by decide) (by decide)
  have hxs : Sz 100 x := by
    unfold Sz
    have : (10 : Nat) ^ 30 ≤ 2 ^ 100 := by decide
    omega
  refine ⟨x * (1 - 2 * y), c3, a3, b3, ?_, ?_⟩
  · have hsz' : L2.atI [D.int 3, D.int 12, D.int 1000000, D.int 1000000000000000000000000000000] i = some (.int sz) := hsz
    have hm : MulC x (1 - 2 * y) := mulC_r (by omega)
    simp [p__law_number, fs__law_number, line_le, e1, e2, e3, hsz', hm]
  · have : y = 0 ∨ y = 1 := by omega
    rcases this with rfl | rfl
    · simpa using hxs
    · have e : x * (1 - 2 * 1) = -x := by omega
      rw [e]
      exact hxs.neg
end Pg

set_option Elab.async false
set_option linter.all false
set_option maxRecDepth 100000
set_option maxHeartbeats 4000000
/-! what is no ratio is refused. -/
namespace Pg
open PySem Fx Rt
/-- no ratio -/
def NoR (d : D) : Prop := p_is_ratio [.v d] = .ok (.v (.bl false)) [.v d]
abbrev exR (c : Str) (os : List O) : RF := .ex ⟨c, []⟩ os
theorem need_no {d : D} (h : NoR d) : p_need_ratio [.v d] = exR "BadRatio" [.v d] := by
  unfold NoR at h
  simp [p_need_ratio, fs_need_ratio, h]
section
variable {d e : D} {r s : Int × Int}
theorem plus_no1 (h : NoR d) : p_ratio_plus [.v d, .v e] = exR "BadRatio" [.v d, .v e] := by
  have h1 := need_no h
  simp [p_ratio_plus, fs_ratio_plus, h1]
theorem plus_no2 (hr : IsR r) (h : NoR e) : p_ratio_plus [.v (rD r), .v e] = exR "BadRatio" [.v (rD r), .v e] := by
  have h1 := need_no h
  simp [p_ratio_plus, fs_ratio_plus, hr, h1]
theorem minus_no1 (h : NoR d) : p_ratio_minus [.v d, .v e] = exR "BadRatio" [.v d, .v e] := by
  have h1 := need_no h
  simp [p_ratio_minus, fs_ratio_minus, h1]
theorem minus_no2 (hr : IsR r) (h : NoR e) : p_ratio_minus [.v (rD r), .v e] = exR "BadRatio" [.v (rD r), .v e] := by
  have h1 := need_no h
  simp [p_ratio_minus, fs_ratio_minus, hr, h1]
theorem times_no1 (h : NoR d) : p_ratio_times [.v d, .v e] = exR "BadRatio" [.v d, .v e] := by
  have h1 := need_no h
  simp [p_ratio_times, fs_ratio_times, h1]
theorem times_no2 (hr : IsR r) (h : NoR e) : p_ratio_times [.v (rD r), .v e] = exR "BadRatio" [.v (rD r), .v e] := by
  have h1 := need_no h
  simp [p_ratio_times, fs_ratio_times, hr, h1]
theorem over_no1 (h : NoR d) : p_ratio_over [.v d, .v e] = exR "BadRatio" [.v d, .v e] := by
  have h1 := need_no h
  simp [p_ratio_over, fs_ratio_over, h1]
theorem over_no2 (hr : IsR r) (h : NoR e) : p_ratio_over [.v (rD r), .v e] = exR "BadRatio" [.v (rD r), .v e] := by
  have h1 := need_no h
  simp [p_ratio_over, fs_ratio_over, hr, h1]
theorem over_zero (hr : IsR r) (hs : IsR s) (h0 : s.1 = 0) : p_ratio_over [.v (rD r), .v (rD s)] = exR "ZeroBottom" [.v (rD r), .v (rD s)] := by
  have h0' := eq_true h0
  simp [p_ratio_over, fs_ratio_over, hr, hs, h0']
theorem compare_no1 (h : NoR d) : p_ratio_compare [.v d, .v e] = exR "BadRatio" [.v d, .v e] := by
  have h1 := need_no h
  simp [p_ratio_compare, fs_ratio_compare, h1]
theorem compare_no2 (hr : IsR r) (h : NoR e) : p_ratio_compare [.v (rD r), .v e] = exR "BadRatio" [.v (rD r), .v e] := by
  have h1 := need_no h
  simp [p_ratio_compare, fs_ratio_compare, hr, h1]
theorem power_no1 (h : NoR d) : p_ratio_power [.v d, .v e] = exR "BadRatio" [.v d, .v e] := by
  have h1 := need_no h
  simp [p_ratio_power, fs_ratio_power, h1]
/-- no integer -/
def NoI (d : D) : Prop := p_is_int [.v d] = .ok (.v (.bl false)) [.v d]
theorem power_no2 (hr : IsR r) (h : NoI e) : p_ratio_power [.v (rD r), .v e] = exR "BadPower" [.v (rD r), .v e] := by
  unfold NoI at h
  simp [p_ratio_power, fs_ratio_power, hr, h]
theorem power_neg (hr : IsR r) {k : Int} (hk : k < 0) : p_ratio_power [.v (rD r), .v (.int k)] = exR "BadPower" [.v (rD r), .v (.int k)] := by
  simp [p_ratio_power, fs_ratio_power, hr, hk]
theorem of_no1 (h : NoI d) : p_ratio_of [.v d, .v e] = exR "BadInteger" [.v d, .v e] := by
  unfold NoI at h
  simp [p_ratio_of, fs_ratio_of, h]
theorem of_no2 {a : Int} (h : NoI e) : p_ratio_of [.v (.int a), .v e] = exR "BadInteger" [.v (.int a), .v e] := by
  unfold NoI at h
  simp [p_ratio_of, fs_ratio_of, h]
theorem of_zero {a : Int} : p_ratio_of [.v (.int a), .v (.int 0)] = exR "ZeroBottom" [.v (.int a), .v (.int 0)] := by
  simp [p_ratio_of, fs_ratio_of]
end
@[simp] theorem is_int_bl (b : Bool) : p_is_int [.v (.bl b)] = .ok (.v (.bl false)) [.v (.bl b)] := by rw [is_int_v]; rfl
@[simp] theorem is_int_str (b : Str) : p_is_int [.v (.str b)] = .ok (.v (.bl false)) [.v (.str b)] := by rw [is_int_v]; rfl
@[simp] theorem is_int_non : p_is_int [.v .non] = .ok (.v (.bl false)) [.v .non] := by rw [is_int_v]; rfl
@[simp] theorem is_int_tup (b : List D) : p_is_int [.v (.tup b)] = .ok (.v (.bl false)) [.v (.tup b)] := by rw [is_int_v]; rfl
@[simp] theorem is_int_lst (b : List D) : p_is_int [.v (.lst b)] = .ok (.v (.bl false)) [.v (.lst b)] := by rw [is_int_v]; rfl
theorem noR_lst (xs : List D) : NoR (.lst xs) := by simp [NoR, p_is_ratio, fs_is_ratio, p_is_row, fs_is_row]
theorem noR_int (i : Int) : NoR (.int i) := by simp [NoR, p_is_ratio, fs_is_ratio, p_is_row, fs_is_row]
theorem noR_str (i : Str) : NoR (.str i) := by simp [NoR, p_is_ratio, fs_is_ratio, p_is_row, fs_is_row]
theorem noR_non : NoR .non := by simp [NoR, p_is_ratio, fs_is_ratio, p_is_row, fs_is_row]
theorem noR_len {xs : List D} (h : xs.length ≠ 2) : NoR (.tup xs) := by
  have : ¬ (2 ≤ (xs.length : Int) ∧ (xs.length : Int) ≤ 2) := by omega
  by_cases h2 : 2 ≤ (xs.length : Int)
  · have h3 : ¬ (xs.length : Int) ≤ 2 := by omega
    simp [NoR, p_is_ratio, fs_is_ratio, p_is_row, fs_is_row, h2, h3]
  · simp [NoR, p_is_ratio, fs_is_ratio, p_is_row, fs_is_row, h2]
theorem noR_1 {d e : D} (h : NoI d) : NoR (.tup [d, e]) := by
  unfold NoI at h
  simp [NoR, p_is_ratio, fs_is_ratio, p_is_row, fs_is_row, h]
theorem noR_2 {i : Int} {e : D} (h : NoI e) : NoR (.tup [.int i, e]) := by
  unfold NoI at h
  simp [NoR, p_is_ratio, fs_is_ratio, p_is_row, fs_is_row, h]
theorem noR_3 {i j : Int} (h : ¬ IsR (i, j)) : NoR (rD (i, j)) := by
  by_cases h1 : 0 < j
  · have h2 : ¬ Nat.gcd i.natAbs j.natAbs = 1 := fun e => h ⟨h1, e⟩
    simp [NoR, p_is_ratio, fs_is_ratio, p_is_row, fs_is_row, h1]
    omega
  · simp [NoR, p_is_ratio, fs_is_ratio, p_is_row, fs_is_row, h1]
end Pg

set_option Elab.async false
set_option linter.all false
set_option maxRecDepth 100000
set_option maxHeartbeats 4000000
namespace K02
open PySem Fx Pg Rt
theorem l1 : List.lookup ("BadRatio" : Str) tbl_BadRatio = some true := by decide +kernel
theorem l2 : List.lookup ("BadInteger" : Str) tbl_BadRatio = some false := by decide +kernel
theorem l3 : List.lookup ("BadPower" : Str) tbl_BadRatio = some false := by decide +kernel
theorem l4 : List.lookup ("ZeroBottom" : Str) tbl_BadRatio = some false := by decide +kernel
theorem l5 : List.lookup ("BadInteger" : Str) tbl_BadInteger = some true := by decide +kernel
theorem l6 : List.lookup ("BadPower" : Str) tbl_BadInteger = some false := by decide +kernel
theorem l7 : List.lookup ("ZeroBottom" : Str) tbl_BadInteger = some false := by decide +kernel
theorem l8 : List.lookup ("BadPower" : Str) tbl_BadPower = some true := by decide +kernel
theorem l9 : List.lookup ("ZeroBottom" : Str) tbl_BadPower = some false := by decide +kernel
theorem l10 : List.lookup ("ZeroBottom" : Str) tbl_ZeroBottom = some true := by decide +kernel
theorem i1 : List.lookup ("BadRatio" : Str) tbl_IdealError = some true := by decide +kernel
theorem i2 : List.lookup ("BadInteger" : Str) tbl_IdealError = some true := by decide +kernel
theorem i3 : List.lookup ("BadPower" : Str) tbl_IdealError = some true := by decide +kernel
theorem i4 : List.lookup ("ZeroBottom" : Str) tbl_IdealError = some true := by decide +kernel
section
variable {w : Int} {d e : D}
abbrev A3 (w : Int) (d e : D) : List O := [.v (.int w), .v d, .v e]
/-- the call's outcome is c -/
def Calls (w : Int) (d e : D) (c : Str) : Prop := p__law_call (A3 w d e) = .ex ⟨c, []⟩ (A3 w d e)
theorem ref_ratio (h : Calls w d e "BadRatio") : p__law_refusal (A3 w d e) = .ok (.v (.str "ratio")) (A3 w d e) := by
  unfold Calls at h
  simp [p__law_refusal, fs__law_refusal, e_try, h, hand_yes (e := ⟨"BadRatio", []⟩) l1]
theorem ref_int (h : Calls w d e "BadInteger") : p__law_refusal (A3 w d e) = .ok (.v (.str "integer")) (A3 w d e) := by
  unfold Calls at h
  simp [p__law_refusal, fs__law_refusal, e_try, h, hand_no (e := ⟨"BadInteger", []⟩) l2, hand_yes (e := ⟨"BadInteger", []⟩) l5]
theorem ref_power (h : Calls w d e "BadPower") : p__law_refusal (A3 w d e) = .ok (.v (.str "power")) (A3 w d e) := by
  unfold Calls at h
  simp [p__law_refusal, fs__law_refusal, e_try, h, hand_no (e := ⟨"BadPower", []⟩) l3, hand_no (e := ⟨"BadPower", []⟩) l6, hand_yes (e := ⟨"BadPower", []⟩) l8]
theorem ref_zero (h : Calls w d e "ZeroBottom") : p__law_refusal (A3 w d e) = .ok (.v (.str "zero")) (A3 w d e) := by
  unfold Calls at h
  simp [p__law_refusal, fs__law_refusal, e_try, h, hand_no (e := ⟨"ZeroBottom", []⟩) l4, hand_no (e := ⟨"ZeroBottom", []⟩) l7, hand_no (e := ⟨"ZeroBottom", []⟩) l9, hand_yes (e := ⟨"ZeroBottom", []⟩) l10]
theorem ref_none {x : D} (h : p__law_call (A3 w d e) = .ok (.v x) (A3 w d e)) : p__law_refusal (A3 w d e) = .ok (.v .non) (A3 w d e) := by
  simp [p__law_refusal, fs__law_refusal, e_try, h]
theorem base_of {c : Str} (h : Calls w d e c) (hc : List.lookup c tbl_IdealError = some true) : p__law_is_base (A3 w d e) = .ok (.v (.bl true)) (A3 w d e) := by
  unfold Calls at h
  have := tryIs_ex (f := dropF (frzF (callF [] p__law_call (consA (bS 0) (consA (bS 1) (consA (bS 2) nilA)))))) (i := 4) (j := 3) (ρ := [some (.v (.int w)), some (.v d), some (.v e), some (.v (.bl false)), none]) (ρ' := [some (.v (.int w)), some (.v d), some (.v e), some (.v (.bl false)), none]) (by simp [h]) hc rfl
  simp [p__law_is_base, fs__law_is_base, this]
theorem call_no1 (hw : w = 0 ∨ w = 1 ∨ w = 2 ∨ w = 3 ∨ w = 4 ∨ w = 5) (h : NoR d) : Calls w d e "BadRatio" := by
  rcases hw with rfl | rfl | rfl | rfl | rfl | rfl
  · simp [Calls, p__law_call, fs__law_call, plus_no1 h]
  · simp [Calls, p__law_call, fs__law_call, minus_no1 h]
  · simp [Calls, p__law_call, fs__law_call, times_no1 h]
  · simp [Calls, p__law_call, fs__law_call, over_no1 h]
  · simp [Calls, p__law_call, fs__law_call, compare_no1 h]
  · simp [Calls, p__law_call, fs__law_call, power_no1 h]
theorem call_no2 {r : Int × Int} (hr : IsR r) (hw : w = 0 ∨ w = 1 ∨ w = 2 ∨ w = 3 ∨ w = 4) (h : NoR e) : Calls w (rD r) e "BadRatio" := by
  have h0 := plus_no2 hr h
  have h1 := minus_no2 hr h
  have h2 := times_no2 hr h
  have h3 := over_no2 hr h
  have h4 := compare_no2 hr h
  rcases hw with rfl | rfl | rfl | rfl | rfl
  · simp [Calls, p__law_call, fs__law_call, h0]
  · simp [Calls, p__law_call, fs__law_call, h1]
  · simp [Calls, p__law_call, fs__law_call, h2]
  · simp [Calls, p__law_call, fs__law_call, h3]
  · simp [Calls, p__law_call, fs__law_call, h4]
theorem call_ok {r : Int × Int} (hr : IsR r) (hz : RSz 100 r) (h0 : r.1 ≠ 0) (hw : w = 0 ∨ w = 1 ∨ w = 2 ∨ w = 3 ∨ w = 4) : ∃ x, p__law_call (A3 w (rD r) (rD r)) = .ok (.v x) (A3 w (rD r) (rD r)) := by
  have z := hz.mono (m := 4000) (by decide)
  have e0 := ratio_plus_r hr hr z z
  have e1 := ratio_minus_r hr hr z z
  have e2 := ratio_times_r hr hr z z
  have e3 := ratio_over_r hr hr z z h0
  have e4 := ratio_compare_r hr hr z z
  rcases hw with rfl | rfl | rfl | rfl | rfl
  · exact ⟨_, by simp [p__law_call, fs__law_call, e0]; rfl⟩
  · exact ⟨_, by simp [p__law_call, fs__law_call, e1]; rfl⟩
  · exact ⟨_, by simp [p__law_call, fs__law_call, e2]; rfl⟩
  · exact ⟨_, by simp [p__law_call, fs__law_call, e3]; rfl⟩
  · exact ⟨_, by simp [p__law_call, fs__law_call, e4]; rfl⟩
end
theorem at_mem {xs : List D} {i : Int} (h0 : 0 ≤ i) (h1 : i < xs.length) : ∃ d ∈ xs, L2.atI xs i = some d := by
  obtain ⟨n, rfl⟩ := Int.eq_ofNat_of_zero_le h0
  have hn : n < xs.length := by omega
  exact ⟨xs[n], List.getElem_mem hn, (v_atI rfl hn).trans (List.getElem?_eq_getElem hn)⟩
def wrongsL : List D := [.tup [.int 2, .int 4], .tup [.int 1, .int 0], .tup [.int 1, .int (-2)], .tup [.int 0, .int 2], .lst [.int 1, .int 2], .tup [.int 1], .tup [.int 1, .int 2, .int 3], .int 1, .non, .str "1/2", .tup [.bl true, .int 2], .tup [.int 1, .bl true], .tup [.tup [.int 1, .int 2], .int 3]]
theorem noI_bl (b : Bool) : NoI (.bl b) := is_int_bl b
theorem wrongs_no : ∀ d ∈ wrongsL, NoR d := by
  intro d h
  simp only [wrongsL, List.mem_cons, List.not_mem_nil, or_false] at h
  rcases h with rfl | rfl | rfl | rfl | rfl | rfl | rfl | rfl | rfl | rfl | rfl | rfl | rfl
  · exact noR_3 (fun h => absurd h.cop (by decide))
  · exact noR_3 (fun h => absurd h.pos (by decide))
  · exact noR_3 (fun h => absurd h.pos (by decide))
  · exact noR_3 (fun h => absurd h.cop (by decide))
  · exact noR_lst _
  · exact noR_len (by decide)
  · exact noR_len (by decide)
  · exact noR_int _
  · exact noR_non
  · exact noR_str _
  · exact noR_1 (is_int_bl _)
  · exact noR_2 (is_int_bl _)
  · exact noR_1 (is_int_tup _)
theorem sk1 : PyData.strOk "ratio" = true := by decide +kernel
theorem sk2 : PyData.strOk "integer" = true := by decide +kernel
theorem sk3 : PyData.strOk "power" = true := by decide +kernel
theorem sk4 : PyData.strOk "zero" = true := by decide +kernel
theorem inner {r : Int × Int} (hr : IsR r) (hz : RSz 100 r) (h0 : r.1 ≠ 0) {d e : D} (hd : NoR d) (he : NoR e) {o0 o1 o2 o4 o7 o8 o9 : Option O} :
    ∃ y7, forF (nameG 7) k_law_1b (rangeL 0 5) [o0, o1, o2, some (.v (rD r)), o4, some (.v d), some (.v e), o7, o8, o9] = .nx [o0, o1, o2, some (.v (rD r)), o4, some (.v d), some (.v e), y7, o8, o9] := by
  obtain ⟨ρ', e, y7, rfl⟩ := for_range_inv (g := nameG 7) (b := k_law_1b) (lo := 0) (n := 5) (fun i ρ => ∃ y7, ρ = [o0, o1, o2, some (.v (rD r)), o4, some (.v d), some (.v e), y7, o8, o9]) (by
    rintro i ρ hi ⟨y7, rfl⟩
    refine ⟨_, _, rfl, ?_, some (.v (.int (0 + (i : Int)))), rfl⟩
    have hw : (0 + (i : Int)) = 0 ∨ (0 + (i : Int)) = 1 ∨ (0 + (i : Int)) = 2 ∨ (0 + (i : Int)) = 3 ∨ (0 + (i : Int)) = 4 := by omega
    generalize (0 + (i : Int)) = w at hw
    have hw5 : w = 0 ∨ w = 1 ∨ w = 2 ∨ w = 3 ∨ w = 4 ∨ w = 5 := by omega
    have e1 := ref_ratio (call_no1 (d := d) (e := rD r) hw5 hd)
    have e2 := ref_ratio (call_no2 hr hw hd)
    have e3 := ref_ratio (call_no1 (d := d) (e := e) hw5 hd)
    obtain ⟨x, hx⟩ := call_ok hr hz h0 hw
    have e4 := ref_none hx
    simp only [rD] at e1 e2 e3 e4
    simp [k_law_1b, e1, e2, e3, e4, sk1]) (ρ := [o0, o1, o2, some (.v (rD r)), o4, some (.v d), some (.v e), o7, o8, o9]) ⟨o7, rfl⟩
  exact ⟨y7, e⟩
theorem call_pow {r : Int × Int} (hr : IsR r) (hz : RSz 100 r) : ∃ x, p__law_call (A3 5 (rD r) (.int 3)) = .ok (.v x) (A3 5 (rD r) (.int 3)) := by
  have e := ratio_power_r (k := 3) hr hz (by decide) (by decide)
  have e' : p_ratio_power [.v (.tup [.int r.1, .int r.2]), .v (.int 3)] = .ok (.v (rD (r.1 ^ 3, r.2 ^ 3))) [.v (.tup [.int r.1, .int r.2]), .v (.int 3)] := e
  exact ⟨_, by simp [p__law_call, fs__law_call, e']; rfl⟩
theorem call_of : p__law_call (A3 6 (.int 0) (.int (-7))) = .ok (.v (rD (lowP 0 (-7)))) (A3 6 (.int 0) (.int (-7))) := by
  have e := ratio_of_r (a := 0) (b := -7) (by decide) (by decide)
  simp [p__law_call, fs__law_call, e]
def powL : List D := [.int (-1), .bl true, .non, .str "2", .tup [.int 2], .int (-100000000000000000000)]
theorem pow_bad {r : Int × Int} (hr : IsR r) : ∀ d ∈ powL, Calls 5 (rD r) d "BadPower" := by
  intro d h
  have h2 : p_ratio_power [.v (rD r), .v d] = exR "BadPower" [.v (rD r), .v d] := by
    simp only [powL, List.mem_cons, List.not_mem_nil, or_false] at h
    rcases h with rfl | rfl | rfl | rfl | rfl | rfl
    · exact power_neg hr (by decide)
    · exact power_no2 hr (is_int_bl _)
    · exact power_no2 hr is_int_non
    · exact power_no2 hr (is_int_str _)
    · exact power_no2 hr (is_int_tup _)
    · exact power_neg hr (by decide)
  simp only [rD] at h2
  simp [Calls, p__law_call, fs__law_call, h2]
def numL : List D := [.non, .bl true, .str "1", .tup [.int 1, .int 1], .lst [.int 1]]
theorem num_bad : ∀ d ∈ numL, NoI d := by
  intro d h
  simp only [numL, List.mem_cons, List.not_mem_nil, or_false] at h
  rcases h with rfl | rfl | rfl | rfl | rfl
  · exact is_int_non
  · exact is_int_bl _
  · exact is_int_str _
  · exact is_int_tup _
  · exact is_int_lst _
theorem turn_v {r : Int × Int} (hr : IsR r) (hz : RSz 100 r) (h0 : r.1 ≠ 0) {o0 x4 x5 x6 x7 x8 x9 : Option O} {cells : List Int} {a b : Int} : ∃ cells' a' b' y5 y6 y7 y8 y9, k_law_0b [o0, some (WL cells a b), some (.v (.lst wrongsL)), some (.v (rD r)), x4, x5, x6, x7, x8, x9] = .nx [o0, some (WL cells' a' b'), some (.v (.lst wrongsL)), some (.v (rD r)), x4, y5, y6, y7, y8, y9] := by
  obtain ⟨i1, c1, a1, b1, e1, i10, i11⟩ := law_draw_v (cells := cells) (a := a) (b := b) (many := 13) (by decide) (by decide)
  obtain ⟨i2, c2, a2, b2, e2, i20, i21⟩ := law_draw_v (cells := c1) (a := a1) (b := b1) (many := 13) (by decide) (by decide)
  obtain ⟨i3, c3, a3, b3, e3, i30, i31⟩ := law_draw_v (cells := c2) (a := a2) (b := b2) (many := 6) (by decide) (by decide)
  obtain ⟨i4, c4, a4, b4, e4, i40, i41⟩ := law_draw_v (cells := c3) (a := a3) (b := b3) (many := 5) (by decide) (by decide)
  obtain ⟨d, hd, ed⟩ := at_mem (xs := wrongsL) i10 i11
  obtain ⟨e, he, ee⟩ := at_mem (xs := wrongsL) i20 i21
  obtain ⟨pw, hp, epw⟩ := at_mem (xs := powL) i30 i31
  obtain ⟨nu, hnu, enu⟩ := at_mem (xs := numL) i40 i41
  have nd := wrongs_no d hd
  have ne := wrongs_no e he
  have bp := pow_bad hr pw hp
  have bn := num_bad nu hnu
  have hlen : wrongsL.length = 13 := rfl
  obtain ⟨y7, el⟩ := inner hr hz h0 nd ne (o0 := o0) (o1 := some (WL c2 a2 b2)) (o2 := some (.v (.lst wrongsL))) (o4 := x4) (o7 := x7) (o8 := x8) (o9 := x9)
  have t1 := ref_ratio (call_no1 (w := 5) (d := d) (e := pw) (by decide) nd)
  have t2 := ref_power bp
  obtain ⟨x, hx⟩ := call_pow hr hz
  have t3 := ref_none hx
  have t4 := ref_int (w := 6) (d := nu) (e := .int 0) (by simp [Calls, p__law_call, fs__law_call, of_no1 bn])
  have t5 := ref_int (w := 6) (d := .int 1) (e := nu) (by simp [Calls, p__law_call, fs__law_call, of_no2 bn])
  have t6 := ref_zero (w := 6) (d := .int 5) (e := .int 0) (by simp [Calls, p__law_call, fs__law_call, of_zero])
  have hz1 := over_zero hr (s := (0, 1)) ⟨by show (0 : Int) < 1; decide, by decide⟩ rfl
  have t7 := ref_zero (w := 3) (d := rD r) (e := rD (0, 1)) (by simp only [rD] at hz1 ⊢; simp [Calls, p__law_call, fs__law_call, hz1])
  have t8 := ref_ratio (call_no1 (w := 3) (d := d) (e := rD (0, 1)) (by decide) nd)
  have t9 := ref_none call_of
  have ird := is_ratio_r hr
  have nd' := nd
  unfold NoR at nd'
  simp only [rD] at t3 t7 t8 el ird
  have t2' : p__law_refusal [O.v (.int 5), O.v (.tup [.int r.1, .int r.2]), O.v pw] = .ok (.v (.str "power")) [O.v (.int 5), O.v (.tup [.int r.1, .int r.2]), O.v pw] := t2
  have epw' : L2.atI [D.int (-1), .bl true, .non, .str "2", .tup [.int 2], .int (-100000000000000000000)] i3 = some pw := epw
  have enu' : L2.atI [D.non, .bl true, .str "1", .tup [.int 1, .int 1], .lst [.int 1]] i4 = some nu := enu
  refine ⟨c4, a4, b4, some (.v d), some (.v e), y7, some (.v pw), some (.v nu), ?_⟩
  unfold k_law_0b
  simp [hlen, e1, e2, e3, e4, ed, ee, el, nd', ird, epw', enu', t1, t2', t3, t4, t5, t6, t7, t8, t9, sk1, sk2, sk3, sk4, line_le]
theorem law_true : ∀ ns : List Int, ns.length ≤ 63 → ∃ os', p_law [.v (.lst (ns.map .int))] = .ok (.v (.bl true)) os' := by
  intro ns hn
  have ew := law_well_v hn
  obtain ⟨k, c1, a1, b1, e1, k0, k1⟩ := law_draw_v (cells := ns) (a := 0) (b := 40507) (many := 50) (by decide) (by decide)
  obtain ⟨k, rfl⟩ := Int.eq_ofNat_of_zero_le k0
  have hr : IsR ((1 + 2 * k : Int), (2 : Int)) := ⟨by show (0 : Int) < 2; decide, by
    show Nat.gcd (1 + 2 * (k : Int)).natAbs 2 = 1
    have : (1 + 2 * (k : Int)).natAbs = 1 + 2 * k := by omega
    rw [this, Nat.gcd_comm, Nat.gcd_rec, show (1 + 2 * k) % 2 = 1 by omega]
    rfl⟩
  have hz : RSz 100 ((1 + 2 * k : Int), (2 : Int)) := by
    have : (200 : Nat) ≤ 2 ^ 100 := by decide
    exact ⟨by show (1 + 2 * (k : Int)).natAbs < 2 ^ 100; omega, by show (2 : Int).natAbs < 2 ^ 100; omega⟩
  have h0 : ((1 + 2 * k : Int), (2 : Int)).1 ≠ 0 := by show (1 + 2 * (k : Int)) ≠ 0; omega
  obtain ⟨ρ', el, cells, a, b, x4, x5, x6, x7, x8, x9, rfl⟩ := for_range_inv (g := nameG 4) (b := k_law_0b) (lo := 0) (n := 6) (fun i ρ => ∃ cells a b x4 x5 x6 x7 x8 x9, ρ = [some (.v (.lst (ns.map .int))), some (WL cells a b), some (.v (.lst wrongsL)), some (.v (rD ((1 + 2 * k : Int), (2 : Int)))), x4, x5, x6, x7, x8, x9]) (by
    rintro i ρ hi ⟨cells, a, b, x4, x5, x6, x7, x8, x9, rfl⟩
    obtain ⟨c', a', b', y5, y6, y7, y8, y9, e⟩ := turn_v hr hz h0 (o0 := some (.v (.lst (ns.map .int)))) (x4 := some (.v (.int (0 + (i : Int))))) (x5 := x5) (x6 := x6) (x7 := x7) (x8 := x8) (x9 := x9) (cells := cells) (a := a) (b := b)
    exact ⟨_, _, rfl, e, c', a', b', _, y5, y6, y7, y8, y9, rfl⟩) (ρ := [some (.v (.lst (ns.map .int))), some (WL c1 a1 b1), some (.v (.lst wrongsL)), some (.v (rD ((1 + 2 * k : Int), (2 : Int)))), none, none, none, none, none, none]) ⟨c1, a1, b1, none, none, none, none, none, none, rfl⟩
  have b1 := base_of (call_no1 (w := 0) (d := .non) (e := rD ((1 + 2 * k : Int), (2 : Int))) (by decide) noR_non) i1
  have hz1 := over_zero hr (s := (0, 1)) ⟨by show (0 : Int) < 1; decide, by decide⟩ rfl
  have b2 := base_of (w := 3) (d := rD ((1 + 2 * k : Int), (2 : Int))) (e := rD (0, 1)) (c := "ZeroBottom") (by simp only [rD] at hz1 ⊢; simp [Calls, p__law_call, fs__law_call, hz1]) i4
  have b3 := base_of (pow_bad hr (.int (-1)) (by simp [powL])) i3
  have b4 := base_of (w := 6) (d := .str "") (e := .int 1) (c := "BadInteger") (by simp [Calls, p__law_call, fs__law_call, of_no1 (is_int_str _)]) i2
  refine ⟨[.v (.lst (ns.map .int))], ?_⟩
  simp only [rD, wrongsL] at el b1 b2 b3
  simp [p_law, fs_law, ew, e1, el, b1, b2, b3, b4, line_le]
end K02

set_option Elab.async false
set_option linter.all false
set_option maxRecDepth 100000
set_option maxHeartbeats 4000000

open PySem PySem.W PyProof.Rows
set_option maxHeartbeats 0 in
theorem PySem.Challenge.cw_idealsame_k02_ratios_refused_holds : PySem.Challenge.rw_idealsame_k02_ratios_refused.Holds := by
  w_on; o_law; k_head; (case hw => w_witness2)
  k_fill
  refine L2.walk_of (l := PySem.Challenge.rw_idealsame_k02_ratios_refused) (n := 63) (k := 7) (x := "script") (CX := fun w => L2.CX PySem.Challenge.rw_idealsame_k02_ratios_refused.prog w) (sp := fun w => Fx.spLaw _) rfl (by decide) rfl ⟨rfl, by decide, by decide⟩ (fun w h Y => PySem.W.kIn_of Y) ?F (fun _ _ a ns hl _ hS => ⟨a, ns, rfl, hS, hl, fun _ => rfl⟩) (fun _ _ _ _ _ h => Fx.cx_none h)
  case F =>
    intro w mg fa h KX G hmg
    refine' K02.all_mk KX G hmg (L2.fun_mk ?l_is_int ?c_is_int ?k_is_int) ?g_is_int (L2.fun_mk ?l_is_row ?c_is_row ?k_is_row) ?g_is_row (L2.fun_mk ?l_is_ratio ?c_is_ratio ?k_is_ratio) ?g_is_ratio (L2.fun_mk ?l__law_well ?c__law_well ?k__law_well) ?g__law_well (L2.fun_mk ?l__law_draw ?c__law_draw ?k__law_draw) ?g__law_draw (L2.fun_mk ?l_lowest ?c_lowest ?k_lowest) ?g_lowest (L2.fun_mk ?l_ratio_of ?c_ratio_of ?k_ratio_of) ?g_ratio_of (L2.fun_mk ?l_added ?c_added ?k_added) ?g_added (L2.fun_mk ?l_need_ratio ?c_need_ratio ?k_need_ratio) ?g_need_ratio (L2.fun_mk ?l_ratio_plus ?c_ratio_plus ?k_ratio_plus) ?g_ratio_plus (L2.fun_mk ?l_taken ?c_taken ?k_taken) ?g_taken (L2.fun_mk ?l_ratio_minus ?c_ratio_minus ?k_ratio_minus) ?g_ratio_minus (L2.fun_mk ?l_multiplied ?c_multiplied ?k_multiplied) ?g_multiplied (L2.fun_mk ?l_ratio_times ?c_ratio_times ?k_ratio_times) ?g_ratio_times (L2.fun_mk ?l_inverse ?c_inverse ?k_inverse) ?g_inverse (L2.fun_mk ?l_over ?c_over ?k_over) ?g_over (L2.fun_mk ?l_ratio_over ?c_ratio_over ?k_ratio_over) ?g_ratio_over (L2.fun_mk ?l_raised ?c_raised ?k_raised) ?g_raised (L2.fun_mk ?l_ratio_power ?c_ratio_power ?k_ratio_power) ?g_ratio_power (L2.fun_mk ?l_ratio_compare ?c_ratio_compare ?k_ratio_compare) ?g_ratio_compare (L2.fun_mk ?l__law_call ?c__law_call ?k__law_call) ?g__law_call (L2.fun_mk ?l__law_refusal ?c__law_refusal ?k__law_refusal) ?g__law_refusal (L2.fun_mk ?l__law_is_base ?c__law_is_base ?k__law_is_base) ?g__law_is_base (L2.fun_mk ?l_law ?c_law ?k_law) ?g_law ?z_ValueError ?z_abs ?z_bool ?z_int ?z_isinstance ?z_len ?z_range ?z_tuple ?gg_gcd (a_ONE := (L2.V.ref _)) ?gc_ONE ?rv_ONE ?rc_ONE ?gx_BadInteger ?xb_BadInteger ?xt_BadInteger ?xd_BadInteger ?gx_BadPower ?xb_BadPower ?xt_BadPower ?xd_BadPower ?gx_BadRatio ?xb_BadRatio ?xt_BadRatio ?xd_BadRatio ?gx_IdealError ?xb_IdealError ?xt_IdealError ?xd_IdealError ?gx_ZeroBottom ?xb_ZeroBottom ?xt_ZeroBottom ?xd_ZeroBottom ?xe_BadInteger ?xk_BadInteger ?xe_BadPower ?xk_BadPower ?xe_BadRatio ?xk_BadRatio ?xe_ZeroBottom ?xk_ZeroBottom ?xs_BadInteger_BadInteger ?xs_BadPower_BadInteger ?xs_BadRatio_BadInteger ?xs_ZeroBottom_BadInteger ?xs_BadInteger_BadPower ?xs_BadPower_BadPower ?xs_BadRatio_BadPower ?xs_ZeroBottom_BadPower ?xs_BadInteger_BadRatio ?xs_BadPower_BadRatio ?xs_BadRatio_BadRatio ?xs_ZeroBottom_BadRatio ?xs_BadInteger_IdealError ?xs_BadPower_IdealError ?xs_BadRatio_IdealError ?xs_ZeroBottom_IdealError ?xs_BadInteger_ZeroBottom ?xs_BadPower_ZeroBottom ?xs_BadRatio_ZeroBottom ?xs_ZeroBottom_ZeroBottom ⟨?v1_BadInteger, ?v2_BadInteger, ?v3_BadInteger, ?v4_BadInteger, ?v5_BadInteger, ?v6_BadInteger, ?v7_BadInteger, ?v8_BadInteger⟩ ?xv_BadInteger ⟨?v1_BadPower, ?v2_BadPower, ?v3_BadPower, ?v4_BadPower, ?v5_BadPower, ?v6_BadPower, ?v7_BadPower, ?v8_BadPower⟩ ?xv_BadPower ⟨?v1_BadRatio, ?v2_BadRatio, ?v3_BadRatio, ?v4_BadRatio, ?v5_BadRatio, ?v6_BadRatio, ?v7_BadRatio, ?v8_BadRatio⟩ ?xv_BadRatio ⟨?v1_ZeroBottom, ?v2_ZeroBottom, ?v3_ZeroBottom, ?v4_ZeroBottom, ?v5_ZeroBottom, ?v6_ZeroBottom, ?v7_ZeroBottom, ?v8_ZeroBottom⟩ ?xv_ZeroBottom K02.law_true
    (case g_is_int => k_is)
    (case l_is_int => k_is)
    (case c_is_int => k_is)
    (case k_is_int => k_is)
    (case g_is_row => k_is)
    (case l_is_row => k_is)
    (case c_is_row => k_is)
    (case k_is_row => k_is)
    (case g_is_ratio => k_is)
    (case l_is_ratio => k_is)
    (case c_is_ratio => k_is)
    (case k_is_ratio => k_is)
    (case g__law_well => k_is)
    (case l__law_well => k_is)
    (case c__law_well => k_is)
    (case k__law_well => k_is)
    (case g__law_draw => k_is)
    (case l__law_draw => k_is)
    (case c__law_draw => k_is)
    (case k__law_draw => k_is)
    (case g_lowest => k_is)
    (case l_lowest => k_is)
    (case c_lowest => k_is)
    (case k_lowest => k_is)
    (case g_ratio_of => k_is)
    (case l_ratio_of => k_is)
    (case c_ratio_of => k_is)
    (case k_ratio_of => k_is)
    (case g_added => k_is)
    (case l_added => k_is)
    (case c_added => k_is)
    (case k_added => k_is)
    (case g_need_ratio => k_is)
    (case l_need_ratio => k_is)
    (case c_need_ratio => k_is)
    (case k_need_ratio => k_is)
    (case g_ratio_plus => k_is)
    (case l_ratio_plus => k_is)
    (case c_ratio_plus => k_is)
    (case k_ratio_plus => k_is)
    (case g_taken => k_is)
    (case l_taken => k_is)
    (case c_taken => k_is)
    (case k_taken => k_is)
    (case g_ratio_minus => k_is)
    (case l_ratio_minus => k_is)
    (case c_ratio_minus => k_is)
    (case k_ratio_minus => k_is)
    (case g_multiplied => k_is)
    (case l_multiplied => k_is)
    (case c_multiplied => k_is)
    (case k_multiplied => k_is)
    (case g_ratio_times => k_is)
    (case l_ratio_times => k_is)
    (case c_ratio_times => k_is)
    (case k_ratio_times => k_is)
    (case g_inverse => k_is)
    (case l_inverse => k_is)
    (case c_inverse => k_is)
    (case k_inverse => k_is)
    (case g_over => k_is)
    (case l_over => k_is)
    (case c_over => k_is)
    (case k_over => k_is)
    (case g_ratio_over => k_is)
    (case l_ratio_over => k_is)
    (case c_ratio_over => k_is)
    (case k_ratio_over => k_is)
    (case g_raised => k_is)
    (case l_raised => k_is)
    (case c_raised => k_is)
    (case k_raised => k_is)
    (case g_ratio_power => k_is)
    (case l_ratio_power => k_is)
    (case c_ratio_power => k_is)
    (case k_ratio_power => k_is)
    (case g_ratio_compare => k_is)
    (case l_ratio_compare => k_is)
    (case c_ratio_compare => k_is)
    (case k_ratio_compare => k_is)
    (case g__law_call => k_is)
    (case l__law_call => k_is)
    (case c__law_call => k_is)
    (case k__law_call => k_is)
    (case g__law_refusal => k_is)
    (case l__law_refusal => k_is)
    (case c__law_refusal => k_is)
    (case k__law_refusal => k_is)
    (case g__law_is_base => k_is)
    (case l__law_is_base => k_is)
    (case c__law_is_base => k_is)
    (case k__law_is_base => k_is)
    (case g_law => k_is)
    (case l_law => k_is)
    (case c_law => k_is)
    (case k_law => k_is)
    (case z_ValueError => k_is)
    (case z_abs => k_is)
    (case z_bool => k_is)
    (case z_int => k_is)
    (case z_isinstance => k_is)
    (case z_len => k_is)
    (case z_range => k_is)
    (case z_tuple => k_is)
    (case gg_gcd => k_is)
    (case gx_BadInteger => k_is)
    (case xb_BadInteger => k_is)
    (case xt_BadInteger => k_is)
    (case xd_BadInteger => k_is)
    (case gx_BadPower => k_is)
    (case xb_BadPower => k_is)
    (case xt_BadPower => k_is)
    (case xd_BadPower => k_is)
    (case gx_BadRatio => k_is)
    (case xb_BadRatio => k_is)
    (case xt_BadRatio => k_is)
    (case xd_BadRatio => k_is)
    (case gx_IdealError => k_is)
    (case xb_IdealError => k_is)
    (case xt_IdealError => k_is)
    (case xd_IdealError => k_is)
    (case gx_ZeroBottom => k_is)
    (case xb_ZeroBottom => k_is)
    (case xt_ZeroBottom => k_is)
    (case xd_ZeroBottom => k_is)
    (case xk_BadInteger => k_is)
    (case xk_BadPower => k_is)
    (case xk_BadRatio => k_is)
    (case xk_ZeroBottom => k_is)
    (case xs_BadInteger_BadInteger => k_is)
    (case xs_BadPower_BadInteger => k_is)
    (case xs_BadRatio_BadInteger => k_is)
    (case xs_ZeroBottom_BadInteger => k_is)
    (case xs_BadInteger_BadPower => k_is)
    (case xs_BadPower_BadPower => k_is)
    (case xs_BadRatio_BadPower => k_is)
    (case xs_ZeroBottom_BadPower => k_is)
    (case xs_BadInteger_BadRatio => k_is)
    (case xs_BadPower_BadRatio => k_is)
    (case xs_BadRatio_BadRatio => k_is)
    (case xs_ZeroBottom_BadRatio => k_is)
    (case xs_BadInteger_IdealError => k_is)
    (case xs_BadPower_IdealError => k_is)
    (case xs_BadRatio_IdealError => k_is)
    (case xs_ZeroBottom_IdealError => k_is)
    (case xs_BadInteger_ZeroBottom => k_is)
    (case xs_BadPower_ZeroBottom => k_is)
    (case xs_BadRatio_ZeroBottom => k_is)
    (case xs_ZeroBottom_ZeroBottom => k_is)
    (case v1_BadInteger => k_is)
    (case v2_BadInteger => k_is)
    (case v3_BadInteger => k_is)
    (case v4_BadInteger => k_is)
    (case v5_BadInteger => k_is)
    (case v6_BadInteger => k_is)
    (case v7_BadInteger => k_is)
    (case v8_BadInteger => k_is)
    (case xv_BadInteger => k_is)
    (case v1_BadPower => k_is)
    (case v2_BadPower => k_is)
    (case v3_BadPower => k_is)
    (case v4_BadPower => k_is)
    (case v5_BadPower => k_is)
    (case v6_BadPower => k_is)
    (case v7_BadPower => k_is)
    (case v8_BadPower => k_is)
    (case xv_BadPower => k_is)
    (case v1_BadRatio => k_is)
    (case v2_BadRatio => k_is)
    (case v3_BadRatio => k_is)
    (case v4_BadRatio => k_is)
    (case v5_BadRatio => k_is)
    (case v6_BadRatio => k_is)
    (case v7_BadRatio => k_is)
    (case v8_BadRatio => k_is)
    (case xv_BadRatio => k_is)
    (case v1_ZeroBottom => k_is)
    (case v2_ZeroBottom => k_is)
    (case v3_ZeroBottom => k_is)
    (case v4_ZeroBottom => k_is)
    (case v5_ZeroBottom => k_is)
    (case v6_ZeroBottom => k_is)
    (case v7_ZeroBottom => k_is)
    (case v8_ZeroBottom => k_is)
    (case xv_ZeroBottom => k_is)
    (case xe_BadInteger => first | k_exc | k_is)
    (case xe_BadPower => first | k_exc | k_is)
    (case xe_BadRatio => first | k_exc | k_is)
    (case xe_ZeroBottom => first | k_exc | k_is)
    (case gc_ONE => k_is)
    (case rv_ONE => first | exact rfl | exact ⟨_, rfl⟩)
    (case rc_ONE => refine' Fx.rc_tup (xs := [(L2.V.int 1), (L2.V.int 1)]) ?lk ?h1 ?h2 ?hs ?hv ?hr; (case lk => k_is); (case h1 => exact rfl); (case h2 => exact rfl); (case hs => decide); (case hv => exact (.cons ⟨_, rfl⟩ (.cons ⟨_, rfl⟩ .nil))); (case hr => exact fun G => (.cons (.int _) (.cons (.int _) .nil))))
