import PyProof.Rows.All
import HandS.ForMost
import HandS.Wide
import HandS.WideMore
import HandS.Gcd
import HandS.Exc
import HandS.ExcOwn
import HandS.WordsExc
import HandS.TryOnly
import HandS.TryMany
import HandS.IsInst
import HandS.Flow
import HandS.Style
import HandS.Lambda
import HandS.DictTup
import KE.KDictKeyed
import KE.KeyNested
import KE.KDictDisplayH
import KE.KDictPairs
import KE.KDictWalk
import KE.GoesDict
import KE.SortKeyHeap
import HandS.TupAny
import HandS.ExcIs
import PyProof.Rows.SetFrom
import PyProof.SetKind
import PyProof.StrWalks
import PyProof.SetRoads
import HandS.StrMore
import HandS.WideBits
import PyProof.Rows.StrMul
import PyProof.Rows.StrStep
import PyProof.Rows.StrTemp
import HandS.TupMul
import HandS.Zip
import HandS.Iter
import PyProof.WalksMore
import PyProof.TupleIter
import HandS.IterVal
import KE.GoesRaise
import HandS.Deep
import PyProof.TupleOfStr
import HandS.CallLocal
import HandS.Nested
import HandS.EndTab
import PyProof.DictMoreH
import HandS.SortKw
import KE.KTupSum
import KE.DataCmp
import HandS.Conv
import KE.KDictOf
import KE.KEqDict
import KE.GoesEnum
import KE.KUnpack
import PySem.Challenge.RW_idealsame_k74_first_zeros_of_loops

set_option Elab.async false
set_option linter.all false
set_option maxRecDepth 100000
namespace Fx
open PySem L2

inductive D where
  | non | bl (b : Bool) | int (i : Int) | str (s : Str)
  | tup (xs : List D) | lst (xs : List D)
  | dk (kvs : List (Key × D)) | dt (kvs : List (List Key × D)) | tb (kvs : List (D × D)) | wt (xs : List D)
  | ob (cn : Str) (fs : List (Str × D))
  deriving Inhabited
inductive C1 where
  | val (d : D) | lst (xs : List D) | dk (kvs : List (Key × D)) | dt (kvs : List (List Key × D)) | tb (kvs : List (D × D))
structure Exn where
  cls : Str
  fs : List (Str × D)
inductive RD where
  | ok (d : D) | ex (e : Exn) | stuck
inductive O where
  | c (x : C1) | ins (C : Str) (fs : List (Str × C1)) | fn (ψ : D → RD)
abbrev O.v (d : D) : O := .c (.val d)
abbrev Env := List (Option O)
inductive R (α : Type) where
  | ok (a : α) (ρ : Env) | ex (e : Exn) (ρ : Env) | stuck
def R.bind {α β : Type} (r : R α) (k : α → Env → R β) : R β := match r with
  | .ok a ρ => k a ρ
  | .ex e ρ => .ex e ρ
  | .stuck => .stuck
inductive RS where
  | nx (ρ : Env) | ret (o : O) (ρ : Env) | br (ρ : Env) | ct (ρ : Env) | ex (e : Exn) (ρ : Env) | stuck
inductive RF where
  | ok (o : O) (outs : List O) | ex (e : Exn) (outs : List O) | stuck
abbrev FE (α : Type) := Env → R α
abbrev FS := Env → RS

theorem R.bind_ok {α β : Type} {a : α} {ρ : Env} {k : α → Env → R β} : R.bind (.ok a ρ) k = k a ρ := rfl
mutual
def keyN : D → Option NestedKey
  | .non => some .none
  | .int i => some (.num i)
  | .str s => some (.text s)
  | .tup xs => match keyNs xs with
    | some ks => some (.tup ks)
    | none => none
  | _ => none
def keyNs : List D → Option (List NestedKey)
  | [] => some []
  | d :: ds => match keyN d, keyNs ds with
    | some k, some ks => some (k :: ks)
    | _, _ => none
end
def keyT (d : D) : Option NestedKey := match d with
  | .tup xs => match keyNs xs with
    | some ks => if NestedKey.depthAll ks ≤ 7 then some (.tup ks) else none
    | none => none
  | _ => none
class FnTabs where
  /-- the tables of code objects that are told, with the names of what is made -/
  tabs : List (Addr × Str)
  /-- the world: it seeds the hashes -/
  w : World
  /-- the classes whose instances are values -/
  cls : Str → Addr := fun _ => (0 : Nat)
def TbAt (w : World) (a : Addr) (xs : List (NestedKey × Addr × V)) (h : Heap) : Prop := ∃ us : List (NestedKey × Addr × Value), Paired (fun p q => p.1 = q.1 ∧ p.2.1 = q.2.1 ∧ RelV p.2.2 q.2.2) xs us ∧ us.length ≤ sizeLine ∧ (a == sysModules) = false ∧
  ∃ o es ep, h.get? a = some o ∧ o.ExactDict ∧ o.data = .dict es ep ∧ es.toList = us.map (fun x => ⟨x.1.hash w, .ref x.2.1, x.2.2⟩) ∧ (us.map (·.1)).Nodup
abbrev DTo (w : World) (a : Addr) (xs : List (NestedKey × Addr × V)) : HO := .ext (TbAt w a xs)

def SqP (K : PySem.W.Frag) (G : Hp) (a : Addr) (vs : List V) : Prop := ∃ o : Obj, o.dict = none ∧ (G a = some (.frz o (.tup vs)) ∨ (K.lookup a = some o ∧ ∃ (its : Array Value) (n : Nat), o.cls = .type "tuple" ∧ o.data = .seq its n ∧ its.size ≤ sizeLine ∧ Vals vs its.toList))
theorem SqP.t {K : PySem.W.Frag} {G : Hp} {a : Addr} {vs : List V} (h : SqP K G a vs) : SqT K G a vs := by
  obtain ⟨o, _, h | ⟨h, its, n, c⟩⟩ := h
  · exact .inl (.inr ⟨o, h⟩)
  · exact .inr ⟨o, its, n, h, c⟩
theorem SqP.new {K : PySem.W.Frag} {G : Hp} {a : Addr} {vs : List V} {o : Obj} (ho : o.dict = none) : SqP K (upd G a (.frz o (.tup vs))) a vs := ⟨o, ho, .inl upd_same⟩

section
variable [FnTabs]
mutual
inductive Rp (K : PySem.W.Frag) (G : Hp) : V → D → Prop
  | non : Rp K G .non .non
  | bl (b : Bool) : Rp K G (.bl b) (.bl b)
  | int (i : Int) : Rp K G (.int i) (.int i)
  | str (x : Str) : Rp K G (.str x) (.str x)
  | tup {a : Addr} {vs : List V} {ds : List D} : SqP K G a vs → RpL K G vs ds → Rp K G (.ref a) (.tup ds)
  | lst {a : Addr} {vs : List V} {ds : List D} : SqL K G a vs → RpL K G vs ds → Rp K G (.ref a) (.lst ds)
  | wt {a : Addr} {vs : List V} {ds : List D} : SqT K G a vs → RpL K G vs ds → Rp K G (.ref a) (.wt ds)
  | dk {a : Addr} {kvs : List (Key × V)} {ds : List (Key × D)} : Rd G a (.dK kvs) → RpK K G kvs ds → Rp K G (.ref a) (.dk ds)
  | dt {a : Addr} {kvs : List (List Key × V)} {ds : List (List Key × D)} : Rd G a (.dT kvs) → RpT K G kvs ds → Rp K G (.ref a) (.dt ds)
  | tb {a : Addr} {o : Obj} {xs : List (NestedKey × Addr × V)} {ds : List (D × D)} : G a = some (.frz o (DTo FnTabs.w a xs)) → RpB K G xs ds → Rp K G (.ref a) (.tb ds)
  | ob {a dx : Addr} {vs : List (Str × V)} {cn : Str} {ds : List (Str × D)} : G a = some (.ins (FnTabs.cls cn) dx vs) → RpF K G vs ds → Rp K G (.ref a) (.ob cn ds)
inductive RpL (K : PySem.W.Frag) (G : Hp) : List V → List D → Prop
  | nil : RpL K G [] []
  | cons {v : V} {vs : List V} {d : D} {ds : List D} : Rp K G v d → RpL K G vs ds → RpL K G (v :: vs) (d :: ds)
inductive RpK (K : PySem.W.Frag) (G : Hp) : List (Key × V) → List (Key × D) → Prop
  | nil : RpK K G [] []
  | cons {k : Key} {v : V} {vs : List (Key × V)} {d : D} {ds : List (Key × D)} : Rp K G v d → RpK K G vs ds → RpK K G ((k, v) :: vs) ((k, d) :: ds)
inductive RpT (K : PySem.W.Frag) (G : Hp) : List (List Key × V) → List (List Key × D) → Prop
  | nil : RpT K G [] []
  | cons {k : List Key} {v : V} {vs : List (List Key × V)} {d : D} {ds : List (List Key × D)} : Rp K G v d → RpT K G vs ds → RpT K G ((k, v) :: vs) ((k, d) :: ds)
inductive RpB (K : PySem.W.Frag) (G : Hp) : List (NestedKey × Addr × V) → List (D × D) → Prop
  | nil : RpB K G [] []
  | cons {nk : NestedKey} {q : Addr} {dk : D} {v : V} {vs : List (NestedKey × Addr × V)} {d : D} {ds : List (D × D)} : Rp K G (.ref q) dk → keyT dk = some nk → Rp K G v d → RpB K G vs ds → RpB K G ((nk, q, v) :: vs) ((dk, d) :: ds)
inductive RpF (K : PySem.W.Frag) (G : Hp) : List (Str × V) → List (Str × D) → Prop
  | nil : RpF K G [] []
  | cons {f : Str} {v : V} {vs : List (Str × V)} {d : D} {ds : List (Str × D)} : Rp K G v d → RpF K G vs ds → RpF K G ((f, v) :: vs) ((f, d) :: ds)
end
end

def Le (G G' : Hp) : Prop := ∀ a o, G a = some o → G' a = some o
theorem Le.refl (G : Hp) : Le G G := fun _ _ h => h
theorem Le.trans {G G1 G2 : Hp} (a : Le G G1) (b : Le G1 G2) : Le G G2 := fun x o h => b x o (a x o h)
theorem Le.rd {G G' : Hp} (l : Le G G') {a : Addr} {u : HO} (h : Rd G a u) : Rd G' a u := by
  rcases h with h | ⟨o, h⟩
  · exact .inl (l _ _ h)
  · exact .inr ⟨o, l _ _ h⟩
theorem Le.sqp {K : PySem.W.Frag} {G G' : Hp} (l : Le G G') {a : Addr} {xs : List V} (h : SqP K G a xs) : SqP K G' a xs := by
  obtain ⟨o, h1, h | h⟩ := h
  · exact ⟨o, h1, .inl (l _ _ h)⟩
  · exact ⟨o, h1, .inr h⟩
theorem Le.sqw {K : PySem.W.Frag} {G G' : Hp} (l : Le G G') {a : Addr} {xs : List V} (h : SqT K G a xs) : SqT K G' a xs := by
  rcases h with h | h
  · exact .inl (l.rd h)
  · exact .inr h
theorem Le.sqt {K : PySem.W.Frag} {G G' : Hp} (l : Le G G') {a : Addr} {xs : List V} (h : SqP K G a xs) : SqT K G' a xs := (l.sqp h).t
theorem Le.sql {K : PySem.W.Frag} {G G' : Hp} (l : Le G G') {a : Addr} {xs : List V} (h : SqL K G a xs) : SqL K G' a xs := by
  rcases h with h | h
  · exact .inl (l.rd h)
  · exact .inr h
theorem Le.upd {G : Hp} {a : Addr} {o : HO} (h : G a = none) : Le G (upd G a o) := fun b u e => by
  rw [upd_ne (ne_of_none e h)]; exact e
section
variable [FnTabs] {K : PySem.W.Frag} {G G' : Hp}
mutual
theorem Rp.mono (l : Le G G') : ∀ {v : V} {d : D}, Rp K G v d → Rp K G' v d
  | _, _, .non => .non
  | _, _, .bl b => .bl b
  | _, _, .int i => .int i
  | _, _, .str x => .str x
  | _, _, .tup h r => .tup (l.sqp h) (RpL.mono l r)
  | _, _, .lst h r => .lst (l.sql h) (RpL.mono l r)
  | _, _, .wt h r => .wt (l.sqw h) (RpL.mono l r)
  | _, _, .dk h r => .dk (l.rd h) (RpK.mono l r)
  | _, _, .dt h r => .dt (l.rd h) (RpT.mono l r)
  | _, _, .tb h r => .tb (l _ _ h) (RpB.mono l r)
  | _, _, .ob h r => .ob (l _ _ h) (RpF.mono l r)
theorem RpL.mono (l : Le G G') : ∀ {vs : List V} {ds : List D}, RpL K G vs ds → RpL K G' vs ds
  | _, _, .nil => .nil
  | _, _, .cons h r => .cons (Rp.mono l h) (RpL.mono l r)
theorem RpK.mono (l : Le G G') : ∀ {vs : List (Key × V)} {ds : List (Key × D)}, RpK K G vs ds → RpK K G' vs ds
  | _, _, .nil => .nil
  | _, _, .cons h r => .cons (Rp.mono l h) (RpK.mono l r)
theorem RpT.mono (l : Le G G') : ∀ {vs : List (List Key × V)} {ds : List (List Key × D)}, RpT K G vs ds → RpT K G' vs ds
  | _, _, .nil => .nil
  | _, _, .cons h r => .cons (Rp.mono l h) (RpT.mono l r)
theorem RpB.mono (l : Le G G') : ∀ {vs : List (NestedKey × Addr × V)} {ds : List (D × D)}, RpB K G vs ds → RpB K G' vs ds
  | _, _, .nil => .nil
  | _, _, .cons hk e h r => .cons (Rp.mono l hk) e (Rp.mono l h) (RpB.mono l r)
theorem RpF.mono (l : Le G G') : ∀ {vs : List (Str × V)} {ds : List (Str × D)}, RpF K G vs ds → RpF K G' vs ds
  | _, _, .nil => .nil
  | _, _, .cons h r => .cons (Rp.mono l h) (RpF.mono l r)
end
theorem RpL.length : ∀ {vs : List V} {ds : List D}, RpL K G vs ds → vs.length = ds.length
  | _, _, .nil => rfl
  | _, _, .cons _ r => congrArg (· + 1) r.length
theorem RpL.get : ∀ {vs : List V} {ds : List D} {i : Nat} {d : D}, RpL K G vs ds → ds[i]? = some d → ∃ v, vs[i]? = some v ∧ Rp K G v d
  | _, _, 0, _, .cons h _, e => by cases e; exact ⟨_, rfl, h⟩
  | _, _, i + 1, _, .cons _ r, e => r.get (i := i) e
  | _, _, _, _, .nil, e => by simp at e
theorem RpL.append : ∀ {vs ws : List V} {ds es : List D}, RpL K G vs ds → RpL K G ws es → RpL K G (vs ++ ws) (ds ++ es)
  | _, _, _, _, .nil, s => s
  | _, _, _, _, .cons h r, s => .cons h (r.append s)
theorem RpL.set {v : V} {d : D} (h : Rp K G v d) : ∀ {vs : List V} {ds : List D} (i : Nat), RpL K G vs ds → RpL K G (vs.set i v) (ds.set i d)
  | _, _, _, .nil => .nil
  | _, _, 0, .cons _ r => .cons h r
  | _, _, i + 1, .cons q r => .cons q (RpL.set h i r)
theorem RpL.take : ∀ {vs : List V} {ds : List D} (n : Nat), RpL K G vs ds → RpL K G (vs.take n) (ds.take n)
  | _, _, 0, _ => .nil
  | _, _, _ + 1, .nil => .nil
  | _, _, n + 1, .cons h r => .cons h (r.take n)
theorem RpL.drop : ∀ {vs : List V} {ds : List D} (n : Nat), RpL K G vs ds → RpL K G (vs.drop n) (ds.drop n)
  | _, _, 0, r => r
  | _, _, _ + 1, .nil => .nil
  | _, _, n + 1, .cons _ r => r.drop n
theorem RpL.rev : ∀ {vs : List V} {ds : List D}, RpL K G vs ds → RpL K G vs.reverse ds.reverse
  | _, _, .nil => .nil
  | _, _, .cons h r => by
    rw [List.reverse_cons, List.reverse_cons]
    exact r.rev.append (.cons h .nil)
end

class FnSem extends FnTabs where
  fn : Addr → Hp → (D → RD) → Prop
  mono : ∀ {a : Addr} {G G' : Hp} {ψ : D → RD}, Le G G' → fn a G ψ → fn a G' ψ
abbrev noFn (w : World) : FnSem := { tabs := [], w := w, fn := fun _ _ _ => False, mono := fun _ h => h.elim }
def anyW : World := { draws := fun _ _ => 0, params := { strHash := fun _ => 0, shareClass := fun _ => 0, mergeTok := fun t => t, idOf := fun _ => 0, idOfShared := fun _ _ => 0, followText := fun _ => false, idOfImm := fun _ => 0 } }
instance (priority := low) anyFn : FnSem := noFn anyW
def TabG (G H : Hp) (P : Addr) (q : Str) : Prop := ∃ ps : Array Value, H P = some (.tbl ps) ∧ TriplesOk ps.toList ∧ ∀ (p : Pos) (u : Value), codeAmong p ps.toList = some u → ∃ c, u = .ref c ∧ G c = some (LamX.CodeO c q)
theorem TabG.to {G H G' H' : Hp} {P : Addr} {q : Str} (t : TabG G H P q) (l : Le G G') (h : ∀ ps, H P = some (.tbl ps) → H' P = some (.tbl ps)) : TabG G' H' P q := by
  obtain ⟨ps, h1, h2, h3⟩ := t
  refine ⟨ps, h _ h1, h2, fun p u e => ?_⟩
  obtain ⟨c, e1, e2⟩ := h3 p u e
  exact ⟨c, e1, l _ _ e2⟩
structure Sub [FnTabs] (G H : Hp) : Prop where
  le : Le G H
  tab : ∀ p ∈ FnTabs.tabs, G p.1 = none ∧ TabG G H p.1 p.2
variable [FnSem]
inductive C1Ok (K : PySem.W.Frag) (G H : Hp) : V → C1 → (Addr → Prop) → Prop
  | val {v : V} {d : D} : Rp K G v d → C1Ok K G H v (.val d) fun _ => False
  | lst {p : Addr} {vs : List V} {ds : List D} : H p = some (.lst vs) → RpL K G vs ds → C1Ok K G H (.ref p) (.lst ds) fun a => a = p
  | dk {p : Addr} {vs : List (Key × V)} {ds : List (Key × D)} : H p = some (.dK vs) → RpK K G vs ds → C1Ok K G H (.ref p) (.dk ds) fun a => a = p
  | dt {p : Addr} {vs : List (List Key × V)} {ds : List (List Key × D)} : H p = some (.dT vs) → RpT K G vs ds → C1Ok K G H (.ref p) (.dt ds) fun a => a = p
  | tb {p : Addr} {vs : List (NestedKey × Addr × V)} {ds : List (D × D)} : H p = some (DTo FnTabs.w p vs) → RpB K G vs ds → C1Ok K G H (.ref p) (.tb ds) fun a => a = p
def CN (mg : Str → Option Value) (cn : Str) (C : Addr) : Prop := mg cn = some (.ref C) ∧ FnTabs.cls cn = C
structure InsOk (K : PySem.W.Frag) (mg : Str → Option Value) (G H : Hp) (p : Addr) (cn : Str) (fs : List (Str × C1)) (S : Addr → Prop) (Sf : Str → Addr → Prop) : Prop where
  ob : ∃ C dx vs, H p = some (.ins C dx vs) ∧ CN mg cn C ∧ vs.map (·.1) = fs.map (·.1) ∧ ∀ f c, fs.lookup f = some c → ∃ v, vs.lookup f = some v ∧ C1Ok K G H v c (Sf f)
  own : S p
  sub : ∀ f c a, fs.lookup f = some c → Sf f a → S a ∧ a ≠ p
  dis : ∀ f g c e a, f ≠ g → fs.lookup f = some c → fs.lookup g = some e → Sf f a → ¬ Sf g a
inductive OOk (K : PySem.W.Frag) (mg : Str → Option Value) (G H : Hp) : V → O → (Addr → Prop) → Prop
  | c {v : V} {x : C1} {S : Addr → Prop} : C1Ok K G H v x S → OOk K mg G H v (.c x) S
  | ins {p : Addr} {cn : Str} {fs : List (Str × C1)} {S : Addr → Prop} {Sf : Str → Addr → Prop} : InsOk K mg G H p cn fs S Sf → OOk K mg G H (.ref p) (.ins cn fs) S
  | fn {a : Addr} {ψ : D → RD} : FnSem.fn a G ψ → OOk K mg G H (.ref a) (.fn ψ) fun _ => False

section
variable {K : PySem.W.Frag} {mg : Str → Option Value} {G G' H H' : Hp}
theorem C1Ok.mono2 (l : Le G G') {v : V} {c : C1} {S : Addr → Prop} (k : ∀ a o, S a → H a = some o → (∀ ps, o ≠ .tbl ps) → H' a = some o) (h : C1Ok K G H v c S) : C1Ok K G' H' v c S := by
  cases h with
  | val r => exact .val (r.mono l)
  | lst e r => exact .lst (k _ _ rfl e fun _ => nofun) (r.mono l)
  | dk e r => exact .dk (k _ _ rfl e fun _ => nofun) (r.mono l)
  | dt e r => exact .dt (k _ _ rfl e fun _ => nofun) (r.mono l)
  | tb e r => exact .tb (k _ _ rfl e fun _ => nofun) (r.mono l)
theorem C1Ok.mono (l : Le G G') {v : V} {c : C1} {S : Addr → Prop} (k : ∀ a o, S a → H a = some o → H' a = some o) (h : C1Ok K G H v c S) : C1Ok K G' H' v c S := h.mono2 l fun a o z q _ => k a o z q
theorem OOk.mono2 (l : Le G G') {v : V} {o : O} {S : Addr → Prop} (k : ∀ a o, S a → H a = some o → (∀ ps, o ≠ .tbl ps) → H' a = some o) (h : OOk K mg G H v o S) : OOk K mg G' H' v o S := by
  cases h with
  | c h => exact .c (h.mono2 l k)
  | ins h =>
    obtain ⟨⟨C, dx, vs, e1, e2, e3, e4⟩, ow, sb, ds⟩ := h
    refine .ins (Sf := _) ⟨⟨C, dx, vs, k _ _ ow e1 (fun _ => nofun), e2, e3, fun f c q => ?_⟩, ow, sb, ds⟩
    obtain ⟨v, q1, q2⟩ := e4 f c q
    exact ⟨v, q1, q2.mono2 l fun a o z => k a o (sb f c a q z).1⟩
  | fn h => exact .fn (FnSem.mono l h)
theorem OOk.mono (l : Le G G') {v : V} {o : O} {S : Addr → Prop} (k : ∀ a o, S a → H a = some o → H' a = some o) (h : OOk K mg G H v o S) : OOk K mg G' H' v o S := h.mono2 l fun a o z q _ => k a o z q
theorem C1Ok.there {v : V} {c : C1} {S : Addr → Prop} (h : C1Ok K G H v c S) : ∀ a, S a → ∃ o, H a = some o := fun a z => by
  cases h with
  | val _ => exact z.elim
  | lst e _ => cases z; exact ⟨_, e⟩
  | dk e _ => cases z; exact ⟨_, e⟩
  | dt e _ => cases z; exact ⟨_, e⟩
  | tb e _ => cases z; exact ⟨_, e⟩
end

abbrev Fp := Nat → Addr → Prop
abbrev Fp.U (F : Fp) (a : Addr) : Prop := ∃ i, F i a
structure Rel (K : PySem.W.Frag) (mg : Str → Option Value) (G H : Hp) (σ : St) (ρ : Env) (F : Fp) : Prop where
  len : σ.length = ρ.length
  ok : ∀ i o, ρ[i]? = some (some o) → ∃ v, σ[i]? = some (some v) ∧ OOk K mg G H v o (F i)
  dis : ∀ i j a, i ≠ j → F i a → ¬ F j a
  out : ∀ i a, F i a → G a = none ∧ H a ≠ none
  non : ∀ i a, F i a → ∃ o, ρ[i]? = some (some o)
  subT : Sub G H
theorem Rel.sub {K : PySem.W.Frag} {mg : Str → Option Value} {G H : Hp} {σ : St} {ρ : Env} {F : Fp} (r : Rel K mg G H σ ρ F) : Le G H := r.subT.le
structure Stp (F : Fp) (G H G' H' : Hp) (F' : Fp) : Prop where
  le : Le G G'
  fr : ∀ a o, H a = some o → ¬ F.U a → (∀ ps, o ≠ .tbl ps) → H' a = some o
  fresh : ∀ a, H a ≠ none → G a = none → ¬ F.U a → G' a = none
  there : ∀ a, H a ≠ none → H' a ≠ none
  own : ∀ i a, F' i a → F i a ∨ H a = none
theorem Stp.refl {F : Fp} {G H : Hp} : Stp F G H G H F := ⟨Le.refl G, fun _ _ h _ _ => h, fun _ _ h _ => h, fun _ h => h, fun _ _ h => .inl h⟩
theorem Stp.ownU {F F' : Fp} {G H G' H' : Hp} (a : Stp F G H G' H' F') {x : Addr} (z : F'.U x) : F.U x ∨ H x = none := by
  obtain ⟨i, z⟩ := z
  exact (a.own i x z).imp (fun q => ⟨i, q⟩) id
theorem Stp.trans {F F1 F2 : Fp} {G H G1 H1 G2 H2 : Hp} (a : Stp F G H G1 H1 F1) (b : Stp F1 G1 H1 G2 H2 F2) : Stp F G H G2 H2 F2 where
  le := a.le.trans b.le
  fr := fun x o h n nt => b.fr x o (a.fr x o h n nt) (fun z => (a.ownU z).elim n fun e => by rw [h] at e; cases e) nt
  fresh := fun x h g n => b.fresh x (a.there x h) (a.fresh x h g n) fun z => (a.ownU z).elim n h
  there := fun x h => b.there x (a.there x h)
  own := fun i x z => by
    rcases b.own i x z with z | z
    · exact a.own i x z
    · refine .inr ?_
      cases q : H x with
      | none => rfl
      | some o => exact absurd z (a.there x (by rw [q]; exact fun e => nomatch e))
def XOk [FnTabs] (K : PySem.W.Frag) (mg : Str → Option Value) (G H : Hp) (e : Exn) (cv : Value) (d : Option Addr) : Prop :=
  mg e.cls = some cv ∧ (e.fs = [] ∧ d = none ∨ ∃ p vs, e.fs ≠ [] ∧ d = some p ∧ H p = some (.xd vs) ∧ vs.map (·.1) = e.fs.map (·.1) ∧ ∀ f x, e.fs.lookup f = some x → ∃ v, vs.lookup f = some v ∧ Rp K G v x)

section
variable (K : PySem.W.Frag) (mg : Str → Option Value) (W : WX)
def Post {α : Type} (σ : St) (F : Fp) (G H : Hp) (good : α → Hp → Hp → Prop) : R α → Prop
  | .ok a ρ' => ∀ G' H' F', Rel K mg G' H' σ ρ' F' → Stp F G H G' H' F' → good a G' H'
  | .ex e ρ' => ∀ cv d G' H' F', Rel K mg G' H' σ ρ' F' → Stp F G H G' H' F' → XOk K mg G' H' e cv d → W cv d σ H'
  | .stuck => False
def PostO (σ : St) (F : Fp) (G H : Hp) (Q : VK) : R O → Prop
  | .ok o ρ' => ∀ G' H' F' v S, Rel K mg G' H' σ ρ' F' → Stp F G H G' H' F' → OOk K mg G' H' v o S → (∀ a, S a → H a = none ∧ G' a = none ∧ H' a ≠ none ∧ ¬ F'.U a) → Q v H'
  | .ex e ρ' => ∀ cv d G' H' F', Rel K mg G' H' σ ρ' F' → Stp F G H G' H' F' → XOk K mg G' H' e cv d → W cv d σ H'
  | .stuck => False
def PostS (io : List Nat) (σ : St) (F : Fp) (G H : Hp) (Dn : Ends) : RS → Prop
  | .nx ρ' => ∀ σ' G' H' F', Rel K mg G' H' σ' ρ' F' → Stp F G H G' H' F' → (∀ i ∈ io, σ'[i]? = σ[i]?) → Dn.nx σ' H'
  | .br ρ' => ∀ σ' G' H' F', Rel K mg G' H' σ' ρ' F' → Stp F G H G' H' F' → (∀ i ∈ io, σ'[i]? = σ[i]?) → Dn.bk σ' H'
  | .ct ρ' => ∀ σ' G' H' F', Rel K mg G' H' σ' ρ' F' → Stp F G H G' H' F' → (∀ i ∈ io, σ'[i]? = σ[i]?) → Dn.ct σ' H'
  | .ret o ρ' => ∀ σ' G' H' F' v S, Rel K mg G' H' σ' ρ' F' → Stp F G H G' H' F' → (∀ i ∈ io, σ'[i]? = σ[i]?) → OOk K mg G' H' v o S → (∀ a, S a → H a = none ∧ G' a = none ∧ H' a ≠ none ∧ ∀ i ∈ io, ¬ F' i a) → Dn.rt v H'
  | .ex e ρ' => ∀ cv d σ' G' H' F', Rel K mg G' H' σ' ρ' F' → Stp F G H G' H' F' → (∀ i ∈ io, σ'[i]? = σ[i]?) → XOk K mg G' H' e cv d → W cv d σ' H'
  | .stuck => False

def tD (f : FE D) : TE := fun σ H Q => ∃ G ρ F, Rel K mg G H σ ρ F ∧ Post K mg W σ F G H (fun d G' H' => ∀ v, Rp K G' v d → Q v H') (f ρ)
def tO (f : FE O) : TE := fun σ H Q => ∃ G ρ F, Rel K mg G H σ ρ F ∧ PostO K mg W σ F G H Q (f ρ)
def tT (f : FE Bool) : TT := fun σ H Q => ∃ G ρ F, Rel K mg G H σ ρ F ∧ Post K mg W σ F G H (fun b _ H' => Q b H') (f ρ)
def tDs (f : FE (List D)) : TA := fun σ H Q => ∃ G ρ F, Rel K mg G H σ ρ F ∧ Post K mg W σ F G H (fun ds G' H' => ∀ vs, RpL K G' vs ds → Q vs H') (f ρ)
def tS (io : List Nat) (f : FS) : TS := fun Dn σ H => ∃ G ρ F, Rel K mg G H σ ρ F ∧ PostS K mg W io σ F G H Dn (f ρ)
end
abbrev OkD (X : Cx) (W : WX) (e : Expr) (f : FE D) : Prop := PE X e (tD X.K X.mg W f)
abbrev OkO (X : Cx) (W : WX) (e : Expr) (f : FE O) : Prop := PE X e (tO X.K X.mg W f)
abbrev OkT (X : Cx) (W : WX) (e : Expr) (f : FE Bool) : Prop := PT X e (tT X.K X.mg W f)
abbrev OkDs (X : Cx) (W : WX) (es : List Expr) (f : FE (List D)) : Prop := PA X es (tDs X.K X.mg W f)
abbrev OkS (X : Cx) (W : WX) (io : List Nat) (st : Stmt) (f : FS) : Prop := PS X st (tS X.K X.mg W io f)
abbrev OkSs (X : Cx) (W : WX) (io : List Nat) (sts : List Stmt) (f : FS) : Prop := PSs X sts (tS X.K X.mg W io f)

theorem _root_.L2.PE.to {X : Cx} {e : Expr} {t u : TE} (h : PE X e t) (k : ∀ σ H Q, u σ H Q → t σ H Q) : PE X e u := ⟨fun pins s σ H Q I q => h.run pins s σ H Q I (k σ H Q q)⟩
theorem _root_.L2.PT.to {X : Cx} {e : Expr} {t u : TT} (h : PT X e t) (k : ∀ σ H Q, u σ H Q → t σ H Q) : PT X e u := ⟨fun pins s σ H Q I q => h.run pins s σ H Q I (k σ H Q q)⟩
theorem _root_.L2.PA.to {X : Cx} {e : List Expr} {t u : TA} (h : PA X e t) (k : ∀ σ H Q, u σ H Q → t σ H Q) : PA X e u := ⟨fun pos pins s σ H Q I q => h.run pos pins s σ H Q I (k σ H Q q)⟩
theorem _root_.L2.PS.to {X : Cx} {e : Stmt} {t u : TS} (h : PS X e t) (k : ∀ D σ H, u D σ H → t D σ H) : PS X e u := ⟨fun pins s σ H D I q => h.run pins s σ H D I (k D σ H q)⟩
theorem _root_.L2.PSs.to {X : Cx} {e : List Stmt} {t u : TS} (h : PSs X e t) (k : ∀ D σ H, u D σ H → t D σ H) : PSs X e u := ⟨fun pins s σ H D I q => h.run pins s σ H D I (k D σ H q)⟩

section
variable {K : PySem.W.Frag} {mg : Str → Option Value} {W : WX} {α β : Type} {σ : St} {F F1 : Fp} {G H G1 H1 : Hp}
theorem Post.after (s : Stp F G H G1 H1 F1) {good : α → Hp → Hp → Prop} {r : R α} (h : Post K mg W σ F G H good r) : Post K mg W σ F1 G1 H1 good r := by
  cases r with
  | ok a ρ' => exact fun G' H' F' rl st => h G' H' F' rl (s.trans st)
  | ex e ρ' => exact fun cv d G' H' F' rl st x => h cv d G' H' F' rl (s.trans st) x
  | stuck => exact h
theorem Post.bind {good : β → Hp → Hp → Prop} {r : R α} {k : α → Env → R β} (h : Post K mg W σ F G H good (r.bind k)) {good' : α → Hp → Hp → Prop}
    (hg : ∀ a ρ1 G1 H1 F1, r = .ok a ρ1 → Rel K mg G1 H1 σ ρ1 F1 → Stp F G H G1 H1 F1 → Post K mg W σ F1 G1 H1 good (k a ρ1) → good' a G1 H1) : Post K mg W σ F G H good' r := by
  cases r with
  | ok a ρ' => exact fun G' H' F' rl st => hg a ρ' G' H' F' rfl rl st (Post.after st h)
  | ex e ρ' => exact h
  | stuck => exact h
theorem PostO.after (s : Stp F G H G1 H1 F1) {Q : VK} {r : R O} (h : PostO K mg W σ F G H Q r) : PostO K mg W σ F1 G1 H1 Q r := by
  cases r with
  | ok a ρ' =>
    refine fun G' H' F' v S rl st ok z => h G' H' F' v S rl (s.trans st) ok fun a q => ?_
    obtain ⟨z1, z2⟩ := z a q
    refine ⟨?_, z2⟩
    cases q : H a with
    | none => rfl
    | some o => exact absurd z1 (s.there a (by rw [q]; exact fun e => nomatch e))
  | ex e ρ' => exact fun cv d G' H' F' rl st x => h cv d G' H' F' rl (s.trans st) x
  | stuck => exact h
theorem PostO.bind {Q : VK} {r : R α} {k : α → Env → R O} (h : PostO K mg W σ F G H Q (r.bind k)) {good' : α → Hp → Hp → Prop}
    (hg : ∀ a ρ1 G1 H1 F1, r = .ok a ρ1 → Rel K mg G1 H1 σ ρ1 F1 → Stp F G H G1 H1 F1 → PostO K mg W σ F1 G1 H1 Q (k a ρ1) → good' a G1 H1) : Post K mg W σ F G H good' r := by
  cases r with
  | ok a ρ' => exact fun G' H' F' rl st => hg a ρ' G' H' F' rfl rl st (PostO.after st h)
  | ex e ρ' => exact h
  | stuck => exact h
end
end Fx

set_option Elab.async false
set_option linter.all false
set_option maxRecDepth 100000
set_option maxHeartbeats 1000000
namespace Fx
variable [FnSem]
open PySem L2

structure Ext (G H G' H' : Hp) : Prop where
  le : Le G G'
  leH : Le H H'
  fresh : ∀ a, H a ≠ none → G a = none → G' a = none
  sub : Le G' H'
theorem Ext.refl {G H : Hp} (s : Le G H) : Ext G H G H := ⟨Le.refl _, Le.refl _, fun _ _ h => h, s⟩
theorem Le.back {G H : Hp} (s : Le G H) {p : Addr} (h : H p = none) : G p = none := by
  cases q : G p with
  | none => rfl
  | some o => rw [s p o q] at h; cases h
theorem Le.upd2 {G H : Hp} (s : Le G H) {p : Addr} {o : HO} : Le (L2.upd G p o) (L2.upd H p o) := fun a u e => by
  by_cases h : a = p
  · subst h; rw [upd_same] at e ⊢; exact e
  · rw [upd_ne h] at e ⊢; exact s a u e
theorem Ext.new {G H : Hp} (s : Le G H) {p : Addr} {o : HO} (h : H p = none) : Ext G H (upd G p o) (upd H p o) :=
  ⟨Le.upd (s.back h), Le.upd h, fun a n g => by rw [upd_ne (fun e => n (by rw [e]; exact h))]; exact g, s.upd2⟩
theorem Ext.trans {G H G1 H1 G2 H2 : Hp} (a : Ext G H G1 H1) (b : Ext G1 H1 G2 H2) : Ext G H G2 H2 :=
  ⟨a.le.trans b.le, a.leH.trans b.leH, fun x n g => b.fresh x (fun e => by
    cases q : H x with
    | none => exact n q
    | some o => rw [a.leH x o q] at e; cases e) (a.fresh x n g), b.sub⟩
theorem Ext.there {G H G' H' : Hp} (a : Ext G H G' H') : ∀ x, H x ≠ none → H' x ≠ none := fun x n e => by
  cases q : H x with
  | none => exact n q
  | some o => rw [a.leH x o q] at e; cases e
def NoTab (o : HO) : Prop := (∀ ps, o ≠ .tbl ps) ∧ True
theorem tab_ne {G H : Hp} {P : Addr} {q : Str} (t : TabG G H P q) : H P ≠ none := by
  obtain ⟨ps, h, _⟩ := t
  rw [h]; exact fun e => nomatch e
theorem Sub.ext {G H G' H' : Hp} (s : Sub G H) (x : Ext G H G' H') : Sub G' H' := ⟨x.sub, fun p hp => ⟨x.fresh _ (tab_ne (s.tab p hp).2) (s.tab p hp).1, (s.tab p hp).2.to x.le fun _ e => x.leH _ _ e⟩⟩
theorem Sub.frz {G H : Hp} (s : Sub G H) {p : Addr} {o : HO} (h : H p = some o) (g : G p = none) (ho : ∀ ps, o ≠ .tbl ps) : Sub (L2.upd G p o) H := ⟨fun a u e => by
    by_cases q : a = p
    · subst q; rw [upd_same] at e; cases e; exact h
    · rw [upd_ne q] at e; exact s.le a u e, fun t ht => ⟨by
    rw [upd_ne fun e => ?_]
    · exact (s.tab t ht).1
    · obtain ⟨ps, h2, _⟩ := (s.tab t ht).2
      rw [e, h] at h2
      exact ho ps (Option.some.inj h2), (s.tab t ht).2.to (Le.upd g) fun _ e => e⟩⟩
theorem Sub.new {G H : Hp} (s : Sub G H) {p : Addr} {o : HO} (h : H p = none) : Sub G (L2.upd H p o) := ⟨s.le.trans (Le.upd h), fun t ht => ⟨(s.tab t ht).1, (s.tab t ht).2.to (Le.refl _) fun _ e => by rw [upd_ne (ne_of_none e h)]; exact e⟩⟩
theorem Sub.own {G H : Hp} (s : Sub G H) {q : Addr} {o0 o : HO} (h : H q = some o0) (n : NoTab o0) (g : G q = none) : Sub G (L2.upd H q o) := ⟨fun a u e => by
    rw [upd_ne fun z => by rw [z, g] at e; cases e]
    exact s.le a u e, fun t ht => ⟨(s.tab t ht).1, (s.tab t ht).2.to (Le.refl _) fun ps e => by
    rw [upd_ne fun z => by rw [z, h] at e; exact n.1 ps (Option.some.inj e)]
    exact e⟩⟩
theorem noTab_lst {xs : List V} : NoTab (.lst xs) := ⟨fun _ => nofun, trivial⟩
theorem noTab_dK {xs} : NoTab (.dK xs) := ⟨fun _ => nofun, trivial⟩
theorem noTab_dT {xs} : NoTab (.dT xs) := ⟨fun _ => nofun, trivial⟩
theorem noTab_tb {w a xs} : NoTab (DTo w a xs) := ⟨fun _ => nofun, trivial⟩
theorem noTab_ins {C dx vs} : NoTab (.ins C dx vs) := ⟨fun _ => nofun, trivial⟩
section
variable {K : PySem.W.Frag} {mg : Str → Option Value} {G H G' H' : Hp} {σ : St} {ρ : Env} {F : Fp}
theorem Rel.ext (r : Rel K mg G H σ ρ F) (x : Ext G H G' H') : Rel K mg G' H' σ ρ F where
  len := r.len
  ok := fun i o e => let ⟨v, e1, e2⟩ := r.ok i o e; ⟨v, e1, e2.mono x.le fun a o _ q => x.leH a o q⟩
  dis := r.dis
  out := fun i a z => ⟨x.fresh a (r.out i a z).2 (r.out i a z).1, x.there a (r.out i a z).2⟩
  non := r.non
  subT := r.subT.ext x
theorem Ext.stp (x : Ext G H G' H') : Stp F G H G' H' F := ⟨x.le, fun a o h _ _ => x.leH a o h, fun a h g _ => x.fresh a h g, x.there, fun _ _ h => .inl h⟩
end

def optR {α : Type} (o : Option α) (ρ : Env) : R α := match o with
  | some a => .ok a ρ
  | none => .stuck
def varF (i : Nat) : FE D := fun ρ => match ρ[i]? with
  | some (some (.c (.val d))) => .ok d ρ
  | _ => .stuck
def cF (d : D) : FE D := fun ρ => .ok d ρ

section
variable {X : Cx} {W : WX} {e a b : Expr} {es : List Expr} {pos : Pos} {fa fb : FE D}
theorem varF_cases (i : Nat) (ρ : Env) : (∃ d, varF i ρ = .ok d ρ ∧ ρ[i]? = some (some (.v d))) ∨ varF i ρ = .stuck := by
  unfold varF
  split
  · rename_i d' e
    exact .inl ⟨d', rfl, e⟩
  · exact .inr rfl
theorem Rel.val {K : PySem.W.Frag} {mg : Str → Option Value} {G H : Hp} {σ : St} {ρ : Env} {F : Fp} (r : Rel K mg G H σ ρ F) {i : Nat} {d : D} (h : ρ[i]? = some (some (.v d))) : ∃ v, σ[i]? = some (some v) ∧ Rp K G v d := by
  obtain ⟨v, e, q⟩ := r.ok i _ h
  cases q with
  | c q =>
    generalize hF : F i = S at q
    cases q with
    | val q => exact ⟨v, e, q⟩
theorem ok_var (i : Nat) {x : Str} (hN : X.N[i]? = some x := by rfl) (hv : Vis X.env.scope x := by first | exact Or.inl rfl | exact Or.inr (Or.inl rfl) | exact Or.inr (Or.inr rfl)) (hd : (x == ("__debug__" : Str)) = false := by decide)
    (hcd : (x == ("__classdict__" : Str)) = false := by decide) : OkD X W (.Name x pos) (varF i) := by
  refine (pe_var (i := i) hN hv hd hcd).to fun σ H Q h => ?_
  obtain ⟨G, ρ, F, rl, p⟩ := h
  rcases varF_cases i ρ with ⟨d, e, e2⟩ | e
  · rw [e] at p
    obtain ⟨v, e3, rv⟩ := rl.val e2
    exact ⟨v, e3, p G H F rl .refl v rv⟩
  · rw [e] at p; exact p.elim
theorem ok_c {v : V} {d : D} (h : PE X e (tC v)) (r : ∀ K G, Rp K G v d) : OkD X W e (cF d) := by
  refine h.to fun σ H Q h => ?_
  obtain ⟨G, ρ, F, rl, p⟩ := h
  exact p G H F rl .refl v (r _ _)
theorem ok_int {i j} : OkD X W (.Constant (.int i) j pos) (cF (.int i)) := ok_c pe_int fun _ _ => .int _
theorem ok_bl {i j} : OkD X W (.Constant (.bool i) j pos) (cF (.bl i)) := ok_c pe_bl fun _ _ => .bl _
theorem ok_non {j} : OkD X W (.Constant .none j pos) (cF .non) := ok_c pe_non fun _ _ => .non
theorem ok_str {x j} : OkD X W (.Constant (.str x) j pos) (cF (.str x)) := ok_c pe_str fun _ _ => .str _
theorem ok_glob {x : Str} {v : V} {u : Value} {d : D} (hg : Gl X x) (hm : X.mg x = some u) (r : RelV v u) (rd : ∀ G, Rp X.K G v d) (hd : (x == ("__debug__" : Str)) = false := by decide) : OkD X W (.Name x pos) (cF d) := by
  refine (pe_glob hg hm r hd).to fun σ H Q h => ?_
  obtain ⟨G, ρ, F, rl, p⟩ := h
  exact p G H F rl .refl v (rd _)

def valsOf : List (Str × C1) → Option (List (Str × D))
  | [] => some []
  | (f, .val d) :: r => (valsOf r).map ((f, d) :: ·)
  | _ :: _ => none
def recOf (fs : List (Str × C1)) : Option (List (Str × D)) := if (fs.map (·.1)).Nodup then valsOf fs else none
theorem look_fst {A : Type} {f : Str} {x : A} : ∀ {fs : List (Str × A)}, fs.lookup f = some x → f ∈ fs.map (·.1)
  | [], h => by cases h
  | (g, y) :: r, h => by
    rw [List.lookup_cons] at h
    cases q : f == g with
    | true => rw [beq_iff_eq.mp q]; exact List.mem_cons_self
    | false => rw [q] at h; exact List.mem_cons_of_mem _ (look_fst h)
theorem rpF_of {K : PySem.W.Frag} {G H : Hp} {Sf : Str → Addr → Prop} : ∀ {fs : List (Str × C1)} {vs : List (Str × V)} {ds : List (Str × D)}, vs.map (·.1) = fs.map (·.1) → (fs.map (·.1)).Nodup → valsOf fs = some ds →
    (∀ f c, fs.lookup f = some c → ∃ v, vs.lookup f = some v ∧ C1Ok K G H v c (Sf f)) → RpF K G vs ds
  | [], [], _, _, _, h, _ => by cases h; exact .nil
  | [], _ :: _, _, e, _, _, _ => by cases e
  | _ :: _, [], _, e, _, _, _ => by cases e
  | (f, c) :: fs, (g, v) :: vs, ds, e, nd, h, hl => by
    have e' : g = f ∧ vs.map (·.1) = fs.map (·.1) := by simpa using e
    obtain ⟨rfl, e2⟩ := e'
    have nd' : g ∉ fs.map (·.1) ∧ (fs.map (·.1)).Nodup := List.nodup_cons.mp nd
    cases c with
    | val d =>
      unfold valsOf at h
      cases h2 : valsOf fs with
      | none => rw [h2] at h; cases h
      | some ds2 =>
        rw [h2] at h; cases h
        obtain ⟨v', e3, e4⟩ := hl g (.val d) (by rw [List.lookup_cons, beq_self_eq_true])
        rw [List.lookup_cons, beq_self_eq_true] at e3
        cases e3
        refine .cons (by generalize Sf g = S at e4; cases e4; assumption) (rpF_of (H := H) (Sf := Sf) e2 nd'.2 h2 fun f c q => ?_)
        have ne : f ≠ g := fun z => nd'.1 (by rw [← z]; exact look_fst q)
        obtain ⟨v2, q1, q2⟩ := hl f c (by rw [List.lookup_cons, beq_false_of_ne ne]; exact q)
        rw [List.lookup_cons, beq_false_of_ne ne] at q1
        exact ⟨v2, q1, q2⟩
    | lst _ => cases h
    | dk _ => cases h
    | dt _ => cases h
    | tb _ => cases h
def frz : O → Option D
  | .c (.val d) => some d
  | .c (.lst xs) => some (.lst xs)
  | .c (.dk xs) => some (.dk xs)
  | .c (.dt xs) => some (.dt xs)
  | .c (.tb _) => none
  | .ins cn fs => (recOf fs).map (.ob cn)
  | .fn _ => none
def frzT : O → Option D
  | .c (.tb xs) => some (.tb xs)
  | o => frz o
def frzF (f : FE O) : FE D := fun ρ => (f ρ).bind fun o ρ' => optR (frzT o) ρ'
theorem frzT_of {o : O} {d : D} (h : frzT o = some d) : frz o = some d ∨ ∃ xs, o = .c (.tb xs) ∧ d = .tb xs := by
  unfold frzT at h
  split at h
  · cases h; exact .inr ⟨_, rfl, rfl⟩
  · exact .inl h
def valF (f : FE D) : FE O := fun ρ => (f ρ).bind fun d ρ' => .ok (.v d) ρ'
theorem Rel.frz {K : PySem.W.Frag} {mg : Str → Option Value} {G H : Hp} {σ : St} {ρ : Env} {F : Fp} (r : Rel K mg G H σ ρ F) {p : Addr} {o : HO} (h : H p = some o) (g : G p = none) (n : ¬ F.U p) (ho : ∀ ps, o ≠ .tbl ps := by exact fun _ => nofun) : Rel K mg (upd G p o) H σ ρ F where
  len := r.len
  ok := fun i o e => let ⟨v, e1, e2⟩ := r.ok i o e; ⟨v, e1, e2.mono (Le.upd g) fun a o _ q => q⟩
  dis := r.dis
  out := fun i a z => ⟨by rw [upd_ne (fun e => n (by rw [← e]; exact ⟨i, z⟩))]; exact (r.out i a z).1, (r.out i a z).2⟩
  non := r.non
  subT := r.subT.frz h g ho
theorem Stp.frz {F F' : Fp} {G H G' H' : Hp} (s : Stp F G H G' H' F') {p : Addr} {o : HO} (g : G' p = none) (n : H p = none ∨ F.U p) : Stp F G H (upd G' p o) H' F' where
  le := s.le.trans (Le.upd g)
  fr := s.fr
  fresh := fun a h g2 u => by
    rw [upd_ne (fun e => by
      rcases n with n | n
      · exact h (by rw [e]; exact n)
      · exact u (by rw [e]; exact n))]
    exact s.fresh a h g2 u
  there := s.there
  own := s.own
theorem frz_ok {K : PySem.W.Frag} {mg : Str → Option Value} {G H : Hp} {σ : St} {ρ : Env} {F : Fp} {v : V} {o : O} {d : D} {S : Addr → Prop} (r : Rel K mg G H σ ρ F) (ok : OOk K mg G H v o S) (e : frz o = some d) (z : ∀ a, S a → G a = none ∧ ¬ F.U a) :
    ∃ G', Rel K mg G' H σ ρ F ∧ Rp K G' v d ∧ ∀ (F0 : Fp) (G0 H0 : Hp), Stp F0 G0 H0 G H F → (∀ a, S a → H0 a = none ∨ F0.U a) → Stp F0 G0 H0 G' H F := by
  cases ok with
  | c ok =>
    cases ok with
    | val q => cases e; exact ⟨G, r, q, fun _ _ _ s _ => s⟩
    | @lst p vs ds h q =>
      cases e
      exact ⟨upd G p (.lst vs), r.frz h (z p rfl).1 (z p rfl).2, .lst (.inl (.inl upd_same)) (q.mono (Le.upd (z p rfl).1)), fun _ _ _ s n => s.frz (z p rfl).1 (n p rfl)⟩
    | @dk p vs ds h q =>
      cases e
      exact ⟨upd G p (.dK vs), r.frz h (z p rfl).1 (z p rfl).2, .dk (.inl upd_same) (q.mono (Le.upd (z p rfl).1)), fun _ _ _ s n => s.frz (z p rfl).1 (n p rfl)⟩
    | @dt p vs ds h q =>
      cases e
      exact ⟨upd G p (.dT vs), r.frz h (z p rfl).1 (z p rfl).2, .dt (.inl upd_same) (q.mono (Le.upd (z p rfl).1)), fun _ _ _ s n => s.frz (z p rfl).1 (n p rfl)⟩
    | tb _ _ => cases e
  | @ins p cn fs _ Sf q =>
    obtain ⟨⟨C, dx, vs, h1, h2, h3, h4⟩, ow, _, _⟩ := q
    have e : (recOf fs).map (D.ob cn) = some d := e
    cases e2 : recOf fs with
    | none => rw [e2] at e; cases e
    | some ds =>
      rw [e2] at e
      cases e
      unfold recOf at e2
      split at e2
      · rename_i nd
        rw [← h2.2] at h1
        exact ⟨_, r.frz h1 (z p ow).1 (z p ow).2, .ob upd_same ((rpF_of h3 nd e2 h4).mono (Le.upd (z p ow).1)), fun _ _ _ s n => s.frz (z p ow).1 (n p ow)⟩
      · cases e2
  | fn _ => cases e
theorem Rel.lck {K : PySem.W.Frag} {mg : Str → Option Value} {G H : Hp} {σ : St} {ρ : Env} {F : Fp} (r : Rel K mg G H σ ρ F) {p : Addr} {o : HO} (h : H p = some o) (g : G p = none) (n : ¬ F.U p) (ho : ∀ ps, o ≠ .tbl ps) (ob : HO) : Rel K mg (upd G p ob) (upd H p ob) σ ρ F where
  len := r.len
  ok := fun i u e => let ⟨v, e1, e2⟩ := r.ok i u e; ⟨v, e1, e2.mono (Le.upd g) fun a u z q => by rw [upd_ne fun w => n (by rw [← w]; exact ⟨i, z⟩)]; exact q⟩
  dis := r.dis
  out := fun i a z => by
    have ne : a ≠ p := fun w => n (by rw [← w]; exact ⟨i, z⟩)
    rw [upd_ne ne, upd_ne ne]; exact r.out i a z
  non := r.non
  subT := ⟨Le.upd2 r.subT.le, fun t ht => by
    have ne : t.1 ≠ p := fun w => by
      obtain ⟨ps, h2, _⟩ := (r.subT.tab t ht).2
      rw [w, h] at h2
      exact ho ps (Option.some.inj h2)
    refine ⟨by rw [upd_ne ne]; exact (r.subT.tab t ht).1, (r.subT.tab t ht).2.to (Le.upd g) fun _ e => by rw [upd_ne ne]; exact e⟩⟩
theorem Stp.lck {F F' : Fp} {G H G' H' : Hp} (s : Stp F G H G' H' F') {p : Addr} (ob : HO) (g : G' p = none) (n : H p = none ∨ F.U p) : Stp F G H (upd G' p ob) (upd H' p ob) F' where
  le := s.le.trans (Le.upd g)
  fr := fun a o h u nt => by
    rw [upd_ne (fun e => by
      rcases n with n | n
      · rw [e, n] at h; cases h
      · exact u (by rw [e]; exact n))]
    exact s.fr a o h u nt
  fresh := fun a h g2 u => by
    rw [upd_ne (fun e => by
      rcases n with n | n
      · exact h (by rw [e]; exact n)
      · exact u (by rw [e]; exact n))]
    exact s.fresh a h g2 u
  there := fun a h => by
    by_cases e : a = p
    · rw [e, upd_same]; exact fun z => nomatch z
    · rw [upd_ne e]; exact s.there a h
  own := s.own
def LockQ (Q : VK) : VK := fun v H => Q v H ∨ ∃ q xs, H q = some (DTo FnTabs.w q xs) ∧ ∀ od, Q v (upd H q (.frz od (DTo FnTabs.w q xs)))
theorem lockQ_end {pins : List (Addr × Obj)} {σ : St} {Q : VK} {u : Value} {s1 : Shared} (h : EP X pins σ (LockQ Q) u s1) : EP X pins σ Q u s1 := by
  obtain ⟨v, H1, I1, r, hq⟩ := h
  rcases hq with hq | ⟨q, xs, hx, hq⟩
  · exact ⟨v, H1, I1, r, hq⟩
  · obtain ⟨od, I2⟩ := I1.lock hx True.intro
    exact ⟨v, _, I2, r, hq od⟩
theorem OkO.toD {f : FE O} (h : OkO X W e f) : OkD X W e (frzF f) := by
  refine ⟨fun pins s σ H Q I q => ?_⟩
  obtain ⟨G, ρ, F, rl, p⟩ := q
  refine thn (h.run pins s σ H (LockQ Q) I ⟨G, ρ, F, rl, ?_⟩) fun u s1 hq => lockQ_end hq
  unfold frzF at p
  cases e : f ρ with
  | ok o ρ' =>
    rw [e] at p
    intro G' H' F' v S rl' st ok z
    cases e2 : frzT o with
    | none => rw [R.bind_ok, e2] at p; exact p.elim
    | some d =>
      rw [R.bind_ok, e2] at p
      rcases frzT_of e2 with e3 | ⟨xs, e3, e4⟩
      · obtain ⟨G2, r2, q2, s2⟩ := frz_ok rl' ok e3 fun a q => ⟨(z a q).2.1, (z a q).2.2.2⟩
        exact .inl (p G2 H' F' r2 (s2 _ _ _ st fun a q => .inl (z a q).1) v q2)
      · subst e3 e4
        cases ok with
        | c ok =>
          cases ok with
          | @tb q vs ds hh rr =>
            refine .inr ⟨q, vs, hh, fun od => ?_⟩
            obtain ⟨z1, z2, z3, z4⟩ := z q rfl
            exact p _ _ F' (rl'.lck hh z2 z4 (fun _ => nofun) _) (st.lck _ z2 (.inl z1)) _ (.tb upd_same (rr.mono (Le.upd z2)))
  | ex e ρ' => rw [e] at p; exact p
  | stuck => rw [e] at p; exact p
theorem OkD.toO {f : FE D} (h : OkD X W e f) : OkO X W e (valF f) := by
  refine h.to fun σ H Q q => ?_
  obtain ⟨G, ρ, F, rl, p⟩ := q
  refine ⟨G, ρ, F, rl, PostO.bind p fun a ρ1 G1 H1 F1 _ rl1 st1 p1 v rv => ?_⟩
  exact p1 G1 H1 F1 v _ rl1 .refl (.c (.val rv)) fun _ z => z.elim

def V1 (K : PySem.W.Frag) (r : V → Hp → VK → Prop) (g : D → Option D) : Prop := ∀ G H x a z Q, Le G H → Rp K G x a → g a = some z → (∀ v G' H', Ext G H G' H' → Rp K G' v z → Q v H') → r x H Q
def V2 (K : PySem.W.Frag) (r : R2) (g : D → D → Option D) : Prop := ∀ G H x y a b z Q, Le G H → Rp K G x a → Rp K G y b → g a b = some z → (∀ v G' H', Ext G H G' H' → Rp K G' v z → Q v H') → r x y H Q
def VN (K : PySem.W.Frag) (r : List V → Hp → VK → Prop) (g : List D → Option D) : Prop := ∀ G H xs as z Q, Le G H → RpL K G xs as → g as = some z → (∀ v G' H', Ext G H G' H' → Rp K G' v z → Q v H') → r xs H Q
def op1F (g : D → Option D) (fa : FE D) : FE D := fun ρ => (fa ρ).bind fun x ρ => optR (g x) ρ
def op2F (g : D → D → Option D) (fa fb : FE D) : FE D := fun ρ => (fa ρ).bind fun x ρ => (fb ρ).bind fun y ρ => optR (g x y) ρ
def opNF (g : List D → Option D) (f : FE (List D)) : FE D := fun ρ => (f ρ).bind fun xs ρ => optR (g xs) ρ
section
variable {K : PySem.W.Frag} {mg : Str → Option Value} {σ : St} {H : Hp} {Q : VK}
theorem t_op1 {r : V → Hp → VK → Prop} {g : D → Option D} (hv : V1 K r g) (h : tD K mg W (op1F g fa) σ H Q) : tD K mg W fa σ H fun x H1 => r x H1 Q := by
  obtain ⟨G, ρ, F, rl, p⟩ := h
  refine ⟨G, ρ, F, rl, Post.bind p fun x ρ1 G1 H1 F1 _ rl1 st1 p1 v rv => ?_⟩
  cases e : g x with
  | none => simp only [e] at p1; exact p1.elim
  | some z =>
    simp only [e] at p1
    exact hv G1 H1 v x z Q rl1.sub rv e fun w G2 H2 ex rw => p1 G2 H2 F1 (rl1.ext ex) ex.stp w rw
theorem t_op2 {r : R2} {g : D → D → Option D} (hv : V2 K r g) (h : tD K mg W (op2F g fa fb) σ H Q) : tOp r (tD K mg W fa) (tD K mg W fb) σ H Q := by
  obtain ⟨G, ρ, F, rl, p⟩ := h
  refine ⟨G, ρ, F, rl, Post.bind p fun x ρ1 G1 H1 F1 _ rl1 st1 p1 v rv => ⟨G1, ρ1, F1, rl1, Post.bind p1 fun y ρ2 G2 H2 F2 _ rl2 st2 p2 u ru => ?_⟩⟩
  cases e : g x y with
  | none => simp only [e] at p2; exact p2.elim
  | some z =>
    simp only [e] at p2
    exact hv G2 H2 v u x y z Q rl2.sub (rv.mono st2.le) ru e fun w G3 H3 ex rw => p2 G3 H3 F2 (rl2.ext ex) ex.stp w rw
theorem t_opN {r : List V → Hp → VK → Prop} {g : List D → Option D} {f : FE (List D)} (hv : VN K r g) (h : tD K mg W (opNF g f) σ H Q) : tCB r (tDs K mg W f) σ H Q := by
  obtain ⟨G, ρ, F, rl, p⟩ := h
  refine ⟨G, ρ, F, rl, Post.bind p fun x ρ1 G1 H1 F1 _ rl1 st1 p1 vs rv => ?_⟩
  cases e : g x with
  | none => simp only [e] at p1; exact p1.elim
  | some z =>
    simp only [e] at p1
    exact hv G1 H1 vs x z Q rl1.sub rv e fun w G2 H2 ex rw => p1 G2 H2 F1 (rl1.ext ex) ex.stp w rw
end
theorem ok_op {op : Operator} {r : R2} {g : D → D → Option D} (ho : OpR X (binaryOp op) r) (hv : V2 X.K r g) (ha : OkD X W a fa) (hb : OkD X W b fb) : OkD X W (.BinOp a op b pos) (op2F g fa fb) := (pe_op ho ha hb).to fun _ _ _ h => t_op2 hv h
theorem ok_un {op : UnaryOp} {r : V → Hp → VK → Prop} {g : D → Option D} (ho : UnR X (unaryOp op) r) (hv : V1 X.K r g) (ha : OkD X W a fa) : OkD X W (.UnaryOp op a pos) (op1F g fa) := (pe_un ho ha).to fun _ _ _ h => t_op1 hv h
theorem ok_cmp {op : CmpOp} {r : R2} {g : D → D → Option D} (ho : OpR X (compareOp op) r) (hv : V2 X.K r g) (ha : OkD X W a fa) (hb : OkD X W b fb) (hm : behindInMarks op b = false) : OkD X W (.Compare a [op] [b] pos) (op2F g fa fb) := (pe_cmpR ho ha hb hm).to fun _ _ _ h => t_op2 hv h
end

def iiD (f : Int → Int → Int) : D → D → Option D
  | .int i, .int j => some (.int (f i j))
  | _, _ => none
def iicD (C : Int → Int → Prop) [∀ i j, Decidable (C i j)] (f : Int → Int → Int) : D → D → Option D
  | .int i, .int j => if C i j then some (.int (f i j)) else none
  | _, _ => none
def ibD (f : Int → Int → Bool) : D → D → Option D
  | .int i, .int j => some (.bl (f i j))
  | _, _ => none
def iD (f : Int → Int) : D → Option D
  | .int i => some (.int (f i))
  | _ => none
section
variable {K : PySem.W.Frag}
theorem v2_ii {f : Int → Int → Int} : V2 K (rI0 fun i j => .int (f i j)) (iiD f) := fun G H x y a b z Q s ra rb e q => by
  cases ra <;> cases rb <;> cases e
  exact ⟨_, _, rfl, rfl, q _ G H (.refl s) (.int _)⟩
theorem v2_ib {f : Int → Int → Bool} : V2 K (rI0 fun i j => .bl (f i j)) (ibD f) := fun G H x y a b z Q s ra rb e q => by
  cases ra <;> cases rb <;> cases e
  exact ⟨_, _, rfl, rfl, q _ G H (.refl s) (.bl _)⟩
theorem v2_iic {C : Int → Int → Prop} [∀ i j, Decidable (C i j)] {f : Int → Int → Int} : V2 K (rI C fun i j => .int (f i j)) (iicD C f) := fun G H x y a b z Q s ra rb e q => by
  unfold iicD at e
  split at e
  · rename_i i j
    split at e
    · rename_i hc
      cases ra; cases rb; cases e
      exact ⟨i, j, rfl, rfl, hc, q _ G H (.refl s) (.int _)⟩
    · cases e
  · cases e
theorem v1_i {f : Int → Int} : V1 K (rU fun i => .int (f i)) (iD f) := fun G H x a z Q s ra e q => by
  cases ra <;> cases e
  exact ⟨_, rfl, q _ G H (.refl s) (.int _)⟩
end
abbrev addD := iiD fun i j => i + j
abbrev subD := iiD fun i j => i - j
def MulC (i j : Int) : Prop := i.natAbs.log2 + j.natAbs.log2 < 100000000 ∨ i.natAbs < 2 ^ 62 ∨ j.natAbs < 2 ^ 62
instance (i j : Int) : Decidable (MulC i j) := by unfold MulC; infer_instance
theorem MulC.ok {i j : Int} (h : MulC i j) : IntMulOk i j := by
  have b : ∀ x : Int, Builtin.Int.intBits x ≤ x.natAbs.log2 + 1 := fun x => by
    unfold Builtin.Int.intBits
    split <;> omega
  rcases h with h3 | h | h
  · have h1 := b i
    have h2 := b j
    have e : bitsLine = 134217728 := by decide
    unfold IntMulOk
    intro z
    rw [Bool.and_eq_true] at z
    have z2 := z.2
    unfold Builtin.Int.intTooBig at z2
    have z3 := of_decide_eq_true z2
    rw [e] at z3
    omega
  · exact .of_left (intBits_le_64 (by omega) (by omega))
  · exact .of_right (intBits_le_64 (by omega) (by omega))
abbrev mulD := iicD MulC fun i j => i * j
def DivC (_ j : Int) : Prop := j ≠ 0 ∧ j.natAbs.log2 < 9000
instance (i j : Int) : Decidable (DivC i j) := by unfold DivC; infer_instance
def ModC (_ j : Int) : Prop := j ≠ 0
instance (i j : Int) : Decidable (ModC i j) := by unfold ModC; infer_instance
def PowC (i j : Int) : Prop := 0 ≤ j ∧ j ≤ 1000000 ∧ i.natAbs < 2 ^ 64
instance (i j : Int) : Decidable (PowC i j) := by unfold PowC; infer_instance
abbrev fdivD := iicD DivC fun i j => i.fdiv j
abbrev fmodD := iicD ModC fun i j => i.fmod j
section
variable {X : Cx}
theorem o_mul : OpR X (binaryOp .Mult) (rI MulC fun i j => .int (i * j)) := opI fun _ _ _ _ _ _ _ hc q => PyProof.Rows.mul_int q hc.ok
theorem o_fdiv : OpR X (binaryOp .FloorDiv) (rI DivC fun i j => .int (i.fdiv j)) := opI fun i j _ _ _ _ _ hc q => PyProof.Rows.floordiv_int hc.1 q (.inl (PyProof.noPylong_of_log2 hc.2))
theorem o_ifdiv : OpR X (inplaceOp .FloorDiv) (rI DivC fun i j => .int (i.fdiv j)) := opI fun i j _ _ _ _ _ hc q => PyProof.Rows.ifloordiv_int hc.1 q (.inl (PyProof.noPylong_of_log2 hc.2))
variable {W : WX} {a b : Expr} {pos : Pos} {fa fb : FE D}
theorem ok_sub (ha : OkD X W a fa) (hb : OkD X W b fb) : OkD X W (.BinOp a .Sub b pos) (op2F subD fa fb) := ok_op op_sub v2_ii ha hb
theorem ok_mul (ha : OkD X W a fa) (hb : OkD X W b fb) : OkD X W (.BinOp a .Mult b pos) (op2F mulD fa fb) := ok_op o_mul v2_iic ha hb
theorem ok_fdiv (ha : OkD X W a fa) (hb : OkD X W b fb) : OkD X W (.BinOp a .FloorDiv b pos) (op2F fdivD fa fb) := ok_op o_fdiv v2_iic ha hb
theorem ok_mod (ha : OkD X W a fa) (hb : OkD X W b fb) : OkD X W (.BinOp a .Mod b pos) (op2F fmodD fa fb) := ok_op op_modN v2_iic ha hb
theorem ok_neg (ha : OkD X W a fa) : OkD X W (.UnaryOp .USub a pos) (op1F (iD fun i => -i) fa) := ok_un un_neg v1_i ha
end

mutual
def toPy : D → PyData
  | .non => .none | .bl b => .bool b | .int i => .int i | .str s => .str s
  | .tup xs => .tuple (toPyL xs) | .lst xs => .list (toPyL xs)
  | .dk _ => .dict [] | .dt _ => .dict [] | .tb _ => .dict [] | .wt _ => .dict [] | .ob _ _ => .dict []
def toPyL : List D → List PyData
  | [] => []
  | x :: xs => toPy x :: toPyL xs
end
section
variable {K : PySem.W.Frag} {G H : Hp}
mutual
theorem Rp.dp (s : Le G H) : ∀ {v : V} {d : D}, Rp K G v d → (toPy d).canLay0 = true → Dp K H v (toPy d)
  | _, _, .non, _ => .non
  | _, _, .bl b, _ => .bl b
  | _, _, .int i, _ => .int i
  | _, _, .str x, _ => .str x
  | _, _, .tup h r, c => by
    unfold toPy at c ⊢
    exact .tup (s.sqt h) (RpL.dp s r (by simpa only [PyData.canLay0] using c))
  | _, _, .lst h r, c => by
    unfold toPy at c ⊢
    exact .lst (s.sql h) (RpL.dp s r (by simpa only [PyData.canLay0] using c))
  | _, _, .dk h r, c => by unfold toPy at c; cases c
  | _, _, .dt h r, c => by unfold toPy at c; cases c
  | _, _, .tb h r, c => by unfold toPy at c; cases c
  | _, _, .wt h r, c => by unfold toPy at c; cases c
  | _, _, .ob h r, c => by unfold toPy at c; cases c
theorem RpL.dp (s : Le G H) : ∀ {vs : List V} {ds : List D}, RpL K G vs ds → PyData.canLayAll0 (toPyL ds) = true → DpAll K H vs (toPyL ds)
  | _, _, .nil, _ => .nil
  | _, d :: ds, .cons h r, c => by
    unfold toPyL at c ⊢
    have c' : (toPy d).canLay0 = true ∧ PyData.canLayAll0 (toPyL ds) = true := by simpa [PyData.canLayAll0] using c
    exact .cons (Rp.dp s h c'.1) (RpL.dp s r c'.2)
end
def eqB (a b : D) : Bool := PyData.eqv (toPy a) (toPy b)
def eqD (n : Bool) (a b : D) : Option D := if SeqAt.shaped (toPy a) = true ∧ SeqAt.shaped (toPy b) = true then some (.bl (if n then !eqB a b else eqB a b)) else none
theorem v2_eq : V2 K (rEqD K) (eqD false) := fun G H x y a b z Q s ra rb e q => by
  unfold eqD at e
  split at e
  · rename_i h
    cases e
    exact ⟨_, _, ra.dp s (SeqAt.canLay_of_shaped h.1), rb.dp s (SeqAt.canLay_of_shaped h.2), h.1, h.2, q _ G H (.refl s) (.bl _)⟩
  · cases e
theorem v2_ne : V2 K (rNeD K) (eqD true) := fun G H x y a b z Q s ra rb e q => by
  unfold eqD at e
  split at e
  · rename_i h
    cases e
    exact ⟨_, _, ra.dp s (SeqAt.canLay_of_shaped h.1), rb.dp s (SeqAt.canLay_of_shaped h.2), h.1, h.2, q _ G H (.refl s) (.bl _)⟩
  · cases e
end
section
variable {X : Cx} {W : WX} {a b : Expr} {pos : Pos} {fa fb : FE D}
end
end Fx

set_option Elab.async false
set_option linter.all false
set_option maxRecDepth 100000
set_option maxHeartbeats 1000000
namespace Fx
variable [FnSem]
open PySem L2

inductive Pl where
  | v (x : D) | sl (i : Nat) | f (ψ : D → RD)
def Pl.get : Pl → Env → Option C1
  | .v x, _ => some (.val x)
  | .sl i, ρ => match ρ[i]? with
    | some (some (.c c)) => some c
    | _ => none
  | .f _, _ => none
def PlOk (K : PySem.W.Frag) (G : Hp) (σ : L2.St) (v : V) : Pl → Prop
  | .v x => Rp K G v x
  | .sl i => σ[i]? = some (some v)
  | .f ψ => ∃ a, v = .ref a ∧ FnSem.fn a G ψ
theorem PlOk.mono {K : PySem.W.Frag} {G G' : Hp} {σ : L2.St} {v : V} {p : Pl} (l : Le G G') (h : PlOk K G σ v p) : PlOk K G' σ v p := by
  cases p with
  | v x => exact Rp.mono l h
  | sl i => exact h
  | f ψ => obtain ⟨a, e, q⟩ := h; exact ⟨a, e, FnSem.mono l q⟩
theorem Rel.pl {K : PySem.W.Frag} {mg : Str → Option Value} {G H : Hp} {σ : L2.St} {ρ : Env} {F : Fp} (r : Rel K mg G H σ ρ F) {v : V} {p : Pl} {c : C1} (h : PlOk K G σ v p) (e : p.get ρ = some c) : ∃ S, C1Ok K G H v c S := by
  cases p with
  | v x => cases e; exact ⟨_, .val h⟩
  | sl i =>
    have e' : (match ρ[i]? with | some (some (O.c c)) => some c | _ => none) = some c := e
    split at e'
    · rename_i c' e1
      cases e'
      obtain ⟨u, e2, q⟩ := r.ok _ _ e1
      rw [show σ[i]? = some (some v) from h] at e2
      cases e2
      cases q with
      | c q => exact ⟨_, q⟩
    · cases e'
  | f ψ => cases e
def tB (K : PySem.W.Frag) (mg : Str → Option Value) (W : WX) (f : FE Pl) : TE := fun σ H Q => ∃ G ρ F, Rel K mg G H σ ρ F ∧ Post K mg W σ F G H (fun p G' H' => ∀ v, PlOk K G' σ v p → Q v H') (f ρ)
abbrev OkB (X : Cx) (W : WX) (e : Expr) (f : FE Pl) : Prop := PE X e (tB X.K X.mg W f)
def bD (f : FE D) : FE Pl := fun ρ => (f ρ).bind fun d ρ' => .ok (.v d) ρ'
def bS (i : Nat) : FE Pl := fun ρ => match ρ[i]? with
  | some (some _) => .ok (.sl i) ρ
  | _ => .stuck
section
variable {X : Cx} {W : WX} {e a b : Expr} {es : List Expr} {pos : Pos} {fa fb : FE D} {f : FE Pl}
theorem OkD.toB (h : OkD X W e fa) : OkB X W e (bD fa) := by
  refine h.to fun σ H Q q => ?_
  obtain ⟨G, ρ, F, rl, p⟩ := q
  exact ⟨G, ρ, F, rl, Post.bind p fun d ρ1 G1 H1 F1 _ rl1 st1 p1 v rv => p1 G1 H1 F1 rl1 .refl v rv⟩
theorem okb_var (i : Nat) {x : Str} (hN : X.N[i]? = some x := by rfl) (hv : Vis X.env.scope x := by first | exact Or.inl rfl | exact Or.inr (Or.inl rfl) | exact Or.inr (Or.inr rfl)) (hd : (x == ("__debug__" : Str)) = false := by decide)
    (hcd : (x == ("__classdict__" : Str)) = false := by decide) : OkB X W (.Name x pos) (bS i) := by
  refine (pe_var (i := i) hN hv hd hcd).to fun σ H Q h => ?_
  obtain ⟨G, ρ, F, rl, p⟩ := h
  unfold bS at p
  split at p
  · rename_i o e
    obtain ⟨v, e1, _⟩ := rl.ok i _ e
    exact ⟨v, e1, p G H F rl .refl v e1⟩
  · exact p.elim

def B1 (K : PySem.W.Frag) (r : V → Hp → VK → Prop) (g : C1 → Option D) : Prop := ∀ G H v c S z Q, Le G H → C1Ok K G H v c S → g c = some z → (∀ u G' H', Ext G H G' H' → Rp K G' u z → Q u H') → r v H Q
def B2 (K : PySem.W.Frag) (r : R2) (g : C1 → D → Option D) : Prop := ∀ G H v c S y b z Q, Le G H → C1Ok K G H v c S → Rp K G y b → g c b = some z → (∀ u G' H', Ext G H G' H' → Rp K G' u z → Q u H') → r v y H Q
def b1F (g : C1 → Option D) (f : FE Pl) : FE D := fun ρ => (f ρ).bind fun p ρ => match p.get ρ with
  | some c => optR (g c) ρ
  | none => .stuck
def b2F (g : C1 → D → Option D) (f : FE Pl) (fi : FE D) : FE D := fun ρ => (f ρ).bind fun p ρ => (fi ρ).bind fun k ρ => match p.get ρ with
  | some c => optR (g c k) ρ
  | none => .stuck
section
variable {K : PySem.W.Frag} {mg : Str → Option Value} {σ : L2.St} {H : Hp} {Q : VK}
theorem t_b1 {r : V → Hp → VK → Prop} {g : C1 → Option D} (hv : B1 K r g) (h : tD K mg W (b1F g f) σ H Q) : tB K mg W f σ H fun x H1 => r x H1 Q := by
  obtain ⟨G, ρ, F, rl, p⟩ := h
  refine ⟨G, ρ, F, rl, Post.bind p fun x ρ1 G1 H1 F1 _ rl1 st1 p1 v rv => ?_⟩
  cases e1 : x.get ρ1 with
  | none => rw [e1] at p1; exact p1.elim
  | some c =>
    rw [e1] at p1
    obtain ⟨S, ok⟩ := rl1.pl rv e1
    cases e : g c with
    | none => simp only [e] at p1; exact p1.elim
    | some z =>
      simp only [e] at p1
      exact hv G1 H1 v c S z Q rl1.sub ok e fun w G2 H2 ex rw => p1 G2 H2 F1 (rl1.ext ex) ex.stp w rw
theorem t_b2 {r : R2} {g : C1 → D → Option D} (hv : B2 K r g) (h : tD K mg W (b2F g f fa) σ H Q) : tOp r (tB K mg W f) (tD K mg W fa) σ H Q := by
  obtain ⟨G, ρ, F, rl, p⟩ := h
  refine ⟨G, ρ, F, rl, Post.bind p fun x ρ1 G1 H1 F1 _ rl1 st1 p1 v rv => ⟨G1, ρ1, F1, rl1, Post.bind p1 fun y ρ2 G2 H2 F2 _ rl2 st2 p2 u ru => ?_⟩⟩
  cases e1 : x.get ρ2 with
  | none => rw [e1] at p2; exact p2.elim
  | some c =>
    rw [e1] at p2
    obtain ⟨S, ok⟩ := rl2.pl (rv.mono st2.le) e1
    cases e : g c y with
    | none => simp only [e] at p2; exact p2.elim
    | some z =>
      simp only [e] at p2
      exact hv G2 H2 v c S u y z Q rl2.sub ok ru e fun w G3 H3 ex rw => p2 G3 H3 F2 (rl2.ext ex) ex.stp w rw
end

def C1.lst? : C1 → Option (List D)
  | .lst xs => some xs
  | .val (.lst xs) => some xs
  | _ => none
def C1.tup? : C1 → Option (List D)
  | .val (.tup xs) => some xs
  | _ => none
def C1.seq? : C1 → Option (List D)
  | .lst xs => some xs
  | .val (.lst xs) => some xs
  | .val (.tup xs) => some xs
  | _ => none
theorem C1Ok.lst? {K : PySem.W.Frag} {G H : Hp} {v : V} {c : C1} {S : Addr → Prop} (s : Le G H) (h : C1Ok K G H v c S) {ds : List D} (e : c.lst? = some ds) : ∃ p vs, v = .ref p ∧ SqL K H p vs ∧ RpL K G vs ds := by
  cases h with
  | val r =>
    cases r with
    | lst h r => cases e; exact ⟨_, _, rfl, s.sql h, r⟩
    | _ => cases e
  | lst h r => cases e; exact ⟨_, _, rfl, .inl (.inl h), r⟩
  | _ => cases e
theorem C1Ok.tup? {K : PySem.W.Frag} {G H : Hp} {v : V} {c : C1} {S : Addr → Prop} (s : Le G H) (h : C1Ok K G H v c S) {ds : List D} (e : c.tup? = some ds) : ∃ p vs, v = .ref p ∧ SqT K H p vs ∧ SqP K G p vs ∧ RpL K G vs ds := by
  cases h with
  | val r =>
    cases r with
    | tup h r => cases e; exact ⟨_, _, rfl, s.sqt h, h, r⟩
    | _ => cases e
  | _ => cases e
theorem C1Ok.seq? {K : PySem.W.Frag} {G H : Hp} {v : V} {c : C1} {S : Addr → Prop} (s : Le G H) (h : C1Ok K G H v c S) {ds : List D} (e : c.seq? = some ds) : ∃ p vs, v = .ref p ∧ (SqL K H p vs ∨ SqT K H p vs) ∧ RpL K G vs ds := by
  cases h with
  | val r =>
    cases r with
    | lst h r => cases e; exact ⟨_, _, rfl, .inl (s.sql h), r⟩
    | tup h r => cases e; exact ⟨_, _, rfl, .inr (s.sqt h), r⟩
    | _ => cases e
  | lst h r => cases e; exact ⟨_, _, rfl, .inl (.inl (.inl h)), r⟩
  | _ => cases e
theorem RpL.atI {K : PySem.W.Frag} {G : Hp} {vs : List V} {ds : List D} (r : RpL K G vs ds) {i : Int} {d : D} (e : atI ds i = some d) : ∃ v, atI vs i = some v ∧ Rp K G v d := by
  unfold L2.atI at e ⊢
  rw [r.length]
  cases h : ixN ds.length i with
  | none => rw [h] at e; cases e
  | some j =>
    rw [h] at e
    exact r.get (i := j) e
def ixD (c : C1) (k : D) : Option D := match k with
  | .int i => match c.seq? with
    | some xs => L2.atI xs i
    | none => match c with
      | .val (.str s) => if s.length ≤ sizeLine then (L2.atI s.cps.toList i).map fun c => .str ⟨#[c]⟩ else none
      | _ => none
  | _ => none
theorem b2_ix {K : PySem.W.Frag} : B2 K (rIx K) ixD := fun G H v c S y b z Q s ok ry e q => by
  unfold ixD at e
  split at e
  · rename_i i
    cases ry
    cases h : c.seq? with
    | some xs =>
      rw [h] at e
      obtain ⟨p, vs, rfl, hs, r⟩ := ok.seq? s h
      obtain ⟨u, e1, ru⟩ := r.atI e
      rcases hs with hs | hs
      · exact .inl ⟨p, vs, i, u, rfl, rfl, hs, e1, q u G H (.refl s) ru⟩
      · exact .inr (.inl ⟨p, vs, i, u, rfl, rfl, hs, e1, q u G H (.refl s) ru⟩)
    | none =>
      rw [h] at e
      simp only [] at e
      split at e
      · rename_i st
        split at e
        · rename_i hl
          cases ok with
          | val ok =>
            cases ok
            cases h2 : L2.atI st.cps.toList i with
            | none => rw [h2] at e; cases e
            | some ch =>
              rw [h2] at e; cases e
              exact .inr (.inr ⟨_, i, ch, rfl, rfl, hl, h2, q _ G H (.refl s) (.str _)⟩)
        · cases e
      · cases e
  · cases e
theorem ok_ix (hb : OkB X W a f) (hi : OkD X W b fb) (hp : PlainIx b := by exact fun _ _ => rfl) : OkD X W (.Subscript a b pos) (b2F ixD f fb) := (pe_ix ix_seq hb hi hp).to fun _ _ _ h => t_b2 b2_ix h

def lenD (c : C1) : Option D := match c.seq? with
  | some xs => some (.int xs.length)
  | none => match c with
    | .val (.str s) => if s.length ≤ sizeLine then some (.int s.length) else none
    | _ => none
def one (r : V → Hp → VK → Prop) : List V → Hp → VK → Prop := fun xs H Q => ∃ x, xs = [x] ∧ r x H Q
theorem b1_len {K : PySem.W.Frag} : B1 K (fun x H Q => ∃ n, LenV K x H n ∧ Q (.int n) H) lenD := fun G H v c S z Q s ok e q => by
  unfold lenD at e
  cases h : c.seq? with
  | some xs =>
    rw [h] at e
    cases e
    obtain ⟨p, vs, rfl, hs, r⟩ := ok.seq? s h
    refine ⟨xs.length, ?_, q _ G H (.refl s) (.int _)⟩
    rcases hs with hs | hs
    · exact .inl ⟨vs, hs, r.length.symm⟩
    · exact .inr ⟨vs, hs, r.length.symm⟩
  | none =>
    rw [h] at e
    simp only [] at e
    split at e
    · split at e
      · rename_i st hl
        cases e
        cases ok with
        | val ok =>
          cases ok
          exact ⟨_, ⟨hl, rfl⟩, q _ G H (.refl s) (.int _)⟩
      · cases e
    · cases e
theorem ok_len {p : Pos} (hg : Gl X "len") (hm : X.mg "len" = none) (ha : OkB X W a f) (hst : starEach [a] X.env = (false, eval a X.env) :: starEach [] X.env := by rfl) : OkD X W (.Call (.Name "len" p) [a] [] pos) (b1F lenD f) := by
  refine (pe_callB call_len hg hm PySem.boot_len (pa_cons ha pa_nil hst) (by decide) (by decide) hst rfl).to fun σ H Q h => ?_
  have h2 := t_b1 b1_len h
  obtain ⟨G, ρ, F, rl, p⟩ := h2
  refine ⟨G, ρ, F, rl, ?_⟩
  cases hr : f ρ with
  | ok x ρ1 =>
    rw [hr] at p
    intro G1 H1 F1 rl1 st1 v rv
    obtain ⟨n, l, q⟩ := p G1 H1 F1 rl1 st1 v rv
    exact ⟨v, n, rfl, l, q⟩
  | ex e ρ1 => rw [hr] at p; exact p
  | stuck => rw [hr] at p; exact p
end

def nilF : FE (List D) := fun ρ => .ok [] ρ
def consF (f : FE D) (g : FE (List D)) : FE (List D) := fun ρ => (f ρ).bind fun x ρ => (g ρ).bind fun xs ρ => .ok (x :: xs) ρ
def tupF (f : FE (List D)) : FE D := fun ρ => (f ρ).bind fun xs ρ => if xs.length ≤ sizeLine then .ok (.tup xs) ρ else .stuck
def lstF (f : FE (List D)) : FE O := fun ρ => (f ρ).bind fun xs ρ => if xs.length ≤ sizeLine then .ok (.c (.lst xs)) ρ else .stuck
section
variable {X : Cx} {W : WX} {e a b : Expr} {es : List Expr} {pos : Pos} {fa fb : FE D} {fs : FE (List D)}
theorem oks_nil : OkDs X W [] nilF := pa_nil.to fun σ H Q h => by
  obtain ⟨G, ρ, F, rl, p⟩ := h
  exact p G H F rl .refl [] .nil
theorem oks_cons (ha : OkD X W e fa) (hs : OkDs X W es fs) (hst : starEach (e :: es) X.env = (false, eval e X.env) :: starEach es X.env := by rfl) : OkDs X W (e :: es) (consF fa fs) := by
  refine (pa_cons ha hs hst).to fun σ H Q h => ?_
  obtain ⟨G, ρ, F, rl, p⟩ := h
  refine ⟨G, ρ, F, rl, Post.bind p fun x ρ1 G1 H1 F1 _ rl1 st1 p1 v rv => ⟨G1, ρ1, F1, rl1, Post.bind p1 fun xs ρ2 G2 H2 F2 _ rl2 st2 p2 vs rvs => ?_⟩⟩
  exact p2 G2 H2 F2 rl2 .refl (v :: vs) (.cons (rv.mono st2.le) rvs)
abbrev tupO (its : Array Value) : Obj := { cls := .type "tuple", data := .seq its }
theorem inv_tupP {X : Cx} {pins : List (Addr × Obj)} {σ : L2.St} {H : Hp} {s : Shared} (I : Inv X pins σ H s) {xs : List V} {its : List Value} (r : Vals xs its) (z : xs.length ≤ sizeLine) (t' : Nat) : Inv X pins σ (upd H s.heap.objs.size (.frz (tupO its.toArray) (.tup xs))) { s with heap := s.heap.push (tupO its.toArray), toks := t' } :=
  I.laid (fun b u e => Heap.get?_push_of_some _ e) (Nat.le_refl _) ⟨Heap.get?_push_size _ rfl, z, its, r, ⟨_, Heap.get?_push_size _ rfl, rfl, _, rfl⟩⟩
def tTupP (t : TA) : TE := fun σ H Q => t σ H fun xs H1 => xs.length ≤ sizeLine ∧ ∀ p (o : Obj), H1 p = none → o.dict = none → Q (.ref p) (upd H1 p (.frz o (.tup xs)))
theorem pe_tupP {x1 : Nat} {t : TA} (h : PA X es t) : PE X (.Tuple es x1 pos) (tTupP t) := by
  refine ⟨fun pins s σ H Q I hq => ?_⟩
  refine wpAny_Tuple_spliced (thn (h.run pos pins s σ H _ I hq) fun ws t1 ⟨ys, H1, I1, rr, hz, hk⟩ => ⟨by rw [← rr.length]; exact hz, ?_⟩)
  exact ⟨.ref t1.heap.objs.size, upd H1 t1.heap.objs.size (.frz _ (.tup ys)), I1.laid (t' := t1.toks) (fun b u e => Heap.get?_push_of_some _ e) (Nat.le_refl _) ⟨Heap.get?_push_size _ rfl, hz, ws, rr, ⟨_, Heap.get?_push_size _ rfl, rfl, _, rfl⟩⟩, rfl, hk _ _ (I1.hok.fresh (Nat.le_refl _)) rfl⟩
theorem ok_tup {k} (h : OkDs X W es fs) : OkD X W (.Tuple es k pos) (tupF fs) := by
  refine (pe_tupP h).to fun σ H Q h => ?_
  obtain ⟨G, ρ, F, rl, p⟩ := h
  refine ⟨G, ρ, F, rl, Post.bind p fun xs ρ1 G1 H1 F1 _ rl1 st1 p1 vs rv => ?_⟩
  split at p1
  · rename_i hl
    refine ⟨by rw [rv.length]; exact hl, fun p o hp ho => ?_⟩
    have ex : Ext G1 H1 (upd G1 p (.frz o (.tup vs))) (upd H1 p (.frz o (.tup vs))) := .new rl1.sub hp
    exact p1 _ _ F1 (rl1.ext ex) ex.stp _ (.tup (.new ho) (rv.mono ex.le))
  · exact p1.elim
theorem new_lst {K : PySem.W.Frag} {mg : Str → Option Value} {G H : Hp} {σ : L2.St} {ρ : Env} {F : Fp} (rl : Rel K mg G H σ ρ F) {vs : List V} {ds : List D} (r : RpL K G vs ds) {p : Addr} (hp : H p = none) :
    Rel K mg G (upd H p (.lst vs)) σ ρ F ∧ Stp F G H G (upd H p (.lst vs)) F ∧ OOk K mg G (upd H p (.lst vs)) (.ref p) (.c (.lst ds)) (fun a => a = p) ∧ ∀ a, a = p → H a = none ∧ G a = none ∧ upd H p (.lst vs) a ≠ none ∧ ¬ F.U a := by
  have ne : ∀ a, H a ≠ none → a ≠ p := fun a h e => h (by rw [e]; exact hp)
  refine ⟨⟨rl.len, fun i o e => ?_, rl.dis, fun i a z => ⟨(rl.out i a z).1, ?_⟩, rl.non, ?_⟩, ⟨Le.refl _, fun a o h _ => ?_, fun _ _ g _ => g, fun a h => ?_, fun _ _ z => .inl z⟩, .c (.lst upd_same r), ?_⟩
  · obtain ⟨v, e1, e2⟩ := rl.ok i o e
    exact ⟨v, e1, e2.mono (Le.refl _) fun a u _ q => Le.upd hp a u q⟩
  · rw [upd_ne (ne a (rl.out i a z).2)]; exact (rl.out i a z).2
  · exact rl.subT.new hp
  · exact fun _ => Le.upd hp a o h
  · rw [upd_ne (ne a h)]; exact h
  · rintro a rfl
    exact ⟨hp, rl.sub.back hp, (by rw [upd_same]; exact fun e => (nomatch e)), fun ⟨i, z⟩ => (rl.out i a z).2 hp⟩
theorem ok_lst (h : OkDs X W es fs) : OkO X W (.List es pos) (lstF fs) := by
  refine (pe_lst h).to fun σ H Q h => ?_
  obtain ⟨G, ρ, F, rl, p⟩ := h
  refine ⟨G, ρ, F, rl, PostO.bind p fun xs ρ1 G1 H1 F1 _ rl1 st1 p1 vs rv => ?_⟩
  split at p1
  · rename_i hl
    refine ⟨by rw [rv.length]; exact hl, fun p hp => ?_⟩
    obtain ⟨r2, s2, o2, z2⟩ := new_lst rl1 rv hp
    exact p1 _ _ F1 _ _ r2 s2 o2 z2
  · exact p1.elim

def testF (f : FE D) : FE Bool := fun ρ => (f ρ).bind fun d ρ => match d with
  | .bl b => .ok b ρ
  | _ => .stuck
def andF (f g : FE Bool) : FE Bool := fun ρ => (f ρ).bind fun b ρ => if b = true then g ρ else .ok false ρ
def orF (f g : FE Bool) : FE Bool := fun ρ => (f ρ).bind fun b ρ => if b = true then .ok true ρ else g ρ
def notF (f : FE Bool) : FE Bool := fun ρ => (f ρ).bind fun b ρ => .ok (!b) ρ
variable {ft fu : FE Bool} {rest : List Expr}
theorem tD_tTest {K : PySem.W.Frag} {mg : Str → Option Value} {σ : L2.St} {H : Hp} {Q : Bool → Hp → Prop} (h : tT K mg W (testF fa) σ H Q) : tD K mg W fa σ H fun x H1 => ∃ c, x = .bl c ∧ Q c H1 := by
  obtain ⟨G, ρ, F, rl, p⟩ := h
  refine ⟨G, ρ, F, rl, Post.bind p fun x ρ1 G1 H1 F1 _ rl1 st1 p1 v rv => ?_⟩
  cases rv with
  | bl b => exact ⟨b, rfl, p1 G1 H1 F1 rl1 .refl⟩
  | _ => exact p1.elim
theorem okt_val (h : OkD X W e fa) (he : ∀ whole, isTrue e X.env whole = (do let v ← whole; standAt e.pos; holding [v] (truthy v)) := by intro _; rfl) : OkT X W e (testF fa) := (pt_val h he).to fun σ H Q q => tD_tTest q
theorem okt_cmp {op : CmpOp} {r : R2} {g : D → D → Option D} (ho : OpR X (compareOp op) r) (hv : V2 X.K r g) (ha : OkD X W a fa) (hb : OkD X W b fb) (hm : behindInMarks op b = false) : OkT X W (.Compare a [op] [b] pos) (testF (op2F g fa fb)) := by
  refine (pt_cmpR ho ha hb hm).to fun σ H Q q => ?_
  exact t_op2 hv (tD_tTest q)
theorem okw_and1 (ha : OkT X W a ft) : PW X (.BoolOp .And [a] pos) (tT X.K X.mg W ft) := pw_and1 ha
theorem okw_or1 (ha : OkT X W a ft) : PW X (.BoolOp .Or [a] pos) (tT X.K X.mg W ft) := pw_or1 ha
theorem okw_and (ha : OkT X W a ft) (hb : PW X (.BoolOp .And (b :: rest) pos) (tT X.K X.mg W fu)) : PW X (.BoolOp .And (a :: b :: rest) pos) (tT X.K X.mg W (andF ft fu)) := by
  refine ⟨fun wh pins s σ H Q I q => (pw_and ha hb).run wh pins s σ H Q I ?_⟩
  obtain ⟨G, ρ, F, rl, p⟩ := q
  refine ⟨G, ρ, F, rl, Post.bind p fun c ρ1 G1 H1 F1 _ rl1 st1 p1 => ?_⟩
  cases c with
  | true => exact iteT ⟨G1, ρ1, F1, rl1, p1⟩
  | false => exact iteF (p1 G1 H1 F1 rl1 .refl)
theorem okw_or (ha : OkT X W a ft) (hb : PW X (.BoolOp .Or (b :: rest) pos) (tT X.K X.mg W fu)) : PW X (.BoolOp .Or (a :: b :: rest) pos) (tT X.K X.mg W (orF ft fu)) := by
  refine ⟨fun wh pins s σ H Q I q => (pw_or ha hb).run wh pins s σ H Q I ?_⟩
  obtain ⟨G, ρ, F, rl, p⟩ := q
  refine ⟨G, ρ, F, rl, Post.bind p fun c ρ1 G1 H1 F1 _ rl1 st1 p1 => ?_⟩
  cases c with
  | true => exact iteT (p1 G1 H1 F1 rl1 .refl)
  | false => exact iteF ⟨G1, ρ1, F1, rl1, p1⟩
theorem okt_w {ft : FE Bool} (h : PW X e (tT X.K X.mg W ft)) : OkT X W e ft := h.pt
theorem okt_not (ha : OkT X W a ft) : OkT X W (.UnaryOp .Not a pos) (notF ft) := (pt_not ha).to fun σ H Q q => by
  obtain ⟨G, ρ, F, rl, p⟩ := q
  exact ⟨G, ρ, F, rl, Post.bind p fun c ρ1 G1 H1 F1 _ rl1 st1 p1 => p1 G1 H1 F1 rl1 .refl⟩
def andVF (f g : FE D) : FE D := fun ρ => (f ρ).bind fun d ρ => match d with
  | .bl true => g ρ
  | .bl false => .ok (.bl false) ρ
  | _ => .stuck
def orVF (f g : FE D) : FE D := fun ρ => (f ρ).bind fun d ρ => match d with
  | .bl true => .ok (.bl true) ρ
  | .bl false => g ρ
  | _ => .stuck
def notVF (f : FE D) : FE D := fun ρ => (f ρ).bind fun d ρ => match d with
  | .bl b => .ok (.bl (!b)) ρ
  | _ => .stuck
theorem ok_one {op} (h : OkD X W a fa) : OkD X W (.BoolOp op [a] pos) fa := pe_one h
theorem ok_and (ha : OkD X W a fa) (hb : OkD X W (.BoolOp .And (b :: rest) pos) fb) : OkD X W (.BoolOp .And (a :: b :: rest) pos) (andVF fa fb) := (pe_and ha hb).to fun σ H Q q => by
  obtain ⟨G, ρ, F, rl, p⟩ := q
  refine ⟨G, ρ, F, rl, Post.bind p fun c ρ1 G1 H1 F1 _ rl1 st1 p1 v rv => ?_⟩
  cases rv with
  | bl b =>
    cases b with
    | true => exact ⟨true, rfl, iteT ⟨G1, ρ1, F1, rl1, p1⟩⟩
    | false => exact ⟨false, rfl, iteF (p1 G1 H1 F1 rl1 .refl _ (.bl _))⟩
  | _ => exact p1.elim
theorem ok_not (ha : OkD X W a fa) : OkD X W (.UnaryOp .Not a pos) (notVF fa) := (pe_not ha).to fun σ H Q q => by
  obtain ⟨G, ρ, F, rl, p⟩ := q
  refine ⟨G, ρ, F, rl, Post.bind p fun c ρ1 G1 H1 F1 _ rl1 st1 p1 v rv => ?_⟩
  cases rv with
  | bl b => exact ⟨b, rfl, p1 G1 H1 F1 rl1 .refl _ (.bl _)⟩
  | _ => exact p1.elim
def ifF {α : Type} (t : FE Bool) (f g : FE α) : FE α := fun ρ => (t ρ).bind fun b ρ => if b = true then f ρ else g ρ
theorem ok_if {c : Expr} (hc : OkT X W c ft) (ha : OkD X W a fa) (hb : OkD X W b fb) : OkD X W (.IfExp c a b pos) (ifF ft fa fb) := (pe_ifExp hc ha hb).to fun σ H Q q => by
  obtain ⟨G, ρ, F, rl, p⟩ := q
  refine ⟨G, ρ, F, rl, Post.bind p fun c ρ1 G1 H1 F1 _ rl1 st1 p1 => ?_⟩
  cases c with
  | true => exact iteT ⟨G1, ρ1, F1, rl1, p1⟩
  | false => exact iteF ⟨G1, ρ1, F1, rl1, p1⟩
def chainF (g g' : D → D → Option D) (fa fb fc : FE D) : FE D := fun ρ => (fa ρ).bind fun x ρ => (fb ρ).bind fun y ρ => match g x y with
  | some (.bl true) => (fc ρ).bind fun z ρ => optR (g' y z) ρ
  | some (.bl false) => .ok (.bl false) ρ
  | _ => .stuck
end
end Fx

set_option Elab.async false
set_option linter.all false
set_option maxRecDepth 100000
set_option maxHeartbeats 1000000
namespace Fx
variable [FnSem]
open PySem L2

def seqF (f g : FS) : FS := fun ρ => match f ρ with
  | .nx ρ' => g ρ'
  | r => r
def nextF : FS := fun ρ => .nx ρ
section
variable {K : PySem.W.Frag} {mg : Str → Option Value} {W : WX} {io : List Nat} {σ σ1 : L2.St} {F F1 : Fp} {G H G1 H1 : Hp} {Dn : Ends}
theorem PostS.after (s : Stp F G H G1 H1 F1) (hσ : ∀ i ∈ io, σ1[i]? = σ[i]?) {r : RS} (h : PostS K mg W io σ F G H Dn r) : PostS K mg W io σ1 F1 G1 H1 Dn r := by
  have back : ∀ a, H1 a = none → H a = none := fun a e => by
    cases q : H a with
    | none => rfl
    | some o => exact absurd e (s.there a (by rw [q]; exact fun e => nomatch e))
  cases r with
  | nx ρ' => exact fun σ' G' H' F' rl st e => h σ' G' H' F' rl (s.trans st) fun i hi => (e i hi).trans (hσ i hi)
  | br ρ' => exact fun σ' G' H' F' rl st e => h σ' G' H' F' rl (s.trans st) fun i hi => (e i hi).trans (hσ i hi)
  | ct ρ' => exact fun σ' G' H' F' rl st e => h σ' G' H' F' rl (s.trans st) fun i hi => (e i hi).trans (hσ i hi)
  | ret o ρ' => exact fun σ' G' H' F' v S rl st e ok z => h σ' G' H' F' v S rl (s.trans st) (fun i hi => (e i hi).trans (hσ i hi)) ok fun a q => ⟨back a (z a q).1, (z a q).2⟩
  | ex e ρ' => exact fun cv d σ' G' H' F' rl st e x => h cv d σ' G' H' F' rl (s.trans st) (fun i hi => (e i hi).trans (hσ i hi)) x
  | stuck => exact h
def bindS {α : Type} (r : R α) (k : α → Env → RS) : RS := match r with
  | .ok a ρ => k a ρ
  | .ex e ρ => .ex e ρ
  | .stuck => .stuck
theorem PostS.bind {α : Type} {r : R α} {k : α → Env → RS} (h : PostS K mg W io σ F G H Dn (bindS r k)) {good' : α → Hp → Hp → Prop}
    (hg : ∀ a ρ1 G1 H1 F1, r = .ok a ρ1 → Rel K mg G1 H1 σ ρ1 F1 → Stp F G H G1 H1 F1 → PostS K mg W io σ F1 G1 H1 Dn (k a ρ1) → good' a G1 H1) : Post K mg W σ F G H good' r := by
  cases r with
  | ok a ρ' => exact fun G' H' F' rl st => hg a ρ' G' H' F' rfl rl st (PostS.after st (fun _ _ => rfl) h)
  | ex e ρ' => exact fun cv d G' H' F' rl st x => h cv d σ G' H' F' rl st (fun _ _ => rfl) x
  | stuck => exact h
theorem PostS.bindO {r : R O} {k : O → Env → RS} (h : PostS K mg W io σ F G H Dn (bindS r k)) {Q : VK}
    (hg : ∀ o ρ1 G1 H1 F1 v S, r = .ok o ρ1 → Rel K mg G1 H1 σ ρ1 F1 → Stp F G H G1 H1 F1 → OOk K mg G1 H1 v o S → (∀ a, S a → H a = none ∧ G1 a = none ∧ H1 a ≠ none ∧ ¬ F1.U a) → PostS K mg W io σ F G H Dn (k o ρ1) → Q v H1) : PostO K mg W σ F G H Q r := by
  cases r with
  | ok a ρ' => exact fun G' H' F' v S rl st ok z => hg a ρ' G' H' F' v S rfl rl st ok z h
  | ex e ρ' => exact fun cv d G' H' F' rl st x => h cv d σ G' H' F' rl st (fun _ _ => rfl) x
  | stuck => exact h
end

section
variable {X : Cx} {W : WX} {io : List Nat} {e a b : Expr} {st : Stmt} {sts : List Stmt} {pos : Pos} {fa fb : FE D} {fo : FE O} {ft : FE Bool} {f g : FS}
theorem oks_nilS : OkSs X W io [] nextF := pss_nil.to fun Dn σ H h => by
  obtain ⟨G, ρ, F, rl, p⟩ := h
  exact p σ G H F rl .refl fun _ _ => rfl
theorem tS_seq {K : PySem.W.Frag} {mg : Str → Option Value} {σ : L2.St} {H : Hp} {Dn : Ends} (h : tS K mg W io (seqF f g) Dn σ H) : tSeq (tS K mg W io f) (tS K mg W io g) Dn σ H := by
  obtain ⟨G, ρ, F, rl, p⟩ := h
  refine ⟨G, ρ, F, rl, ?_⟩
  unfold seqF at p
  cases e : f ρ with
  | nx ρ1 =>
    rw [e] at p
    exact fun σ1 G1 H1 F1 rl1 st1 hσ => ⟨G1, ρ1, F1, rl1, PostS.after st1 hσ p⟩
  | ret o ρ' => rw [e] at p; exact p
  | br ρ' => rw [e] at p; exact p
  | ct ρ' => rw [e] at p; exact p
  | ex e ρ' => rw [e] at p; exact p
  | stuck => rw [e] at p; exact p
theorem oks_consS (h1 : OkS X W io st f) (h2 : OkSs X W io sts g) : OkSs X W io (st :: sts) (seqF f g) := (pss_cons h1 h2).to fun Dn σ H h => tS_seq h
theorem oks_oneS (h1 : OkS X W io st f) : OkSs X W io [st] f := pss_one h1
def retF (f : FE D) : FS := fun ρ => bindS (f ρ) fun d ρ => .ret (.v d) ρ
def retOF (f : FE O) : FS := fun ρ => bindS (f ρ) fun d ρ => .ret d ρ
theorem ok_ret (h : OkD X W e fa) : OkS X W io (.Return (some e) pos) (retF fa) := (ps_ret h).to fun Dn σ H q => by
  obtain ⟨G, ρ, F, rl, p⟩ := q
  exact ⟨G, ρ, F, rl, PostS.bind p fun d ρ1 G1 H1 F1 _ rl1 st1 p1 v rv => p1 σ G1 H1 F1 v _ rl1 .refl (fun _ _ => rfl) (.c (.val rv)) fun _ z => z.elim⟩
theorem ok_retO (h : OkO X W e fo) : OkS X W io (.Return (some e) pos) (retOF fo) := (ps_ret h).to fun Dn σ H q => by
  obtain ⟨G, ρ, F, rl, p⟩ := q
  refine ⟨G, ρ, F, rl, ?_⟩
  unfold retOF at p
  cases hr : fo ρ with
  | ok o ρ1 =>
    rw [hr] at p
    exact fun G1 H1 F1 v S rl1 st1 ok z => p σ G1 H1 F1 v S rl1 st1 (fun _ _ => rfl) ok fun a q => ⟨(z a q).1, (z a q).2.1, (z a q).2.2.1, fun i _ y => (z a q).2.2.2 ⟨i, y⟩⟩
  | ex e ρ1 =>
    rw [hr] at p
    exact fun cv d G1 H1 F1 rl1 st1 x => p cv d σ G1 H1 F1 rl1 st1 (fun _ _ => rfl) x
  | stuck => rw [hr] at p; exact p
def dropF (f : FE D) : FS := fun ρ => bindS (f ρ) fun _ ρ => .nx ρ
theorem ok_expr (h : OkD X W e fa) (hs : swapsWith e none pos.line X.env = pure false := by rfl) : OkS X W io (.Expr e pos) (dropF fa) := (ps_expr h hs).to fun Dn σ H q => by
  obtain ⟨G, ρ, F, rl, p⟩ := q
  exact ⟨G, ρ, F, rl, PostS.bind p fun d ρ1 G1 H1 F1 _ rl1 st1 p1 v rv => p1 σ G1 H1 F1 rl1 .refl fun _ _ => rfl⟩
def ifSF (t : FE Bool) (f g : FS) : FS := fun ρ => bindS (t ρ) fun b ρ => if b = true then f ρ else g ρ
theorem ok_ifS {c : Expr} {as bs : List Stmt} (hc : OkT X W c ft) (ha : OkSs X W io as f) (hb : OkSs X W io bs g) : OkS X W io (.If c as bs pos) (ifSF ft f g) := (ps_if hc ha hb).to fun Dn σ H q => by
  obtain ⟨G, ρ, F, rl, p⟩ := q
  refine ⟨G, ρ, F, rl, PostS.bind p fun c ρ1 G1 H1 F1 _ rl1 st1 p1 => ?_⟩
  cases c with
  | true => exact iteT ⟨G1, ρ1, F1, rl1, p1⟩
  | false => exact iteF ⟨G1, ρ1, F1, rl1, p1⟩

theorem Rel.set {K : PySem.W.Frag} {mg : Str → Option Value} {G H : Hp} {σ : L2.St} {ρ : Env} {F : Fp} (r : Rel K mg G H σ ρ F) (i : Nat) {v : V} {o : O} {S : Addr → Prop} (ok : OOk K mg G H v o S) (z : ∀ a, S a → G a = none ∧ H a ≠ none ∧ ∀ j, j ≠ i → ¬ F j a) :
    Rel K mg G H (σ.set i (some v)) (ρ.set i (some o)) (fun j a => if j = i then i < ρ.length ∧ S a else F j a) where
  len := by rw [List.length_set, List.length_set]; exact r.len
  ok := fun j u e => by
    by_cases h : j = i
    · subst h
      have hl : j < ρ.length := by
        have := (List.getElem?_eq_some_iff.mp e).1
        rwa [List.length_set] at this
      rw [List.getElem?_set_self hl] at e
      cases e
      refine ⟨v, List.getElem?_set_self (by rw [r.len]; exact hl), ?_⟩
      have : (fun a => if j = j then j < ρ.length ∧ S a else F j a) = S := by
        funext a
        rw [if_pos rfl]
        exact propext ⟨fun h => h.2, fun h => ⟨hl, h⟩⟩
      rw [this]
      exact ok
    · rw [List.getElem?_set_ne (Ne.symm h)] at e
      obtain ⟨w, e1, e2⟩ := r.ok j u e
      refine ⟨w, by rw [List.getElem?_set_ne (Ne.symm h)]; exact e1, ?_⟩
      have : (fun a => if j = i then i < ρ.length ∧ S a else F j a) = F j := by
        funext a
        rw [if_neg h]
      rw [this]
      exact e2
  dis := fun j k a hjk h1 h2 => by
    by_cases hj : j = i
    · rw [if_pos hj] at h1
      have hk : k ≠ i := fun e => hjk (hj.trans e.symm)
      rw [if_neg hk] at h2
      exact (z a h1.2).2.2 k hk h2
    · rw [if_neg hj] at h1
      by_cases hk : k = i
      · rw [if_pos hk] at h2
        exact (z a h2.2).2.2 j hj h1
      · rw [if_neg hk] at h2
        exact r.dis j k a hjk h1 h2
  out := fun j a h => by
    by_cases hj : j = i
    · rw [if_pos hj] at h; exact ⟨(z a h.2).1, (z a h.2).2.1⟩
    · rw [if_neg hj] at h; exact r.out j a h
  non := fun j a h => by
    by_cases hj : j = i
    · rw [if_pos hj] at h
      subst hj
      exact ⟨o, List.getElem?_set_self h.1⟩
    · rw [if_neg hj] at h
      obtain ⟨u, e⟩ := r.non j a h
      exact ⟨u, by rw [List.getElem?_set_ne (Ne.symm hj)]; exact e⟩
  subT := r.subT
theorem Stp.set {F F1 : Fp} {G H G1 H1 : Hp} (s : Stp F G H G1 H1 F1) {i : Nat} {P : Prop} {S : Addr → Prop} (z : ∀ a, S a → H a = none ∨ F i a) : Stp F G H G1 H1 (fun j a => if j = i then P ∧ S a else F1 j a) :=
  ⟨s.le, s.fr, s.fresh, s.there, fun j a h => by
    by_cases hj : j = i
    · rw [if_pos hj] at h
      subst hj
      exact (z a h.2).symm
    · rw [if_neg hj] at h
      exact s.own j a h⟩
def setF (i : Nat) (f : FE D) : FS := fun ρ => bindS (f ρ) fun d ρ => .nx (ρ.set i (some (.v d)))
def setOF (i : Nat) (f : FE O) : FS := fun ρ => bindS (f ρ) fun o ρ => .nx (ρ.set i (some o))
theorem ok_set {i : Nat} {x : Str} {pos' : Pos} (hN : X.N.Nodup) (hi : X.N[i]? = some x) (hx : Loc X.env.scope x) (he : OkD X W e fa) (hio : (io.contains i) = false := by rfl) (hs : swapsWith e (some (.Name x pos')) pos.line X.env = pure false := by rfl)
    (hf : X.fn x = true ∨ X.env.scope.names.lookup x = some .local := by first | exact .inl rfl | exact .inr rfl | assumption) : OkS X W io (.Assign [.Name x pos'] e pos) (setF i fa) := (ps_set hN hi hx he hs hf).to fun Dn σ H q => by
  have ne : ∀ j ∈ io, j ≠ i := fun j hj e => by subst e; rw [List.contains_iff_mem.mpr hj] at hio; cases hio
  obtain ⟨G, ρ, F, rl, p⟩ := q
  refine ⟨G, ρ, F, rl, PostS.bind p fun d ρ1 G1 H1 F1 _ rl1 st1 p1 v rv => ?_⟩
  exact p1 _ G1 H1 _ (rl1.set i (.c (.val rv)) fun _ z => z.elim) (Stp.refl.set fun _ z => z.elim) fun j hj => List.getElem?_set_ne (ne j hj).symm
theorem ok_setO {i : Nat} {x : Str} {pos' : Pos} (hN : X.N.Nodup) (hi : X.N[i]? = some x) (hx : Loc X.env.scope x) (he : OkO X W e fo) (hio : (io.contains i) = false := by rfl) (hs : swapsWith e (some (.Name x pos')) pos.line X.env = pure false := by rfl)
    (hf : X.fn x = true ∨ X.env.scope.names.lookup x = some .local := by first | exact .inl rfl | exact .inr rfl | assumption) : OkS X W io (.Assign [.Name x pos'] e pos) (setOF i fo) := (ps_set hN hi hx he hs hf).to fun Dn σ H q => by
  have ne : ∀ j ∈ io, j ≠ i := fun j hj e => by subst e; rw [List.contains_iff_mem.mpr hj] at hio; cases hio
  obtain ⟨G, ρ, F, rl, p⟩ := q
  refine ⟨G, ρ, F, rl, PostS.bindO p fun o ρ1 G1 H1 F1 v S _ rl1 st1 ok z p1 => ?_⟩
  exact p1 _ G1 H1 _ (rl1.set i ok fun a q => ⟨(z a q).2.1, (z a q).2.2.1, fun j _ y => (z a q).2.2.2 ⟨j, y⟩⟩) (st1.set fun a q => .inl (z a q).1) fun j hj => List.getElem?_set_ne (ne j hj).symm

def par2F (i j : Nat) (f : FE (List D)) : FS := fun ρ => bindS (f ρ) fun ds ρ => match ds with
  | [a, b] => .nx ((ρ.set i (some (.v a))).set j (some (.v b)))
  | _ => .stuck
theorem ok_par2 {i j : Nat} {x y : Str} {px py pt : Pos} {kt k2 pt2} {fs : FE (List D)} (hc : X.calm = true) (hN : X.N.Nodup) (hi : X.N[i]? = some x) (hj : X.N[j]? = some y) (hij : i ≠ j)
    (hx : X.env.scope.names.lookup x = some .local) (hy : X.env.scope.names.lookup y = some .local) (hio : (io.contains i || io.contains j) = false) (ha : OkDs X W [a, b] fs)
    (hw : swappedStores [.Tuple [.Name x px, .Name y py] kt pt] (.Tuple [a, b] k2 pt2) X.env = pure (some [x, y]))
    (hs : swapsWithSole [.Tuple [.Name x px, .Name y py] kt pt] (.Tuple [a, b] k2 pt2) pos.line X.env = pure false := by rfl) :
    OkS X W io (.Assign [.Tuple [.Name x px, .Name y py] kt pt] (.Tuple [a, b] k2 pt2) pos) (par2F i j fs) := (ps_par hc hN hi hj hij hx hy ha hw hs).to fun Dn σ H q => by
  rw [Bool.or_eq_false_iff] at hio
  have nei : ∀ k ∈ io, k ≠ i := fun k hk e => by subst e; rw [List.contains_iff_mem.mpr hk] at hio; cases hio.1
  have nej : ∀ k ∈ io, k ≠ j := fun k hk e => by subst e; rw [List.contains_iff_mem.mpr hk] at hio; cases hio.2
  obtain ⟨G, ρ, F, rl, p⟩ := q
  refine ⟨G, ρ, F, rl, PostS.bind p fun ds ρ1 G1 H1 F1 _ rl1 st1 p1 vs rv => ?_⟩
  split at p1
  · cases rv with
    | cons r1 r =>
      cases r with
      | cons r2 r =>
        cases r
        refine ⟨_, _, rfl, p1 _ G1 H1 _ ((rl1.set i (.c (.val r1)) fun _ z => z.elim).set j (.c (.val r2)) fun _ z => z.elim) ((Stp.refl.set fun _ z => z.elim).set fun _ z => z.elim) fun k hk => ?_⟩
        rw [List.getElem?_set_ne (nej k hk).symm, List.getElem?_set_ne (nei k hk).symm]
  · exact p1.elim

def augF (g : D → D → Option D) (i : Nat) (f : FE D) : FS := fun ρ => match ρ[i]? with
  | some (some (.c (.val x))) => bindS (f ρ) fun y ρ => match g x y with
    | some z => .nx (ρ.set i (some (.v z)))
    | none => .stuck
  | _ => .stuck
theorem ok_aug {i : Nat} {x : Str} {op : Operator} {r : R2} {g : D → D → Option D} {pos' : Pos} (hN : X.N.Nodup) (hi : X.N[i]? = some x) (hx : Loc X.env.scope x) (ho : OpR X (inplaceOp op) r) (hv : V2 X.K r g) (he : OkD X W e fa) (hio : (io.contains i) = false := by rfl)
    (hf : X.fn x = true ∨ X.env.scope.names.lookup x = some .local := by first | exact .inl rfl | exact .inr rfl | assumption) : OkS X W io (.AugAssign (.Name x pos') op e pos) (augF g i fa) := (ps_aug hN hi hx he (fun pins s σ H x y v u Q I r1 r2 h => ho pins s σ H x y v u Q I r1 r2 h) hf).to fun Dn σ H q => by
  have ne : ∀ j ∈ io, j ≠ i := fun j hj e => by subst e; rw [List.contains_iff_mem.mpr hj] at hio; cases hio
  obtain ⟨G, ρ, F, rl, p⟩ := q
  unfold augF at p
  split at p
  · rename_i dx e1
    obtain ⟨v, e2, rv⟩ := rl.val e1
    refine ⟨v, e2, G, ρ, F, rl, PostS.bind p fun d ρ1 G1 H1 F1 _ rl1 st1 p1 u ru => ?_⟩
    cases eg : g dx d with
    | none => rw [eg] at p1; exact p1.elim
    | some z =>
      rw [eg] at p1
      refine hv G1 H1 v u dx d z _ rl1.sub (rv.mono st1.le) ru eg fun w G2 H2 ex rw => ?_
      exact p1 _ G2 H2 _ ((rl1.ext ex).set i (.c (.val rw)) fun _ z => z.elim) (ex.stp.set fun _ z => z.elim) fun j hj => List.getElem?_set_ne (ne j hj).symm
  · exact p.elim
end
end Fx

set_option Elab.async false
set_option linter.all false
set_option maxRecDepth 100000
set_option maxHeartbeats 1000000
namespace Fx
variable [FnSem]
open PySem L2

def RS.live : RS → Bool
  | .stuck => false
  | _ => true
def whileN (c : FE Bool) (b : FS) : Nat → Env → RS
  | 0, _ => .stuck
  | n + 1, ρ => bindS (c ρ) fun t ρ => if t = true then (match b ρ with
    | .nx ρ => whileN c b n ρ
    | .ct ρ => whileN c b n ρ
    | .br ρ => .nx ρ
    | r => r) else .nx ρ
theorem whileN_succ (c : FE Bool) (b : FS) : ∀ (n : Nat) (ρ : Env), (whileN c b n ρ).live = true → whileN c b (n + 1) ρ = whileN c b n ρ
  | 0, ρ, h => by cases h
  | n + 1, ρ, h => by
    unfold whileN at h ⊢
    cases hc : c ρ with
    | ok t ρ1 =>
      rw [hc] at h
      simp only [bindS] at h ⊢
      cases t with
      | true =>
        simp only [if_true] at h ⊢
        cases hb : b ρ1 with
        | nx ρ2 => rw [hb] at h; exact whileN_succ c b n ρ2 h
        | ct ρ2 => rw [hb] at h; exact whileN_succ c b n ρ2 h
        | _ => rfl
      | false => rfl
    | ex e ρ1 => rfl
    | stuck => rfl
theorem whileN_le (c : FE Bool) (b : FS) (n : Nat) (ρ : Env) (h : (whileN c b n ρ).live = true) : ∀ m, n ≤ m → whileN c b m ρ = whileN c b n ρ := fun m hm => by
  induction hm with
  | refl => rfl
  | step _ ih => exact (whileN_succ c b _ ρ (by rw [ih]; exact h)).trans ih
open Classical in
noncomputable def whileF (c : FE Bool) (b : FS) : FS := fun ρ => if h : ∃ n, (whileN c b n ρ).live = true then whileN c b (Classical.choose h) ρ else .stuck
theorem whileF_eq {c : FE Bool} {b : FS} {ρ : Env} {n : Nat} (h : (whileN c b n ρ).live = true) : whileF c b ρ = whileN c b n ρ := by
  unfold whileF
  have hx : ∃ n, (whileN c b n ρ).live = true := ⟨n, h⟩
  rw [dif_pos hx]
  have h2 := Classical.choose_spec hx
  rw [← whileN_le c b _ ρ h2 (max n (Classical.choose hx)) (Nat.le_max_right _ _), ← whileN_le c b _ ρ h (max n (Classical.choose hx)) (Nat.le_max_left _ _)]
theorem whileF_dead {c : FE Bool} {b : FS} {ρ : Env} (h : ∀ n, (whileN c b n ρ).live = false) : whileF c b ρ = .stuck := by
  unfold whileF
  rw [dif_neg fun ⟨n, e⟩ => by rw [h n] at e; cases e]
theorem whileF_unfold (c : FE Bool) (b : FS) (ρ : Env) : whileF c b ρ = bindS (c ρ) fun t ρ => if t = true then (match b ρ with
    | .nx ρ => whileF c b ρ
    | .ct ρ => whileF c b ρ
    | .br ρ => .nx ρ
    | r => r) else .nx ρ := by
  have step : ∀ n, whileN c b (n + 1) ρ = bindS (c ρ) fun t ρ => if t = true then (match b ρ with
    | .nx ρ => whileN c b n ρ
    | .ct ρ => whileN c b n ρ
    | .br ρ => .nx ρ
    | r => r) else .nx ρ := fun n => rfl
  cases hc : c ρ with
  | ok t ρ1 =>
    simp only [hc, bindS] at step ⊢
    cases t with
    | false =>
      have e : whileN c b 1 ρ = .nx ρ1 := step 0
      rw [whileF_eq (n := 1) (by rw [e]; rfl), e]
      rfl
    | true =>
      simp only [if_true] at step ⊢
      have go : ∀ ρ2, (∀ n, whileN c b (n + 1) ρ = whileN c b n ρ2) → whileF c b ρ = whileF c b ρ2 := fun ρ2 h => by
        by_cases hx : ∃ n, (whileN c b n ρ2).live = true
        · obtain ⟨n, hn⟩ := hx
          rw [whileF_eq hn, whileF_eq (n := n + 1) (by rw [h n]; exact hn), h n]
        · have dead : ∀ n, (whileN c b n ρ2).live = false := fun n => by
            cases q : (whileN c b n ρ2).live with
            | false => rfl
            | true => exact absurd ⟨n, q⟩ hx
          rw [whileF_dead dead, whileF_dead fun n => ?_]
          cases n with
          | zero => rfl
          | succ n => rw [h n]; exact dead n
      cases hb : b ρ1 with
      | nx ρ2 => exact go ρ2 fun n => by rw [step n, hb]
      | ct ρ2 => exact go ρ2 fun n => by rw [step n, hb]
      | br ρ2 =>
        have e : whileN c b 1 ρ = .nx ρ2 := by rw [step 0, hb]
        rw [whileF_eq (n := 1) (by rw [e]; rfl), e]
      | ret o ρ2 =>
        have e : whileN c b 1 ρ = .ret o ρ2 := by rw [step 0, hb]
        rw [whileF_eq (n := 1) (by rw [e]; rfl), e]
      | ex x ρ2 =>
        have e : whileN c b 1 ρ = .ex x ρ2 := by rw [step 0, hb]
        rw [whileF_eq (n := 1) (by rw [e]; rfl), e]
      | stuck =>
        refine whileF_dead fun n => ?_
        cases n with
        | zero => rfl
        | succ n => rw [step n, hb]; rfl
  | ex e ρ1 =>
    simp only [hc, bindS] at step ⊢
    have e' := step 0
    rw [whileF_eq (n := 1) (by rw [e']; rfl), e']
  | stuck =>
    simp only [hc, bindS] at step ⊢
    refine whileF_dead fun n => ?_
    cases n with
    | zero => rfl
    | succ n => rw [step n]; rfl
section
variable {X : Cx} {W : WX} {io : List Nat} {pos : Pos}
theorem ok_while {c : Expr} {body : List Stmt} {ft : FE Bool} {f : FS} (hp : PassesOwn (model X.prog X.w) X.A X.env X.xe) (hc : OkT X W c ft) (hb : OkSs X W io body f) : OkS X W io (.While c body [] pos) (whileF ft f) := (ps_while hp hc hb).to fun Dn σ H q => by
  obtain ⟨G, ρ, F, rl, p⟩ := q
  have hx : ∃ n, (whileN ft f n ρ).live = true := by
    refine Classical.byContradiction fun h => ?_
    rw [whileF_dead fun n => by
      cases q : (whileN ft f n ρ).live with
      | false => rfl
      | true => exact absurd ⟨n, q⟩ h] at p
    exact p
  obtain ⟨n, hn⟩ := hx
  rw [whileF_eq hn] at p
  refine ⟨fun m σ1 H1 => ∃ G1 ρ1 F1, Rel X.K X.mg G1 H1 σ1 ρ1 F1 ∧ Stp F G H G1 H1 F1 ∧ (∀ i ∈ io, σ1[i]? = σ[i]?) ∧ (whileN ft f m ρ1).live = true ∧ PostS X.K X.mg W io σ1 F1 G1 H1 Dn (whileN ft f m ρ1), ⟨n, G, ρ, F, rl, .refl, fun _ _ => rfl, hn, p⟩, ?_⟩
  rintro m σ1 H1 ⟨G1, ρ1, F1, rl1, st1, hσ, hm, p1⟩
  cases m with
  | zero => cases hm
  | succ m =>
    unfold whileN at p1 hm
    refine ⟨G1, ρ1, F1, rl1, PostS.bind p1 fun t ρ2 G2 H2 F2 e2 rl2 st2 p2 => ?_⟩
    rw [e2] at hm
    simp only [bindS] at hm
    cases t with
    | false => exact iteF (p2 σ1 G2 H2 F2 rl2 .refl fun _ _ => rfl)
    | true =>
      refine iteT ?_
      simp only [if_true] at p2 hm
      refine ⟨fun σ' H' => ∃ m', m' < m + 1 ∧ ∃ G1 ρ1 F1, Rel X.K X.mg G1 H' σ' ρ1 F1 ∧ Stp F G H G1 H' F1 ∧ (∀ i ∈ io, σ'[i]? = σ[i]?) ∧ (whileN ft f m' ρ1).live = true ∧ PostS X.K X.mg W io σ' F1 G1 H' Dn (whileN ft f m' ρ1), fun _ _ h => h, G2, ρ2, F2, rl2, ?_⟩
      cases hb : f ρ2 with
      | nx ρ3 =>
        rw [hb] at p2 hm
        exact fun σ3 G3 H3 F3 rl3 st3 hσ3 => ⟨m, Nat.lt_succ_self m, G3, ρ3, F3, rl3, (st1.trans st2).trans st3, fun i hi => (hσ3 i hi).trans (hσ i hi), hm, PostS.after st3 hσ3 p2⟩
      | ct ρ3 =>
        rw [hb] at p2 hm
        exact fun σ3 G3 H3 F3 rl3 st3 hσ3 => ⟨m, Nat.lt_succ_self m, G3, ρ3, F3, rl3, (st1.trans st2).trans st3, fun i hi => (hσ3 i hi).trans (hσ i hi), hm, PostS.after st3 hσ3 p2⟩
      | br ρ3 => rw [hb] at p2; exact p2
      | ret o ρ3 => rw [hb] at p2; exact p2
      | ex e ρ3 => rw [hb] at p2; exact p2
      | stuck => rw [hb] at hm; cases hm
end

def ItOk (K : PySem.W.Frag) (G : Hp) (J : It) (ds : List D) : Prop :=
  ∀ i G1 H1, Le G G1 → Le G1 H1 → (∀ d, ds[i]? = some d → J.go i H1 ∧ ∀ x H2, J.yld i H1 x H2 → ∃ G2, Ext G1 H1 G2 H2 ∧ Rp K G2 x d) ∧ (ds.length ≤ i → J.stop i H1)
def tI (K : PySem.W.Frag) (mg : Str → Option Value) (W : WX) (f : FE (List D)) : TI := fun σ H R => ∃ G ρ F, Rel K mg G H σ ρ F ∧ Post K mg W σ F G H (fun ds G' H' => ∀ J, ItOk K G' J ds → R J H') (f ρ)
abbrev OkI (X : Cx) (W : WX) (tg e : Expr) (f : FE (List D)) : Prop := PI X tg e (tI X.K X.mg W f)
theorem _root_.L2.PI.to {X : Cx} {tg e : Expr} {t u : TI} (h : PI X tg e t) (k : ∀ σ H Q, u σ H Q → t σ H Q) : PI X tg e u := ⟨fun pins s σ H Q I q => h.run pins s σ H Q I (k σ H Q q)⟩
theorem it_list {K : PySem.W.Frag} {G : Hp} {a : Addr} {vs : List V} {ds : List D} (h : SqL K G a vs) (r : RpL K G vs ds) : ItOk K G (Itl K a) ds := fun i G1 H1 l s => by
  have h1 : SqL K H1 a vs := s.sql (l.sql h)
  refine ⟨fun d e => ?_, fun e => ⟨vs, h1, by rw [r.length]; exact e⟩⟩
  obtain ⟨v, e1, rv⟩ := r.get e
  refine ⟨⟨vs, v, h1, e1⟩, fun x H2 ⟨hH, hx⟩ => ?_⟩
  subst hH
  have := hx vs h1
  rw [e1] at this
  cases this
  exact ⟨G1, .refl s, rv.mono l⟩
theorem it_tup {K : PySem.W.Frag} {G : Hp} {a : Addr} {vs : List V} {ds : List D} (h : SqP K G a vs) (r : RpL K G vs ds) : ItOk K G (Itt K a) ds := fun i G1 H1 l s => by
  have h1 : SqT K H1 a vs := s.sqt (l.sqp h)
  refine ⟨fun d e => ?_, fun e => ⟨vs, h1, by rw [r.length]; exact e⟩⟩
  obtain ⟨v, e1, rv⟩ := r.get e
  refine ⟨⟨vs, v, h1, e1⟩, fun x H2 ⟨hH, hx⟩ => ?_⟩
  subst hH
  have := hx vs h1
  rw [e1] at this
  cases this
  exact ⟨G1, .refl s, rv.mono l⟩
def rangeL (lo : Int) (n : Nat) : List D := (List.range n).map fun (i : Nat) => .int (lo + (i : Int))
theorem rangeL_get {lo : Int} {n i : Nat} {d : D} (h : (rangeL lo n)[i]? = some d) : i < n ∧ d = .int (lo + i) := by
  unfold rangeL at h
  rw [List.getElem?_map] at h
  by_cases hi : i < n
  · rw [List.getElem?_range hi] at h
    cases h
    exact ⟨hi, rfl⟩
  · rw [List.getElem?_eq_none (by rw [List.length_range]; omega)] at h
    cases h
theorem it_rng {K : PySem.W.Frag} {G : Hp} {lo : Int} {n : Nat} : ItOk K G (Itr lo n) (rangeL lo n) := fun i G1 H1 l s => by
  refine ⟨fun d e => ?_, fun e => by
    unfold rangeL at e
    rw [List.length_map, List.length_range] at e
    exact e⟩
  obtain ⟨hi, rfl⟩ := rangeL_get e
  refine ⟨hi, fun x H2 ⟨hH, hx⟩ => ?_⟩
  subst hH
  subst hx
  exact ⟨G1, .refl s, .int _⟩
section
variable {X : Cx} {W : WX} {tg e a b : Expr} {pos : Pos} {fa fb : FE D} {fs : FE (List D)}
def itL (f : FE D) : FE (List D) := fun ρ => (f ρ).bind fun d ρ => match d with
  | .lst xs => .ok xs ρ
  | _ => .stuck
def itT (f : FE D) : FE (List D) := fun ρ => (f ρ).bind fun d ρ => match d with
  | .tup xs => .ok xs ρ
  | _ => .stuck
def rng1 (f : FE D) : FE (List D) := fun ρ => (f ρ).bind fun d ρ => match d with
  | .int j => if -(2 ^ 62) ≤ j ∧ j < 2 ^ 62 then .ok (rangeL 0 j.toNat) ρ else .stuck
  | _ => .stuck
def rng2 (f g : FE D) : FE (List D) := fun ρ => (f ρ).bind fun x ρ => (g ρ).bind fun y ρ => match x, y with
  | .int i, .int j => if -(2 ^ 62) ≤ i ∧ i < 2 ^ 62 ∧ -(2 ^ 62) ≤ j ∧ j < 2 ^ 62 then .ok (rangeL i (j - i).toNat) ρ else .stuck
  | _, _ => .stuck
theorem oki_range1 {p : Pos} (hg : Gl X "range") (hm : X.mg "range" = none) (ha : OkD X W a fa) (hst : starEach [a] X.env = (false, eval a X.env) :: starEach [] X.env := by rfl) : OkI X W tg (.Call (.Name "range" p) [a] [] pos) (rng1 fa) := (pi_range1 hg hm (pa_cons ha pa_nil hst) hst).to fun σ H R q => by
  obtain ⟨G, ρ, F, rl, p⟩ := q
  refine ⟨G, ρ, F, rl, Post.bind p fun d ρ1 G1 H1 F1 _ rl1 st1 p1 v rv => ?_⟩
  split at p1
  · split at p1
    · rename_i hj
      cases rv
      exact ⟨_, rfl, hj.1, hj.2, p1 G1 H1 F1 rl1 .refl _ it_rng⟩
    · exact p1.elim
  · exact p1.elim
end

abbrev FG := D → Env → Option Env
def tgF (K : PySem.W.Frag) (mg : Str → Option Value) (io : List Nat) (g : FG) : TG := fun v σ H Q => ∃ G ρ F d, Rel K mg G H σ ρ F ∧ Rp K G v d ∧ match g d ρ with
  | some ρ' => ∀ σ' F', Rel K mg G H σ' ρ' F' → Stp F G H G H F' → σ'.length = σ.length → (∀ i ∈ io, σ'[i]? = σ[i]?) → Q σ' H
  | none => False
abbrev OkG (X : Cx) (io : List Nat) (tg : Expr) (g : FG) : Prop := PG X tg (tgF X.K X.mg io g)
theorem _root_.L2.PG.to {X : Cx} {tg : Expr} {t u : TG} (h : PG X tg t) (k : ∀ v σ H Q, u v σ H Q → t v σ H Q) : PG X tg u := ⟨fun pins s σ H v x Q I r q => h.run pins s σ H v x Q I r (k v σ H Q q)⟩
theorem _root_.L2.PGs.to {X : Cx} {tg : List Expr} {t u : TGs} (h : PGs X tg t) (k : ∀ v σ H Q, u v σ H Q → t v σ H Q) : PGs X tg u := ⟨fun pins s σ H v x Q I r q => h.run pins s σ H v x Q I r (k v σ H Q q)⟩
def nameG (i : Nat) : FG := fun d ρ => some (ρ.set i (some (.v d)))
theorem okg_name {X : Cx} {io : List Nat} {i : Nat} {x : Str} {pos : Pos} (hN : X.N.Nodup) (hi : X.N[i]? = some x) (hx : Loc X.env.scope x) (hio : (io.contains i) = false := by rfl) (hf : X.fn x = true ∨ X.env.scope.names.lookup x = some .local := by first | exact .inl rfl | exact .inr rfl | assumption) : OkG X io (.Name x pos) (nameG i) := (pg_name hN hi hx hf).to fun v σ H Q q => by
  obtain ⟨G, ρ, F, d, rl, rv, p⟩ := q
  exact p _ _ (rl.set i (.c (.val rv)) fun _ z => z.elim) (Stp.refl.set fun _ z => z.elim) (List.length_set ..) fun j hj => List.getElem?_set_ne fun e => by subst e; rw [List.contains_iff_mem.mpr hj] at hio; cases hio
abbrev FGs := List D → Env → Option Env
def tgFs (K : PySem.W.Frag) (mg : Str → Option Value) (io : List Nat) (g : FGs) : TGs := fun vs σ H Q => ∃ G ρ F ds, Rel K mg G H σ ρ F ∧ RpL K G vs ds ∧ match g ds ρ with
  | some ρ' => ∀ σ' F', Rel K mg G H σ' ρ' F' → Stp F G H G H F' → σ'.length = σ.length → (∀ i ∈ io, σ'[i]? = σ[i]?) → Q σ' H
  | none => False
abbrev OkGs (X : Cx) (io : List Nat) (tg : List Expr) (g : FGs) : Prop := PGs X tg (tgFs X.K X.mg io g)
def nilG : FGs := fun ds ρ => match ds with
  | [] => some ρ
  | _ => none
def consG (g : FG) (gs : FGs) : FGs := fun ds ρ => match ds with
  | d :: ds => match g d ρ with
    | some ρ => gs ds ρ
    | none => none
  | [] => none
section
variable {X : Cx} {io : List Nat} {e : Expr} {es : List Expr} {g : FG} {gs : FGs}
theorem okg_nil : OkGs X io [] nilG := pgs_nil.to fun vs σ H Q q => by
  obtain ⟨G, ρ, F, ds, rl, r, p⟩ := q
  cases r with
  | nil => exact ⟨rfl, p σ F rl .refl rfl fun _ _ => rfl⟩
  | cons _ _ => exact p.elim
theorem okg_cons (h1 : OkG X io e g) (h2 : OkGs X io es gs) (hs : (assignEach (e :: es) X.env).map (·.2) = assign e X.env :: (assignEach es X.env).map (·.2) := by rfl) : OkGs X io (e :: es) (consG g gs) := (pgs_cons h1 h2 hs).to fun vs σ H Q q => by
  obtain ⟨G, ρ, F, ds, rl, r, p⟩ := q
  cases r with
  | nil => exact p.elim
  | cons r1 r2 =>
    rename_i v vs d ds
    refine ⟨v, vs, rfl, G, ρ, F, d, rl, r1, ?_⟩
    unfold consG at p
    simp only at p
    cases hg : g d ρ with
    | none => rw [hg] at p; exact p.elim
    | some ρ1 =>
      rw [hg] at p
      intro σ1 F1 rl1 st1 hl1 hσ1
      refine ⟨G, ρ1, F1, ds, rl1, r2, ?_⟩
      simp only at p
      cases hgs : gs ds ρ1 with
      | none => rw [hgs] at p; exact p.elim
      | some ρ2 =>
        rw [hgs] at p
        exact fun σ2 F2 rl2 st2 hl2 hσ2 => p σ2 F2 rl2 (st1.trans st2) (hl2.trans hl1) fun i hi => (hσ2 i hi).trans (hσ1 i hi)
def tupG (n : Nat) (gs : FGs) : FG := fun d ρ => match d with
  | .tup ds => if ds.length = n then gs ds ρ else none
  | .wt ds => if ds.length = n then gs ds ρ else none
  | _ => none
theorem okg_tup {k : Nat} {n : Nat} {pos : Pos} (hc : X.calm = true) (h : OkGs X io es gs) (hn : (assignEach es X.env).length = n := by rfl) (hst : (assignEach es X.env).findIdx? (·.1) = none := by rfl) : OkG X io (.Tuple es k pos) (tupG n gs) := (pg_tup hc h hn hst).to fun v σ H Q q => by
  obtain ⟨G, ρ, F, d, rl, rv, p⟩ := q
  unfold tupG at p
  cases rv with
  | tup hs r =>
    simp only at p
    split at p
    · rename_i ds ρ1 e
      split at e
      · rename_i hl
        refine ⟨_, _, rfl, rl.sub.sqt hs, r.length.trans hl, G, ρ, F, _, rl, r, ?_⟩
        rw [e]
        exact p
      · cases e
    · exact p.elim
  | wt hs r =>
    simp only at p
    split at p
    · rename_i ds ρ1 e
      split at e
      · rename_i hl
        refine ⟨_, _, rfl, rl.sub.sqw hs, r.length.trans hl, G, ρ, F, _, rl, r, ?_⟩
        rw [e]
        exact p
      · cases e
    · exact p.elim
  | _ => exact p.elim
end

def forF (g : FG) (b : FS) : List D → FS
  | [], ρ => .nx ρ
  | d :: ds, ρ => match g d ρ with
    | some ρ => match b ρ with
      | .nx ρ => forF g b ds ρ
      | .ct ρ => forF g b ds ρ
      | .br ρ => .nx ρ
      | r => r
    | none => .stuck
def forSF (f : FE (List D)) (g : FG) (b : FS) : FS := fun ρ => bindS (f ρ) fun ds ρ => forF g b ds ρ
section
variable {X : Cx} {W : WX} {io : List Nat} {tg it : Expr} {body : List Stmt} {pos : Pos} {fi : FE (List D)} {g : FG} {b : FS}
theorem ok_for (hp : PassesOwn (model X.prog X.w) X.A X.env X.xe) (hc : X.calm = true) (hi : OkI X W tg it fi) (hg : OkG X io tg g) (hb : OkSs X W io body b)
    (hs : ∀ x, foldedSetIterable it X.env x = pure x := by intro _; rfl) : OkS X W io (.For tg it body [] pos) (forSF fi g b) := (ps_for hp hc hi hg hb hs).to fun Dn σ H q => by
  obtain ⟨G, ρ, F, rl, p⟩ := q
  refine ⟨G, ρ, F, rl, PostS.bind p fun ds ρ1 G1 H1 F1 _ rl1 st1 p1 J hJ => ?_⟩
  refine ⟨fun i m σ2 H2 => m = ds.length - i ∧ ∃ G2 ρ2 F2, Rel X.K X.mg G2 H2 σ2 ρ2 F2 ∧ Stp F1 G1 H1 G2 H2 F2 ∧ (∀ j ∈ io, σ2[j]? = σ[j]?) ∧ PostS X.K X.mg W io σ2 F2 G2 H2 Dn (forF g b (ds.drop i) ρ2), ⟨_, rfl, G1, ρ1, F1, rl1, .refl, fun _ _ => rfl, p1⟩, ?_⟩
  rintro i m σ2 H2 ⟨rfl, G2, ρ2, F2, rl2, st2, hσ2, p2⟩
  obtain ⟨h1, h2⟩ := hJ i G2 H2 st2.le rl2.sub
  by_cases hi : i < ds.length
  · have hd : ds[i]? = some ds[i] := List.getElem?_eq_getElem hi
    obtain ⟨go, yl⟩ := h1 _ hd
    refine .inr ⟨go, fun σ' H' => ∃ m', m' < ds.length - i ∧ m' = ds.length - (i + 1) ∧ ∃ G2 ρ2 F2, Rel X.K X.mg G2 H' σ' ρ2 F2 ∧ Stp F1 G1 H1 G2 H' F2 ∧ (∀ j ∈ io, σ'[j]? = σ[j]?) ∧ PostS X.K X.mg W io σ' F2 G2 H' Dn (forF g b (ds.drop (i + 1)) ρ2), fun _ _ h => h, fun x H3 hx => ?_⟩
    obtain ⟨G3, ex, rx⟩ := yl x H3 hx
    rw [List.drop_eq_getElem_cons hi] at p2
    unfold forF at p2
    refine ⟨G3, ρ2, F2, ds[i], rl2.ext ex, rx, ?_⟩
    cases eg : g ds[i] ρ2 with
    | none => rw [eg] at p2; exact p2.elim
    | some ρ4 =>
      rw [eg] at p2
      simp only at p2
      intro σ4 F4 rl4 st4 _ hσ4
      have s4 : Stp F1 G1 H1 G3 H3 F4 := (st2.trans ex.stp).trans st4
      have h4 : ∀ j ∈ io, σ4[j]? = σ[j]? := fun j hj => (hσ4 j hj).trans (hσ2 j hj)
      have s24 : Stp F2 G2 H2 G3 H3 F4 := ex.stp.trans st4
      refine ⟨G3, ρ4, F4, rl4, ?_⟩
      have lt : ds.length - (i + 1) < ds.length - i := by omega
      cases eb : b ρ4 with
      | nx ρ5 =>
        rw [eb] at p2
        exact fun σ5 G5 H5 F5 rl5 st5 hσ5 => ⟨_, lt, rfl, G5, ρ5, F5, rl5, s4.trans st5, fun j hj => (hσ5 j hj).trans (h4 j hj), PostS.after (s24.trans st5) (fun j hj => (hσ5 j hj).trans (hσ4 j hj)) p2⟩
      | ct ρ5 =>
        rw [eb] at p2
        exact fun σ5 G5 H5 F5 rl5 st5 hσ5 => ⟨_, lt, rfl, G5, ρ5, F5, rl5, s4.trans st5, fun j hj => (hσ5 j hj).trans (h4 j hj), PostS.after (s24.trans st5) (fun j hj => (hσ5 j hj).trans (hσ4 j hj)) p2⟩
      | br ρ5 => rw [eb] at p2; exact PostS.after s24 hσ4 p2
      | ret o ρ5 => rw [eb] at p2; exact PostS.after s24 hσ4 p2
      | ex e ρ5 => rw [eb] at p2; exact PostS.after s24 hσ4 p2
      | stuck => rw [eb] at p2; exact p2.elim
  · refine .inl ⟨h2 (by omega), ?_⟩
    rw [List.drop_of_length_le (by omega)] at p2
    unfold forF at p2
    exact p2 σ2 G2 H2 F2 rl2 .refl fun _ _ => rfl
end
end Fx

set_option Elab.async false
set_option linter.all false
set_option maxRecDepth 100000
set_option maxHeartbeats 1000000
namespace Fx
variable [FnSem]
open PySem L2
open PyProof.Rows (envOfC)

def isV : O → Bool
  | .c (.val _) => true
  | .fn _ => true
  | _ => false
def chk (io : List Nat) : Nat → List O → Bool
  | _, [] => true
  | j, o :: os => (isV o || io.contains j) && chk io (j + 1) os
def fin (io : List Nat) (ρ : Env) : Nat → List O → Option (List O)
  | _, [] => some []
  | j, o :: os => match (if io.contains j then (match ρ[j]? with | some (some o') => some o' | _ => none) else some o), fin io ρ (j + 1) os with
    | some a, some r => some (a :: r)
    | _, _ => none
def bodyF (io : List Nat) (os : List O) : RS → RF
  | .nx ρ => match fin io ρ 0 os with
    | some os' => .ok (.v .non) os'
    | none => .stuck
  | .ret o ρ => match fin io ρ 0 os with
    | some os' => .ok o os'
    | none => .stuck
  | .ex e ρ => match fin io ρ 0 os with
    | some os' => .ex e os'
    | none => .stuck
  | _ => .stuck
section
variable (K : PySem.W.Frag) (mg : Str → Option Value)
def PostF (vs : List V) (F : Fp) (G H : Hp) (Q : VK) (E : XK) : RF → Prop
  | .ok o os' => ∀ G' H' F' v S, Rel K mg G' H' (vs.map some) (os'.map some) F' → Stp F G H G' H' F' → OOk K mg G' H' v o S → (∀ a, S a → H a = none ∧ G' a = none ∧ H' a ≠ none ∧ ¬ F'.U a) → Q v H'
  | .ex e os' => ∀ cv d G' H' F', Rel K mg G' H' (vs.map some) (os'.map some) F' → Stp F G H G' H' F' → XOk K mg G' H' e cv d → E cv d H'
  | .stuck => False
def spF (io : List Nat) (n : Nat) (φ : List O → RF) : Sp := fun vs H Q E => vs.length = n ∧ ∃ G os F, os.length = n ∧ chk io 0 os = true ∧ Rel K mg G H (vs.map some) (os.map some) F ∧ PostF K mg vs F G H Q E (φ os)
end
abbrev FnF (P : Program) (w : World) (K : PySem.W.Frag) (mg : Str → Option Value) (base : Heap) (k : Nat) (f : Addr) (fd : FuncData) (ps : List Str) (io : List Nat) (φ : List O → RF) : Prop :=
  FnOk P w K mg base (L2.CX P w) k f fd ps (spF K mg io ps.length φ)
def startE (N : List Str) (os : List O) : Env := os.map some ++ List.replicate (N.length - os.length) none

theorem chk_get {io : List Nat} : ∀ {os : List O} {k j : Nat} {o : O}, chk io k os = true → os[j]? = some o → isV o = true ∨ (k + j) ∈ io
  | [], _, _, _, _, e => by simp at e
  | o :: os, k, 0, _, h, e => by
    cases e
    unfold chk at h
    rw [Bool.and_eq_true, Bool.or_eq_true] at h
    rcases h.1 with h | h
    · exact .inl h
    · exact .inr (List.contains_iff_mem.mp h)
  | o :: os, k, j + 1, u, h, e => by
    unfold chk at h
    rw [Bool.and_eq_true] at h
    have := chk_get (j := j) h.2 (by simpa using e)
    rwa [Nat.add_assoc, Nat.add_comm 1 j] at this
theorem fin_len {io : List Nat} {ρ : Env} : ∀ {os os' : List O} {k : Nat}, fin io ρ k os = some os' → os'.length = os.length
  | [], _, _, h => by cases h; rfl
  | o :: os, os', k, h => by
    unfold fin at h
    split at h
    · rename_i a r e1 e2
      cases h
      rw [List.length_cons, List.length_cons, fin_len e2]
    · cases h
theorem fin_get {io : List Nat} {ρ : Env} : ∀ {os os' : List O} {k j : Nat} {o : O}, fin io ρ k os = some os' → os'[j]? = some o → ((k + j) ∈ io ∧ ρ[k + j]? = some (some o)) ∨ ((k + j) ∉ io ∧ os[j]? = some o)
  | [], _, _, _, _, h, e => by cases h; simp at e
  | u :: os, os', k, j, o, h, e => by
    unfold fin at h
    split at h
    · rename_i a r e1 e2
      cases h
      cases j with
      | zero =>
        cases e
        split at e1
        · rename_i hc
          split at e1
          · rename_i o' eo
            cases e1
            exact .inl ⟨List.contains_iff_mem.mp hc, eo⟩
          · cases e1
        · rename_i hc
          cases e1
          exact .inr ⟨fun m => hc (List.contains_iff_mem.mpr m), rfl⟩
      | succ j =>
        have := fin_get (j := j) e2 (by simpa using e)
        rw [show k + 1 + j = k + (j + 1) by omega] at this
        simpa using this
    · cases h
theorem startE_get {N : List Str} {os : List O} {i : Nat} {o : O} (h : (startE N os)[i]? = some (some o)) : os[i]? = some o := by
  unfold startE at h
  by_cases hi : i < os.length
  · rw [List.getElem?_append_left (by simpa using hi), List.getElem?_map] at h
    cases e : os[i]? with
    | none => rw [e] at h; cases h
    | some u => rw [e] at h; cases h; rfl
  · rw [List.getElem?_append_right (by simpa using hi), List.getElem?_replicate] at h
    split at h <;> cases h
theorem start_get {N : List Str} {vs : List V} {i : Nat} {v : V} (h : vs[i]? = some v) : (L2.start N vs)[i]? = some (some v) := by
  unfold L2.start
  rw [List.getElem?_append_left (by simpa using (List.getElem?_eq_some_iff.mp h).1), List.getElem?_map, h]
  rfl

section
variable {P : Program} {w : World} {K : PySem.W.Frag} {mg : Str → Option Value} {base : Heap}
theorem fn_run {qual : Str} {st : Stmt} {f : Addr} {N ps : List Str} {io : List Nat} {φ : List O → RF} {cdv : Value} {A : Around} {outer : List PySem.Env} {s : Shared} {H0 : Hp} {E : XK} {fs : FS} {vs : List V} {H : Hp} {Q : VK} (S : FnScope N ps (defScope st))
    (hφ : ∀ os, os.length = ps.length → chk io 0 os = true → φ os ≠ .stuck → bodyF io os (fs (startE N os)) = φ os) (h : spF K mg io ps.length φ vs H Q E) :
    tS K mg (fun cls d _ H => E cls d H) io fs { nx := fun _ H' => Q .non H', rt := Q } (L2.start N vs) H := by
  obtain ⟨hl, G, os, F0, hl2, hck, rl, p⟩ := h
  have ns : φ os ≠ .stuck := fun e => by rw [e] at p; exact p
  rw [← hφ os hl2 hck ns] at p
  have hlN : ps.length ≤ N.length := by
    have := congrArg List.length S.pre
    rw [List.length_take] at this
    omega
  have vget : ∀ {i : Nat} {o : O}, os[i]? = some o → ∃ v, vs[i]? = some v ∧ OOk K mg G H v o (F0 i) := fun {i o} e => by
    obtain ⟨v, e1, e2⟩ := rl.ok i o (by rw [List.getElem?_map, e]; rfl)
    rw [List.getElem?_map] at e1
    cases q : vs[i]? with
    | none => rw [q] at e1; cases e1
    | some u => rw [q] at e1; cases e1; exact ⟨_, rfl, e2⟩
  have rl0 : Rel K mg G H (L2.start N vs) (startE N os) F0 := by
    refine ⟨?_, fun i o e => ?_, rl.dis, rl.out, fun i a z => ?_, rl.subT⟩
    · unfold L2.start startE
      rw [List.length_append, List.length_append, List.length_map, List.length_map, List.length_replicate, List.length_replicate, hl, hl2]
    · obtain ⟨v, e1, e2⟩ := vget (startE_get e)
      exact ⟨v, start_get e1, e2⟩
    · obtain ⟨o, e⟩ := rl.non i a z
      rw [List.getElem?_map] at e
      refine ⟨o, ?_⟩
      unfold startE
      cases q : os[i]? with
      | none => rw [q] at e; cases e
      | some u =>
        rw [q] at e; cases e
        rw [List.getElem?_append_left (by simpa using (List.getElem?_eq_some_iff.mp q).1), List.getElem?_map, q]
        rfl
  -- the arguments behind the body
  have back : ∀ {ρ' : Fx.Env} {os' : List O} {σ' : L2.St} {G' H' : Hp} {F' : Fp}, fin io ρ' 0 os = some os' → Rel K mg G' H' σ' ρ' F' → Stp F0 G H G' H' F' → (∀ i ∈ io, σ'[i]? = (L2.start N vs)[i]?) →
      ∃ F2 : Fp, Rel K mg G' H' (vs.map some) (os'.map some) F2 ∧ Stp F0 G H G' H' F2 ∧ ∀ j a, F2 j a → j ∈ io ∧ F' j a := fun {ρ' os' σ' G' H' F'} ef rl' st hσ => by
    refine ⟨fun j a => j ∈ io ∧ j < os.length ∧ F' j a, ⟨?_, fun i o e => ?_, fun i j a hij h1 h2 => rl'.dis i j a hij h1.2.2 h2.2.2, fun i a z => rl'.out i a z.2.2, fun i a z => ?_, rl'.subT⟩, ⟨st.le, st.fr, st.fresh, st.there, fun i a z => st.own i a z.2.2⟩, fun j a z => ⟨z.1, z.2.2⟩⟩
    · rw [List.length_map, List.length_map, fin_len ef, hl, hl2]
    · rw [List.getElem?_map] at e
      cases q : os'[i]? with
      | none => rw [q] at e; cases e
      | some u =>
        rw [q] at e; cases e
        have hi : i < os.length := by rw [← fin_len ef]; exact (List.getElem?_eq_some_iff.mp q).1
        rcases fin_get ef q with ⟨hm, e1⟩ | ⟨hm, e1⟩
        · rw [Nat.zero_add] at hm e1
          obtain ⟨v, e2, e3⟩ := rl'.ok i _ e1
          obtain ⟨u, hu, _⟩ := vget (List.getElem?_eq_getElem hi)
          rw [hσ i hm, start_get hu] at e2
          cases e2
          refine ⟨_, by rw [List.getElem?_map, hu]; rfl, ?_⟩
          have : (fun a => i ∈ io ∧ i < os.length ∧ F' i a) = F' i := by
            funext a
            exact propext ⟨fun h => h.2.2, fun h => ⟨hm, hi, h⟩⟩
          rw [this]
          exact e3
        · rw [Nat.zero_add] at hm
          obtain ⟨v, hv, ok2⟩ := vget e1
          refine ⟨v, by rw [List.getElem?_map, hv]; rfl, ?_⟩
          have hv2 := (chk_get hck e1).resolve_right (by rw [Nat.zero_add]; exact hm)
          have : (fun a => i ∈ io ∧ i < os.length ∧ F' i a) = fun _ => False := by
            funext a
            exact propext ⟨fun h => hm h.1, fun h => h.elim⟩
          rw [this]
          generalize F0 i = S0 at ok2
          cases ok2 with
          | c ok2 =>
            cases ok2 with
            | val r => exact .c (.val (r.mono st.le))
            | _ => cases hv2
          | ins _ => cases hv2
          | fn h => exact .fn (FnSem.mono st.le h)
    · obtain ⟨o, e⟩ := rl'.non i a z.2.2
      have hi : i < os'.length := by rw [fin_len ef]; exact z.2.1
      exact ⟨os'[i], by rw [List.getElem?_map, List.getElem?_eq_getElem hi]; rfl⟩
  refine ⟨G, startE N os, F0, rl0, ?_⟩
  generalize hr : fs (startE N os) = r at p
  cases r with
  | nx ρ' =>
    simp only [bodyF] at p
    split at p
    · rename_i os' ef
      intro σ' G' H' F' rl' st hσ
      obtain ⟨F2, r2, s2, _⟩ := back ef rl' st hσ
      exact p G' H' F2 .non _ r2 s2 (.c (.val .non)) fun _ z => z.elim
    · exact p.elim
  | ret o ρ' =>
    simp only [bodyF] at p
    split at p
    · rename_i os' ef
      intro σ' G' H' F' v S' rl' st hσ ok z
      obtain ⟨F2, r2, s2, n2⟩ := back ef rl' st hσ
      exact p G' H' F2 v S' r2 s2 ok fun a q => ⟨(z a q).1, (z a q).2.1, (z a q).2.2.1, fun ⟨j, y⟩ => (z a q).2.2.2 j (n2 j a y).1 (n2 j a y).2⟩
    · exact p.elim
  | ex e ρ' =>
    simp only [bodyF] at p
    split at p
    · rename_i os' ef
      intro cv d σ' G' H' F' rl' st hσ x
      obtain ⟨F2, r2, s2, _⟩ := back ef rl' st hσ
      exact p cv d G' H' F2 r2 s2 x
    · exact p.elim
  | br _ => exact p.elim
  | ct _ => exact p.elim
  | stuck => exact p.elim
theorem fn_ok {x qual : Str} {st : Stmt} {f : Addr} {fd : FuncData} {N ps : List Str} {k : Nat} {io : List Nat} {φ : List O → RF} (F : Fun K x qual st f fd) (S : FnScope N ps (defScope st))
    (hb : ∀ (cdv : Value) (A : Around) (outer : List PySem.Env) (s : Shared) (H : Hp) (E : XK), Room k (A.deeper (envOfC qual (defScope st) s.heap.objs.size f cdv)) →
      Takes (cxOf (L2.CX P w) P w K mg base N qual (defScope st) f cdv A outer s H E) (fun cls d _ H => E cls d H) →
      PassesOwn (model P w) (cxOf (L2.CX P w) P w K mg base N qual (defScope st) f cdv A outer s H E).A (cxOf (L2.CX P w) P w K mg base N qual (defScope st) f cdv A outer s H E).env (cxOf (L2.CX P w) P w K mg base N qual (defScope st) f cdv A outer s H E).xe →
      ∃ fs, OkSs (cxOf (L2.CX P w) P w K mg base N qual (defScope st) f cdv A outer s H E) (fun cls d _ H => E cls d H) io (defBody st) fs ∧ ∀ os, os.length = ps.length → chk io 0 os = true → φ os ≠ .stuck → bodyF io os (fs (startE N os)) = φ os) :
    FnF P w K mg base (k + 1) f fd ps io φ := by
  refine F.okX S (fun vs H Q E h => h.1) (fun cdv A outer s H vs Q E hr h => ?_)
  obtain ⟨fs, ok, hφ⟩ := hb cdv A outer s H E hr (takes_of rfl rfl rfl rfl) (passes_of rfl)
  exact ⟨_, ok, fn_run (qual := qual) (f := f) (cdv := cdv) (A := A) (outer := outer) (s := s) (H0 := H) S hφ h⟩
end
end Fx

set_option Elab.async false
set_option linter.all false
set_option maxRecDepth 100000
set_option maxHeartbeats 1000000
namespace Fx
variable [FnSem]
open PySem L2
open PyProof.Rows (envOfC)

inductive PlsOk (K : PySem.W.Frag) (G : Hp) (σ : L2.St) : List V → List Pl → Prop
  | nil : PlsOk K G σ [] []
  | cons {v : V} {vs : List V} {p : Pl} {ps : List Pl} : PlOk K G σ v p → PlsOk K G σ vs ps → PlsOk K G σ (v :: vs) (p :: ps)
theorem PlsOk.length {K : PySem.W.Frag} {G : Hp} {σ : L2.St} : ∀ {vs : List V} {ps : List Pl}, PlsOk K G σ vs ps → vs.length = ps.length
  | _, _, .nil => rfl
  | _, _, .cons _ t => congrArg (· + 1) t.length
theorem PlsOk.get {K : PySem.W.Frag} {G : Hp} {σ : L2.St} : ∀ {vs : List V} {ps : List Pl} {i : Nat} {p : Pl}, PlsOk K G σ vs ps → ps[i]? = some p → ∃ v, vs[i]? = some v ∧ PlOk K G σ v p
  | _, _, _, _, .nil, e => by simp at e
  | _, _, 0, _, .cons h _, e => by cases e; exact ⟨_, rfl, h⟩
  | _, _, i + 1, _, .cons _ t, e => t.get (i := i) (by simpa using e)
theorem PlsOk.append {K : PySem.W.Frag} {G : Hp} {σ : L2.St} : ∀ {vs ws : List V} {ps qs : List Pl}, PlsOk K G σ vs ps → PlsOk K G σ ws qs → PlsOk K G σ (vs ++ ws) (ps ++ qs)
  | _, _, _, _, .nil, s => s
  | _, _, _, _, .cons h t, s => .cons h (t.append s)
theorem PlsOk.mono {K : PySem.W.Frag} {G G' : Hp} {σ : L2.St} (l : Le G G') : ∀ {vs : List V} {ps : List Pl}, PlsOk K G σ vs ps → PlsOk K G' σ vs ps
  | _, _, .nil => .nil
  | _, _, .cons h t => .cons (PlOk.mono l h) (t.mono l)
def Pl.geto : Pl → Env → Option O
  | .v x, _ => some (.v x)
  | .sl i, ρ => match ρ[i]? with
    | some (some o) => some o
    | _ => none
  | .f ψ, _ => some (.fn ψ)
def getAll : List Pl → Env → Option (List O)
  | [], _ => some []
  | p :: ps, ρ => match p.geto ρ, getAll ps ρ with
    | some o, some os => some (o :: os)
    | _, _ => none
def putAll : List Pl → List O → Env → Env
  | .sl i :: ps, o :: os, ρ => (putAll ps os ρ).set i (some o)
  | .v _ :: ps, _ :: os, ρ => putAll ps os ρ
  | .f _ :: ps, _ :: os, ρ => putAll ps os ρ
  | _, _, ρ => ρ
def slots : List Pl → List Nat
  | [] => []
  | .sl i :: ps => i :: slots ps
  | .v _ :: ps => slots ps
  | .f _ :: ps => slots ps
theorem getAll_get : ∀ {ps : List Pl} {ρ : Env} {os : List O} {j : Nat} {o : O}, getAll ps ρ = some os → os[j]? = some o → ∃ p, ps[j]? = some p ∧ p.geto ρ = some o
  | [], _, _, _, _, h, e => by cases h; simp at e
  | p :: ps, ρ, os, j, o, h, e => by
    unfold getAll at h
    split at h
    · rename_i a r e1 e2
      cases h
      cases j with
      | zero => cases e; exact ⟨p, rfl, e1⟩
      | succ j =>
        obtain ⟨q, h1, h2⟩ := getAll_get (j := j) e2 (by simpa using e)
        exact ⟨q, by simpa using h1, h2⟩
    · cases h
theorem getAll_len : ∀ {ps : List Pl} {ρ : Env} {os : List O}, getAll ps ρ = some os → os.length = ps.length
  | [], _, _, h => by cases h; rfl
  | p :: ps, ρ, os, h => by
    unfold getAll at h
    split at h
    · rename_i a r e1 e2
      cases h
      rw [List.length_cons, List.length_cons, getAll_len e2]
    · cases h
theorem mem_slots : ∀ {ps : List Pl} {i : Nat}, i ∈ slots ps ↔ ∃ j : Nat, ps[j]? = some (Pl.sl i)
  | [], i => by simp [slots]
  | .sl k :: ps, i => by
    unfold slots
    rw [List.mem_cons, mem_slots (ps := ps)]
    constructor
    · rintro (rfl | ⟨j, h⟩)
      · exact ⟨0, rfl⟩
      · exact ⟨j + 1, by simpa using h⟩
    · rintro ⟨j, h⟩
      cases j with
      | zero => cases h; exact .inl rfl
      | succ j => exact .inr ⟨j, by simpa using h⟩
  | .v x :: ps, i => by
    unfold slots
    rw [mem_slots (ps := ps)]
    constructor
    · rintro ⟨j, h⟩
      exact ⟨j + 1, by simpa using h⟩
    · rintro ⟨j, h⟩
      cases j with
      | zero => cases h
      | succ j => exact ⟨j, by simpa using h⟩
  | .f x :: ps, i => by
    unfold slots
    rw [mem_slots (ps := ps)]
    constructor
    · rintro ⟨j, h⟩
      exact ⟨j + 1, by simpa using h⟩
    · rintro ⟨j, h⟩
      cases j with
      | zero => cases h
      | succ j => exact ⟨j, by simpa using h⟩
theorem slots_inj : ∀ {ps : List Pl} {i j k : Nat}, (slots ps).Nodup → ps[j]? = some (.sl i) → ps[k]? = some (.sl i) → j = k
  | [], _, _, _, _, h, _ => by simp at h
  | p :: ps, i, 0, 0, _, _, _ => rfl
  | p :: ps, i, 0, k + 1, n, h1, h2 => by
    cases h1
    unfold slots at n
    exact absurd (mem_slots.mpr ⟨k, by simpa using h2⟩) (List.nodup_cons.mp n).1
  | p :: ps, i, j + 1, 0, n, h1, h2 => by
    cases h2
    unfold slots at n
    exact absurd (mem_slots.mpr ⟨j, by simpa using h1⟩) (List.nodup_cons.mp n).1
  | .sl _ :: ps, i, j + 1, k + 1, n, h1, h2 => by
    unfold slots at n
    rw [slots_inj (j := j) (k := k) (List.nodup_cons.mp n).2 (by simpa using h1) (by simpa using h2)]
  | .v _ :: ps, i, j + 1, k + 1, n, h1, h2 => by
    unfold slots at n
    rw [slots_inj (j := j) (k := k) n (by simpa using h1) (by simpa using h2)]
  | .f _ :: ps, i, j + 1, k + 1, n, h1, h2 => by
    unfold slots at n
    rw [slots_inj (j := j) (k := k) n (by simpa using h1) (by simpa using h2)]
theorem putAll_len : ∀ {ps : List Pl} {os : List O} {ρ : Env}, (putAll ps os ρ).length = ρ.length
  | [], _, _ => by simp [putAll]
  | .sl _ :: _, [], _ => by simp [putAll]
  | .v _ :: _, [], _ => by simp [putAll]
  | .f _ :: _, [], _ => by simp [putAll]
  | .sl i :: ps, o :: os, ρ => by unfold putAll; rw [List.length_set, putAll_len]
  | .v _ :: ps, o :: os, ρ => by unfold putAll; exact putAll_len
  | .f _ :: ps, o :: os, ρ => by unfold putAll; exact putAll_len
theorem putAll_out : ∀ {ps : List Pl} {os : List O} {ρ : Env} {i : Nat}, i ∉ slots ps → (putAll ps os ρ)[i]? = ρ[i]?
  | [], _, _, _, _ => by simp [putAll]
  | .sl _ :: _, [], _, _, _ => by simp [putAll]
  | .v _ :: _, [], _, _, _ => by simp [putAll]
  | .f _ :: _, [], _, _, _ => by simp [putAll]
  | .sl k :: ps, o :: os, ρ, i, h => by
    unfold slots at h
    unfold putAll
    rw [List.getElem?_set_ne (fun e => h (by rw [e]; exact List.mem_cons_self)), putAll_out fun m => h (List.mem_cons_of_mem _ m)]
  | .v _ :: ps, o :: os, ρ, i, h => by
    unfold slots at h
    unfold putAll
    exact putAll_out h
  | .f _ :: ps, o :: os, ρ, i, h => by
    unfold slots at h
    unfold putAll
    exact putAll_out h
theorem putAll_in : ∀ {ps : List Pl} {os : List O} {ρ : Env} {i j : Nat} {o : O}, (slots ps).Nodup → ps[j]? = some (.sl i) → os[j]? = some o → i < ρ.length → (putAll ps os ρ)[i]? = some (some o)
  | [], _, _, _, _, _, _, h, _, _ => by simp at h
  | _ :: _, [], _, _, _, _, _, _, h, _ => by simp at h
  | .sl k :: ps, o' :: os, ρ, i, 0, o, n, h1, h2, hl => by
    cases h1; cases h2
    unfold putAll
    exact List.getElem?_set_self (by rw [putAll_len]; exact hl)
  | .v k :: ps, o' :: os, ρ, i, 0, o, n, h1, h2, hl => by cases h1
  | .f k :: ps, o' :: os, ρ, i, 0, o, n, h1, h2, hl => by cases h1
  | .sl k :: ps, o' :: os, ρ, i, j + 1, o, n, h1, h2, hl => by
    unfold slots at n
    unfold putAll
    have hm : i ∈ slots ps := mem_slots.mpr ⟨j, by simpa using h1⟩
    rw [List.getElem?_set_ne (fun e => (List.nodup_cons.mp n).1 (by rw [e]; exact hm))]
    exact putAll_in (j := j) (List.nodup_cons.mp n).2 (by simpa using h1) (by simpa using h2) hl
  | .v k :: ps, o' :: os, ρ, i, j + 1, o, n, h1, h2, hl => by
    unfold slots at n
    unfold putAll
    exact putAll_in (j := j) n (by simpa using h1) (by simpa using h2) hl
  | .f k :: ps, o' :: os, ρ, i, j + 1, o, n, h1, h2, hl => by
    unfold slots at n
    unfold putAll
    exact putAll_in (j := j) n (by simpa using h1) (by simpa using h2) hl

def tPls (K : PySem.W.Frag) (mg : Str → Option Value) (W : WX) (f : FE (List Pl)) : TA := fun σ H Q => ∃ G ρ F, Rel K mg G H σ ρ F ∧ Post K mg W σ F G H (fun ps G' H' => ∀ vs, PlsOk K G' σ vs ps → Q vs H') (f ρ)
abbrev OkAs (X : Cx) (W : WX) (es : List Expr) (f : FE (List Pl)) : Prop := PA X es (tPls X.K X.mg W f)
def nilA : FE (List Pl) := fun ρ => .ok [] ρ
def consA (f : FE Pl) (g : FE (List Pl)) : FE (List Pl) := fun ρ => (f ρ).bind fun x ρ => (g ρ).bind fun xs ρ => .ok (x :: xs) ρ
section
variable {X : Cx} {W : WX} {e : Expr} {es : List Expr} {f : FE Pl} {g : FE (List Pl)}
theorem oka_nil : OkAs X W [] nilA := pa_nil.to fun σ H Q h => by
  obtain ⟨G, ρ, F, rl, p⟩ := h
  exact p G H F rl .refl [] .nil
theorem oka_cons (ha : OkB X W e f) (hs : OkAs X W es g) (hst : starEach (e :: es) X.env = (false, eval e X.env) :: starEach es X.env := by rfl) : OkAs X W (e :: es) (consA f g) := by
  refine (pa_cons ha hs hst).to fun σ H Q h => ?_
  obtain ⟨G, ρ, F, rl, p⟩ := h
  refine ⟨G, ρ, F, rl, Post.bind p fun x ρ1 G1 H1 F1 _ rl1 st1 p1 v rv => ⟨G1, ρ1, F1, rl1, Post.bind p1 fun xs ρ2 G2 H2 F2 _ rl2 st2 p2 vs rvs => ?_⟩⟩
  exact p2 G2 H2 F2 rl2 .refl (v :: vs) (.cons (rv.mono st2.le) rvs)
end

def callP (io : List Nat) (φ : List O → RF) (pls : List Pl) (ρ : Env) : R O := match getAll pls ρ with
  | some os => if (slots pls).Nodup ∧ chk io 0 os = true then (match φ os with
    | .ok o os' => .ok o (putAll pls os' ρ)
    | .ex e os' => .ex e (putAll pls os' ρ)
    | .stuck => .stuck) else .stuck
  | none => .stuck
def callF (io : List Nat) (φ : List O → RF) (f : FE (List Pl)) : FE O := fun ρ => (f ρ).bind fun pls ρ => callP io φ pls ρ
section
variable {K : PySem.W.Frag} {mg : Str → Option Value} {G H : Hp} {σ : L2.St} {ρ : Env} {F : Fp}
def subF (pls : List Pl) (F : Fp) : Fp := fun j a => ∃ i, pls[j]? = some (.sl i) ∧ F i a
theorem Rel.sub1 (rl : Rel K mg G H σ ρ F) {vs : List V} {pls : List Pl} {os : List O} (h : PlsOk K G σ vs pls) (eg : getAll pls ρ = some os) (nd : (slots pls).Nodup) : Rel K mg G H (vs.map some) (os.map some) (subF pls F) := by
  refine ⟨?_, fun j o e => ?_, fun j k a hjk ⟨i, e1, z1⟩ ⟨i', e2, z2⟩ => ?_, fun j a ⟨i, _, z⟩ => rl.out i a z, fun j a ⟨i, e, z⟩ => ?_, rl.subT⟩
  · rw [List.length_map, List.length_map, h.length, getAll_len eg]
  · rw [List.getElem?_map] at e
    cases q : os[j]? with
    | none => rw [q] at e; cases e
    | some u =>
      rw [q] at e; cases e
      obtain ⟨p, hp, ho⟩ := getAll_get eg q
      obtain ⟨v, hv, pv⟩ := h.get hp
      refine ⟨v, by rw [List.getElem?_map, hv]; rfl, ?_⟩
      cases p with
      | v x =>
        cases ho
        have : subF pls F j = fun _ => False := by
          funext a
          exact propext ⟨fun ⟨i, e, _⟩ => (by rw [hp] at e; cases e), fun z => z.elim⟩
        rw [this]
        exact .c (.val pv)
      | f ψ =>
        cases ho
        have : subF pls F j = fun _ => False := by
          funext a
          exact propext ⟨fun ⟨i, e, _⟩ => (by rw [hp] at e; cases e), fun z => z.elim⟩
        rw [this]
        obtain ⟨a, e, q⟩ := pv
        subst e
        exact .fn q
      | sl i =>
        have ho' : (match ρ[i]? with | some (some o) => some o | _ => none) = some o := ho
        have e1 : ρ[i]? = some (some o) := by
          split at ho'
          · rename_i q; cases ho'; exact q
          · cases ho'
        obtain ⟨u, e2, ok⟩ := rl.ok i o e1
        rw [show σ[i]? = some (some v) from pv] at e2
        cases e2
        have : subF pls F j = F i := by
          funext a
          exact propext ⟨fun ⟨i', e, z⟩ => (by rw [hp] at e; cases e; exact z), fun z => ⟨i, hp, z⟩⟩
        rw [this]
        exact ok
  · by_cases hi : i = i'
    · subst hi; exact hjk (slots_inj nd e1 e2)
    · exact rl.dis i i' a hi z1 z2
  · have hj : j < os.length := by rw [getAll_len eg]; exact (List.getElem?_eq_some_iff.mp e).1
    exact ⟨os[j], by rw [List.getElem?_map, List.getElem?_eq_getElem hj]; rfl⟩
def supF (pls : List Pl) (F Fc : Fp) : Fp := fun i a => (∃ j, pls[j]? = some (.sl i) ∧ Fc j a) ∨ (i ∉ slots pls ∧ F i a)
theorem Rel.sup1 (rl : Rel K mg G H σ ρ F) {vs : List V} {pls : List Pl} {os os' : List O} (h : PlsOk K G σ vs pls) (eg : getAll pls ρ = some os) (nd : (slots pls).Nodup) {G' H' : Hp} {Fc : Fp} (rc : Rel K mg G' H' (vs.map some) (os'.map some) Fc)
    (st : Stp (subF pls F) G H G' H' Fc) : Rel K mg G' H' σ (putAll pls os' ρ) (supF pls F Fc) ∧ Stp F G H G' H' (supF pls F Fc) ∧ ∀ a, Fc.U a → ∀ i, i ∉ slots pls → ¬ F i a := by
  have len : os'.length = pls.length := by
    have := rc.len
    rw [List.length_map, List.length_map] at this
    rw [← this, h.length]
  have apart : ∀ {i j : Nat} {a : Addr}, i ∉ slots pls → F i a → ¬ Fc j a := fun {i j a} hi z zc => by
    rcases st.own j a zc with ⟨k, e, z2⟩ | hn
    · exact rl.dis i k a (fun e2 => hi (by rw [e2]; exact mem_slots.mpr ⟨j, e⟩)) z z2
    · exact (rl.out i a z).2 hn
  have notin : ∀ {i : Nat} {a : Addr}, i ∉ slots pls → F i a → ¬ (subF pls F).U a := fun {i a} hi z ⟨j, k, e, z2⟩ => rl.dis i k a (fun e2 => hi (by rw [e2]; exact mem_slots.mpr ⟨j, e⟩)) z z2
  refine ⟨⟨by rw [putAll_len]; exact rl.len, fun i o e => ?_, fun i k a hik h1 h2 => ?_, fun i a z => ?_, fun i a z => ?_, rc.subT⟩, ⟨st.le, fun a o e n => st.fr a o e fun ⟨j, i, e1, z⟩ => n ⟨i, z⟩, fun a e g n => st.fresh a e g fun ⟨j, i, e1, z⟩ => n ⟨i, z⟩, st.there, fun i a z => ?_⟩, fun a ⟨j, z⟩ i hi y => apart hi y z⟩
  · by_cases hi : i ∈ slots pls
    · obtain ⟨j, hj⟩ := mem_slots.mp hi
      have hjl : j < os'.length := by rw [len]; exact (List.getElem?_eq_some_iff.mp hj).1
      have hiρ : i < ρ.length := by
        have := (List.getElem?_eq_some_iff.mp e).1
        rwa [putAll_len] at this
      rw [putAll_in nd hj (List.getElem?_eq_getElem hjl) hiρ] at e
      cases e
      obtain ⟨v, e1, ok⟩ := rc.ok j os'[j] (by rw [List.getElem?_map, List.getElem?_eq_getElem hjl]; rfl)
      obtain ⟨u, hu, pu⟩ := h.get hj
      rw [List.getElem?_map, hu] at e1
      cases e1
      refine ⟨_, pu, ?_⟩
      have : supF pls F Fc i = Fc j := by
        funext a
        exact propext ⟨fun z => z.elim (fun ⟨k, e, z⟩ => by rw [slots_inj nd hj e]; exact z) fun z => absurd hi z.1, fun z => .inl ⟨j, hj, z⟩⟩
      rw [this]
      exact ok
    · rw [putAll_out hi] at e
      obtain ⟨v, e1, ok⟩ := rl.ok i o e
      refine ⟨v, e1, ?_⟩
      have : supF pls F Fc i = F i := by
        funext a
        exact propext ⟨fun z => z.elim (fun ⟨k, e, _⟩ => absurd (mem_slots.mpr ⟨k, e⟩) hi) fun z => z.2, fun z => .inr ⟨hi, z⟩⟩
      rw [this]
      exact ok.mono2 st.le fun a u z q => st.fr a u q (notin hi z)
  · rcases h1 with ⟨j, e1, z1⟩ | ⟨n1, z1⟩
    · rcases h2 with ⟨l, e2, z2⟩ | ⟨n2, z2⟩
      · exact rc.dis j l a (fun e => hik (by subst e; rw [e1] at e2; cases e2; rfl)) z1 z2
      · exact apart n2 z2 z1
    · rcases h2 with ⟨l, e2, z2⟩ | ⟨n2, z2⟩
      · exact apart n1 z1 z2
      · exact rl.dis i k a hik z1 z2
  · rcases z with ⟨j, e, z⟩ | ⟨n, z⟩
    · exact rc.out j a z
    · exact ⟨st.fresh a (rl.out i a z).2 (rl.out i a z).1 (notin n z), st.there a (rl.out i a z).2⟩
  · rcases z with ⟨j, e, z⟩ | ⟨n, z⟩
    · obtain ⟨v, hv, pv⟩ := h.get e
      obtain ⟨o, eo⟩ := rc.non j a z
      rw [List.getElem?_map] at eo
      cases q : os'[j]? with
      | none => rw [q] at eo; cases eo
      | some u =>
        have hi : i < ρ.length := by
          rw [← rl.len]
          exact (List.getElem?_eq_some_iff.mp (show σ[i]? = some (some v) from pv)).1
        exact ⟨_, putAll_in nd e q hi⟩
    · rw [putAll_out n]; exact rl.non i a z
  · rcases z with ⟨j, e, z⟩ | ⟨n, z⟩
    · rcases st.own j a z with ⟨k, e2, z2⟩ | hn
      · rw [e] at e2; cases e2; exact .inl z2
      · exact .inr hn
    · exact .inl z
theorem call_sp {W : WX} {io : List Nat} {n : Nat} {φ : List O → RF} {vs : List V} {pls : List Pl} {Q : VK} (rl : Rel K mg G H σ ρ F) (h : PlsOk K G σ vs pls) (hn : pls.length = n) (p : PostO K mg W σ F G H Q (callP io φ pls ρ)) : spF K mg io n φ vs H Q (WE W σ) := by
  unfold callP at p
  cases eg : getAll pls ρ with
  | none => rw [eg] at p; exact p.elim
  | some os =>
    rw [eg] at p
    simp only at p
    split at p
    · rename_i hc
      refine ⟨h.length.trans hn, G, os, subF pls F, (getAll_len eg).trans hn, hc.2, rl.sub1 h eg hc.1, ?_⟩
      cases hφ : φ os with
      | ok o os' =>
        rw [hφ] at p
        intro G' H' Fc v S rc st ok z
        obtain ⟨r2, s2, ap⟩ := rl.sup1 h eg hc.1 rc st
        refine p G' H' _ v S r2 s2 ok fun a q => ⟨(z a q).1, (z a q).2.1, (z a q).2.2.1, ?_⟩
        rintro ⟨i, ⟨j, _, y⟩ | ⟨_, y⟩⟩
        · exact (z a q).2.2.2 ⟨j, y⟩
        · exact (rl.out i a y).2 (z a q).1
      | ex e os' =>
        rw [hφ] at p
        intro cv d G' H' Fc rc st x
        obtain ⟨r2, s2, _⟩ := rl.sup1 h eg hc.1 rc st
        exact p cv d G' H' _ r2 s2 x
      | stuck => rw [hφ] at p; exact p.elim
    · exact p.elim
end
section
variable {X : Cx} {W : WX} {k : Nat} {f : Addr} {fd : FuncData} {ps : List Str} {io : List Nat} {φ : List O → RF} {x : Str} {p pos : Pos} {e : Expr} {es : List Expr} {g : FE (List Pl)}
theorem t_call {K : PySem.W.Frag} {mg : Str → Option Value} {σ : L2.St} {H : Hp} {Q : VK} {n : Nat} (hn : ∀ ρ pls ρ', g ρ = .ok pls ρ' → pls.length = n) (h : tO K mg W (callF io φ g) σ H Q) : tCallS (spF K mg io n φ) (WE W) (tPls K mg W g) σ H Q := by
  obtain ⟨G, ρ, F, rl, p⟩ := h
  exact ⟨G, ρ, F, rl, PostO.bind p fun pls ρ1 G1 H1 F1 e1 rl1 st1 p1 vs rv => call_sp rl1 rv (hn _ _ _ e1) p1⟩
theorem consA_len {f : FE Pl} {g : FE (List Pl)} {n : Nat} (h : ∀ ρ pls ρ', g ρ = .ok pls ρ' → pls.length = n) : ∀ ρ pls ρ', consA f g ρ = .ok pls ρ' → pls.length = n + 1 := fun ρ pls ρ' e => by
  unfold consA at e
  cases h1 : f ρ with
  | ok x ρ1 =>
    rw [h1] at e
    simp only [R.bind] at e
    cases h2 : g ρ1 with
    | ok xs ρ2 => rw [h2] at e; cases e; rw [List.length_cons, h _ _ _ h2]
    | ex _ _ => rw [h2] at e; cases e
    | stuck => rw [h2] at e; cases e
  | ex _ _ => rw [h1] at e; cases e
  | stuck => rw [h1] at e; cases e
theorem nilA_len : ∀ ρ pls ρ', nilA ρ = .ok pls ρ' → pls.length = 0 := fun ρ pls ρ' e => by cases e; rfl
theorem ok_call (F : FnF X.prog X.w X.K X.mg X.base k f fd ps io φ) (tk : Takes X W) (hr : Room k X.A) (hg : Gl X x) (hm : X.mg x = some (.ref f)) (hk : PySem.W.keepIn X.K (.ref f) = true) (hb : Binds X.K fd ps []) (ha : OkAs X W (e :: es) g)
    (hn : ∀ ρ pls ρ', g ρ = .ok pls ρ' → pls.length = ps.length) (hdb : (x == ("__debug__" : Str)) = false := by decide) (he : starEach (e :: es) X.env = (false, eval e X.env) :: starEach es X.env := by rfl) (hpl : (backTo pos (starEach es X.env)).any (·.1) = false := by rfl) :
    OkO X W (.Call (.Name x p) (e :: es) [] pos) (callF io φ g) := (pe_callS F hr hg hm hk hb (passAt tk) ha hdb he hpl).to fun σ H Q h => t_call hn h
end
end Fx

set_option Elab.async false
set_option linter.all false
set_option maxRecDepth 100000
set_option maxHeartbeats 1000000
namespace Fx
variable [FnSem]
open PySem L2
open PyProof.Rows (envOfC)

theorem Rel.noTab {K : PySem.W.Frag} {mg : Str → Option Value} {G H : Hp} {σ : L2.St} {ρ : Env} {F : Fp} (rl : Rel K mg G H σ ρ F) {i : Nat} {p : Addr} (hF : ∀ a, F i a ↔ a = p) : ∃ o, H p = some o ∧ NoTab o := by
  obtain ⟨o, e⟩ := rl.non i p ((hF p).mpr rfl)
  obtain ⟨v, _, ok⟩ := rl.ok i o e
  generalize hS : F i = S at ok hF
  cases ok with
  | c ok =>
    cases ok with
    | val _ => exact ((hF p).mpr rfl).elim
    | lst h _ => have := (hF p).mpr rfl; subst this; exact ⟨_, h, noTab_lst⟩
    | dk h _ => have := (hF p).mpr rfl; subst this; exact ⟨_, h, noTab_dK⟩
    | dt h _ => have := (hF p).mpr rfl; subst this; exact ⟨_, h, noTab_dT⟩
    | tb h _ => have := (hF p).mpr rfl; subst this; exact ⟨_, h, noTab_tb⟩
  | ins h =>
    have hp := (hF _).mp h.own
    obtain ⟨⟨C, dx, vs, h1, _⟩, _⟩ := h
    rw [hp] at h1
    exact ⟨_, h1, noTab_ins⟩
  | fn _ => exact ((hF p).mpr rfl).elim
theorem Rel.mut {K : PySem.W.Frag} {mg : Str → Option Value} {G H : Hp} {σ : L2.St} {ρ : Env} {F : Fp} (rl : Rel K mg G H σ ρ F) {i : Nat} {p : Addr} {o : HO} {c : C1} (hσ : σ[i]? = some (some (.ref p))) (hF : ∀ a, F i a ↔ a = p)
    (ok : C1Ok K G (upd H p o) (.ref p) c fun a => a = p) : Rel K mg G (upd H p o) σ (ρ.set i (some (.c c))) F ∧ Stp F G H G (upd H p o) F := by
  have hp : F i p := (hF p).mpr rfl
  have ne : ∀ {j : Nat} {a : Addr}, j ≠ i → F j a → a ≠ p := fun {j a} hj z e => rl.dis j i a hj z ((hF a).mpr e)
  have hl : i < ρ.length := by rw [← rl.len]; exact (List.getElem?_eq_some_iff.mp hσ).1
  refine ⟨⟨by rw [List.length_set]; exact rl.len, fun j u e => ?_, rl.dis, fun j a z => ?_, fun j a z => ?_, (let ⟨_, h1, h2⟩ := rl.noTab hF; rl.subT.own h1 h2 (rl.out i p hp).1)⟩, ⟨Le.refl _, fun a u e n _ => ?_, fun _ _ g _ => g, fun a h => ?_, fun _ _ z => .inl z⟩⟩
  · by_cases hj : j = i
    · subst hj
      rw [List.getElem?_set_self hl] at e
      cases e
      refine ⟨_, hσ, ?_⟩
      have : F j = fun a => a = p := by
        funext a
        exact propext (hF a)
      rw [this]
      exact .c ok
    · rw [List.getElem?_set_ne (Ne.symm hj)] at e
      obtain ⟨v, e1, e2⟩ := rl.ok j u e
      exact ⟨v, e1, e2.mono (Le.refl _) fun a x z q => by rw [upd_ne (ne hj z)]; exact q⟩
  · refine ⟨(rl.out j a z).1, ?_⟩
    by_cases ha : a = p
    · rw [ha, upd_same]; exact fun e => nomatch e
    · rw [upd_ne ha]; exact (rl.out j a z).2
  · by_cases hj : j = i
    · subst hj; exact ⟨_, List.getElem?_set_self hl⟩
    · obtain ⟨u, e⟩ := rl.non j a z
      exact ⟨u, by rw [List.getElem?_set_ne (Ne.symm hj)]; exact e⟩
  · rw [upd_ne fun z => n ⟨i, by rw [z]; exact hp⟩]
    exact e
  · by_cases ha : a = p
    · rw [ha, upd_same]; exact fun e => nomatch e
    · rw [upd_ne ha]; exact h
theorem Rel.lst {K : PySem.W.Frag} {mg : Str → Option Value} {G H : Hp} {σ : L2.St} {ρ : Env} {F : Fp} (rl : Rel K mg G H σ ρ F) {i : Nat} {ds : List D} (e : ρ[i]? = some (some (.c (.lst ds)))) :
    ∃ p vs, σ[i]? = some (some (.ref p)) ∧ H p = some (.lst vs) ∧ RpL K G vs ds ∧ ∀ a, F i a ↔ a = p := by
  obtain ⟨v, e1, ok⟩ := rl.ok i _ e
  generalize hF : F i = S at ok
  cases ok with
  | c ok =>
    cases ok with
    | lst h r => exact ⟨_, _, e1, h, r, fun a => by simp⟩
def ownL (p : Pl) (ρ : Env) : Option (Nat × List D) := match p with
  | .sl i => match ρ[i]? with
    | some (some (.c (.lst xs))) => some (i, xs)
    | _ => none
  | .v _ => none
  | .f _ => none
theorem ownL_eq {p : Pl} {ρ : Env} {i : Nat} {xs : List D} (h : ownL p ρ = some (i, xs)) : p = .sl i ∧ ρ[i]? = some (some (.c (.lst xs))) := by
  unfold ownL at h
  split at h
  · split at h
    · rename_i e
      cases h
      exact ⟨rfl, e⟩
    · cases h
  · cases h
  · cases h
theorem Rel.ownL {K : PySem.W.Frag} {mg : Str → Option Value} {G H : Hp} {σ : L2.St} {ρ : Env} {F : Fp} (rl : Rel K mg G H σ ρ F) {p : Pl} {v : V} {i : Nat} {ds : List D} (pu : PlOk K G σ v p) (h : Fx.ownL p ρ = some (i, ds)) :
    ∃ q vs, v = .ref q ∧ H q = some (.lst vs) ∧ RpL K G vs ds ∧ ∀ (o : HO) (ds' : List D), C1Ok K G (upd H q o) (.ref q) (.lst ds') (fun a => a = q) → Rel K mg G (upd H q o) σ (ρ.set i (some (.c (.lst ds')))) F ∧ Stp F G H G (upd H q o) F := by
  obtain ⟨rfl, e⟩ := ownL_eq h
  obtain ⟨q, vs, e2, e3, r, hF⟩ := rl.lst e
  rw [show σ[i]? = some (some v) from pu] at e2
  cases e2
  exact ⟨q, vs, rfl, e3, r, fun o ds' ok => rl.mut pu hF ok⟩
def setItF (f : FE Pl) (fi fe : FE D) : FS := fun ρ => bindS (fe ρ) fun d ρ => bindS (f ρ) fun pl ρ => bindS (fi ρ) fun k ρ => match ownL pl ρ, k with
  | some (i, xs), .int k => match ixN xs.length k with
    | some j => .nx (ρ.set i (some (.c (.lst (xs.set j d)))))
    | none => .stuck
  | _, _ => .stuck
def appF (f : FE Pl) (fe : FE D) : FS := fun ρ => bindS (f ρ) fun pl ρ => match ownL pl ρ with
  | some _ => bindS (fe ρ) fun d ρ => (match ownL pl ρ with
    | some (i, xs) => if xs.length < sizeLine then .nx (ρ.set i (some (.c (.lst (xs ++ [d]))))) else .stuck
    | none => .stuck)
  | none => .stuck
section
variable {X : Cx} {W : WX} {io : List Nat} {e a b : Expr} {es : List Expr} {pos : Pos} {fa fb fe fi : FE D} {f : FE Pl}
theorem ok_setIt {k : Expr} {p2 : Pos} (hb : OkB X W b f) (hi : OkD X W k fi) (he : OkD X W e fe)
    (ha : ∀ v, assign (.Subscript b k p2) X.env v = (do
      let ov ← holding [v] (eval b X.env)
      let iv ← holding [v, ov] (eval k X.env)
      standAt p2
      holding [v, ov, iv] (setItem ov iv v)
      release [v, ov, iv] []) := by intro _; rfl)
    (hs : swapsWithSole [.Subscript b k p2] e pos.line X.env = pure false := by rfl) (hw : swappedStores [.Subscript b k p2] e X.env = pure none := by rfl) (h1 : (assignEach [.Subscript b k p2] X.env).map (·.2) = [assign (.Subscript b k p2) X.env] := by rfl) :
    OkS X W io (.Assign [.Subscript b k p2] e pos) (setItF f fi fe) := (ps_asg he (pg_sub hb hi set_list ha) hs hw h1).to fun Dn σ H q => by
  obtain ⟨G, ρ, F, rl, p⟩ := q
  refine ⟨G, ρ, F, rl, PostS.bind p fun d ρ1 G1 H1 F1 _ rl1 st1 p1 v rv => ⟨G1, ρ1, F1, rl1, PostS.bind p1 fun pl ρ2 G2 H2 F2 _ rl2 st2 p2 u pu => ⟨G2, ρ2, F2, rl2, PostS.bind p2 fun k ρ3 G3 H3 F3 _ rl3 st3 p3 w rw => ?_⟩⟩⟩
  cases eo : ownL pl ρ3 with
  | none => simp only [eo] at p3; exact p3.elim
  | some ix =>
    obtain ⟨i, xs⟩ := ix
    simp only [eo] at p3
    obtain ⟨q, vs, rfl, e3, r, up⟩ := rl3.ownL (PlOk.mono st3.le pu) eo
    cases rw with
    | int kk =>
      cases hj : ixN xs.length kk with
      | none => simp only [hj] at p3; exact p3.elim
      | some j =>
        simp only [hj] at p3
        refine ⟨q, vs, kk, j, rfl, rfl, e3, by rw [r.length]; exact hj, ?_⟩
        obtain ⟨r4, s4⟩ := up (.lst (vs.set j v)) (xs.set j d) (.lst upd_same (r.set (rv.mono (st2.le.trans st3.le)) j))
        exact p3 σ G3 _ F3 r4 s4 fun _ _ => rfl
    | _ => exact p3.elim
def varFzF (i : Nat) : FE D := fun ρ => match ρ[i]? with
  | some (some o) => match frzT o with
    | some d => .ok d (ρ.set i (some (.v d)))
    | none => .stuck
  | _ => .stuck
theorem ok_varFz (i : Nat) {x : Str} (hN : X.N[i]? = some x := by rfl) (hv : Vis X.env.scope x := by first | exact Or.inl rfl | exact Or.inr (Or.inl rfl) | exact Or.inr (Or.inr rfl)) (hd : (x == ("__debug__" : Str)) = false := by decide)
    (hcd : (x == ("__classdict__" : Str)) = false := by decide) : OkD X W (.Name x pos) (varFzF i) := by
  refine ⟨fun pins s σ H Q I h => ?_⟩
  refine thn ((pe_var (i := i) hN hv hd hcd).run pins s σ H (LockQ Q) I ?_) fun u s1 hq => lockQ_end hq
  obtain ⟨G, ρ, F, rl, p⟩ := h
  unfold varFzF at p
  split at p
  · rename_i o e
    cases ef : frzT o with
    | none => rw [ef] at p; exact p.elim
    | some d =>
      rw [ef] at p
      obtain ⟨v, e1, ok⟩ := rl.ok i o e
      refine ⟨v, e1, ?_⟩
      have hl : i < ρ.length := (List.getElem?_eq_some_iff.mp e).1
      -- forget the slot, freeze, store the value
      have rl0 : Rel X.K X.mg G H σ (ρ.set i none) (fun j a => j ≠ i ∧ F j a) := by
        refine ⟨by rw [List.length_set]; exact rl.len, fun j u e2 => ?_, fun j k a hjk h1 h2 => rl.dis j k a hjk h1.2 h2.2, fun j a h1 => rl.out j a h1.2, fun j a h1 => ?_, rl.subT⟩
        · by_cases hj : j = i
          · subst hj; rw [List.getElem?_set_self hl] at e2; cases e2
          · rw [List.getElem?_set_ne (Ne.symm hj)] at e2
            obtain ⟨w, e3, e4⟩ := rl.ok j u e2
            refine ⟨w, e3, ?_⟩
            have : (fun a => j ≠ i ∧ F j a) = F j := by
              funext a
              exact propext ⟨fun h => h.2, fun h => ⟨hj, h⟩⟩
            rw [this]
            exact e4
        · obtain ⟨u, e2⟩ := rl.non j a h1.2
          exact ⟨u, by rw [List.getElem?_set_ne (Ne.symm h1.1)]; exact e2⟩
      have st0 : Stp F G H G H (fun j a => j ≠ i ∧ F j a) := ⟨Le.refl _, fun _ _ h _ _ => h, fun _ _ h _ => h, fun _ h => h, fun j a z => .inl z.2⟩
      have hσ : σ.set i (some v) = σ := by
        refine List.ext_getElem? fun j => ?_
        by_cases hj : j = i
        · subst hj
          rw [List.getElem?_set_self (by rw [rl.len]; exact hl), e1]
        · rw [List.getElem?_set_ne (Ne.symm hj)]
      have fin : ∀ G2 H2, Rel X.K X.mg G2 H2 σ (ρ.set i none) (fun j a => j ≠ i ∧ F j a) → Stp F G H G2 H2 (fun j a => j ≠ i ∧ F j a) → Rp X.K G2 v d → Q v H2 := fun G2 H2 r2 s2 q2 => by
        have r3 := r2.set i (v := v) (.c (.val q2)) (S := fun _ => False) fun _ z => z.elim
        rw [List.set_set, hσ] at r3
        exact p G2 H2 _ r3 (s2.set fun _ z => z.elim) v q2
      rcases frzT_of ef with e3 | ⟨xs, e3, e4⟩
      · obtain ⟨G2, r2, q2, s2⟩ := frz_ok rl0 ok e3 fun a z => ⟨(rl.out i a z).1, fun ⟨j, hj, z2⟩ => rl.dis j i a hj z2 z⟩
        exact .inl (fin G2 H r2 (s2 F G H st0 fun a z => .inr ⟨i, z⟩) q2)
      · subst e3 e4
        generalize hS : F i = S at ok
        cases ok with
        | c ok =>
          cases ok with
          | @tb q vs ds hh rr =>
            have zq : F i q := by rw [hS]
            have g : G q = none := (rl.out i q zq).1
            exact .inr ⟨q, vs, hh, fun od => fin _ _ (rl0.lck hh g (fun ⟨j, hj, z2⟩ => rl.dis j i q hj z2 zq) (fun _ => nofun) _) (st0.lck _ g (.inr ⟨i, zq⟩)) (.tb upd_same (rr.mono (Le.upd g)))⟩
  · exact p.elim
end
end Fx

set_option Elab.async false
set_option linter.all false
set_option maxRecDepth 100000
set_option maxHeartbeats 1000000
namespace Fx
variable [FnSem]
open PySem L2
open PyProof.Rows (envOfC)

def wipeE (ρ : Env) : List Nat → Env
  | [] => ρ
  | v :: vs => (wipeE ρ vs).set v none
def restE (ρ ρ' : Env) : List Nat → Env
  | [] => ρ'
  | v :: vs => match ρ[v]? with
    | some x => (restE ρ ρ' vs).set v x
    | none => restE ρ ρ' vs
def plainVs (ρ : Env) (vs : List Nat) : Bool := vs.all fun v => match ρ[v]? with
  | some (some o) => isV o
  | _ => true
def compGo (vs : List Nat) (g : FG) (ft : FE Bool) (fe : FE D) : List D → Env → R (List D)
  | [], ρ => .ok [] ρ
  | d :: ds, ρ => match g d (wipeE ρ vs) with
    | some ρ1 => (ft ρ1).bind fun b ρ2 => if b = true then (fe ρ2).bind fun y ρ3 => (compGo vs g ft fe ds (restE ρ ρ3 vs)).bind fun ys ρ4 => .ok (y :: ys) ρ4 else compGo vs g ft fe ds (restE ρ ρ2 vs)
    | none => .stuck
def yesF : FE Bool := fun ρ => .ok true ρ
def noEx {α : Type} (f : FE α) : FE α := fun ρ => match f ρ with
  | .ex _ _ => .stuck
  | r => r
def lcF (fi : FE (List D)) (vs : List Nat) (g : FG) (ft : FE Bool) (fe : FE D) : FE O := fun ρ => (fi ρ).bind fun ds ρ => if ds.length < sizeLine ∧ plainVs ρ vs = true then (compGo vs g (noEx ft) (noEx fe) ds ρ).bind fun ys ρ => .ok (.c (.lst ys)) ρ else .stuck

theorem wipeE_len (ρ : Env) : ∀ vs, (wipeE ρ vs).length = ρ.length
  | [] => rfl
  | v :: vs => by unfold wipeE; rw [List.length_set, wipeE_len ρ vs]
theorem wipeE_some {ρ : Env} {i : Nat} {o : O} : ∀ {vs : List Nat}, (wipeE ρ vs)[i]? = some (some o) → ρ[i]? = some (some o) ∧ i ∉ vs
  | [], h => ⟨h, by simp⟩
  | v :: vs, h => by
    unfold wipeE at h
    by_cases hi : v = i
    · subst hi
      by_cases hv : v < (wipeE ρ vs).length
      · rw [List.getElem?_set_self hv] at h; cases h
      · rw [List.getElem?_eq_none (by simpa using hv)] at h; cases h
    · rw [List.getElem?_set_ne hi] at h
      obtain ⟨h1, h2⟩ := wipeE_some h
      exact ⟨h1, by simp only [List.mem_cons, not_or]; exact ⟨fun e => hi e.symm, h2⟩⟩
theorem wipeE_out {ρ : Env} {i : Nat} : ∀ {vs : List Nat}, i ∉ vs → (wipeE ρ vs)[i]? = ρ[i]?
  | [], _ => rfl
  | v :: vs, h => by
    unfold wipeE
    rw [List.getElem?_set_ne (fun e => h (by rw [e]; exact List.mem_cons_self)), wipeE_out fun m => h (List.mem_cons_of_mem _ m)]
theorem restE_len (ρ ρ' : Env) : ∀ vs, (restE ρ ρ' vs).length = ρ'.length
  | [] => rfl
  | v :: vs => by
    unfold restE
    split
    · rw [List.length_set, restE_len ρ ρ' vs]
    · exact restE_len ρ ρ' vs
theorem restE_out {ρ ρ' : Env} {i : Nat} : ∀ {vs : List Nat}, i ∉ vs → (restE ρ ρ' vs)[i]? = ρ'[i]?
  | [], _ => rfl
  | v :: vs, h => by
    unfold restE
    have h1 : v ≠ i := fun e => h (by rw [e]; exact List.mem_cons_self)
    have h2 : i ∉ vs := fun m => h (List.mem_cons_of_mem _ m)
    split
    · rw [List.getElem?_set_ne h1, restE_out h2]
    · exact restE_out h2
theorem restE_in {ρ ρ' : Env} {i : Nat} (hl : ρ'.length = ρ.length) : ∀ {vs : List Nat}, i ∈ vs → (restE ρ ρ' vs)[i]? = ρ[i]?
  | v :: vs, h => by
    unfold restE
    by_cases hv : v = i
    · subst hv
      cases e : ρ[v]? with
      | none =>
        simp only
        rw [List.getElem?_eq_none_iff] at e ⊢
        rw [restE_len, hl]
        exact e
      | some x =>
        simp only
        exact List.getElem?_set_self (by rw [restE_len, hl]; exact (List.getElem?_eq_some_iff.mp e).1)
    · have h2 : i ∈ vs := by
        rcases List.mem_cons.mp h with e | e
        · exact absurd e.symm hv
        · exact e
      split
      · rw [List.getElem?_set_ne hv]; exact restE_in hl h2
      · exact restE_in hl h2
theorem wipe_len (σ : L2.St) : ∀ vs, (wipe σ vs).length = σ.length
  | [] => rfl
  | v :: vs => by unfold wipe; rw [List.length_set, wipe_len σ vs]
theorem wipe_at {σ : L2.St} {i : Nat} : ∀ {vs : List Nat}, i ∈ vs → (wipe σ vs)[i]? = (σ[i]?).map fun _ => none
  | v :: vs, h => by
    unfold wipe
    by_cases hv : v = i
    · subst hv
      by_cases hl : v < σ.length
      · rw [List.getElem?_set_self (by rw [wipe_len]; exact hl), List.getElem?_eq_getElem hl]; rfl
      · rw [List.getElem?_eq_none (by rw [List.length_set, wipe_len]; omega), List.getElem?_eq_none (by omega)]; rfl
    · have h2 : i ∈ vs := by
        rcases List.mem_cons.mp h with e | e
        · exact absurd e.symm hv
        · exact e
      rw [List.getElem?_set_ne hv]
      exact wipe_at h2
section
variable {K : PySem.W.Frag} {mg : Str → Option Value} {G H : Hp} {σ : L2.St} {ρ : Env} {F : Fp}
theorem Rel.plainF (rl : Rel K mg G H σ ρ F) {vs : List Nat} (h : plainVs ρ vs = true) {i : Nat} {a : Addr} (z : F i a) : i ∉ vs := fun hi => by
  obtain ⟨o, e⟩ := rl.non i a z
  have := List.all_eq_true.mp h i hi
  rw [e] at this
  obtain ⟨v, _, ok⟩ := rl.ok i o e
  generalize F i = S at z ok
  cases ok with
  | c ok =>
    cases ok with
    | val _ => exact z
    | _ => cases this
  | ins _ => cases this
  | fn _ => exact z
theorem Rel.wipe (rl : Rel K mg G H σ ρ F) {vs : List Nat} (h : plainVs ρ vs = true) : Rel K mg G H (L2.wipe σ vs) (wipeE ρ vs) F where
  len := by rw [wipe_len, wipeE_len]; exact rl.len
  ok := fun i o e => by
    obtain ⟨e1, hi⟩ := wipeE_some e
    obtain ⟨v, e2, ok⟩ := rl.ok i o e1
    exact ⟨v, by rw [wipe_out hi]; exact e2, ok⟩
  dis := rl.dis
  out := rl.out
  non := fun i a z => by
    obtain ⟨o, e⟩ := rl.non i a z
    exact ⟨o, by rw [wipeE_out (rl.plainF h z)]; exact e⟩
  subT := rl.subT
theorem Rel.rest {G' H' : Hp} {σ' : L2.St} {ρ' : Env} {F' : Fp} (rl : Rel K mg G H σ ρ F) {vs : List Nat} (h : plainVs ρ vs = true) (rl' : Rel K mg G' H' σ' ρ' F') (hw : L2.wipe σ' vs = L2.wipe σ vs) (le : Le G G') : Rel K mg G' H' σ (restE ρ ρ' vs) (fun i a => i ∉ vs ∧ F' i a) where
  len := by
    have := congrArg List.length hw
    rw [wipe_len, wipe_len] at this
    rw [restE_len, ← rl'.len, this]
  ok := fun i o e => by
    have hl : ρ'.length = ρ.length := by
      have := congrArg List.length hw
      rw [wipe_len, wipe_len] at this
      rw [← rl'.len, this, rl.len]
    by_cases hi : i ∈ vs
    · rw [restE_in hl hi] at e
      obtain ⟨v, e1, ok⟩ := rl.ok i o e
      refine ⟨v, e1, ?_⟩
      have hv := List.all_eq_true.mp h i hi
      rw [e] at hv
      have : (fun a => i ∉ vs ∧ F' i a) = fun _ => False := by
        funext a
        exact propext ⟨fun z => z.1 hi, fun z => z.elim⟩
      rw [this]
      generalize F i = S at ok
      cases ok with
      | c ok =>
        cases ok with
        | val r => exact .c (.val (r.mono le))
        | _ => cases hv
      | ins _ => cases hv
      | fn h => exact .fn (FnSem.mono le h)
    · rw [restE_out hi] at e
      obtain ⟨v, e1, ok⟩ := rl'.ok i o e
      refine ⟨v, ?_, ?_⟩
      · rw [← wipe_out (σ := σ) hi, ← hw, wipe_out hi]; exact e1
      · have : (fun a => i ∉ vs ∧ F' i a) = F' i := by
          funext a
          exact propext ⟨fun z => z.2, fun z => ⟨hi, z⟩⟩
        rw [this]
        exact ok
  dis := fun i j a hij h1 h2 => rl'.dis i j a hij h1.2 h2.2
  out := fun i a z => rl'.out i a z.2
  non := fun i a z => by
    obtain ⟨o, e⟩ := rl'.non i a z.2
    exact ⟨o, by rw [restE_out z.1]; exact e⟩
  subT := rl'.subT
end
theorem plain_rest {ρ ρ' : Env} {vs : List Nat} (hl : ρ'.length = ρ.length) (h : plainVs ρ vs = true) : plainVs (restE ρ ρ' vs) vs = true := List.all_eq_true.mpr fun v hv => by
  rw [restE_in hl hv]
  exact List.all_eq_true.mp h v hv
theorem _root_.L2.PTs.to {X : Cx} {es : List Expr} {t u : TT} (h : PTs X es t) (k : ∀ σ H Q, u σ H Q → t σ H Q) : PTs X es u := ⟨fun pins s σ H Q I q => h.run pins s σ H Q I (k σ H Q q)⟩
abbrev W0 : WX := fun _ _ _ _ => False
abbrev OkTs (X : Cx) (W : WX) (es : List Expr) (f : FE Bool) : Prop := PTs X es (tT X.K X.mg W f)
theorem okts_nil {X : Cx} {W : WX} : OkTs X W [] yesF := pts_nil.to fun σ H Q h => by
  obtain ⟨G, ρ, F, rl, p⟩ := h
  exact p G H F rl .refl
theorem okts_one {X : Cx} {W : WX} {e : Expr} {f : FE Bool} (h : OkT X W e f) : OkTs X W [e] f := pts_one h

section
variable {K : PySem.W.Frag} {mg : Str → Option Value} {W : WX} {G H G1 H1 : Hp} {σ : L2.St} {F F1 : Fp}
theorem t_lc {n : Nat} {fi : FE (List D)} {vs io : List Nat} {g : FG} {ft : FE Bool} {fe : FE D} {Q : VK} (hio : ∀ i, i < n → i ∈ vs ∨ i ∈ io) (h : tO K mg W (lcF fi vs g ft fe) σ H Q) (hn : σ.length = n) :
    tLc (tI K mg W fi) (tgF K mg io g) (tT K mg W0 ft) (tD K mg W0 fe) vs σ H Q := by
  obtain ⟨G, ρ, F, rl, p⟩ := h
  refine ⟨G, ρ, F, rl, PostO.bind p fun ds ρ1 G1 H1 F1 _ rl1 st1 p1 J hJ D hD => ?_⟩
  split at p1
  · rename_i hc
    obtain ⟨hlen, hpl⟩ := hc
    refine ⟨fun i m H2 => m = ds.length - i ∧ ∃ G2 ρ2 F2 acc accd, Rel K mg G2 H2 σ ρ2 F2 ∧ Stp F1 G1 H1 G2 H2 F2 ∧ H2 D = some (.lst acc) ∧ RpL K G2 acc accd ∧ G2 D = none ∧ ¬ F2.U D ∧ accd.length ≤ i ∧ plainVs ρ2 vs = true ∧
      PostO K mg W σ F1 G1 H1 Q ((compGo vs g (noEx ft) (noEx fe) (ds.drop i) ρ2).bind fun ys ρ => .ok (.c (.lst (accd ++ ys))) ρ), ⟨_, rfl, ?_⟩, ?_⟩
    · obtain ⟨r2, s2, o2, z2⟩ := new_lst (ds := []) (vs := []) rl1 .nil hD
      exact ⟨G1, ρ1, F1, [], [], r2, s2, upd_same, .nil, rl1.sub.back hD, fun ⟨i, z⟩ => (rl1.out i D z).2 hD, Nat.le_refl _, hpl, p1⟩
    · rintro i m H2 ⟨rfl, G2, ρ2, F2, acc, accd, rl2, st2, eD, ra, gD, nD, hal, hp2, p2⟩
      obtain ⟨h1, h2⟩ := hJ i G2 H2 st2.le rl2.sub
      by_cases hi : i < ds.length
      · have hd : ds[i]? = some ds[i] := List.getElem?_eq_getElem hi
        obtain ⟨go, yl⟩ := h1 _ hd
        refine .inr ⟨go, fun H' => ∃ m', m' < ds.length - i ∧ m' = ds.length - (i + 1) ∧ ∃ G2 ρ2 F2 acc accd, Rel K mg G2 H' σ ρ2 F2 ∧ Stp F1 G1 H1 G2 H' F2 ∧ H' D = some (.lst acc) ∧ RpL K G2 acc accd ∧ G2 D = none ∧ ¬ F2.U D ∧ accd.length ≤ i + 1 ∧ plainVs ρ2 vs = true ∧
          PostO K mg W σ F1 G1 H1 Q ((compGo vs g (noEx ft) (noEx fe) (ds.drop (i + 1)) ρ2).bind fun ys ρ => .ok (.c (.lst (accd ++ ys))) ρ), fun _ h => h, fun x H3 hx => ?_⟩
        obtain ⟨G3, ex, rx⟩ := yl x H3 hx
        rw [List.drop_eq_getElem_cons hi] at p2
        unfold compGo at p2
        have rl3 : Rel K mg G3 H3 (L2.wipe σ vs) (wipeE ρ2 vs) F2 := (rl2.ext ex).wipe hp2
        refine ⟨G3, wipeE ρ2 vs, F2, ds[i], rl3, rx, ?_⟩
        cases eg : g ds[i] (wipeE ρ2 vs) with
        | none => rw [eg] at p2; exact p2.elim
        | some ρ4 =>
          rw [eg] at p2
          simp only at p2
          intro σ4 F4 rl4 st4 hl4 hσ4
          have hw : L2.wipe σ4 vs = L2.wipe σ vs := by
            have l4 : σ4.length = σ.length := by rw [hl4, wipe_len]
            refine List.ext_getElem? fun j => ?_
            by_cases hj : j ∈ vs
            · rw [wipe_at hj, wipe_at hj]
              by_cases hjl : j < σ.length
              · rw [List.getElem?_eq_getElem hjl, List.getElem?_eq_getElem (by omega)]; rfl
              · rw [List.getElem?_eq_none (by omega), List.getElem?_eq_none (by omega)]
            · rw [wipe_out hj, wipe_out hj]
              by_cases hjl : j < σ.length
              · have hj2 : j ∈ io := (hio j (by rw [← hn]; exact hjl)).resolve_left hj
                rw [hσ4 j hj2, wipe_out hj]
              · rw [List.getElem?_eq_none (by omega), List.getElem?_eq_none (by omega)]
          have s24 : Stp F2 G2 H2 G3 H3 F4 := ex.stp.trans st4
          have lt : ds.length - (i + 1) < ds.length - i := by omega
          -- D through a step
          have keepD : ∀ {G5 H5 : Hp} {F5 : Fp}, Stp F2 G2 H2 G5 H5 F5 → H5 D = some (.lst acc) ∧ G5 D = none ∧ ¬ F5.U D := fun {G5 H5 F5} s => by
            have hne : H2 D ≠ none := by rw [eD]; exact fun e => nomatch e
            refine ⟨s.fr D _ eD nD (fun _ => nofun), s.fresh D hne gD nD, fun ⟨k, z⟩ => ?_⟩
            rcases s.own k D z with z | z
            · exact nD ⟨k, z⟩
            · exact hne z
          have lenW : (wipeE ρ2 vs).length = ρ2.length := wipeE_len ρ2 vs
          -- the turn's end, from a state of the block
          have fin : ∀ {G5 H5 : Hp} {ρ5 : Env} {F5 : Fp}, Rel K mg G5 H5 σ4 ρ5 F5 → Stp F2 G2 H2 G5 H5 F5 → Rel K mg G5 H5 σ (restE ρ2 ρ5 vs) (fun i a => i ∉ vs ∧ F5 i a) ∧ Stp F1 G1 H1 G5 H5 (fun i a => i ∉ vs ∧ F5 i a) ∧ plainVs (restE ρ2 ρ5 vs) vs = true := fun {G5 H5 ρ5 F5} rl5 s5 => by
            refine ⟨rl2.rest hp2 rl5 hw s5.le, ?_, ?_⟩
            · have s := st2.trans s5
              exact ⟨s.le, s.fr, s.fresh, s.there, fun k a z => s.own k a z.2⟩
            · refine plain_rest ?_ hp2
              have := rl5.len
              rw [← this, hl4, wipe_len, rl2.len]
          refine ⟨by exact hw, G3, ρ4, F4, rl4, ?_⟩
          have pt : Post K mg W0 σ4 F4 G3 H3 (fun b G5 H5 => ∃ ρ5 F5, ft ρ4 = .ok b ρ5 ∧ Rel K mg G5 H5 σ4 ρ5 F5 ∧ Stp F4 G3 H3 G5 H5 F5) (ft ρ4) := by
            unfold noEx at p2
            cases eft : ft ρ4 with
            | ok b ρ5 => exact fun G5 H5 F5 rl5 st5 => ⟨ρ5, F5, rfl, rl5, st5⟩
            | ex x ρ5 => rw [eft] at p2; exact p2.elim
            | stuck => rw [eft] at p2; exact p2.elim
          cases eft : ft ρ4 with
          | ex x ρ5 => simp only [noEx, eft] at p2; exact p2.elim
          | stuck => simp only [noEx, eft] at p2; exact p2.elim
          | ok b ρ5 =>
            intro G5 H5 F5 rl5 st5
            have s5 : Stp F2 G2 H2 G5 H5 F5 := s24.trans st5
            simp only [noEx, eft, R.bind] at p2
            cases b with
            | false =>
              simp only [Bool.false_eq_true, if_false] at p2
              refine iteF ?_
              obtain ⟨d1, d2, d3⟩ := keepD s5
              obtain ⟨f1, f2, f3⟩ := fin rl5 s5
              exact ⟨_, lt, rfl, G5, _, _, acc, accd, f1, f2, d1, ra.mono s5.le, d2, fun ⟨k, z⟩ => d3 ⟨k, z.2⟩, by omega, f3, p2⟩
            | true =>
              simp only [if_true] at p2
              refine iteT ⟨G5, ρ5, F5, rl5, ?_⟩
              cases efe : fe ρ5 with
              | ex x ρ6 => simp only [efe] at p2; exact p2.elim
              | stuck => simp only [efe] at p2; exact p2.elim
              | ok y ρ6 =>
                intro G6 H6 F6 rl6 st6 w rw'
                simp only [efe] at p2
                have s6 : Stp F2 G2 H2 G6 H6 F6 := s5.trans st6
                obtain ⟨d1, d2, d3⟩ := keepD s6
                obtain ⟨f1, f2, f3⟩ := fin rl6 s6
                refine ⟨acc, d1, by rw [ra.length]; omega, _, lt, rfl, G6, restE ρ2 ρ6 vs, fun i a => i ∉ vs ∧ F6 i a, acc ++ [w], accd ++ [y], ?_, ?_, upd_same, (ra.mono s6.le).append (.cons rw' .nil), d2, fun ⟨k, z⟩ => d3 ⟨k, z.2⟩, by rw [List.length_append]; exact Nat.succ_le_succ hal, f3, ?_⟩
                · refine ⟨f1.len, fun j o e => ?_, f1.dis, fun j a z => ⟨(f1.out j a z).1, ?_⟩, f1.non, f1.subT.own d1 noTab_lst d2⟩
                  · obtain ⟨v, e1, e2⟩ := f1.ok j o e
                    exact ⟨v, e1, e2.mono (Le.refl _) fun a u z q => by rw [upd_ne fun e => d3 ⟨j, by rw [← e]; exact z.2⟩]; exact q⟩
                  · by_cases ha : a = D
                    · rw [ha, upd_same]; exact fun e => nomatch e
                    · rw [upd_ne ha]; exact (f1.out j a z).2
                · refine ⟨f2.le, fun a u e n nt => ?_, f2.fresh, fun a h => ?_, f2.own⟩
                  · rw [upd_ne fun z => by rw [z, hD] at e; cases e]
                    exact f2.fr a u e n nt
                  · by_cases ha : a = D
                    · rw [ha, upd_same]; exact fun e => nomatch e
                    · rw [upd_ne ha]; exact f2.there a h
                · simp only [R.bind] at p2 ⊢
                  cases eg2 : compGo vs g (noEx ft) (noEx fe) (ds.drop (i + 1)) (restE ρ2 ρ6 vs) with
                  | ok ys ρ7 =>
                    have e1 : compGo vs g (fun ρ => noEx ft ρ) (fun ρ => noEx fe ρ) (ds.drop (i + 1)) (restE ρ2 ρ6 vs) = .ok ys ρ7 := eg2
                    simp only [eg2] at p2 ⊢
                    rw [List.append_assoc]
                    exact p2
                  | ex x ρ7 => simp only [eg2] at p2 ⊢; exact p2
                  | stuck => simp only [eg2] at p2; exact p2.elim
      · refine .inl ⟨h2 (by omega), ?_⟩
        rw [List.drop_of_length_le (by omega)] at p2
        unfold compGo at p2
        simp only [R.bind, List.append_nil] at p2
        exact p2 G2 H2 F2 (.ref D) (fun a => a = D) rl2 st2 (.c (.lst eD ra)) fun a e => by
          subst e
          exact ⟨hD, gD, (by rw [eD]; exact fun e => (nomatch e)), nD⟩
  · exact p1.elim
end
section
variable {X : Cx} {W : WX} {elt tg iter : Expr} {ifs : List Expr} {scope : Scope} {own : List (Str × Nat)} {pos : Pos} {fi : FE (List D)} {g : FG} {ft : FE Bool} {fe : FE D} {io : List Nat}
theorem ok_lc (hc : X.calm = true) (hN : X.N.Nodup) (hi : OkI X W tg iter fi) (ok : BlkOk X.N X.env.scope scope own)
    (hio : ∀ i, i < X.N.length → i ∈ own.map (·.2) ∨ i ∈ io)
    (hg : ∀ (s : Shared) (H : Hp) (C : Addr) (cl : List (Str × Addr)) (fp : List Addr), OkG (X.blk s H scope (compEnvC scope cl C X.env) fp) io tg g)
    (ht : ∀ (s : Shared) (H : Hp) (C : Addr) (cl : List (Str × Addr)) (fp : List Addr), OkTs (X.blk s H scope (compEnvC scope cl C X.env) fp) W0 ifs ft)
    (he : ∀ (s : Shared) (H : Hp) (C : Addr) (cl : List (Str × Addr)) (fp : List Addr), OkD (X.blk s H scope (compEnvC scope cl C X.env) fp) W0 elt fe)
    (hs : ∀ x, foldedSetIterable iter X.env x = pure x := by intro _; rfl) : OkO X W (.ListComp elt [⟨tg, iter, ifs, 0⟩] scope pos) (lcF fi (own.map (·.2)) g ft fe) :=
  ⟨fun pins s σ H Q I h => (pe_lc (g := tgF X.K X.mg io g) (tt := tT X.K X.mg W0 ft) (te := tD X.K X.mg W0 fe) hc hN hi ok hg ht he hs).run pins s σ H Q I (t_lc hio h I.len)⟩
theorem ok_setLc {i : Nat} {y : Str} {py spos : Pos} {io' : List Nat} (hc : X.calm = true) (hN : X.N.Nodup) (hyi : X.N[i]? = some y) (hy : X.env.scope.names.lookup y = some .local) (hio' : (io'.contains i) = false)
    (hsw : swapsWith (.ListComp elt [⟨tg, iter, ifs, 0⟩] scope pos) (some (.Name y py)) spos.line X.env = pure true) (hi : OkI X W tg iter fi) (ok : BlkOk X.N X.env.scope scope own)
    (hio : ∀ i, i < X.N.length → i ∈ own.map (·.2) ∨ i ∈ io)
    (hg : ∀ (s : Shared) (H : Hp) (C : Addr) (cl : List (Str × Addr)) (fp : List Addr), OkG (X.blk s H scope (compEnvC scope cl C X.env) fp) io tg g)
    (ht : ∀ (s : Shared) (H : Hp) (C : Addr) (cl : List (Str × Addr)) (fp : List Addr), OkTs (X.blk s H scope (compEnvC scope cl C X.env) fp) W0 ifs ft)
    (he : ∀ (s : Shared) (H : Hp) (C : Addr) (cl : List (Str × Addr)) (fp : List Addr), OkD (X.blk s H scope (compEnvC scope cl C X.env) fp) W0 elt fe)
    (hs : ∀ x, foldedSetIterable iter X.env x = pure x := by intro _; rfl) : OkS X W io' (.Assign [.Name y py] (.ListComp elt [⟨tg, iter, ifs, 0⟩] scope pos) spos) (setOF i (lcF fi (own.map (·.2)) g ft fe)) := by
  have ps := ps_setLc (X := X) (i := i) (py := py) (pos := pos) (spos := spos) (g := tgF X.K X.mg io g) (tt := tT X.K X.mg W0 ft) (te := tD X.K X.mg W0 fe) hc hN hyi hy hsw hi ok hg ht he hs
  refine ⟨fun pins s σ H Dn I h => ps.run pins s σ H Dn I ?_⟩
  have ne : ∀ j ∈ io', j ≠ i := fun j hj e => by subst e; rw [List.contains_iff_mem.mpr hj] at hio'; cases hio'
  obtain ⟨G, ρ, F, rl, p⟩ := h
  refine t_lc hio (n := X.N.length) ⟨G, ρ, F, rl, PostS.bindO p fun o ρ1 G1 H1 F1 v S _ rl1 st1 ok z p1 => ?_⟩ I.len
  exact p1 _ G1 H1 _ (rl1.set i ok fun a q => ⟨(z a q).2.1, (z a q).2.2.1, fun j _ y => (z a q).2.2.2 ⟨j, y⟩⟩) (st1.set fun a q => .inl (z a q).1) fun j hj => List.getElem?_set_ne (ne j hj).symm
end
end Fx

set_option Elab.async false
set_option linter.all false
set_option maxRecDepth 100000
set_option maxHeartbeats 1000000
namespace Fx
variable [FnSem]
open PySem L2
open PyProof.Rows (envOfC)

def isBD (n : Bool) : D → D → Option D
  | .bl a, .bl b => some (.bl (if n then !decide (a = b) else decide (a = b)))
  | _, _ => none
section
variable {K : PySem.W.Frag}
end
section
variable {X : Cx} {W : WX} {e a b c : Expr} {es : List Expr} {pos : Pos} {fa fb fc : FE D} {f : FE Pl}
def isNoneD (n : Bool) : C1 → Option D
  | .val .non => some (.bl (!n))
  | _ => some (.bl n)
theorem b1_isN {K : PySem.W.Frag} {n : Bool} : B1 K (fun x H Q => Q (.bl (if n then !decide (x = .non) else decide (x = .non))) H) (isNoneD n) := fun G H v c S z Q s ok e q => by
  have key : ∀ (b : Bool), decide (v = .non) = b → z = .bl (if n then !b else b) → Q (.bl (if n then !decide (v = .non) else decide (v = .non))) H := fun b h1 h2 => by
    rw [h1]
    subst h2
    exact q _ G H (.refl s) (.bl _)
  cases ok with
  | val r => cases r <;> cases e <;> first | exact key true rfl (by cases n <;> rfl) | exact key false rfl (by cases n <;> rfl)
  | lst _ _ => cases e; exact key false rfl (by cases n <;> rfl)
  | dk _ _ => cases e; exact key false rfl (by cases n <;> rfl)
  | dt _ _ => cases e; exact key false rfl (by cases n <;> rfl)
  | tb _ _ => cases e; exact key false rfl (by cases n <;> rfl)
theorem ok_isN {j pos'} (ha : OkB X W a f) : OkD X W (.Compare a [.Is] [.Constant .none j pos'] pos) (b1F (isNoneD false) f) := (pe_cmp (pc_isN ha) rfl).to fun σ H Q h => t_b1 (r := fun x H Q => Q (.bl (decide (x = .non))) H) b1_isN h
theorem t_chain {K : PySem.W.Frag} {mg : Str → Option Value} {σ : L2.St} {H : Hp} {Q : VK} {r r' : R2} {g g' : D → D → Option D} (hv : V2 K r g) (hv' : V2 K r' g') (h : tD K mg W (chainF g g' fa fb fc) σ H Q) : tChain r r' (tD K mg W fa) (tD K mg W fb) (tD K mg W fc) σ H Q := by
  obtain ⟨G, ρ, F, rl, p⟩ := h
  refine ⟨G, ρ, F, rl, Post.bind p fun x ρ1 G1 H1 F1 _ rl1 st1 p1 v rv => ⟨G1, ρ1, F1, rl1, Post.bind p1 fun y ρ2 G2 H2 F2 _ rl2 st2 p2 u ru => ?_⟩⟩
  split at p2
  · rename_i eg
    refine hv G2 H2 v u x y _ _ rl2.sub (rv.mono st2.le) ru eg fun w G3 H3 ex rw => ?_
    cases rw
    refine ⟨true, rfl, iteT ⟨G3, ρ2, F2, rl2.ext ex, Post.bind (Post.after ex.stp p2) fun z ρ4 G4 H4 F4 _ rl4 st4 p4 t rt => ?_⟩⟩
    cases eg' : g' y z with
    | none => simp only [eg'] at p4; exact p4.elim
    | some d =>
      simp only [eg'] at p4
      exact hv' G4 H4 u t y z d Q rl4.sub (ru.mono (ex.le.trans st4.le)) rt eg' fun w G5 H5 ex5 rw => p4 G5 H5 F4 (rl4.ext ex5) ex5.stp w rw
  · rename_i eg
    refine hv G2 H2 v u x y _ _ rl2.sub (rv.mono st2.le) ru eg fun w G3 H3 ex rw => ?_
    cases rw
    exact ⟨false, rfl, iteF (p2 G3 H3 F2 (rl2.ext ex) ex.stp _ (.bl _))⟩
  · exact p2.elim
theorem ok_chain {op op' : CmpOp} {r r' : R2} {g g' : D → D → Option D} (ho : OpR X (compareOp op) r) (hv : V2 X.K r g) (ho' : OpR X (compareOp op') r') (hv' : V2 X.K r' g') (ha : OkD X W a fa) (hb : OkD X W b fb) (hc : OkD X W c fc)
    (hm : lastMarks [op, op'] [b, c] = false := by with_unfolding_all rfl) : OkD X W (.Compare a [op, op'] [b, c] pos) (chainF g g' fa fb fc) := (pe_chain ho ho' ha hb hc hm).to fun σ H Q h => t_chain hv hv' h
theorem okt_chain {op op' : CmpOp} {r r' : R2} {g g' : D → D → Option D} (ho : OpR X (compareOp op) r) (hv : V2 X.K r g) (ho' : OpR X (compareOp op') r') (hv' : V2 X.K r' g') (ha : OkD X W a fa) (hb : OkD X W b fb) (hc : OkD X W c fc)
    (hm : lastMarks [op, op'] [b, c] = false := by with_unfolding_all rfl) : OkT X W (.Compare a [op, op'] [b, c] pos) (testF (chainF g g' fa fb fc)) := (pt_chain ho ho' ha hb hc hm).to fun σ H Q h => t_chain hv hv' (tD_tTest h)

theorem t_cb1 {K : PySem.W.Frag} {mg : Str → Option Value} {σ : L2.St} {H : Hp} {Q : VK} {r : List V → Hp → VK → Prop} {g : C1 → Option D} (hv : B1 K (fun x H Q => r [x] H Q) g) (h : tD K mg W (b1F g f) σ H Q) : tCB r (tCons (tB K mg W f) tNil) σ H Q := t_b1 hv h
theorem ok_cb1 {x : Str} {p : Pos} {id : String} {r : List V → Hp → VK → Prop} {g : C1 → Option D} (hc : CallR X (.builtin id) r) (hv : B1 X.K (fun x H Q => r [x] H Q) g) (hg : Gl X x) (hm : X.mg x = none) (hb : bootBuiltins x = some (.builtin id)) (ha : OkB X W a f)
    (hn : x ≠ "__name__" := by decide) (hdb : (x == ("__debug__" : Str)) = false := by decide) (hst : starEach [a] X.env = (false, eval a X.env) :: starEach [] X.env := by rfl) : OkD X W (.Call (.Name x p) [a] [] pos) (b1F g f) :=
  (pe_callB hc hg hm hb (pa_cons ha pa_nil hst) hn hdb hst rfl).to fun σ H Q h => t_cb1 hv h
theorem ok_ct1 {x : Str} {p : Pos} {id : String} {r : List V → Hp → VK → Prop} {g : C1 → Option D} (hc : CallR X (.type id) r) (hv : B1 X.K (fun x H Q => r [x] H Q) g) (hg : Gl X x) (hm : X.mg x = none) (hb : bootBuiltins x = some (.type id)) (ha : OkB X W a f)
    (hn : x ≠ "__name__" := by decide) (hdb : (x == ("__debug__" : Str)) = false := by decide) (hst : starEach [a] X.env = (false, eval a X.env) :: starEach [] X.env := by rfl) : OkD X W (.Call (.Name x p) [a] [] pos) (b1F g f) :=
  (pe_callTy hc hg hm hb (pa_cons ha pa_nil hst) hn hdb hst rfl).to fun σ H Q h => t_cb1 hv h
def intD : C1 → Option D
  | .val (.int i) => some (.int i)
  | .val (.bl b) => some (.int (if b then 1 else 0))
  | _ => none
def absD : C1 → Option D
  | .val (.int i) => some (.int (if i < 0 then -i else i))
  | _ => none
def tupleD (c : C1) : Option D := (c.seq?).map .tup
def unbl : D → Option Bool
  | .bl b => some b
  | _ => none
def unint : D → Option Int
  | .int b => some b
  | _ => none
def allD (c : C1) : Option D := match c.lst? with
  | some xs => (xs.mapM unbl).map fun bs => .bl (bs.all id)
  | none => none
def anyD (c : C1) : Option D := match c.lst? with
  | some xs => (xs.mapM unbl).map fun bs => .bl (bs.any id)
  | none => none
theorem rp_bls {K : PySem.W.Frag} {G : Hp} : ∀ {vs : List V} {ds : List D} {bs : List Bool}, RpL K G vs ds → ds.mapM unbl = some bs → vs = bs.map V.bl
  | _, _, _, .nil, e => by cases e; rfl
  | _, _, bs, .cons (d := d) (ds := ds) h r, e => by
    rw [List.mapM_cons] at e
    cases h with
    | bl b =>
      cases hm : ds.mapM unbl with
      | none => rw [hm] at e; cases e
      | some cs => rw [hm] at e; cases e; rw [rp_bls r hm]; rfl
    | _ => cases e
section
variable {K : PySem.W.Frag}
theorem b1_int : B1 K (fun x H Q => (∃ i, [x] = [V.int i] ∧ Q (.int i) H) ∨ ∃ k, [x] = [V.bl k] ∧ Q (.int (if k then 1 else 0)) H) intD := fun G H v c S z Q s ok e q => by
  cases ok with
  | val r =>
    cases r <;> cases e
    · exact .inr ⟨_, rfl, q _ G H (.refl s) (.int _)⟩
    · exact .inl ⟨_, rfl, q _ G H (.refl s) (.int _)⟩
  | _ => cases e
theorem b1_abs : B1 K (fun x H Q => ∃ i, [x] = [V.int i] ∧ Q (.int (if i < 0 then -i else i)) H) absD := fun G H v c S z Q s ok e q => by
  cases ok with
  | val r =>
    cases r <;> cases e
    exact ⟨_, rfl, q _ G H (.refl s) (.int _)⟩
  | _ => cases e
def rTupP (K : PySem.W.Frag) : List V → Hp → VK → Prop := fun xs H Q => ∃ p ys, xs = [V.ref p] ∧ ((SqL K H p ys ∧ ∀ l (o : Obj), H l = none → o.dict = none → Q (.ref l) (upd H l (.frz o (.tup ys)))) ∨ (SqT K H p ys ∧ Q (.ref p) H))
theorem call_tupleP {X : Cx} : CallR X (.type "tuple") (rTupP X.K) := by
  intro pins s σ H xs us Q I r h
  obtain ⟨p, ys, rfl, h⟩ := h
  rw [Vals.ref1 r]
  rcases h with ⟨hq, q⟩ | ⟨hq, q⟩
  · obtain ⟨its, rr, pl, hz⟩ := I.list hq
    have hlen := rr.length
    refine call_tuple_list pl.isList (fun h' kp => ?_) (by simp only [List.size_toArray] <;> omega)
    have J := I.kept (t' := s.toks) kp
    exact ⟨.ref h'.objs.size, _, J.laid (a := h'.objs.size) (o := .frz { cls := .type "tuple", data := .seq its.toArray } (.tup ys)) (h' := h'.push { cls := .type "tuple", data := .seq its.toArray }) (t' := s.toks) (fun b o e => Heap.get?_push_of_some _ e) (Nat.le_refl _) ⟨Heap.get?_push_size _ rfl, hz, its, rr, ⟨_, Heap.get?_push_size _ rfl, rfl, _, rfl⟩⟩, rfl, q _ _ (J.hok.fresh (Nat.le_refl _)) rfl⟩
  · obtain ⟨its, _, pl, _⟩ := I.tuple hq
    exact call_tuple_same pl ⟨.ref p, H, I, rfl, q⟩
theorem b1_tuple : B1 K (fun x H Q => rTupP K [x] H Q) tupleD := fun G H v c S z Q s ok e q => by
  unfold tupleD at e
  have hl : ∀ ds, c.lst? = some ds → z = .tup ds → rTupP K [v] H Q := fun ds h hz => by
    subst hz
    obtain ⟨p, vs, rfl, hs, r⟩ := ok.lst? s h
    refine ⟨p, vs, rfl, .inl ⟨hs, fun l o hl ho => ?_⟩⟩
    have ex : Ext G H (upd G l (.frz o (.tup vs))) (upd H l (.frz o (.tup vs))) := .new s hl
    exact q _ _ _ ex (.tup (.new ho) (r.mono ex.le))
  cases ok with
  | val r =>
    cases r with
    | lst _ _ => cases e; exact hl _ rfl rfl
    | tup h r => cases e; exact ⟨_, _, rfl, .inr ⟨s.sqt h, q _ G H (.refl s) (.tup h r)⟩⟩
    | _ => cases e
  | lst _ _ => cases e; exact hl _ rfl rfl
  | _ => cases e
theorem b1_all : B1 K (fun x H Q => rAll K [x] H Q) allD := fun G H v c S z Q s ok e q => by
  unfold allD at e
  cases h : c.lst? with
  | none => rw [h] at e; cases e
  | some xs =>
    rw [h] at e
    obtain ⟨p, vs, rfl, hs, r⟩ := ok.lst? s h
    cases hm : xs.mapM unbl with
    | none => simp only [hm] at e; cases e
    | some bs =>
      simp only [hm] at e
      cases e
      refine ⟨p, bs, rfl, ?_, q _ G H (.refl s) (.bl _)⟩
      rw [← rp_bls r hm]
      exact hs
end
theorem ok_intc {p : Pos} (hg : Gl X "int") (hm : X.mg "int" = none) (ha : OkB X W a f) (hst : starEach [a] X.env = (false, eval a X.env) :: starEach [] X.env := by rfl) : OkD X W (.Call (.Name "int" p) [a] [] pos) (b1F intD f) := ok_ct1 call_int1 b1_int hg hm (by decide +kernel) ha (by decide) (by decide) hst
theorem ok_abs {p : Pos} (hg : Gl X "abs") (hm : X.mg "abs" = none) (ha : OkB X W a f) (hst : starEach [a] X.env = (false, eval a X.env) :: starEach [] X.env := by rfl) : OkD X W (.Call (.Name "abs" p) [a] [] pos) (b1F absD f) := ok_cb1 call_abs b1_abs hg hm (by decide +kernel) ha (by decide) (by decide) hst
theorem ok_tuplec {p : Pos} (hg : Gl X "tuple") (hm : X.mg "tuple" = none) (ha : OkB X W a f) (hst : starEach [a] X.env = (false, eval a X.env) :: starEach [] X.env := by rfl) : OkD X W (.Call (.Name "tuple" p) [a] [] pos) (b1F tupleD f) := ok_ct1 call_tupleP b1_tuple hg hm (by decide +kernel) ha (by decide) (by decide) hst
theorem ok_all {p : Pos} (hc : X.calm = true) (hg : Gl X "all") (hm : X.mg "all" = none) (ha : OkB X W a f) (hst : starEach [a] X.env = (false, eval a X.env) :: starEach [] X.env := by rfl) : OkD X W (.Call (.Name "all" p) [a] [] pos) (b1F allD f) := ok_cb1 (cr_all hc) b1_all hg hm (by decide +kernel) ha (by decide) (by decide) hst
def gcdD : List D → Option D
  | [.int a, .int b] => some (.int (Nat.gcd a.natAbs b.natAbs : Nat))
  | _ => none
theorem vn_gcd {K : PySem.W.Frag} : VN K rGcd gcdD := fun G H xs as z Q s r e q => by
  cases r with
  | nil => cases e
  | cons h r =>
    cases r with
    | nil => cases h <;> cases e
    | cons h2 r =>
      cases r with
      | nil => cases h <;> cases h2 <;> cases e <;> exact ⟨_, _, rfl, q _ G H (.refl s) (.int _)⟩
      | cons _ _ => cases h <;> cases h2 <;> cases e
theorem ok_gcd {x : Str} {p : Pos} {fs : FE (List D)} (hg : Gl X x) (hm : X.mg x = some (.builtin "math.gcd")) (ha : OkDs X W (e :: es) fs) (hdb : (x == ("__debug__" : Str)) = false := by decide)
    (he : starEach (e :: es) X.env = (false, eval e X.env) :: starEach es X.env := by rfl) (hpl : (backTo pos (starEach es X.env)).any (·.1) = false := by rfl) : OkD X W (.Call (.Name x p) (e :: es) [] pos) (opNF gcdD fs) :=
  (pe_callBfun cr_gcd hg hm ha hdb he hpl).to fun σ H Q h => t_opN vn_gcd h

def tyN : C1 → Option String
  | .val .non => some "NoneType"
  | .val (.bl _) => some "bool"
  | .val (.int _) => some "int"
  | .val (.str _) => some "str"
  | .val (.tup _) => some "tuple"
  | .val (.lst _) => some "list"
  | .lst _ => some "list"
  | .dk _ => some "dict"
  | .dt _ => some "dict"
  | _ => none
theorem C1Ok.tyX {K : PySem.W.Frag} {G H : Hp} {v : V} {c : C1} {S : Addr → Prop} {t : String} (s : Le G H) (h : C1Ok K G H v c S) (e : tyN c = some t) : TyX K H v (.type t) := by
  have sq : ∀ {a : Addr} {vs : List V}, SqP K G a vs → TyX K H (.ref a) (.type "tuple") := fun {a vs} h => by
    rcases h.t with (h | ⟨o, h⟩) | ⟨o, its, n, hk, hc, _⟩
    · exact .base (.tup (s _ _ h))
    · exact .fTuple (s _ _ h)
    · exact .kTuple hk hc
  have sl : ∀ {a : Addr} {vs : List V}, SqL K G a vs → TyX K H (.ref a) (.type "list") := fun {a vs} h => by
    rcases h with (h | ⟨o, h⟩) | ⟨o, its, n, hk, hc, _⟩
    · exact .base (.lst (s _ _ h))
    · exact .base (.frz (s _ _ h))
    · exact .kList hk hc
  cases h with
  | val r =>
    cases r with
    | non => cases e; exact .base .non
    | bl b => cases e; exact .base (.bl b)
    | int i => cases e; exact .base (.int i)
    | str x => cases e; exact .base (.str x)
    | tup h _ => cases e; exact sq h
    | lst h _ => cases e; exact sl h
    | dk _ _ => cases e
    | dt _ _ => cases e
    | tb _ _ => cases e
    | wt _ _ => cases e
    | ob _ _ => cases e
  | lst h _ => cases e; exact .base (.lst h)
  | dk h _ => cases e; exact .base (.dK h)
  | dt h _ => cases e; exact .base (.dT h)
  | tb h _ => cases e
def isiD (T : String) (c : C1) : Option D := match tyN c with
  | some t => some (.bl (if T = "int" then decide (t = "int" ∨ t = "bool") else decide (t = T)))
  | none => none
def okT (T : String) : Prop := ∀ t ∈ ["NoneType", "bool", "int", "str", "tuple", "list", "dict"], kitB t T = some (if T = "int" then decide (t = "int" ∨ t = "bool") else decide (t = T))
theorem okT_int : okT "int" := by unfold okT; decide +kernel
theorem okT_bool : okT "bool" := by unfold okT; decide +kernel
theorem okT_str : okT "str" := by unfold okT; decide +kernel
theorem okT_tuple : okT "tuple" := by unfold okT; decide +kernel
theorem tyN_mem {c : C1} {t : String} (h : tyN c = some t) : t ∈ ["NoneType", "bool", "int", "str", "tuple", "list", "dict"] := by
  unfold tyN at h
  split at h <;> cases h <;> simp
theorem ok_isi {T : String} {x : Str} {p p2 : Pos} (hT : okT T) (hg : Gl X "isinstance") (hm : X.mg "isinstance" = none) (hgT : Gl X x) (hmT : X.mg x = none) (hbT : bootBuiltins x = some (.type T)) (ha : OkB X W a f)
    (hn : x ≠ "__name__" := by decide) (hdb : (x == ("__debug__" : Str)) = false := by decide) (hst : starEach [a, .Name x p2] X.env = (false, eval a X.env) :: starEach [.Name x p2] X.env := by rfl) :
    OkD X W (.Call (.Name "isinstance" p) [a, .Name x p2] [] pos) (b1F (isiD T) f) := by
  refine (pe_callB call_isi hg hm (by decide +kernel) (pa_cons ha (pa_cons (pe_bltn (v := .ty T) hgT hmT hbT rfl hn hdb) pa_nil) hst) (by decide) (by decide) hst rfl).to fun σ H Q h => ?_
  refine t_b1 (r := fun x H Q => rIsi X.K [x, .ty T] H Q) (fun G H v c S z Q s ok e q => ?_) h
  unfold isiD at e
  cases ht : tyN c with
  | none => rw [ht] at e; cases e
  | some t =>
    rw [ht] at e
    cases e
    exact ⟨v, .ty T, .type t, .type T, _, rfl, .ty T, ok.tyX s ht, kit_ty (hT t (tyN_mem ht)), q _ G H (.refl s) (.bl _)⟩
end
end Fx

set_option Elab.async false
set_option linter.all false
set_option maxRecDepth 100000
set_option maxHeartbeats 1000000
namespace Fx
variable [FnSem]
open PySem L2
open PyProof.Rows (envOfC)

abbrev FOp := FE (Option Int)
theorem _root_.L2.PO.to {X : Cx} {e : Option Expr} {t u : TO} (h : PO X e t) (k : ∀ σ H Q, u σ H Q → t σ H Q) : PO X e u := ⟨fun pins s σ H Q I q => h.run pins s σ H Q I (k σ H Q q)⟩
def noP : FOp := fun ρ => .ok none ρ
def someP (f : FE D) : FOp := fun ρ => (f ρ).bind fun d ρ => match d with
  | .int i => .ok (some i) ρ
  | _ => .stuck
def cutL {α : Type} (xs : List α) (lo hi : Option Int) : List α := (xs.drop (HT.sIx xs.length 0 lo)).take (HT.sIx xs.length xs.length hi - HT.sIx xs.length 0 lo)
section
variable {X : Cx} {W : WX} {e a b : Expr} {es : List Expr} {lo hi : Option Expr} {pos p2 : Pos} {fa fb : FE D} {f : FE Pl} {fl fh : FOp}
def slLF (f : FE Pl) (fl fh : FOp) : FE O := fun ρ => (f ρ).bind fun pl ρ => (fl ρ).bind fun lo ρ => (fh ρ).bind fun hi ρ => match (pl.get ρ).bind C1.lst? with
  | some xs => .ok (.c (.lst (cutL xs lo hi))) ρ
  | none => .stuck
def revLF (f : FE Pl) : FE O := fun ρ => (f ρ).bind fun pl ρ => match (pl.get ρ).bind C1.lst? with
  | some xs => .ok (.c (.lst xs.reverse)) ρ
  | none => .stuck
theorem t_newL {K : PySem.W.Frag} {mg : Str → Option Value} {σ : L2.St} {H : Hp} {Q : VK} {g : List D → List D} {gV : List V → List V} (hg : ∀ G vs ds, RpL K G vs ds → RpL K G (gV vs) (g ds))
    (h : tO K mg W (fun ρ => (f ρ).bind fun pl ρ => match (pl.get ρ).bind C1.seq? with | some xs => .ok (.c (.lst (g xs))) ρ | none => .stuck) σ H Q) :
    tB K mg W f σ H fun x H1 => ∃ p ys, x = .ref p ∧ (SqL K H1 p ys ∨ SqT K H1 p ys) ∧ ∀ l, H1 l = none → Q (.ref l) (upd H1 l (.lst (gV ys))) := by
  obtain ⟨G, ρ, F, rl, p⟩ := h
  refine ⟨G, ρ, F, rl, PostO.bind p fun pl ρ1 G1 H1 F1 _ rl1 st1 p1 v pv => ?_⟩
  cases eg : pl.get ρ1 with
  | none => rw [eg] at p1; exact p1.elim
  | some c =>
    rw [eg] at p1
    simp only [Option.bind] at p1
    cases el : c.seq? with
    | none => rw [el] at p1; exact p1.elim
    | some xs =>
      rw [el] at p1
      obtain ⟨S, ok⟩ := rl1.pl pv eg
      obtain ⟨q, vs, rfl, hs, r⟩ := ok.seq? rl1.sub el
      refine ⟨q, vs, rfl, hs, fun p hp => ?_⟩
      obtain ⟨r2, s2, o2, z2⟩ := new_lst rl1 (hg _ _ _ r) hp
      exact p1 _ _ F1 _ _ r2 s2 o2 z2
theorem ok_revL {k : Nat} {p1 p2 p3 : Pos} (hb : OkB X W a f) : OkO X W (.Subscript a (.Slice none none (some (.UnaryOp .USub (.Constant (.int 1) k p1) p2)) p3) pos) (revLF f) := (pe_revL hb).to fun σ H Q q => by
  obtain ⟨G, ρ, F, rl, p⟩ := q
  refine ⟨G, ρ, F, rl, PostO.bind p fun pl ρ1 G1 H1 F1 _ rl1 st1 p1 v pv => ?_⟩
  cases eg : pl.get ρ1 with
  | none => rw [eg] at p1; exact p1.elim
  | some c =>
    rw [eg] at p1
    simp only [Option.bind] at p1
    cases el : c.lst? with
    | none => rw [el] at p1; exact p1.elim
    | some xs =>
      rw [el] at p1
      obtain ⟨S, ok⟩ := rl1.pl pv eg
      obtain ⟨q, vs, rfl, hs, r⟩ := ok.lst? rl1.sub el
      refine ⟨q, vs, rfl, hs, fun p hp => ?_⟩
      obtain ⟨r2, s2, o2, z2⟩ := new_lst rl1 r.rev hp
      exact p1 _ _ F1 _ _ r2 s2 o2 z2
def listF (f : FE Pl) : FE O := fun ρ => (f ρ).bind fun pl ρ => match (pl.get ρ).bind C1.seq? with
  | some xs => .ok (.c (.lst xs)) ρ
  | none => .stuck
theorem ok_listc {p : Pos} (hg : Gl X "list") (hm : X.mg "list" = none) (ha : OkB X W a f) (hst : starEach [a] X.env = (false, eval a X.env) :: starEach [] X.env := by rfl) : OkO X W (.Call (.Name "list" p) [a] [] pos) (listF f) :=
  (pe_callTy call_list_of hg hm (by decide +kernel) (pa_cons ha pa_nil hst) (by decide) (by decide) hst rfl).to fun σ H Q h => by
  have h2 := t_newL (g := fun x => x) (gV := fun x => x) (fun _ _ _ r => r) h
  obtain ⟨G, ρ, F, rl, p⟩ := h2
  refine ⟨G, ρ, F, rl, ?_⟩
  cases hr : f ρ with
  | ok x ρ1 =>
    rw [hr] at p
    intro G1 H1 F1 rl1 st1 v rv
    obtain ⟨q, ys, e, hs, k⟩ := p G1 H1 F1 rl1 st1 v rv
    exact ⟨q, ys, by rw [e], hs, k⟩
  | ex e ρ1 => rw [hr] at p; exact p
  | stuck => rw [hr] at p; exact p

def addSD : D → D → Option D
  | .str a, .str b => if a.length + b.length ≤ sizeLine then some (.str (a ++ b)) else none
  | _, _ => none
theorem v2_addS {K : PySem.W.Frag} : V2 K (fun x y H Q => ∃ i j, x = .str i ∧ y = .str j ∧ i.length + j.length ≤ sizeLine ∧ Q (.str (i ++ j)) H) addSD := fun G H x y a b z Q s ra rb e q => by
  unfold addSD at e
  split at e
  · split at e
    · rename_i h
      cases ra; cases rb; cases e
      exact ⟨_, _, rfl, rfl, h, q _ G H (.refl s) (.str _)⟩
    · cases e
  · cases e
def addTD : D → D → Option D
  | .tup a, .tup b => if a.length + b.length ≤ sizeLine then some (.tup (a ++ b)) else none
  | _, _ => none
def rCatP (K : PySem.W.Frag) : R2 := fun x y H Q => ∃ a b xs ys, x = .ref a ∧ y = .ref b ∧ SqT K H a xs ∧ SqT K H b ys ∧ xs.length + ys.length ≤ sizeLine ∧
  (xs = [] → Q (.ref b) H) ∧ (xs ≠ [] → ys = [] → Q (.ref a) H) ∧ (xs ≠ [] → ys ≠ [] → ∀ p (o : Obj), H p = none → o.dict = none → Q (.ref p) (upd H p (.frz o (.tup (xs ++ ys)))))
theorem op_catP {X : Cx} : OpR X (binaryOp .Add) (rCatP X.K) := by
  intro pins s σ H x y v u Q I rx ry h
  obtain ⟨a, b, xs, ys, rfl, rfl, ha, hb, hz, k0, k1, k2⟩ := h
  by_cases hx : xs = [] ∨ ys = []
  · exact op_catA pins s σ H _ _ v u Q I rx ry ⟨a, b, xs, ys, rfl, rfl, ha, hb, hz, k0, k1, fun n1 n2 => absurd hx (fun w => w.elim n1 n2)⟩
  · cases rx
    cases ry
    obtain ⟨l1, r1, p1, _⟩ := I.tuple ha
    obtain ⟨l2, r2, p2, _⟩ := I.tuple hb
    have n1 : xs ≠ [] := fun w => hx (.inl w)
    have n2 : ys ≠ [] := fun w => hx (.inr w)
    exact HT.cat_tup p1 p2 (fun z => n1 (r1.nil_iff.mp z)) (fun z => absurd (r2.nil_iff.mp z) n2) (fun _ => ⟨.ref s.heap.objs.size, _, inv_tupP I (r1.append r2) (by rw [List.length_append]; exact hz) s.toks, rfl, k2 n1 n2 _ _ (I.hok.fresh (Nat.le_refl _)) rfl⟩) (by rw [← r1.length, ← r2.length]; exact hz)
theorem v2_addT {K : PySem.W.Frag} : V2 K (rCatP K) addTD := fun G H x y a b z Q s ra rb e q => by
  unfold addTD at e
  split at e
  · split at e
    · rename_i h
      cases ra with
      | tup h1 r1 =>
        cases rb with
        | tup h2 r2 =>
          cases e
          refine ⟨_, _, _, _, rfl, rfl, s.sqt h1, s.sqt h2, by rw [r1.length, r2.length]; exact h, fun e => ?_, fun _ e => ?_, fun _ _ p o hp ho => ?_⟩
          · subst e
            cases r1
            exact q _ G H (.refl s) (.tup h2 r2)
          · subst e
            cases r2
            rw [List.append_nil] at q
            exact q _ G H (.refl s) (.tup h1 r1)
          · exact q _ _ _ (.new s hp) (.tup (.new ho) ((r1.append r2).mono (Ext.new s hp).le))
    · cases e
  · cases e
end

structure OkKs (X : Cx) (W : WX) (kws : List Keyword) (f : FE (List Pl)) : Prop where
  pk : PK X kws (tPls X.K X.mg W f)
section
variable {X : Cx} {W : WX} {k : Nat} {f : Addr} {fd : FuncData} {ps ks : List Str} {io : List Nat} {φ : List O → RF} {x : Str} {p pos kpos : Pos} {e : Expr} {es : List Expr} {kws : List Keyword} {g gk : FE (List Pl)} {fb : FE Pl} {nm : Option Str}
theorem _root_.L2.PK.to {t u : TA} (h : PK X kws t) (k : ∀ σ H Q, u σ H Q → t σ H Q) : PK X kws u := ⟨fun pos pins s σ H Q I q => h.run pos pins s σ H Q I (k σ H Q q)⟩
theorem okk_nil : OkKs X W [] nilA := ⟨pk_nil.to fun σ H Q h => by
  obtain ⟨G, ρ, F, rl, p⟩ := h
  exact p G H F rl .refl [] .nil⟩
theorem okk_cons (ha : OkB X W e fb) (hs : OkKs X W kws g) : OkKs X W (⟨nm, e, kpos⟩ :: kws) (consA fb g) := ⟨(pk_cons ha hs.pk).to fun σ H Q h => by
  obtain ⟨G, ρ, F, rl, p⟩ := h
  refine ⟨G, ρ, F, rl, Post.bind p fun x ρ1 G1 H1 F1 _ rl1 st1 p1 v rv => ⟨G1, ρ1, F1, rl1, Post.bind p1 fun xs ρ2 G2 H2 F2 _ rl2 st2 p2 vs rvs => ?_⟩⟩
  exact p2 G2 H2 F2 rl2 .refl (v :: vs) (.cons (rv.mono st2.le) rvs)⟩
structure KPerm (fd : FuncData) (ps ks : List Str) (π : ∀ {α : Type}, List α → List α → List α) : Prop where
  to : ∀ (s : Shared) (us ws : List Value), (π us ws).length = ps.length → BindsTo s fd ⟨us, ks.zip ws⟩ (ps.zip (π us ws))
  rel : ∀ {α β : Type} (R : α → β → Prop) {a b : List α} {c d : List β}, Paired R a c → Paired R b d → Paired R (π a b) (π c d)
def callKF (io : List Nat) (φ : List O → RF) (π : ∀ {α : Type}, List α → List α → List α) (n : Nat) (f fk : FE (List Pl)) : FE O := fun ρ => (f ρ).bind fun xs ρ => (fk ρ).bind fun ys ρ => if (π xs ys).length = n then callP io φ (π xs ys) ρ else .stuck
theorem PlsOk.paired {K : PySem.W.Frag} {G : Hp} {σ : L2.St} : ∀ {vs : List V} {ps : List Pl}, PlsOk K G σ vs ps → Paired (PlOk K G σ) vs ps
  | _, _, .nil => .nil
  | _, _, .cons h t => .cons h t.paired
theorem PlsOk.of {K : PySem.W.Frag} {G : Hp} {σ : L2.St} : ∀ {vs : List V} {ps : List Pl}, Paired (PlOk K G σ) vs ps → PlsOk K G σ vs ps
  | _, _, .nil => .nil
  | _, _, .cons h t => .cons h (PlsOk.of t)
theorem run_fnKS {π : ∀ {α : Type}, List α → List α → List α} {sp : Sp} {E : L2.St → XK} {CX : CXT} {pins : List (Addr × Obj)} {σ : L2.St} {H : Hp} {s : Shared} {Q : VK} {us ws : List Value} {vs zs : List V} (F : FnOk X.prog X.w X.K X.mg X.base CX k f fd ps sp) (hr : Room k X.A) (hb : KPerm fd ps ks π) (hx : PassesAt CX X σ (E σ))
    (I : Inv X pins σ H s) (r : Vals vs us) (rz : Vals zs ws) (h : sp (π vs zs) H Q (E σ)) : wpAny (model X.prog X.w) X.A (call (.ref f) us (ks.zip ws)) (EP X pins σ Q) X.xe s := by
  have r2 : Vals (π vs zs) (π us ws) := hb.rel _ r rz
  have hl : (π us ws).length = ps.length := by rw [← r2.length]; exact F.len _ _ _ _ h
  refine wpAny_call (codeAny_mono (F.run X.A X.stack s H ⟨us, ks.zip ws⟩ (π us ws) (π vs zs) Q (E σ) hr I.env0 (hb.to s us ws hl) r2 h) fun r s' hq => ?_)
  cases r with
  | error e => exact hx pins H s e s' I hq
  | ok fl =>
    cases fl with
    | ret u => exact I.after hq
    | next => exact False.elim hq
    | brk => exact False.elim hq
    | cont => exact False.elim hq
theorem ok_callK0 {π : ∀ {α : Type}, List α → List α → List α} (F : FnF X.prog X.w X.K X.mg X.base k f fd ps io φ) (tk : Takes X W) (hr : Room k X.A) (hg : Gl X x) (hm : X.mg x = some (.ref f)) (hk : PySem.W.keepIn X.K (.ref f) = true) (hb : KPerm fd ps ks π)
    (hkw : OkKs X W kws gk) (hall : (backToKw pos (keywordEach kws X.env)).all (·.1.isSome) = true := by rfl) (hks : (backToKw pos (keywordEach kws X.env)).filterMap (·.1) = ks := by rfl)
    (hdb : (x == ("__debug__" : Str)) = false := by decide) (hpl : ((backTo pos (starEach [] X.env)).any (·.1) || (backToKw pos (keywordEach kws X.env)).any (·.1.isNone)) = false := by rfl) : OkO X W (.Call (.Name x p) [] kws pos) (callKF io φ π ps.length nilA gk) := by
  refine ⟨fun pins s σ H Q I h => ?_⟩
  obtain ⟨G, ρ, F0, rl, q⟩ := h
  refine wpAny_Call_Name_kw (ld_glob I hg hm ?_ hdb)
  refine PySem.W.callWith_KW0 (h₀ := X.base) I.ok.mod.kin hk hall (thn (hkw.pk.run pos pins s σ H _ I ⟨G, ρ, F0, rl, PostO.bind (r := gk ρ) q fun ys ρ2 G2 H2 F2 _ rl2 st2 p2 zs rz => (⟨ys, G2, ρ2, F2, rl2, rz, p2⟩ : ∃ ys G2 ρ2 F2, Rel X.K X.mg G2 H2 σ ρ2 F2 ∧ PlsOk X.K G2 σ zs ys ∧ PostO X.K X.mg W σ F2 G2 H2 Q (if (π [] ys).length = ps.length then callP io φ (π [] ys) ρ2 else .stuck))⟩) fun ws s2 ⟨zs, H2, I2, rz, z⟩ => ⟨I2.kIn, ?_⟩) hpl
  obtain ⟨ys, G2, ρ2, F2, rl2, rz2, p2⟩ := z
  rw [hks]
  split at p2
  · rename_i hn
    exact run_fnKS (us := []) (vs := []) F hr hb (passAt tk σ) I2 .nil rz (call_sp rl2 (PlsOk.of (hb.rel _ .nil rz2.paired)) hn p2)
  · exact p2.elim
end
end Fx

set_option Elab.async false
set_option linter.all false
set_option maxRecDepth 100000
set_option maxHeartbeats 1000000
namespace Fx
variable [FnSem]
open PySem L2
open PyProof.Rows (envOfC)

theorem OpR_or {X : Cx} {f : Value → Value → Sem Value} {r r' : R2} (h : OpR X f r) (h' : OpR X f r') : OpR X f (fun x y H Q => r x y H Q ∨ r' x y H Q) := fun pins s σ H x y v u Q I rx ry q => by
  rcases q with q | q
  · exact h pins s σ H x y v u Q I rx ry q
  · exact h' pins s σ H x y v u Q I rx ry q
def orD (g g' : D → D → Option D) : D → D → Option D := fun a b => match g a b with
  | some z => some z
  | none => g' a b
theorem v2_or {K : PySem.W.Frag} {r r' : R2} {g g' : D → D → Option D} (h : V2 K r g) (h' : V2 K r' g') : V2 K (fun x y H Q => r x y H Q ∨ r' x y H Q) (orD g g') := fun G H x y a b z Q s ra rb e q => by
  unfold orD at e
  cases eg : g a b with
  | some w => rw [eg] at e; cases e; exact .inl (h G H x y a b _ Q s ra rb eg q)
  | none => rw [eg] at e; exact .inr (h' G H x y a b z Q s ra rb e q)
def plusD : D → D → Option D
  | .int i, .int j => some (.int (i + j))
  | .str a, .str b => if a.length + b.length ≤ sizeLine then some (.str (a ++ b)) else none
  | .tup a, .tup b => if a.length + b.length ≤ sizeLine then some (.tup (a ++ b)) else none
  | _, _ => none
theorem plusD_eq (a b : D) : plusD a b = orD addD (orD addSD addTD) a b := by
  cases a <;> cases b <;> first | rfl | (simp only [plusD, orD, iiD, addSD, addTD]; split <;> rfl)
theorem plus_fun : plusD = orD addD (orD addSD addTD) := by
  funext a b
  exact plusD_eq a b
section
variable {X : Cx} {W : WX} {io : List Nat} {e a b tg : Expr} {pos : Pos} {fa fb : FE D} {f : FE Pl}
theorem ok_plus (ha : OkD X W a fa) (hb : OkD X W b fb) : OkD X W (.BinOp a .Add b pos) (op2F plusD fa fb) := by
  rw [plus_fun]
  exact ok_op (OpR_or op_add (OpR_or op_add_str op_catP)) (v2_or v2_ii (v2_or v2_addS v2_addT)) ha hb
theorem okt_isN {j pos'} (ha : OkB X W a f) : OkT X W (.Compare a [.Is] [.Constant .none j pos'] pos) (testF (b1F (isNoneD false) f)) := (pt_cmp (pc_isN ha) rfl).to fun σ H Q h => t_b1 (r := fun x H Q => Q (.bl (decide (x = .non))) H) b1_isN (tD_tTest h)
def slD (c : C1) (lo hi : Option Int) : Option D := match c with
  | .lst xs => some (.lst (cutL xs lo hi))
  | .val (.lst xs) => some (.lst (cutL xs lo hi))
  | .val (.tup xs) => some (.tup (cutL xs lo hi))
  | .val (.str z) => if z.length ≤ sizeLine then some (.str (cutS z lo hi)) else none
  | _ => none
def slF (f : FE Pl) (fl fh : FOp) : FE D := fun ρ => (f ρ).bind fun pl ρ => (fl ρ).bind fun lo ρ => (fh ρ).bind fun hi ρ => match pl.get ρ with
  | some c => optR (slD c lo hi) ρ
  | none => .stuck
def asgF (f : FE D) (g : FG) : FS := fun ρ => bindS (f ρ) fun d ρ => match g d ρ with
  | some ρ => .nx ρ
  | none => .stuck
structure Cal (P : Program) (w : World) (K : PySem.W.Frag) (mg : Str → Option Value) (base : Heap) (k : Nat) (x : Str) (f : Addr) (fd : FuncData) (ps : List Str) (io : List Nat) (φ : List O → RF) : Prop where
  fn : FnF P w K mg base k f fd ps io φ
  bd : Binds K fd ps []
  gl : mg x = some (.ref f)
  kp : PySem.W.keepIn K (.ref f) = true
theorem ok_cal {x : Str} {p : Pos} {es : List Expr} {k j : Nat} {f : Addr} {fd : FuncData} {ps : List Str} {jo : List Nat} {φ : List O → RF} {g : FE (List Pl)} (C : Cal X.prog X.w X.K X.mg X.base k x f fd ps jo φ) (tk : Takes X W) (hr : Room j X.A) (hg : Gl X x) (ha : OkAs X W (e :: es) g)
    (hn : ∀ ρ pls ρ', g ρ = .ok pls ρ' → pls.length = ps.length) (hk : k ≤ j := by decide) (hdb : (x == ("__debug__" : Str)) = false := by decide) (he : starEach (e :: es) X.env = (false, eval e X.env) :: starEach es X.env := by rfl) (hpl : (backTo pos (starEach es X.env)).any (·.1) = false := by rfl) :
    OkO X W (.Call (.Name x p) (e :: es) [] pos) (callF jo φ g) := ok_call C.fn tk (hr.mono hk) hg C.gl C.kp C.bd ha hn hdb he hpl
theorem ok_calK0 {π : ∀ {α : Type}, List α → List α → List α} {x : Str} {p : Pos} {kws : List Keyword} {ks : List Str} {k j : Nat} {f : Addr} {fd : FuncData} {ps : List Str} {jo : List Nat} {φ : List O → RF} {gk : FE (List Pl)} (C : Cal X.prog X.w X.K X.mg X.base k x f fd ps jo φ) (hb : KPerm fd ps ks π) (tk : Takes X W) (hr : Room j X.A) (hg : Gl X x)
    (hkw : OkKs X W kws gk) (hk : k ≤ j := by decide) (hall : (backToKw pos (keywordEach kws X.env)).all (·.1.isSome) = true := by rfl) (hks : (backToKw pos (keywordEach kws X.env)).filterMap (·.1) = ks := by rfl)
    (hdb : (x == ("__debug__" : Str)) = false := by decide) (hpl : ((backTo pos (starEach [] X.env)).any (·.1) || (backToKw pos (keywordEach kws X.env)).any (·.1.isNone)) = false := by rfl) : OkO X W (.Call (.Name x p) [] kws pos) (callKF jo φ π ps.length nilA gk) :=
  ok_callK0 C.fn tk (hr.mono hk) hg C.gl C.kp hb hkw hall hks hdb hpl
end
end Fx

set_option Elab.async false
set_option linter.all false
set_option maxRecDepth 100000
set_option maxHeartbeats 1000000
namespace Fx
variable [FnSem]
open PySem L2
open PyProof.Rows (envOfC)

theorem rpl_ints {K : PySem.W.Frag} {G : Hp} : ∀ ns : List Int, RpL K G (ns.map V.int) (ns.map D.int)
  | [] => .nil
  | n :: ns => .cons (.int n) (rpl_ints ns)
theorem cx_none {P : Program} {w : World} {outer : List PySem.Env} {H : Hp} {s : Shared} {e : Value} {s' : Shared} (h : L2.CX P w outer H s (fun _ _ _ => False) e s') : False := by
  obtain ⟨_, _, _, _, _, _, _, _, _, _, _, _, z⟩ := h
  exact z
def spLawT (K : PySem.W.Frag) : Sp := fun vs H Q _ => (∀ p ∈ FnTabs.tabs, H p.1 = some (.tbl #[])) ∧ ∃ (a : Addr) (ns : List Int), vs = [.ref a] ∧ SqL K H a (ns.map V.int) ∧ ns.length ≤ 63 ∧ ∀ H', Q (.bl true) H'
theorem law_spT {K : PySem.W.Frag} {mg : Str → Option Value} {φ : List O → RF} (hl : ∀ ns : List Int, ns.length ≤ 63 → ∃ os', φ [.v (.lst (ns.map .int))] = .ok (.v (.bl true)) os') : ∀ vs H Q E, spLawT K vs H Q E → spF K mg [] 1 φ vs H Q E := fun vs H Q E h => by
  classical
  obtain ⟨hT, a, ns, rfl, hS, hn, q⟩ := h
  obtain ⟨os', e⟩ := hl ns hn
  let G : Hp := fun b => if ∃ p ∈ FnTabs.tabs, p.1 = b then none else H b
  have gl : Le G H := fun b u hb => by
    by_cases hq : ∃ p ∈ FnTabs.tabs, p.1 = b
    · rw [show G b = none from if_pos hq] at hb; cases hb
    · rwa [show G b = H b from if_neg hq] at hb
  have gk : ∀ b u, H b = some u → (∀ ps, u ≠ .tbl ps) → G b = some u := fun b u hb hu => by
    rw [show G b = H b from if_neg fun ⟨p, hp, hpb⟩ => by
      have := hT p hp
      rw [hpb, hb] at this
      exact hu _ (Option.some.inj this)]
    exact hb
  have hS' : SqL K G a (ns.map V.int) := by
    rcases hS with (h | ⟨o, h⟩) | h
    · exact .inl (.inl (gk _ _ h fun _ => nofun))
    · exact .inl (.inr ⟨o, gk _ _ h fun _ => nofun⟩)
    · exact .inr h
  refine ⟨rfl, G, [.v (.lst (ns.map .int))], fun _ _ => False, rfl, rfl, ⟨rfl, fun i o h => ?_, fun _ _ _ _ z => z.elim, fun _ _ z => z.elim, fun _ _ z => z.elim, ⟨gl, fun p hp => ⟨if_pos ⟨p, hp, rfl⟩, #[], hT p hp, True.intro, fun _ u e => by simp [codeAmong] at e⟩⟩⟩, ?_⟩
  · match i, h with
    | 0, h => cases h; exact ⟨_, rfl, .c (.val (.lst hS' (rpl_ints ns)))⟩
    | i + 1, h => simp at h
  · show PostF K mg _ _ G H Q E (φ _)
    rw [e]
    intro G' H' F' v S rl st ok z
    cases ok with
    | c ok =>
      cases ok with
      | val r => cases r; exact q H'
theorem rc_tup {K : PySem.W.Frag} {a : Addr} {o : Obj} {its : Array Value} {n : Nat} {xs : List V} {ds : List D} (lk : K.lookup a = some o) (h1 : o.cls = .type "tuple" ∧ o.dict = none) (h2 : o.data = .seq its n) (hs : its.size ≤ sizeLine) (hv : Vals xs its.toList) (hr : ∀ G, RpL K G xs ds) : ∀ G, Rp K G (.ref a) (.tup ds) :=
  fun G => .tup ⟨o, h1.2, .inr ⟨lk, its, n, h1.1, h2, hs, hv⟩⟩ (hr G)
def permG {A : Type} (m n : Nat) (ix : List Nat) (xs ys : List A) : List A := if xs.length = m ∧ ys.length = n then ix.filterMap fun i => (xs ++ ys)[i]? else []
theorem permG_len {A : Type} {m n k : Nat} {ix : List Nat} {xs ys : List A} (h : (permG m n ix xs ys).length = k) (hk : 0 < k) : xs.length = m ∧ ys.length = n := by
  unfold permG at h
  by_cases q : xs.length = m ∧ ys.length = n
  · exact q
  · rw [if_neg q] at h
    exact absurd h (Nat.ne_of_lt hk)
theorem paired_get {A B : Type} {R : A → B → Prop} : ∀ {a : List A} {b : List B}, Paired R a b → ∀ i : Nat, (∃ (x : A) (y : B), a[i]? = some x ∧ b[i]? = some y ∧ R x y) ∨ (a[i]? = none ∧ b[i]? = none)
  | _, _, .nil, i => .inr ⟨by simp, by simp⟩
  | _, _, .cons r t, 0 => .inl ⟨_, _, rfl, rfl, r⟩
  | _, _, .cons r t, i + 1 => by simpa using paired_get t i
theorem paired_app {A B : Type} {R : A → B → Prop} : ∀ {a c : List A} {b d : List B}, Paired R a b → Paired R c d → Paired R (a ++ c) (b ++ d)
  | _, _, _, _, .nil, s => s
  | _, _, _, _, .cons r t, s => .cons r (paired_app t s)
theorem permG_rel {A B : Type} {R : A → B → Prop} {m n : Nat} {ix : List Nat} {a b : List A} {c d : List B} (h1 : Paired R a c) (h2 : Paired R b d) : Paired R (permG m n ix a b) (permG m n ix c d) := by
  have l1 : a.length = c.length := Paired.length h1
  have l2 : b.length = d.length := Paired.length h2
  unfold permG
  rw [l1, l2]
  split
  · have h := paired_app h1 h2
    generalize a ++ b = p at h
    generalize c ++ d = q at h
    induction ix with
    | nil => exact .nil
    | cons i ix ih =>
      rw [List.filterMap_cons, List.filterMap_cons]
      rcases paired_get h i with ⟨x, y, e1, e2, r⟩ | ⟨e1, e2⟩
      · rw [e1, e2]; exact .cons r ih
      · rw [e1, e2]; exact ih
  · exact .nil
end Fx

set_option Elab.async false
set_option linter.all false
set_option maxRecDepth 100000
set_option maxHeartbeats 1000000
namespace Fx
open PySem L2

section
variable {α β : Type} {ρ ρ' : Env} {f g : FS} {fa fb fc : FE D} {fo fo' : FE O} {ft fu : FE Bool} {fs : FE (List D)} {fp : FE Pl} {fps : FE (List Pl)} {fl fh : FOp}
@[simp] theorem e_bind_ok {a : α} {k : α → Env → R β} : R.bind (.ok a ρ) k = k a ρ := id rfl
@[simp] theorem e_bind_ex {e : Exn} {k : α → Env → R β} : R.bind (.ex e ρ) k = .ex e ρ := id rfl
@[simp] theorem e_bind_stuck {k : α → Env → R β} : R.bind .stuck k = .stuck := id rfl
@[simp] theorem e_bindS_ok {a : α} {k : α → Env → RS} : bindS (.ok a ρ) k = k a ρ := id rfl
@[simp] theorem e_bindS_ex {e : Exn} {k : α → Env → RS} : bindS (.ex e ρ) k = .ex e ρ := id rfl
@[simp] theorem e_bindS_stuck {k : α → Env → RS} : bindS .stuck k = .stuck := id rfl
def RS.seq (r : RS) (g : FS) : RS := match r with
  | .nx ρ => g ρ
  | r => r
@[simp] theorem e_seq : seqF f g ρ = (f ρ).seq g := id rfl
@[simp] theorem e_seq_nx : (RS.nx ρ).seq g = g ρ := id rfl
@[simp] theorem e_seq_ret {o : O} : (RS.ret o ρ).seq g = .ret o ρ := id rfl
@[simp] theorem e_seq_br : (RS.br ρ).seq g = .br ρ := id rfl
@[simp] theorem e_seq_ct : (RS.ct ρ).seq g = .ct ρ := id rfl
@[simp] theorem e_seq_ex {e : Exn} : (RS.ex e ρ).seq g = .ex e ρ := id rfl
@[simp] theorem e_seq_stuck : RS.stuck.seq g = .stuck := id rfl
@[simp] theorem e_next : nextF ρ = .nx ρ := rfl
@[simp] theorem e_var {i : Nat} : varF i ρ = match ρ[i]? with | some (some (.c (.val d))) => .ok d ρ | _ => .stuck := rfl
@[simp] theorem e_c {d : D} : cF d ρ = .ok d ρ := rfl
@[simp] theorem e_bS {i : Nat} : bS i ρ = match ρ[i]? with | some (some _) => .ok (.sl i) ρ | _ => .stuck := rfl
@[simp] theorem e_bD : bD fa ρ = (fa ρ).bind fun d ρ => .ok (.v d) ρ := rfl
@[simp] theorem e_val : valF fa ρ = (fa ρ).bind fun d ρ => .ok (.v d) ρ := rfl
@[simp] theorem e_frz : frzF fo ρ = (fo ρ).bind fun o ρ => optR (frzT o) ρ := rfl
@[simp] theorem e_frzT1 {d : D} : frzT (.c (.val d)) = some d := rfl
@[simp] theorem e_frzT2 {xs : List D} : frzT (.c (.lst xs)) = some (.lst xs) := rfl
@[simp] theorem e_frzT3 {xs} : frzT (.c (.dk xs)) = some (.dk xs) := rfl
@[simp] theorem e_frzT4 {xs} : frzT (.c (.dt xs)) = some (.dt xs) := rfl
@[simp] theorem e_frzT5 {xs} : frzT (.c (.tb xs)) = some (.tb xs) := rfl
@[simp] theorem e_frzT_ins {c : Str} {fs : List (Str × C1)} : frzT (.ins c fs) = (recOf fs).map (.ob c) := rfl
@[simp] theorem e_frz1 {d : D} : frz (.c (.val d)) = some d := rfl
@[simp] theorem e_frz2 {xs : List D} : frz (.c (.lst xs)) = some (.lst xs) := rfl
@[simp] theorem e_frz3 {xs} : frz (.c (.dk xs)) = some (.dk xs) := rfl
@[simp] theorem e_frz4 {xs} : frz (.c (.dt xs)) = some (.dt xs) := rfl
@[simp] theorem e_op1 {g : D → Option D} : op1F g fa ρ = (fa ρ).bind fun x ρ => optR (g x) ρ := rfl
@[simp] theorem e_op2 {g : D → D → Option D} : op2F g fa fb ρ = (fa ρ).bind fun x ρ => (fb ρ).bind fun y ρ => optR (g x y) ρ := rfl
@[simp] theorem e_opN {g : List D → Option D} : opNF g fs ρ = (fs ρ).bind fun x ρ => optR (g x) ρ := rfl
@[simp] theorem e_b1 {g : C1 → Option D} : b1F g fp ρ = (fp ρ).bind fun p ρ => match p.get ρ with | some c => optR (g c) ρ | none => .stuck := rfl
@[simp] theorem e_b2 {g : C1 → D → Option D} : b2F g fp fa ρ = (fp ρ).bind fun p ρ => (fa ρ).bind fun k ρ => match p.get ρ with | some c => optR (g c k) ρ | none => .stuck := rfl
@[simp] theorem e_get1 {x : D} : (Pl.v x).get ρ = some (.val x) := rfl
@[simp] theorem e_get2 {i : Nat} : (Pl.sl i).get ρ = match ρ[i]? with | some (some (.c c)) => some c | _ => none := rfl
@[simp] theorem e_geto1 {x : D} : (Pl.v x).geto ρ = some (.v x) := rfl
@[simp] theorem e_geto2 {i : Nat} : (Pl.sl i).geto ρ = match ρ[i]? with | some (some o) => some o | _ => none := rfl
@[simp] theorem e_optR1 {a : α} : optR (some a) ρ = .ok a ρ := rfl
@[simp] theorem e_optR2 : optR (none : Option α) ρ = .stuck := rfl
@[simp] theorem e_nil : nilF ρ = .ok [] ρ := rfl
@[simp] theorem e_cons : consF fa fs ρ = (fa ρ).bind fun x ρ => (fs ρ).bind fun xs ρ => .ok (x :: xs) ρ := rfl
@[simp] theorem e_nilA : nilA ρ = .ok [] ρ := rfl
@[simp] theorem e_consA : consA fp fps ρ = (fp ρ).bind fun x ρ => (fps ρ).bind fun xs ρ => .ok (x :: xs) ρ := rfl
theorem line_le {n : Nat} (h : n ≤ 1000000) : n ≤ sizeLine := Nat.le_trans h (by decide)
theorem line_lt {n : Nat} (h : n ≤ 1000000) : n < sizeLine := Nat.lt_of_le_of_lt h (by decide)
@[simp] theorem e_tup : tupF fs ρ = (fs ρ).bind fun xs ρ => if xs.length ≤ sizeLine then .ok (.tup xs) ρ else .stuck := id rfl
@[simp] theorem e_lst : lstF fs ρ = (fs ρ).bind fun xs ρ => if xs.length ≤ sizeLine then .ok (.c (.lst xs)) ρ else .stuck := id rfl
@[simp] theorem e_test : testF fa ρ = (fa ρ).bind fun d ρ => match d with | .bl b => .ok b ρ | _ => .stuck := rfl
@[simp] theorem e_and : andF ft fu ρ = (ft ρ).bind fun b ρ => if b = true then fu ρ else .ok false ρ := rfl
@[simp] theorem e_or : orF ft fu ρ = (ft ρ).bind fun b ρ => if b = true then .ok true ρ else fu ρ := rfl
@[simp] theorem e_not : notF ft ρ = (ft ρ).bind fun b ρ => .ok (!b) ρ := rfl
@[simp] theorem e_andV : andVF fa fb ρ = (fa ρ).bind fun d ρ => match d with | .bl true => fb ρ | .bl false => .ok (.bl false) ρ | _ => .stuck := rfl
@[simp] theorem e_orV : orVF fa fb ρ = (fa ρ).bind fun d ρ => match d with | .bl true => .ok (.bl true) ρ | .bl false => fb ρ | _ => .stuck := rfl
@[simp] theorem e_notV : notVF fa ρ = (fa ρ).bind fun d ρ => match d with | .bl b => .ok (.bl (!b)) ρ | _ => .stuck := rfl
@[simp] theorem e_if {α : Type} {f g : FE α} : ifF ft f g ρ = (ft ρ).bind fun b ρ => if b = true then f ρ else g ρ := rfl
@[simp] theorem e_chain {g g' : D → D → Option D} : chainF g g' fa fb fc ρ = (fa ρ).bind fun x ρ => (fb ρ).bind fun y ρ => match g x y with
  | some (.bl true) => (fc ρ).bind fun z ρ => optR (g' y z) ρ
  | some (.bl false) => .ok (.bl false) ρ
  | _ => .stuck := rfl
@[simp] theorem e_ret : retF fa ρ = bindS (fa ρ) fun d ρ => .ret (.v d) ρ := rfl
@[simp] theorem e_retO : retOF fo ρ = bindS (fo ρ) fun d ρ => .ret d ρ := rfl
@[simp] theorem e_drop : dropF fa ρ = bindS (fa ρ) fun _ ρ => .nx ρ := rfl
@[simp] theorem e_ifS : ifSF ft f g ρ = bindS (ft ρ) fun b ρ => if b = true then f ρ else g ρ := rfl
@[simp] theorem e_set {i : Nat} : setF i fa ρ = bindS (fa ρ) fun d ρ => .nx (ρ.set i (some (.v d))) := rfl
@[simp] theorem e_setO {i : Nat} : setOF i fo ρ = bindS (fo ρ) fun o ρ => .nx (ρ.set i (some o)) := rfl
@[simp] theorem e_par2 {i j : Nat} : par2F i j fs ρ = bindS (fs ρ) fun ds ρ => match ds with | [a, b] => .nx ((ρ.set i (some (.v a))).set j (some (.v b))) | _ => .stuck := rfl
@[simp] theorem e_aug {g : D → D → Option D} {i : Nat} : augF g i fa ρ = match ρ[i]? with
  | some (some (.c (.val x))) => bindS (fa ρ) fun y ρ => match g x y with
    | some z => .nx (ρ.set i (some (.v z)))
    | none => .stuck
  | _ => .stuck := rfl
@[simp] theorem e_asg {g : FG} : asgF fa g ρ = bindS (fa ρ) fun d ρ => match g d ρ with | some ρ => .nx ρ | none => .stuck := rfl
@[simp] theorem e_setIt {fi fe : FE D} : setItF fp fi fe ρ = bindS (fe ρ) fun d ρ => bindS (fp ρ) fun pl ρ => bindS (fi ρ) fun k ρ => match ownL pl ρ, k with
  | some (i, xs), .int k => match ixN xs.length k with
    | some j => .nx (ρ.set i (some (.c (.lst (xs.set j d)))))
    | none => .stuck
  | _, _ => .stuck := rfl
@[simp] theorem e_app : appF fp fa ρ = bindS (fp ρ) fun pl ρ => match ownL pl ρ with
  | some _ => bindS (fa ρ) fun d ρ => (match ownL pl ρ with
    | some (i, xs) => if xs.length < sizeLine then .nx (ρ.set i (some (.c (.lst (xs ++ [d]))))) else .stuck
    | none => .stuck)
  | none => .stuck := id rfl
@[simp] theorem e_ownL {i : Nat} : ownL (.sl i) ρ = match ρ[i]? with | some (some (.c (.lst xs))) => some (i, xs) | _ => none := rfl
@[simp] theorem e_varFz {i : Nat} : varFzF i ρ = match ρ[i]? with
  | some (some o) => match frzT o with
    | some d => .ok d (ρ.set i (some (.v d)))
    | none => .stuck
  | _ => .stuck := rfl
@[simp] theorem e_forS {fi : FE (List D)} {g : FG} {b : FS} : forSF fi g b ρ = bindS (fi ρ) fun ds ρ => forF g b ds ρ := rfl
@[simp] theorem e_itL : itL fa ρ = (fa ρ).bind fun d ρ => match d with | .lst xs => .ok xs ρ | _ => .stuck := rfl
@[simp] theorem e_itT : itT fa ρ = (fa ρ).bind fun d ρ => match d with | .tup xs => .ok xs ρ | _ => .stuck := rfl
noncomputable def rgo1 (d : D) (ρ : Env) : R (List D) := match d with
  | .int j => @ite _ (-(2 ^ 62) ≤ j ∧ j < 2 ^ 62) (Classical.propDecidable _) (.ok (rangeL 0 j.toNat) ρ) .stuck
  | _ => .stuck
noncomputable def rgo2 (x y : D) (ρ : Env) : R (List D) := match x, y with
  | .int i, .int j => @ite _ (-(2 ^ 62) ≤ i ∧ i < 2 ^ 62 ∧ -(2 ^ 62) ≤ j ∧ j < 2 ^ 62) (Classical.propDecidable _) (.ok (rangeL i (j - i).toNat) ρ) .stuck
  | _, _ => .stuck
theorem rgo1_eq {d : D} : rgo1 d ρ = match d with
  | .int j => if -(2 ^ 62) ≤ j ∧ j < 2 ^ 62 then .ok (rangeL 0 j.toNat) ρ else .stuck
  | _ => .stuck := by
  cases d <;> first | rfl | skip
  unfold rgo1
  dsimp only
  congr
theorem rgo2_eq {x y : D} : rgo2 x y ρ = match x, y with
  | .int i, .int j => if -(2 ^ 62) ≤ i ∧ i < 2 ^ 62 ∧ -(2 ^ 62) ≤ j ∧ j < 2 ^ 62 then .ok (rangeL i (j - i).toNat) ρ else .stuck
  | _, _ => .stuck := by
  unfold rgo2
  split
  · congr
  · rfl
@[simp] theorem e_rng1 : rng1 fa ρ = (fa ρ).bind rgo1 := by
  unfold rng1
  congr
  funext d ρ
  exact rgo1_eq.symm
@[simp] theorem e_rng2 : rng2 fa fb ρ = (fa ρ).bind fun x ρ => (fb ρ).bind fun y ρ => rgo2 x y ρ := by
  unfold rng2
  congr
  funext x ρ
  congr
  funext y ρ
  exact rgo2_eq.symm
theorem e_rgo1 {j : Int} (h : -(2 ^ 62) ≤ j ∧ j < 2 ^ 62) : rgo1 (.int j) ρ = .ok (rangeL 0 j.toNat) ρ := by
  unfold rgo1
  exact if_pos h
theorem e_rgo2 {i j : Int} (h : -(2 ^ 62) ≤ i ∧ i < 2 ^ 62 ∧ -(2 ^ 62) ≤ j ∧ j < 2 ^ 62) : rgo2 (.int i) (.int j) ρ = .ok (rangeL i (j - i).toNat) ρ := by
  unfold rgo2
  exact if_pos h
@[simp] theorem e_rgo1n {i : Int} (h0 : 0 ≤ i) (h : i ≤ 1000000) : rgo1 (.int i) ρ = .ok (rangeL 0 i.toNat) ρ := e_rgo1 (by omega)
@[simp] theorem e_rgo2n {i j : Int} (h0 : 0 ≤ i) (h : i ≤ 1000000) (h0 : 0 ≤ j) (h : j ≤ 1000000) : rgo2 (.int i) (.int j) ρ = .ok (rangeL i (j - i).toNat) ρ := e_rgo2 (by omega)
@[simp] theorem e_nameG {i : Nat} {d : D} : nameG i d ρ = some (ρ.set i (some (.v d))) := rfl
@[simp] theorem e_noP : noP ρ = .ok none ρ := rfl
@[simp] theorem e_someP : someP fa ρ = (fa ρ).bind fun d ρ => match d with | .int i => .ok (some i) ρ | _ => .stuck := rfl
@[simp] theorem e_sl : slF fp fl fh ρ = (fp ρ).bind fun pl ρ => (fl ρ).bind fun lo ρ => (fh ρ).bind fun hi ρ => match pl.get ρ with
  | some c => optR (slD c lo hi) ρ
  | none => .stuck := rfl
@[simp] theorem e_slL : slLF fp fl fh ρ = (fp ρ).bind fun pl ρ => (fl ρ).bind fun lo ρ => (fh ρ).bind fun hi ρ => match (pl.get ρ).bind C1.lst? with
  | some xs => .ok (.c (.lst (cutL xs lo hi))) ρ
  | none => .stuck := rfl
@[simp] theorem e_revL : revLF fp ρ = (fp ρ).bind fun pl ρ => match (pl.get ρ).bind C1.lst? with | some xs => .ok (.c (.lst xs.reverse)) ρ | none => .stuck := rfl
@[simp] theorem e_list : listF fp ρ = (fp ρ).bind fun pl ρ => match (pl.get ρ).bind C1.seq? with | some xs => .ok (.c (.lst xs)) ρ | none => .stuck := rfl
@[simp] theorem e_lc {fi : FE (List D)} {vs : List Nat} {g : FG} {ft : FE Bool} {fe : FE D} : lcF fi vs g ft fe ρ = (fi ρ).bind fun ds ρ => if ds.length < sizeLine ∧ plainVs ρ vs = true then (compGo vs g (noEx ft) (noEx fe) ds ρ).bind fun ys ρ => .ok (.c (.lst ys)) ρ else .stuck := id rfl
@[simp] theorem e_call {io : List Nat} {φ : List O → RF} : callF io φ fps ρ = (fps ρ).bind fun pls ρ => callP io φ pls ρ := id rfl
@[simp] theorem e_callK {io : List Nat} {φ : List O → RF} {π : ∀ {α : Type}, List α → List α → List α} {n : Nat} {fk : FE (List Pl)} : callKF io φ π n fps fk ρ = (fps ρ).bind fun xs ρ => (fk ρ).bind fun ys ρ => if (π xs ys).length = n then callP io φ (π xs ys) ρ else .stuck := id rfl
def callR (pls : List Pl) (ρ : Env) (r : RF) : R O := match r with
  | .ok o os' => .ok o (putAll pls os' ρ)
  | .ex e os' => .ex e (putAll pls os' ρ)
  | .stuck => .stuck
@[simp] theorem e_callR1 {pls : List Pl} {o : O} {os : List O} : callR pls ρ (.ok o os) = .ok o (putAll pls os ρ) := id rfl
@[simp] theorem e_callR2 {pls : List Pl} {e : Exn} {os : List O} : callR pls ρ (.ex e os) = .ex e (putAll pls os ρ) := id rfl
@[simp] theorem e_callP {io : List Nat} {φ : List O → RF} {pls : List Pl} : callP io φ pls ρ = match getAll pls ρ with
  | some os => if (slots pls).Nodup ∧ chk io 0 os = true then callR pls ρ (φ os) else .stuck
  | none => .stuck := rfl
@[simp] theorem e_getAll0 : getAll [] ρ = some [] := rfl
@[simp] theorem e_getAll1 {p : Pl} {ps : List Pl} : getAll (p :: ps) ρ = match p.geto ρ, getAll ps ρ with | some o, some os => some (o :: os) | _, _ => none := rfl
@[simp] theorem e_putAll0 {os : List O} : putAll [] os ρ = ρ := by simp [putAll]
@[simp] theorem e_putAll1 {i : Nat} {ps : List Pl} {o : O} {os : List O} : putAll (.sl i :: ps) (o :: os) ρ = (putAll ps os ρ).set i (some o) := rfl
@[simp] theorem e_putAll2 {x : D} {ps : List Pl} {o : O} {os : List O} : putAll (.v x :: ps) (o :: os) ρ = putAll ps os ρ := rfl
@[simp] theorem e_slots0 : slots [] = [] := rfl
@[simp] theorem e_slots1 {i : Nat} {ps : List Pl} : slots (.sl i :: ps) = i :: slots ps := rfl
@[simp] theorem e_geto3 {ψ : D → RD} : (Pl.f ψ).geto ρ = some (.fn ψ) := rfl
@[simp] theorem e_putAll3 {ψ : D → RD} {ps : List Pl} {o : O} {os : List O} : putAll (.f ψ :: ps) (o :: os) ρ = putAll ps os ρ := rfl
@[simp] theorem e_slots3 {ψ : D → RD} {ps : List Pl} : slots (.f ψ :: ps) = slots ps := rfl
@[simp] theorem e_isVf {ψ : D → RD} : isV (.fn ψ) = true := rfl
@[simp] theorem e_slots2 {x : D} {ps : List Pl} : slots (.v x :: ps) = slots ps := rfl
@[simp] theorem e_chk0 {io : List Nat} {k : Nat} : chk io k [] = true := rfl
@[simp] theorem e_chk1 {io : List Nat} {k : Nat} {o : O} {os : List O} : chk io k (o :: os) = ((isV o || io.contains k) && chk io (k + 1) os) := rfl
@[simp] theorem e_isV {d : D} : isV (.c (.val d)) = true := rfl
@[simp] theorem e_fin0 {io : List Nat} {k : Nat} : fin io ρ k [] = some [] := rfl
@[simp] theorem e_fin1 {io : List Nat} {k : Nat} {o : O} {os : List O} : fin io ρ k (o :: os) = match (if io.contains k then (match ρ[k]? with | some (some o') => some o' | _ => none) else some o), fin io ρ (k + 1) os with
  | some a, some r => some (a :: r)
  | _, _ => none := rfl
@[simp] theorem e_body1 {io : List Nat} {os : List O} : bodyF io os (.nx ρ) = match fin io ρ 0 os with | some os' => .ok (.v .non) os' | none => .stuck := rfl
@[simp] theorem e_body2 {io : List Nat} {os : List O} {o : O} : bodyF io os (.ret o ρ) = match fin io ρ 0 os with | some os' => .ok o os' | none => .stuck := rfl
@[simp] theorem e_body3 {io : List Nat} {os : List O} {e : Exn} : bodyF io os (.ex e ρ) = match fin io ρ 0 os with | some os' => .ex e os' | none => .stuck := rfl
@[simp] theorem e_body4 {io : List Nat} {os : List O} : bodyF io os .stuck = .stuck := rfl
@[simp] theorem e_start {N : List Str} {os : List O} : startE N os = os.map some ++ List.replicate (N.length - os.length) none := rfl
@[simp] theorem e_noEx {f : FE α} : noEx f ρ = match f ρ with | .ex _ _ => .stuck | r => r := rfl
@[simp] theorem e_yes : yesF ρ = .ok true ρ := rfl
end
@[simp] theorem v_ii {f : Int → Int → Int} {i j : Int} : iiD f (.int i) (.int j) = some (.int (f i j)) := rfl
@[simp] theorem v_iic {C : Int → Int → Prop} [∀ i j, Decidable (C i j)] {f : Int → Int → Int} {i j : Int} : iicD C f (.int i) (.int j) = if C i j then some (.int (f i j)) else none := rfl
@[simp] theorem v_ib {f : Int → Int → Bool} {i j : Int} : ibD f (.int i) (.int j) = some (.bl (f i j)) := rfl
@[simp] theorem v_i {f : Int → Int} {i : Int} : iD f (.int i) = some (.int (f i)) := rfl
@[simp] theorem v_plusI {i j : Int} : plusD (.int i) (.int j) = some (.int (i + j)) := rfl
@[simp] theorem v_plusS {i j : Str} : plusD (.str i) (.str j) = if i.length + j.length ≤ sizeLine then some (.str (i ++ j)) else none := id rfl
@[simp] theorem v_plusT {i j : List D} : plusD (.tup i) (.tup j) = if i.length + j.length ≤ sizeLine then some (.tup (i ++ j)) else none := id rfl
@[simp] theorem v_isB {n a b : Bool} : isBD n (.bl a) (.bl b) = some (.bl (if n then !decide (a = b) else decide (a = b))) := rfl
@[simp] theorem v_ixL {xs : List D} {i : Int} : ixD (.lst xs) (.int i) = L2.atI xs i := rfl
@[simp] theorem v_ixl {xs : List D} {i : Int} : ixD (.val (.lst xs)) (.int i) = L2.atI xs i := rfl
@[simp] theorem v_ixt {xs : List D} {i : Int} : ixD (.val (.tup xs)) (.int i) = L2.atI xs i := rfl
@[simp] theorem v_int1 {i : Int} : intD (.val (.int i)) = some (.int i) := rfl
@[simp] theorem v_int2 {b : Bool} : intD (.val (.bl b)) = some (.int (if b then 1 else 0)) := rfl
@[simp] theorem v_abs {i : Int} : absD (.val (.int i)) = some (.int (if i < 0 then -i else i)) := rfl
@[simp] theorem v_lenL {xs : List D} : lenD (.lst xs) = some (.int xs.length) := rfl
@[simp] theorem v_lenl {xs : List D} : lenD (.val (.lst xs)) = some (.int xs.length) := rfl
@[simp] theorem v_lent {xs : List D} : lenD (.val (.tup xs)) = some (.int xs.length) := rfl
@[simp] theorem v_gcd {i j : Int} : gcdD [.int i, .int j] = some (.int (Nat.gcd i.natAbs j.natAbs : Nat)) := rfl
@[simp] theorem v_tupl {xs : List D} : tupleD (.val (.lst xs)) = some (.tup xs) := rfl
@[simp] theorem v_tupL {xs : List D} : tupleD (.lst xs) = some (.tup xs) := rfl
@[simp] theorem v_tupt {xs : List D} : tupleD (.val (.tup xs)) = some (.tup xs) := rfl
@[simp] theorem v_slL {xs : List D} {lo hi : Option Int} : slD (.lst xs) lo hi = some (.lst (cutL xs lo hi)) := rfl
@[simp] theorem v_sll {xs : List D} {lo hi : Option Int} : slD (.val (.lst xs)) lo hi = some (.lst (cutL xs lo hi)) := rfl
@[simp] theorem v_slt {xs : List D} {lo hi : Option Int} : slD (.val (.tup xs)) lo hi = some (.tup (cutL xs lo hi)) := rfl
@[simp] theorem v_lst1 {xs : List D} : C1.lst? (.lst xs) = some xs := rfl
@[simp] theorem v_lst2 {xs : List D} : C1.lst? (.val (.lst xs)) = some xs := rfl
@[simp] theorem v_seq1 {xs : List D} : C1.seq? (.lst xs) = some xs := rfl
@[simp] theorem v_seq2 {xs : List D} : C1.seq? (.val (.lst xs)) = some xs := rfl
@[simp] theorem v_seq3 {xs : List D} : C1.seq? (.val (.tup xs)) = some xs := rfl
@[simp] theorem v_isN1 {n : Bool} : isNoneD n (.val .non) = some (.bl (!n)) := rfl
@[simp] theorem v_isN2 {n : Bool} {i : Int} : isNoneD n (.val (.int i)) = some (.bl n) := rfl
@[simp] theorem v_isN3 {n : Bool} {i : List D} : isNoneD n (.val (.tup i)) = some (.bl n) := rfl
@[simp] theorem v_isN4 {n : Bool} {i : List D} : isNoneD n (.val (.lst i)) = some (.bl n) := rfl
@[simp] theorem v_isN5 {n : Bool} {i : Str} : isNoneD n (.val (.str i)) = some (.bl n) := rfl
@[simp] theorem v_isi {T : String} {c : C1} : isiD T c = match tyN c with | some t => some (.bl (if T = "int" then decide (t = "int" ∨ t = "bool") else decide (t = T))) | none => none := rfl
@[simp] theorem v_ty1 : tyN (.val .non) = some "NoneType" := rfl
@[simp] theorem v_ty2 {b : Bool} : tyN (.val (.bl b)) = some "bool" := rfl
@[simp] theorem v_ty3 {i : Int} : tyN (.val (.int i)) = some "int" := rfl
@[simp] theorem v_ty4 {i : Str} : tyN (.val (.str i)) = some "str" := rfl
@[simp] theorem v_ty5 {i : List D} : tyN (.val (.tup i)) = some "tuple" := rfl
@[simp] theorem v_ty6 {i : List D} : tyN (.val (.lst i)) = some "list" := rfl
@[simp] theorem v_ty7 {i} : tyN (.val (.dk i)) = none := rfl
@[simp] theorem v_ty8 {i} : tyN (.val (.dt i)) = none := rfl
@[simp] theorem v_ty9 {i} : tyN (.val (.tb i)) = none := rfl
@[simp] theorem v_ty10 {i} : tyN (.val (.wt i)) = none := rfl
@[simp] theorem v_all {xs : List D} : allD (.val (.lst xs)) = (xs.mapM unbl).map fun bs => .bl (bs.all id) := rfl
@[simp] theorem v_allL {xs : List D} : allD (.lst xs) = (xs.mapM unbl).map fun bs => .bl (bs.all id) := rfl
@[simp] theorem v_atI0 {α : Type} {x : α} {xs : List α} : L2.atI (x :: xs) 0 = some x := by
  unfold L2.atI L2.ixN
  rw [if_pos (Int.le_refl 0), if_pos (by simp)]
  rfl
theorem v_atI {α : Type} {xs : List α} {i : Int} {n : Nat} (h : i = n) (hn : n < xs.length) : L2.atI xs i = xs[n]? := by
  subst h
  unfold L2.atI L2.ixN
  rw [if_pos (by omega), if_pos (by omega)]
  rfl
@[simp] theorem v_atI1 {α : Type} {x y : α} {xs : List α} : L2.atI (x :: y :: xs) 1 = some y := v_atI (n := 1) rfl (by simp)
@[simp] theorem v_atI2 {α : Type} {x y z : α} {xs : List α} : L2.atI (x :: y :: z :: xs) 2 = some z := v_atI (n := 2) rfl (by simp)
@[simp] theorem v_atI3 {α : Type} {x y z w : α} {xs : List α} : L2.atI (x :: y :: z :: w :: xs) 3 = some w := v_atI (n := 3) rfl (by simp)
theorem v_ixN {n : Nat} {i : Int} (h0 : 0 ≤ i) (hn : i < n) : L2.ixN n i = some i.toNat := by
  unfold L2.ixN
  rw [if_pos h0, if_pos hn]
theorem v_eq {n : Bool} {a b : D} (ha : SeqAt.shaped (toPy a) = true) (hb : SeqAt.shaped (toPy b) = true) : eqD n a b = some (.bl (if n then !eqB a b else eqB a b)) := by
  unfold eqD
  rw [if_pos ⟨ha, hb⟩]
@[simp] theorem v_eqII {n : Bool} {i j : Int} : eqD n (.int i) (.int j) = some (.bl (if n then !decide (i = j) else decide (i = j))) := by
  rw [v_eq rfl rfl]
  simp [eqB, toPy, PyData.eqv, Bool.beq_eq_decide_eq]
@[simp] theorem powC_iff {i j : Int} : PowC i j ↔ 0 ≤ j ∧ j ≤ 1000000 ∧ i.natAbs < 2 ^ 64 := Iff.rfl
@[simp] theorem modC_iff {i j : Int} : ModC i j ↔ j ≠ 0 := Iff.rfl
@[simp] theorem mulC_r {i j : Int} (h : j.natAbs < 2 ^ 62) : MulC i j := .inr (.inr h)
@[simp] theorem mulC_l {i j : Int} (h : i.natAbs < 2 ^ 62) : MulC i j := .inr (.inl h)
theorem divC_of {i j : Int} (h0 : j ≠ 0) (h : j.natAbs < 2 ^ 8999) : DivC i j := ⟨h0, by
  have := (Nat.log2_lt (show j.natAbs ≠ 0 by omega)).mpr h
  omega⟩
theorem divC_s {i j : Int} (h0 : 0 < j) (h : j < 2 ^ 62) : DivC i j := divC_of (by omega) (Nat.lt_of_lt_of_le (show j.natAbs < 2 ^ 62 by omega) (Nat.pow_le_pow_right (by decide) (by decide)))
@[simp] theorem v_eqNN {n : Bool} : eqD n (.lst []) (.lst []) = some (.bl (if n then false else true)) := by
  rw [v_eq (a := .lst []) (b := .lst []) rfl rfl]
  cases n <;> rfl
@[simp] theorem toPyL_ints (ns : List Int) : toPyL (ns.map D.int) = ns.map PyData.int := by
  induction ns with
  | nil => rfl
  | cons n ns ih => rw [List.map_cons, toPyL, ih]; rfl
theorem shaped_ints (ns : List Int) : SeqAt.shaped (toPy (.lst (ns.map .int))) = true := by
  have h1 : ∀ ns : List Int, PyData.canLayAll0 (ns.map PyData.int) = true := fun ns => by
    induction ns with
    | nil => rfl
    | cons n ns ih => rw [List.map_cons]; simp only [PyData.canLayAll0, ih, PyData.canLay0, Bool.and_self]
  have h2 : ∀ ns : List Int, PyData.depthAll (ns.map PyData.int) = 0 := fun ns => by
    induction ns with
    | nil => rfl
    | cons n ns ih => rw [List.map_cons]; simp [PyData.depthAll, ih, PyData.depth]
  unfold SeqAt.shaped toPy
  rw [toPyL_ints]
  simp only [PyData.canLay0, h1, PyData.depth, h2]
  rfl
theorem v_eqNil {n : Bool} {ns : List Int} : eqD n (.lst (ns.map .int)) (.lst []) = some (.bl (if n then !ns.isEmpty else ns.isEmpty)) := by
  rw [v_eq (b := .lst []) (shaped_ints ns) rfl]
  cases ns <;> cases n <;> rfl
theorem while_step {c : FE Bool} {b : FS} {ρ ρ1 ρ2 : Env} (ht : c ρ = .ok true ρ1) (hb : b ρ1 = .nx ρ2) : whileF c b ρ = whileF c b ρ2 := by
  rw [whileF_unfold, ht]
  simp only [e_bindS_ok, if_true, hb]
theorem while_done {c : FE Bool} {b : FS} {ρ ρ1 : Env} (ht : c ρ = .ok false ρ1) : whileF c b ρ = .nx ρ1 := by
  rw [whileF_unfold, ht]
  simp only [e_bindS_ok, Bool.false_eq_true, if_false]
theorem for_step {g : FG} {b : FS} {d : D} {ds : List D} {ρ ρ1 ρ2 : Env} (hg : g d ρ = some ρ1) (hb : b ρ1 = .nx ρ2) : forF g b (d :: ds) ρ = forF g b ds ρ2 := by
  show (match g d ρ with | some ρ => _ | none => _) = _
  rw [hg]
  simp only [hb]
theorem for_ret {g : FG} {b : FS} {d : D} {ds : List D} {ρ ρ1 ρ2 : Env} {o : O} (hg : g d ρ = some ρ1) (hb : b ρ1 = .ret o ρ2) : forF g b (d :: ds) ρ = .ret o ρ2 := by
  show (match g d ρ with | some ρ => _ | none => _) = _
  rw [hg]
  simp only [hb]
theorem for_range_inv {g : FG} {b : FS} (I : Nat → Env → Prop) {lo : Int} {n : Nat} (step : ∀ i ρ, i < n → I i ρ → ∃ ρ1 ρ2, g (.int (lo + i)) ρ = some ρ1 ∧ b ρ1 = .nx ρ2 ∧ I (i + 1) ρ2) {ρ : Env} (h0 : I 0 ρ) :
    ∃ ρ', forF g b (rangeL lo n) ρ = .nx ρ' ∧ I n ρ' := by
  have key : ∀ (m i : Nat) (ρ : Env), i + m = n → I i ρ → ∃ ρ', forF g b (((List.range' i m)).map fun (k : Nat) => D.int (lo + (k : Int))) ρ = .nx ρ' ∧ I n ρ' := by
    intro m
    induction m with
    | zero =>
      intro i ρ e h
      have : i = n := by omega
      subst this
      exact ⟨ρ, rfl, h⟩
    | succ m ih =>
      intro i ρ e h
      obtain ⟨ρ1, ρ2, h1, h2, h3⟩ := step i ρ (by omega) h
      obtain ⟨ρ', h4, h5⟩ := ih (i + 1) ρ2 (by omega) h3
      refine ⟨ρ', ?_, h5⟩
      rw [List.range'_succ, List.map_cons, for_step h1 h2, h4]
  unfold rangeL
  rw [List.range_eq_range']
  exact key n 0 ρ (by omega) h0
end Fx

set_option Elab.async false
set_option linter.all false
set_option maxRecDepth 100000
set_option maxHeartbeats 1000000
namespace Fx
variable [FnSem]
open PySem L2

structure ExC (K : PySem.W.Frag) (mg : Str → Option Value) (x : Str) (C : Addr) : Prop where
  m : mg x = some (.ref C)
  e : PySem.W.excIn K C [.type "ValueError", .type "Exception", .type "BaseException", .type "object"] "ValueError.__new__" = true
  k : PySem.W.keepIn K (.ref C) = true
  b : PySem.W.subIn K (.ref C) (.type "BaseException") = some true
  t : PySem.W.typeIn K (.ref C) = some (.type "type")
  d : PySem.W.isClsIn K C = true
structure ExH (K : PySem.W.Frag) (mg : Str → Option Value) (x : Str) (C : Addr) : Prop where
  m : mg x = some (.ref C)
  b : PySem.W.subIn K (.ref C) (.type "BaseException") = some true
  t : PySem.W.typeIn K (.ref C) = some (.type "type")
  d : PySem.W.isClsIn K C = true
theorem ExH.exm {K : PySem.W.Frag} {mg : Str → Option Value} {x : Str} {C : Addr} (h : ExH K mg x C) {cls : Value} {b : Bool} (h4 : PySem.W.subIn K cls (.ref C) = some b) : PySem.W.exmOne K cls (.ref C) = some b := by
  have e1 : (PySem.W.subIn K (.ref C) (.type "BaseException") == some true) = true := by rw [h.b] <;> rfl
  have e2 : ((PySem.W.clsIn K C).isSome && PySem.W.typeIn K (.ref C) == some (.type "type")) = true := by
    have h2' : (PySem.W.clsIn K C).isSome = true := h.d
    rw [h2', h.t] <;> rfl
  show (if (PySem.W.subIn K (.ref C) (.type "BaseException") == some true) = true then (if ((PySem.W.clsIn K C).isSome && PySem.W.typeIn K (.ref C) == some (.type "type")) = true then PySem.W.subIn K cls (.ref C) else none) else none) = some b
  rw [if_pos e1, if_pos e2]
  exact h4
inductive TblOk (K : PySem.W.Frag) (mg : Str → Option Value) (C : Addr) : List (Str × Bool) → Prop
  | nil : TblOk K mg C []
  | cons {c : Str} {A : Addr} {b : Bool} {r : List (Str × Bool)} : mg c = some (.ref A) → PySem.W.subIn K (.ref A) (.ref C) = some b → TblOk K mg C r → TblOk K mg C ((c, b) :: r)
theorem TblOk.get {K : PySem.W.Frag} {mg : Str → Option Value} {C : Addr} {c : Str} {cv : Value} {b : Bool} (hm : mg c = some cv) : ∀ {t : List (Str × Bool)}, TblOk K mg C t → t.lookup c = some b → PySem.W.subIn K cv (.ref C) = some b
  | _, .nil, h => by cases h
  | _, .cons (c := c') h1 h2 r, h => by
    rw [List.lookup_cons] at h
    by_cases e : c = c'
    · subst e
      rw [beq_self_eq_true] at h
      cases h
      rw [hm] at h1
      cases h1
      exact h2
    · rw [beq_eq_false_iff_ne.mpr e] at h
      exact r.get hm h
def raiseF (c : Str) : FS := fun ρ => .ex ⟨c, []⟩ ρ
def handF : List (List (Str × Bool) × FS) → Exn → Env → RS
  | [], e, ρ => .ex e ρ
  | (t, g) :: r, e, ρ => match t.lookup e.cls with
    | some true => (match g ρ with
      | .ex _ _ => .stuck
      | u => u)
    | some false => handF r e ρ
    | none => .stuck
def tryF (f : FS) (hs : List (List (Str × Bool) × FS)) : FS := fun ρ => match f ρ with
  | .ex e ρ' => handF hs e ρ'
  | r => r

inductive HsOk (X : Cx) (io : List Nat) : List ExceptHandler → List (List (Str × Bool) × FS) → List (Value × (Addr → Value → Option Addr → TS)) → Prop
  | nil : HsOk X io [] [] []
  | cons {x : Str} {C : Addr} {t : List (Str × Bool)} {g : FS} {b₀ : Stmt} {suite : List Stmt} {np pos' : Pos} {hds : List ExceptHandler} {gs l} (hg : Gl X x) (hC : ExH X.K X.mg x C) (ht : TblOk X.K X.mg C t)
      (hsu : ∀ (a : Addr) (oe : Obj) (pn : List (Addr × Obj)), OkSs (X.suite a ((a, oe) :: pn)) W0 io (b₀ :: suite) g) (r : HsOk X io hds gs l) (hdb : (x == ("__debug__" : Str)) = false := by decide) :
      HsOk X io (.ExceptHandler (some (.Name x np)) none (b₀ :: suite) pos' :: hds) ((t, g) :: gs) ((.ref C, fun _ _ _ => tS X.K X.mg W0 io g) :: l)
section
variable {X : Cx} {W : WX} {io : List Nat} {pos : Pos}
theorem ok_raise {x m : Str} {j} {C : Addr} {p p2 p3 : Pos} (hc : X.calm = true) (tk : Takes X W) (hC : ExC X.K X.mg x C) (hg : Gl X x) (hdb : (x == ("__debug__" : Str)) = false := by decide) :
    OkS X W io (.Raise (some (.Call (.Name x p) [.Constant (.str m) j p2] [] p3)) none pos) (raiseF x) :=
  (ps_raise hc tk (pmk_own PySem.F.excBase_ValueError hC.e hC.m hC.k (raises_own hC.b hC.t) hg hdb)).to fun Dn σ H h => by
    obtain ⟨G, ρ, F, rl, p⟩ := h
    exact p _ none σ G H F rl .refl (fun _ _ => rfl) ⟨hC.m, .inl ⟨rfl, rfl⟩⟩
theorem HsOk.hds {hds : List ExceptHandler} {gs l} (h : HsOk X io hds gs l) : HdsOk X hds l := by
  induction h with
  | nil => exact .nil
  | cons hg hC ht hsu r hdb ih => exact .cons ⟨hg, hdb, .inl hC.m⟩ (fun a oe cls d pn _ _ => hsu a oe pn) ih
theorem handF_post {K : PySem.W.Frag} {mg : Str → Option Value} {hds : List ExceptHandler} {gs l} (h : HsOk X io hds gs l) {σ σ1 : L2.St} {F F1 : Fp} {G H G1 H1 : Hp} {Dn : Ends} {e : Exn} {ρ' : Fx.Env} {cv : Value} {d : Option Addr}
    (p : PostS X.K X.mg W io σ F G H Dn (handF gs e ρ')) (rl : Rel X.K X.mg G1 H1 σ1 ρ' F1) (st : Stp F G H G1 H1 F1) (hσ : ∀ i ∈ io, σ1[i]? = σ[i]?) (x : XOk X.K X.mg G1 H1 e cv d) : wMany X.K W Dn l cv d σ1 H1 := by
  induction h with
  | nil => exact p cv d σ1 G1 H1 F1 rl st hσ x
  | @cons x' C t g b₀ suite np pos' hds gs l hg hC ht hsu r hdb ih =>
    unfold handF at p
    cases hl : t.lookup e.cls with
    | none => rw [hl] at p; exact p.elim
    | some b =>
      rw [hl] at p
      refine ⟨b, hC.exm (ht.get x.1 hl), fun e' => ?_, fun e' => ?_⟩
      · subst e'
        intro a _
        refine ⟨G1, ρ', F1, rl, ?_⟩
        have p1 := PostS.after st hσ p
        cases hgr : g ρ' with
        | ex e2 ρ2 => simp only [hgr] at p; exact p.elim
        | nx ρ2 => simp only [hgr] at p1; exact p1
        | ret o ρ2 => simp only [hgr] at p1; exact p1
        | br ρ2 => simp only [hgr] at p1; exact p1
        | ct ρ2 => simp only [hgr] at p1; exact p1
        | stuck => simp only [hgr] at p; exact p.elim
      · subst e'
        exact ih p
theorem ok_try {body : List Stmt} {f : FS} {hds : List ExceptHandler} {h₀ : ExceptHandler} {gs l} (hs : X.stack = X.env :: X.outer) (hf : X.env.frame = some X.env.locals) (tk : Takes X W)
    (hb : ∀ (W' : WX) (pn : List (Addr × Obj)) (xe : Value → Shared → Prop), Takes (X.tr pn xe) W' → PassesOwn (model X.prog X.w) X.A X.env xe → OkSs (X.tr pn xe) W' io body f) (hh : HsOk X io (h₀ :: hds) gs l) :
    OkS X W io (.Try body (h₀ :: hds) [] [] pos) (tryF f gs) :=
  (ps_try_many (tb := fun W' => tS X.K X.mg W' io f) hs hf tk hb hh.hds).to fun Dn σ H h => by
    obtain ⟨G, ρ, F, rl, p⟩ := h
    refine ⟨G, ρ, F, rl, ?_⟩
    unfold tryF at p
    cases hr : f ρ with
    | ex e ρ' =>
      rw [hr] at p
      intro cv d σ' G' H' F' rl' st hσ x
      exact handF_post (K := X.K) (mg := X.mg) hh p rl' st hσ x
    | nx ρ' => rw [hr] at p; exact p
    | ret o ρ' => rw [hr] at p; exact p
    | br ρ' => rw [hr] at p; exact p
    | ct ρ' => rw [hr] at p; exact p
    | stuck => rw [hr] at p; exact p
end
end Fx

set_option Elab.async false
set_option linter.all false
set_option maxRecDepth 100000
set_option maxHeartbeats 1000000
namespace Fx
variable [FnSem]
open PySem L2
structure ExV (K : PySem.W.Frag) (D : Addr) : Prop where
  x : ExcC K D
  v : PySem.W.kitOne K (.ref D) (.type "ValueError") = some true
inductive TblV (K : PySem.W.Frag) (mg : Str → Option Value) : List (Str × Bool) → Prop
  | nil : TblV K mg []
  | yes {c : Str} {A : Addr} {r : List (Str × Bool)} : mg c = some (.ref A) → ExV K A → TblV K mg r → TblV K mg ((c, true) :: r)
  | no {c : Str} {r : List (Str × Bool)} : TblV K mg r → TblV K mg ((c, false) :: r)
theorem TblV.get {K : PySem.W.Frag} {mg : Str → Option Value} {c : Str} {cv : Value} (hm : mg c = some cv) : ∀ {t : List (Str × Bool)}, TblV K mg t → t.lookup c = some true → ∃ A, cv = .ref A ∧ ExV K A
  | _, .nil, h => by cases h
  | _, .yes (c := c') h1 h2 r, h => by
    rw [List.lookup_cons] at h
    by_cases e : c = c'
    · subst e
      rw [hm] at h1
      cases h1
      exact ⟨_, rfl, h2⟩
    · rw [beq_eq_false_iff_ne.mpr e] at h
      exact r.get hm h
  | _, .no (c := c') r, h => by
    rw [List.lookup_cons] at h
    by_cases e : c = c'
    · subst e
      rw [beq_self_eq_true] at h
      cases h
    · rw [beq_eq_false_iff_ne.mpr e] at h
      exact r.get hm h
section
variable {X : Cx} {W : WX} {io : List Nat} {pos : Pos}
end
end Fx

set_option Elab.async false
set_option linter.all false
set_option maxRecDepth 100000
set_option maxHeartbeats 1000000
namespace Fx
open PySem L2
section
variable {ρ : Env} {f g : FS} {e : Exn} {o : O} {hs : List (List (Str × Bool) × FS)} {t : List (Str × Bool)} {i j : Nat}
@[simp] theorem e_raise {c : Str} : raiseF c ρ = .ex ⟨c, []⟩ ρ := rfl
def tryH (hs : List (List (Str × Bool) × FS)) (r : RS) : RS := match r with
  | .ex e ρ' => handF hs e ρ'
  | r => r
theorem e_try : tryF f hs ρ = tryH hs (f ρ) := by
  unfold tryF tryH
  cases f ρ <;> rfl
@[simp] theorem e_tryH_nx : tryH hs (.nx ρ) = .nx ρ := id rfl
@[simp] theorem e_tryH_ret : tryH hs (.ret o ρ) = .ret o ρ := id rfl
@[simp] theorem e_tryH_ex : tryH hs (.ex e ρ) = handF hs e ρ := id rfl
def RS.calm (r : RS) : RS := match r with
  | .ex _ _ => .stuck
  | r => r
@[simp] theorem e_calm_nx : (RS.nx ρ).calm = .nx ρ := id rfl
@[simp] theorem e_calm_ret : (RS.ret o ρ).calm = .ret o ρ := id rfl
@[simp] theorem e_calm_ct : (RS.ct ρ).calm = .ct ρ := id rfl
@[simp] theorem e_calm_br : (RS.br ρ).calm = .br ρ := id rfl
theorem hand_yes (h : t.lookup e.cls = some true) : handF ((t, g) :: hs) e ρ = (g ρ).calm := by
  show (match t.lookup e.cls with | some true => _ | some false => _ | none => _) = _
  rw [h]
  unfold RS.calm
  cases g ρ <;> rfl
end
@[simp] theorem v_eqSS {n : Bool} {a b : Str} (ha : PyData.strOk a = true) (hb : PyData.strOk b = true) : eqD n (.str a) (.str b) = some (.bl (if n then !decide (a = b) else decide (a = b))) := by
  rw [v_eq (by simp [SeqAt.shaped, toPy, PyData.canLay0, ha, PyData.depth]) (by simp [SeqAt.shaped, toPy, PyData.canLay0, hb, PyData.depth])]
  simp [eqB, toPy, PyData.eqv, Bool.beq_eq_decide_eq]
end Fx

set_option Elab.async false
set_option linter.all false
set_option maxRecDepth 100000
set_option maxHeartbeats 3200000
namespace Fx
variable [FnSem]
open PySem L2

def oneStr (c : Nat) : Str := ⟨#[c]⟩
section
variable {P : Program} {w : World} {A : Around} {I : Addr} {x : Str} {St : Nat → Shared → Prop} {fp wr : List Addr} {G : Array GenState → Array GenState → Prop} {R : Result → Shared → Prop}
end
section
variable {P : Program} {w : World} {A : Around} {E : Value → Shared → Prop} {s : Shared}
end
end Fx

set_option Elab.async false
set_option linter.all false
set_option maxRecDepth 100000
set_option maxHeartbeats 1000000
namespace Fx
variable [FnSem]
open PySem L2

def signsD (z : Str) : List D := z.cps.toList.map fun c => .str (oneStr c)
def itS (f : FE D) : FE (List D) := fun ρ => (f ρ).bind fun d ρ => match d with
  | .str z => .ok (signsD z) ρ
  | _ => .stuck
theorem it_str {K : PySem.W.Frag} {G : Hp} {z : Str} : ItOk K G (Its z) (signsD z) := fun i G1 H1 l s => by
  refine ⟨fun d e => ?_, fun e => by
    unfold signsD at e
    rw [List.length_map, Array.length_toList] at e
    exact e⟩
  unfold signsD at e
  rw [List.getElem?_map, Array.getElem?_toList] at e
  cases hc : z.cps[i]? with
  | none => rw [hc] at e; cases e
  | some c =>
    rw [hc] at e
    cases e
    refine ⟨(Array.getElem?_eq_some_iff.mp hc).1, fun x H2 ⟨hH, c', h1, h2⟩ => ?_⟩
    rw [hc] at h1
    cases h1
    subst hH
    subst h2
    exact ⟨G1, .refl s, .str _⟩
def flatD : D → Bool
  | .non => true
  | .bl _ => true
  | .int _ => true
  | .str _ => true
  | _ => false
def eqFl : D → D → Bool
  | .non, .non => true
  | .bl a, .bl b => a == b
  | .bl a, .int b => (if a then 1 else 0) == b
  | .int a, .bl b => a == (if b then 1 else 0)
  | .int a, .int b => a == b
  | .str a, .str b => a == b
  | _, _ => false
def inSD (n : Bool) : D → D → Option D
  | .str a, .str z => match a.cps.toList with
    | [c] => some (.bl (if n then !decide (c ∈ z.cps.toList) else decide (c ∈ z.cps.toList)))
    | _ => none
  | _, _ => none
def inLD (n : Bool) : D → D → Option D
  | x, .lst xs => if flatD x = true ∧ xs.all flatD = true then some (.bl (if n then !(xs.any fun y => eqFl y x) else xs.any fun y => eqFl y x)) else none
  | x, .tup xs => if flatD x = true ∧ xs.all flatD = true then some (.bl (if n then !(xs.any fun y => eqFl y x) else xs.any fun y => eqFl y x)) else none
  | _, _ => none
def inD (n : Bool) : D → D → Option D := orD (inSD n) (inLD n)
def mulSD : D → D → Option D
  | .str z, .int n => if 0 ≤ n ∧ n ≤ 1000000 ∧ z.length ≤ 10 then some (.str (Txt.mul z n)) else none
  | _, _ => none
section
variable {X : Cx} {W : WX} {io : List Nat} {e a b tg : Expr} {pos : Pos} {fa fb : FE D}
theorem op_mulS : OpR X (binaryOp .Mult) (fun x y H Q => ∃ z n, x = .str z ∧ y = .int n ∧ PySem.MulOk z n ∧ Q (.str (Txt.mul z n)) H) := by
  intro pins s σ H x y v u Q I rx ry h
  obtain ⟨z, n, rfl, rfl, hz, q⟩ := h
  obtain ⟨t, rfl⟩ := rx
  obtain ⟨t', rfl⟩ := ry
  exact PySem.SB.mul hz fun t2 k => ⟨.str (Txt.mul z n), H, I.tok _, ⟨_, rfl⟩, q⟩
theorem v2_mulS {K : PySem.W.Frag} : V2 K (fun x y H Q => ∃ z n, x = .str z ∧ y = .int n ∧ PySem.MulOk z n ∧ Q (.str (Txt.mul z n)) H) mulSD := fun G H x y a b z Q s ra rb e q => by
  unfold mulSD at e
  split at e
  · split at e
    · rename_i h
      cases ra; cases rb; cases e
      exact ⟨_, _, rfl, rfl, PyProof.Rows.mulOk_of 10 1000000 h.2.2 h.2.1 (by omega) (by decide) (by decide), q _ G H (.refl s) (.str _)⟩
    · cases e
  · cases e
def indexF (fa fb : FE D) : FE D := fun ρ => (fa ρ).bind fun x ρ => match x with
  | .str z => (fb ρ).bind fun y ρ => match y with
    | .str a => match Txt.index0 z a with
      | some k => .ok (.int (k : Nat)) ρ
      | none => .stuck
    | _ => .stuck
  | _ => .stuck
def strsOf : List D → Option (List Str)
  | [] => some []
  | .str z :: r => match strsOf r with
    | some zs => some (z :: zs)
    | none => none
  | _ :: _ => none
def joinD (a : Str) : D → Option D
  | .lst xs => match strsOf xs with
    | some zs => if (zs.map (·.length)).sum + zs.length * a.length ≤ 16777216 then some (.str (Txt.join a zs)) else none
    | none => none
  | .tup xs => match strsOf xs with
    | some zs => if (zs.map (·.length)).sum + zs.length * a.length ≤ 16777216 then some (.str (Txt.join a zs)) else none
    | none => none
  | _ => none
def joinF (fa fb : FE D) : FE D := fun ρ => (fa ρ).bind fun x ρ => match x with
  | .str z => (fb ρ).bind fun y ρ => optR (joinD z y) ρ
  | _ => .stuck
end
end Fx

set_option Elab.async false
set_option linter.all false
set_option maxRecDepth 100000
set_option maxHeartbeats 1000000
namespace Fx
variable [FnSem]
open PySem L2
def stepF (fa fb : FE D) : FE D := fun ρ => (fa ρ).bind fun x ρ => match x with
  | .str z => if z.length ≤ 1000000 then (fb ρ).bind fun y ρ => match y with
    | .int k => if k = 1 then .ok (.str z) ρ else if k = -1 then .ok (.str ⟨z.cps.reverse⟩) ρ else .stuck
    | _ => .stuck
    else .stuck
  | _ => .stuck
section
variable {X : Cx} {W : WX} {e st : Expr} {pos : Pos} {fa fb : FE D}
end
end Fx

set_option Elab.async false
set_option linter.all false
set_option maxRecDepth 100000
set_option maxHeartbeats 1000000
namespace Fx
variable [FnSem]
open PySem L2
def par2DO (i j : Nat) (fa : FE D) (fo : FE O) : FS := fun ρ => bindS (fa ρ) fun d ρ => bindS (fo ρ) fun o ρ => .nx ((ρ.set i (some (.v d))).set j (some o))
section
variable {X : Cx} {W : WX} {io : List Nat} {e a b tg : Expr} {pos : Pos} {fa fb : FE D} {fo : FE O}
end
section
variable {ρ : Env} {fa fb : FE D} {fo : FE O} {fs : FE (List D)} {i j : Nat}
@[simp] theorem e_par2DO : par2DO i j fa fo ρ = bindS (fa ρ) fun d ρ => bindS (fo ρ) fun o ρ => .nx ((ρ.set i (some (.v d))).set j (some o)) := id rfl
@[simp] theorem e_itS : itS fa ρ = (fa ρ).bind fun d ρ => match d with | .str z => .ok (signsD z) ρ | _ => .stuck := id rfl
@[simp] theorem e_index : indexF fa fb ρ = (fa ρ).bind fun x ρ => match x with
  | .str z => (fb ρ).bind fun y ρ => match y with
    | .str a => match Txt.index0 z a with
      | some k => .ok (.int (k : Nat)) ρ
      | none => .stuck
    | _ => .stuck
  | _ => .stuck := id rfl
@[simp] theorem e_join : joinF fa fb ρ = (fa ρ).bind fun x ρ => match x with
  | .str z => (fb ρ).bind fun y ρ => optR (joinD z y) ρ
  | _ => .stuck := id rfl
@[simp] theorem e_step : stepF fa fb ρ = (fa ρ).bind fun x ρ => match x with
  | .str z => if z.length ≤ 1000000 then (fb ρ).bind fun y ρ => match y with
    | .int k => if k = 1 then .ok (.str z) ρ else if k = -1 then .ok (.str ⟨z.cps.reverse⟩) ρ else .stuck
    | _ => .stuck
    else .stuck
  | _ => .stuck := id rfl
end
@[simp] theorem v_inS {n : Bool} {c : Nat} {z : Str} : inD n (.str (oneStr c)) (.str z) = some (.bl (if n then !decide (c ∈ z.cps.toList) else decide (c ∈ z.cps.toList))) := by
  unfold inD orD inSD oneStr
  rfl
theorem v_lenS {z : Str} (h : z.length ≤ 1000000) : lenD (.val (.str z)) = some (.int z.length) := by
  show (if z.length ≤ sizeLine then _ else _) = _
  rw [if_pos (line_le h)]
theorem v_ixS {z : Str} {i : Int} (h : z.length ≤ 1000000) : ixD (.val (.str z)) (.int i) = (L2.atI z.cps.toList i).map fun c => .str (oneStr c) := by
  show (if z.length ≤ sizeLine then _ else _) = _
  rw [if_pos (line_le h)]
  rfl
open PySem.Builtin.Str in
theorem occ_stay (s sub : Str) (hi : Nat) : ∀ (l : List Nat) (st : Array Nat × Nat), st.fst.size = 1 → (forIn l st (StrLaws.occBody s sub hi 1)).run.fst = st.fst
  | [], st, _ => rfl
  | a :: l, st, h => by
    rw [List.forIn_cons]
    unfold StrLaws.occBody
    rw [if_neg (by rintro ⟨⟨⟨h1, _⟩, _⟩, _⟩; omega)]
    exact occ_stay s sub hi l _ h
open PySem.Builtin.Str in
theorem occ_first (s sub : Str) (hi k : Nat) (hk : k + sub.length ≤ hi ∧ subAt s sub k = true) : ∀ (n lo free : Nat), lo ≤ k → k < lo + n → free ≤ lo → (∀ i, lo ≤ i → i < k → ¬ (i + sub.length ≤ hi ∧ subAt s sub i = true)) →
    (forIn (List.range' lo n) ((#[] : Array Nat), free) (StrLaws.occBody s sub hi 1)).run.fst = #[k]
  | 0, lo, free, h1, h2, _, _ => by omega
  | n + 1, lo, free, h1, h2, hf, hno => by
    rw [List.range'_succ, List.forIn_cons]
    by_cases e : lo = k
    · subst e
      unfold StrLaws.occBody
      rw [if_pos ⟨⟨⟨by simp, hf⟩, hk.1⟩, hk.2⟩]
      exact occ_stay s sub hi _ _ (by simp)
    · have hn := hno lo (Nat.le_refl _) (by omega)
      unfold StrLaws.occBody
      rw [if_neg (fun h => hn ⟨h.1.2, h.2⟩)]
      exact occ_first s sub hi k hk n (lo + 1) free (by omega) (by omega) (by omega) fun i hi1 hi2 => hno i (by omega) hi2
end Fx

set_option Elab.async false
set_option linter.all false
set_option maxRecDepth 100000
set_option maxHeartbeats 1000000
namespace Fx
variable [FnSem]
open PySem L2
@[simp] theorem e_tupGw {n : Nat} {gs : FGs} {ds : List D} {ρ : Env} : tupG n gs (.wt ds) ρ = if ds.length = n then gs ds ρ else none := rfl
theorem comp_inv {vs : List Nat} {g : FG} {ft : FE Bool} {fe : FE D} (I : Env → Prop) (P : D → Prop) (step : ∀ d ρ, I ρ → ∃ ρ1 ρ2 v, g d (wipeE ρ vs) = some ρ1 ∧ ft ρ1 = .ok true ρ1 ∧ fe ρ1 = .ok v ρ2 ∧ P v ∧ I (restE ρ ρ2 vs)) :
    ∀ (ds : List D) (ρ : Env), I ρ → ∃ ys ρ', compGo vs g (noEx ft) (noEx fe) ds ρ = .ok ys ρ' ∧ ys.length = ds.length ∧ (∀ y ∈ ys, P y) ∧ I ρ'
  | [], ρ, h => ⟨[], ρ, rfl, rfl, by simp, h⟩
  | d :: ds, ρ, h => by
    obtain ⟨ρ1, ρ2, v, h1, h2, h3, h4, h5⟩ := step d ρ h
    obtain ⟨ys, ρ', e, el, ep, ei⟩ := comp_inv I P step ds _ h5
    refine ⟨v :: ys, ρ', ?_, by rw [List.length_cons, List.length_cons, el], fun y hy => ?_, ei⟩
    · unfold compGo
      rw [h1]
      simp only [e_noEx, h2, e_bind_ok, if_true, h3, e]
    · rcases List.mem_cons.mp hy with rfl | hy
      · exact h4
      · exact ep y hy
theorem comp_of {α : Type} {vs : List Nat} {g : FG} {ft : FE Bool} {fe : FE D} (dd f : α → D) {ρ : Env} : ∀ xs : List α, (∀ x ∈ xs, ∃ ρ1 ρ2, g (dd x) (wipeE ρ vs) = some ρ1 ∧ ft ρ1 = .ok true ρ1 ∧ fe ρ1 = .ok (f x) ρ2 ∧ restE ρ ρ2 vs = ρ) →
    compGo vs g (noEx ft) (noEx fe) (xs.map dd) ρ = .ok (xs.map f) ρ
  | [], _ => rfl
  | x :: xs, h => by
    obtain ⟨ρ1, ρ2, h1, h2, h3, h4⟩ := h x List.mem_cons_self
    rw [List.map_cons]
    unfold compGo
    rw [h1]
    simp only [e_noEx, h2, e_bind_ok, if_true, h3, h4, comp_of dd f xs fun y hy => h y (List.mem_cons_of_mem _ hy), List.map_cons]
theorem mapM_bl {α : Type} (f : α → Bool) : ∀ xs : List α, (xs.map fun x => D.bl (f x)).mapM unbl = some (xs.map f)
  | [] => rfl
  | x :: xs => by
    rw [List.map_cons, List.mapM_cons, mapM_bl f xs]
    rfl
section
variable {ρ : Env} {g : FG} {gs : FGs} {d : D} {ds : List D} {n : Nat}
@[simp] theorem e_tupG : tupG n gs (.tup ds) ρ = if ds.length = n then gs ds ρ else none := id rfl
@[simp] theorem e_consG : consG g gs (d :: ds) ρ = match g d ρ with | some ρ => gs ds ρ | none => none := id rfl
@[simp] theorem e_nilG : nilG [] ρ = some ρ := id rfl
end
end Fx

set_option Elab.async false
set_option linter.all false
set_option maxRecDepth 100000
set_option maxHeartbeats 1000000
namespace Fx
variable [FnSem]
open PySem L2
open PyProof.Rows (envOfC)

structure InsC (K : PySem.W.Frag) (mg : Str → Option Value) (cn : Str) (C : Addr) : Prop where
  gl : mg cn = some (.ref C)
  cls : L2.Cls K C
  tc : FnTabs.cls cn = C
theorem InsC.cn {K : PySem.W.Frag} {mg : Str → Option Value} {cn : Str} {C : Addr} (I : InsC K mg cn C) : CN mg cn C := ⟨I.gl, I.tc⟩

def putC (f : Str) (c : C1) : List (Str × C1) → List (Str × C1)
  | [] => [(f, c)]
  | (g, x) :: r => if g = f then (g, c) :: r else (g, x) :: putC f c r
theorem lookup_putC (f g : Str) (v : C1) : ∀ fs : List (Str × C1), (putC f v fs).lookup g = if g = f then some v else fs.lookup g
  | [] => by
    unfold putC
    by_cases h : g = f
    · subst h; simp
    · rw [if_neg h, List.lookup_cons, beq_false_of_ne h]
  | (k, x) :: r => by
    unfold putC
    by_cases hk : k = f
    · rw [if_pos hk]
      by_cases h : g = f
      · subst hk; subst h; simp
      · rw [if_neg h, List.lookup_cons, List.lookup_cons, beq_false_of_ne (by rw [hk]; exact h)]
    · rw [if_neg hk]
      by_cases hgk : g = k
      · subst hgk
        rw [List.lookup_cons, List.lookup_cons, beq_self_eq_true, if_neg hk]
      · rw [List.lookup_cons, List.lookup_cons, beq_false_of_ne hgk, lookup_putC f g v r]
theorem keys_put {f : Str} {v : V} {c : C1} : ∀ {vs : List (Str × V)} {fs : List (Str × C1)}, vs.map (·.1) = fs.map (·.1) → (putF f v vs).map (·.1) = (putC f c fs).map (·.1)
  | [], [], _ => rfl
  | [], _ :: _, h => by cases h
  | _ :: _, [], h => by cases h
  | (k, x) :: vs, (k', y) :: fs, h => by
    have h' : k = k' ∧ vs.map (·.1) = fs.map (·.1) := by simpa using h
    obtain ⟨rfl, h2⟩ := h'
    unfold putF putC
    by_cases hk : k = f
    · rw [if_pos hk, if_pos hk]; simpa using h2
    · rw [if_neg hk, if_neg hk]; simpa using keys_put h2
theorem lookup_none_of {f : Str} : ∀ {vs : List (Str × V)} {fs : List (Str × C1)}, vs.map (·.1) = fs.map (·.1) → fs.lookup f = none → vs.lookup f = none
  | [], [], _, _ => rfl
  | [], _ :: _, h, _ => by cases h
  | _ :: _, [], h, _ => by cases h
  | (k, x) :: vs, (k', y) :: fs, h, e => by
    have h' : k = k' ∧ vs.map (·.1) = fs.map (·.1) := by simpa using h
    obtain ⟨rfl, h2⟩ := h'
    rw [List.lookup_cons] at e ⊢
    cases q : f == k with
    | true => rw [q] at e; cases e
    | false => rw [q] at e; exact lookup_none_of h2 e

section
variable {K : PySem.W.Frag} {mg : Str → Option Value} {G H : Hp} {σ : L2.St} {ρ : Env} {F : Fp}
theorem Rel.ins (rl : Rel K mg G H σ ρ F) {i : Nat} {cn : Str} {fs : List (Str × C1)} {C : Addr} (I : InsC K mg cn C) (e : ρ[i]? = some (some (.ins cn fs))) :
    ∃ p Sf, σ[i]? = some (some (.ref p)) ∧ InsOk K mg G H p cn fs (F i) Sf ∧ ∃ dx vs, H p = some (.ins C dx vs) ∧ vs.map (·.1) = fs.map (·.1) ∧ ∀ f c, fs.lookup f = some c → ∃ v, vs.lookup f = some v ∧ C1Ok K G H v c (Sf f) := by
  obtain ⟨v, e1, ok⟩ := rl.ok i _ e
  generalize hF : F i = S at ok
  cases ok with
  | @ins p _ _ _ Sf h =>
    refine ⟨p, Sf, e1, h, ?_⟩
    obtain ⟨⟨C', dx, vs, h1, h2, h3, h4⟩, _⟩ := h
    have := I.gl.symm.trans h2.1
    cases this
    exact ⟨dx, vs, h1, h3, h4⟩
end

def fldF (i : Nat) (cn f : Str) : FE D := fun ρ => match ρ[i]? with
  | some (some (.ins c fs)) => if c = cn then (match fs.lookup f with
    | some (.val d) => .ok d ρ
    | _ => .stuck) else .stuck
  | _ => .stuck
section
variable {X : Cx} {W : WX} {io : List Nat} {e a b : Expr} {es : List Expr} {pos p1 p2 : Pos} {cn f : Str} {C : Addr}
theorem ok_fld (i : Nat) {x : Str} (I : InsC X.K X.mg cn C) (hn : NoAttr X.K C f) (hN : X.N[i]? = some x := by rfl) (hv : Vis X.env.scope x := by first | exact Or.inl rfl | exact Or.inr (Or.inl rfl) | exact Or.inr (Or.inr rfl)) (hd : (x == ("__debug__" : Str)) = false := by decide)
    (hcd : (x == ("__classdict__" : Str)) = false := by decide) (hb : attributeBase (.Name x p1) f X.env (eval (.Name x p1) X.env) = eval (.Name x p1) X.env := by rfl) : OkD X W (.Attribute (.Name x p1) f pos) (fldF i cn f) := by
  refine (pe_fld (pe_var (i := i) hN hv hd hcd) hb).to fun σ H Q h => ?_
  obtain ⟨G, ρ, F, rl, p⟩ := h
  unfold fldF at p
  split at p
  · rename_i c fs e
    split at p
    · rename_i hc
      subst hc
      obtain ⟨q, Sf, e1, _, dx, vs, h1, h3, h4⟩ := rl.ins I e
      split at p
      · rename_i d el
        obtain ⟨v, l, ok⟩ := h4 f _ el
        generalize Sf f = S at ok
        cases ok with
        | val r => exact ⟨_, e1, q, C, dx, vs, v, rfl, h1, I.cls, hn, l, p G H F rl .refl v r⟩
      · exact p.elim
    · exact p.elim
  · exact p.elim

def setFldF (i : Nat) (cn f : Str) (fo : FE O) : FS := fun ρ => bindS (fo ρ) fun o ρ => match o, ρ[i]? with
  | .c c, some (some (.ins k fs)) => if k = cn ∧ fs.length < 1000 then .nx (ρ.set i (some (.ins k (putC f c fs)))) else .stuck
  | _, _ => .stuck
theorem ok_setFld (i : Nat) {x : Str} {fo : FE O} (I : InsC X.K X.mg cn C) (hn : NoAttr X.K C f) (he : OkO X W e fo) (hN : X.N[i]? = some x := by rfl) (hv : Vis X.env.scope x := by first | exact Or.inl rfl | exact Or.inr (Or.inl rfl) | exact Or.inr (Or.inr rfl)) (hd : (x == ("__debug__" : Str)) = false := by decide)
    (hcd : (x == ("__classdict__" : Str)) = false := by decide) (hs : swapsWith e (some (.Attribute (.Name x p1) f p2)) pos.line X.env = pure false := by rfl) : OkS X W io (.Assign [.Attribute (.Name x p1) f p2] e pos) (setFldF i cn f fo) := by
  refine (ps_fld (pe_var (i := i) hN hv hd hcd) he hs).to fun Dn σ H q => ?_
  obtain ⟨G, ρ, F, rl, p⟩ := q
  refine ⟨G, ρ, F, rl, PostS.bindO p fun o ρ1 G1 H1 F1 v S e0 rl1 st1 ok z p1 => ?_⟩
  cases o with
  | ins _ _ => exact p1.elim
  | fn _ => exact p1.elim
  | c c =>
    split at p1
    · rename_i _ _ k fs ec e
      cases ec
      split at p1
      · rename_i hc
        obtain ⟨rfl, hl⟩ := hc
        obtain ⟨q, Sf, e1, IO, dx, vs, h1, h3, h4⟩ := rl1.ins I e
        have lv : vs.length < 1000 := by
          have := congrArg List.length h3
          simp only [List.length_map] at this
          omega
        refine ⟨_, e1, q, C, dx, vs, rfl, h1, I.cls, hn, lv, ?_⟩
        have okc : C1Ok X.K G1 H1 v c S := by cases ok with | c h => exact h
        have qF : F1 i q := IO.own
        have Sne : ∀ a, S a → a ≠ q := fun a za ea => (z a za).2.2.2 ⟨i, by rw [ea]; exact qF⟩
        have Fne : ∀ {j a}, j ≠ i → F1 j a → a ≠ q := fun {j a} hj zz ea => rl1.dis j i a hj zz (by rw [ea]; exact qF)
        have hli : i < ρ1.length := (List.getElem?_eq_some_iff.mp e).1
        have r' : Rel X.K X.mg G1 (upd H1 q (.ins C dx (putF f v vs))) σ (ρ1.set i (some (.ins k (putC f c fs)))) (fun j a => if j = i then F1 i a ∨ S a else F1 j a) := by
          refine ⟨by rw [List.length_set]; exact rl1.len, fun j u ej => ?_, fun j l a hjl hj hl2 => ?_, fun j a zj => ?_, fun j a zj => ?_, rl1.subT.own h1 noTab_ins (rl1.out i q qF).1⟩
          · by_cases hj : j = i
            · subst hj
              rw [List.getElem?_set_self hli] at ej
              cases ej
              refine ⟨_, e1, .ins (Sf := fun g a => if g = f then S a else Sf g a) ⟨⟨C, dx, putF f v vs, upd_same, I.cn, keys_put h3, fun g c' eg => ?_⟩, ?_, fun g c' a eg zg => ?_, fun g l c' e' a hgl eg el zg zl => ?_⟩⟩
              · rw [lookup_putC] at eg
                by_cases hg : g = f
                · rw [if_pos hg] at eg
                  cases eg
                  refine ⟨v, by rw [lookup_putF, if_pos hg], ?_⟩
                  have : (fun a => if g = f then S a else Sf g a) = S := by funext a; rw [if_pos hg]
                  rw [this]
                  exact okc.mono (Le.refl _) fun a o za ha => by rw [upd_ne (Sne a za)]; exact ha
                · rw [if_neg hg] at eg
                  obtain ⟨w, lw, okw⟩ := h4 g c' eg
                  refine ⟨w, by rw [lookup_putF, if_neg hg]; exact lw, ?_⟩
                  have : (fun a => if g = f then S a else Sf g a) = Sf g := by funext a; rw [if_neg hg]
                  rw [this]
                  exact okw.mono (Le.refl _) fun a o za ha => by rw [upd_ne (IO.sub g c' a eg za).2]; exact ha
              · show (if j = j then F1 j q ∨ S q else F1 j q)
                rw [if_pos rfl]; exact .inl qF
              · show (if j = j then F1 j a ∨ S a else F1 j a) ∧ a ≠ q
                rw [if_pos rfl]
                rw [lookup_putC] at eg
                by_cases hg : g = f
                · simp only [hg, if_true] at zg
                  exact ⟨.inr zg, Sne a zg⟩
                · simp only [if_neg hg] at zg eg
                  exact ⟨.inl (IO.sub g c' a eg zg).1, (IO.sub g c' a eg zg).2⟩
              · rw [lookup_putC] at eg el
                by_cases hg : g = f
                · have hl' : l ≠ f := fun h => hgl (hg.trans h.symm)
                  simp only [hg, if_true] at zg
                  simp only [if_neg hl'] at zl el
                  exact (z a zg).2.2.2 ⟨j, (IO.sub l e' a el zl).1⟩
                · simp only [if_neg hg] at zg eg
                  by_cases hl' : l = f
                  · simp only [hl', if_true] at zl
                    exact (z a zl).2.2.2 ⟨j, (IO.sub g c' a eg zg).1⟩
                  · simp only [if_neg hl'] at zl el
                    exact IO.dis g l c' e' a hgl eg el zg zl
            · rw [List.getElem?_set_ne (Ne.symm hj)] at ej
              obtain ⟨w, e2, e3⟩ := rl1.ok j u ej
              refine ⟨w, e2, ?_⟩
              have : (fun a => if j = i then F1 i a ∨ S a else F1 j a) = F1 j := by funext a; rw [if_neg hj]
              rw [this]
              exact e3.mono (Le.refl _) fun a o za ha => by rw [upd_ne (Fne hj za)]; exact ha
          · skip
            by_cases hji : j = i
            · have hli2 : l ≠ i := fun h => hjl (hji.trans h.symm)
              simp only [hji, if_true] at hj
              simp only [if_neg hli2] at hl2
              rcases hj with hj | hj
              · exact rl1.dis i l a (Ne.symm hli2) hj hl2
              · exact (z a hj).2.2.2 ⟨l, hl2⟩
            · simp only [if_neg hji] at hj
              by_cases hli2 : l = i
              · simp only [hli2, if_true] at hl2
                rcases hl2 with hl2 | hl2
                · exact rl1.dis j i a hji hj hl2
                · exact (z a hl2).2.2.2 ⟨j, hj⟩
              · simp only [if_neg hli2] at hl2
                exact rl1.dis j l a hjl hj hl2
          · have ne : (upd H1 q (.ins C dx (putF f v vs))) a ≠ none ∨ True := .inr trivial
            have key : G1 a = none ∧ H1 a ≠ none := by
              by_cases hji : j = i
              · simp only [hji, if_true] at zj
                rcases zj with zj | zj
                · exact rl1.out i a zj
                · exact ⟨(z a zj).2.1, (z a zj).2.2.1⟩
              · simp only [if_neg hji] at zj
                exact rl1.out j a zj
            refine ⟨key.1, ?_⟩
            by_cases ha : a = q
            · rw [ha, upd_same]; exact fun e => nomatch e
            · rw [upd_ne ha]; exact key.2
          · skip
            by_cases hji : j = i
            · exact ⟨_, by rw [hji]; exact List.getElem?_set_self hli⟩
            · simp only [if_neg hji] at zj
              obtain ⟨o, eo⟩ := rl1.non j a zj
              exact ⟨o, by rw [List.getElem?_set_ne (Ne.symm hji)]; exact eo⟩
        refine p1 σ G1 _ _ r' ⟨st1.le, fun a o ha n nt => ?_, st1.fresh, fun a ha => ?_, fun j a zj => ?_⟩ fun _ _ => rfl
        · rw [upd_ne fun h => ?_]
          · exact st1.fr a o ha n nt
          · rcases st1.ownU (x := a) ⟨i, by rw [h]; exact qF⟩ with h2 | h2
            · exact n h2
            · rw [ha] at h2; cases h2
        · by_cases h : a = q
          · rw [h, upd_same]; exact fun e => nomatch e
          · rw [upd_ne h]; exact st1.there a ha
        · skip
          by_cases hji : j = i
          · simp only [hji, if_true] at zj
            rcases zj with zj | zj
            · rw [hji]; exact st1.own i a zj
            · exact .inr (z a zj).1
          · simp only [if_neg hji] at zj
            exact st1.own j a zj
      · exact p1.elim
    · exact p1.elim
end

def tMethS (C : Addr) (m : Str) (sp : Sp) (E : L2.St → XK) (ta : TE) (t : TA) : TE := fun σ H Q => ta σ H fun x H1 => ∃ a dx fs, x = .ref a ∧ H1 a = some (.ins C dx fs) ∧ fs.lookup m = none ∧ t σ H1 fun vs H2 => sp (x :: vs) H2 Q (E σ)
theorem pe_methW0 {X : Cx} {CX : CXT} {k : Nat} {f C : Addr} {fd : FuncData} {ps : List Str} {sp : Sp} {E : L2.St → XK} {m : Str} {pos apos : Pos} {o : Expr} {ta : TE} {pl : Sem Bool} (he : PE X o ta) (c : L2.Cls X.K C) (hm : Meth X.K C m f)
    (F : FnOk X.prog X.w X.K X.mg X.base CX k f fd ps sp) (hr : Room k X.A) (hb : Binds X.K fd ps []) (hx : ∀ σ, PassesAt CX X σ (E σ))
    (ht : eval (.Call (.Attribute o m apos) [] [] pos) X.env = (do
      let ov ← eval o X.env
      standAt apos.atName
      let (f, first) ← holding [ov] (getMethod ov m pl)
      callWith pos f first (backTo pos (starEach [] X.env)) (backToKw pos (keywordEach [] X.env)))) :
    PE X (.Call (.Attribute o m apos) [] [] pos) (tMethS C m sp E ta tNil) := by
  refine ⟨fun pins s σ H Q I h => ?_⟩
  refine PySem.W.methodCall_KW (pl := pl) (thn (he.run pins s σ H _ I h) fun u s1 ⟨x, H1, I1, rx, a, dx, fs, ex, ea, l, q⟩ => ?_) ht
  subst ex
  obtain rfl : u = Value.ref a := rx
  refine getmeth_ok I1 ea c hm l ?_
  exact PySem.W.callWith_K0 (first := [.ref a]) I1.kIn hm.kp (run_fnS (us := [.ref a]) (vs := [.ref a]) F hr hb (hx σ) I1 (.cons rfl .nil) q)

def methF (i : Nat) (cn m : Str) (io : List Nat) (φ : List O → RF) (g : FE (List Pl)) : FE O := fun ρ => match ρ[i]? with
  | some (some (.ins c fs)) => if c = cn ∧ fs.lookup m = none then (g ρ).bind fun pls ρ => callP io φ (.sl i :: pls) ρ else .stuck
  | _ => .stuck
structure CalM (P : Program) (w : World) (K : PySem.W.Frag) (mg : Str → Option Value) (base : Heap) (k : Nat) (C : Addr) (m : Str) (f : Addr) (fd : FuncData) (ps : List Str) (io : List Nat) (φ : List O → RF) : Prop where
  fn : FnF P w K mg base k f fd ps io φ
  bd : Binds K fd ps []
  me : Meth K C m f
section
variable {X : Cx} {W : WX} {es : List Expr} {e : Expr} {pos p1 apos : Pos} {cn m : Str} {C : Addr} {k j : Nat} {f : Addr} {fd : FuncData} {ps : List Str} {jo : List Nat} {φ : List O → RF} {g : FE (List Pl)}
theorem t_meth {K : PySem.W.Frag} {mg : Str → Option Value} {σ : L2.St} {H : Hp} {Q : VK} {n i : Nat} (I : InsC K mg cn C) (hn : ∀ ρ pls ρ', g ρ = .ok pls ρ' → pls.length + 1 = n) (h : tO K mg W (methF i cn m jo φ g) σ H Q) :
    tMethS C m (spF K mg jo n φ) (WE W) (tVar i) (tPls K mg W g) σ H Q := by
  obtain ⟨G, ρ, F, rl, p⟩ := h
  unfold methF at p
  split at p
  · rename_i c fs e
    split at p
    · rename_i hc
      obtain ⟨rfl, hl⟩ := hc
      obtain ⟨q, Sf, e1, _, dx, vs, h1, h3, h4⟩ := rl.ins I e
      refine ⟨_, e1, q, dx, vs, rfl, h1, lookup_none_of h3 hl, G, ρ, F, rl, PostO.bind p fun pls ρ1 G1 H1 F1 ee rl1 st1 p1 ws rv => ?_⟩
      exact call_sp rl1 (.cons (show PlOk K G1 σ (.ref q) (.sl i) from e1) rv) (by rw [List.length_cons]; exact hn _ _ _ ee) p1
    · exact p.elim
  · exact p.elim
theorem ok_meth0 (i : Nat) {x : Str} {pl : Sem Bool} (I : InsC X.K X.mg cn C) (M : CalM X.prog X.w X.K X.mg X.base k C m f fd ps jo φ) (tk : Takes X W) (hr : Room j X.A) (hn : 1 = ps.length) (hk : k ≤ j := by decide)
    (hN : X.N[i]? = some x := by rfl) (hv : Vis X.env.scope x := by first | exact Or.inl rfl | exact Or.inr (Or.inl rfl) | exact Or.inr (Or.inr rfl)) (hd : (x == ("__debug__" : Str)) = false := by decide)
    (hcd : (x == ("__classdict__" : Str)) = false := by decide)
    (ht : eval (.Call (.Attribute (.Name x p1) m apos) [] [] pos) X.env = (do
      let ov ← eval (.Name x p1) X.env
      standAt apos.atName
      let (f, first) ← holding [ov] (getMethod ov m pl)
      callWith pos f first (backTo pos (starEach [] X.env)) (backToKw pos (keywordEach [] X.env))) := by rfl) :
    OkO X W (.Call (.Attribute (.Name x p1) m apos) [] [] pos) (methF i cn m jo φ nilA) :=
  (pe_methW0 (pe_var (i := i) hN hv hd hcd) I.cls M.me M.fn (hr.mono hk) M.bd (passAt tk) ht).to fun σ H Q h => by
    obtain ⟨x, e1, a, dx, fs, e2, e3, e4, q⟩ := t_meth (n := ps.length) I (fun ρ pls ρ' e => by cases e; exact hn) h
    refine ⟨x, e1, a, dx, fs, e2, e3, e4, ?_⟩
    obtain ⟨G, ρ, F, rl, p⟩ := q
    exact p G H F rl .refl [] .nil
end

def makeF (cn : Str) (φ : List O → RF) (g : FE (List D)) : FE O := fun ρ => (g ρ).bind fun ds ρ => match φ (.ins cn [] :: ds.map O.v) with
  | .ok (.c (.val .non)) (o :: _) => .ok o ρ
  | _ => .stuck
theorem chk_vals {io : List Nat} : ∀ {ds : List D} {k : Nat}, chk io k (ds.map O.v) = true
  | [], _ => rfl
  | _ :: ds, k => by
    show ((true || io.contains k) && chk io (k + 1) (ds.map O.v)) = true
    rw [chk_vals]; rfl
theorem paired_v {K : PySem.W.Frag} {G : Hp} : ∀ {vs : List V} {ds : List D}, RpL K G vs ds → ∀ {i : Nat} {o : O}, (ds.map O.v)[i]? = some o → ∃ v d, vs[i]? = some v ∧ o = .v d ∧ Rp K G v d := fun {vs ds} r {i o} e => by
  rw [List.getElem?_map] at e
  cases q : ds[i]? with
  | none => rw [q] at e; cases e
  | some d =>
    rw [q] at e; cases e
    obtain ⟨v, e1, e2⟩ := r.get q
    exact ⟨v, d, e1, rfl, e2⟩
theorem t_make {K : PySem.W.Frag} {mg : Str → Option Value} {σ : L2.St} {H : Hp} {Q : VK} {W : WX} {cn : Str} {C : Addr} {φ : List O → RF} {g : FE (List D)} {n : Nat} (I : InsC K mg cn C) (hn : ∀ ρ ds ρ', g ρ = .ok ds ρ' → ds.length + 1 = n) (h : tO K mg W (makeF cn φ g) σ H Q) :
    tMake C (spF K mg [0] n φ) [] (fun _ _ _ => False) (tDs K mg W g) σ H Q := by
  obtain ⟨G, ρ, F, rl, p⟩ := h
  refine ⟨G, ρ, F, rl, PostO.bind p fun ds ρ1 G1 H1 F1 ee rl1 st1 p1 vs rv x dx hx hdx hne => ?_⟩
  rw [List.append_nil]
  cases hφ : φ (.ins cn [] :: ds.map O.v) with
  | ok o os' =>
    rw [hφ] at p1
    have hnl := hn _ _ _ ee
    have up : ∀ a, a ≠ x → a ≠ dx → (upd (upd H1 dx (.own x)) x (.ins C dx [])) a = H1 a := fun a h1 h2 => by rw [upd_ne h1, upd_ne h2]
    have old : ∀ a o, H1 a = some o → (upd (upd H1 dx (.own x)) x (.ins C dx [])) a = some o := fun a o ha => by
      rw [up a (fun h => by rw [h, hx] at ha; cases ha) (fun h => by rw [h, hdx] at ha; cases ha)]; exact ha
    have rc : Rel K mg G1 (upd (upd H1 dx (.own x)) x (.ins C dx [])) ((V.ref x :: vs).map some) ((O.ins cn [] :: ds.map O.v).map some) (fun j a => j = 0 ∧ a = x) := by
      refine ⟨?_, fun i o e => ?_, fun i j a hij h1 h2 => hij (h1.1.trans h2.1.symm), fun i a z => ?_, fun i a z => ?_, (rl1.subT.new hdx).new (by rw [upd_ne (Ne.symm hne)]; exact hx)⟩
      · simp only [List.length_map, List.length_cons, rv.length]
      · cases i with
        | zero =>
          cases e
          refine ⟨_, rfl, .ins (Sf := fun _ _ => False) ⟨⟨C, dx, [], upd_same, I.cn, rfl, fun f c e => by cases e⟩, ⟨rfl, rfl⟩, fun f c a e z => z.elim, fun f g c e a _ _ _ z => z.elim⟩⟩
        | succ i =>
          have e' : ((ds.map O.v).map some)[i]? = some (some o) := e
          rw [List.getElem?_map] at e'
          cases q : (ds.map O.v)[i]? with
          | none => rw [q] at e'; cases e'
          | some u =>
            rw [q] at e'; cases e'
            obtain ⟨v, d, e1, rfl, e2⟩ := paired_v rv q
            refine ⟨v, ?_, ?_⟩
            · show ((vs.map some)[i]?) = _
              rw [List.getElem?_map, e1]; rfl
            · have : (fun a => i + 1 = 0 ∧ a = x) = fun _ => False := by funext a; exact propext ⟨fun h => (by cases h.1), fun h => h.elim⟩
              rw [this]; exact .c (.val e2)
      · obtain ⟨rfl, rfl⟩ := z
        exact ⟨rl1.sub.back hx, by rw [upd_same]; exact fun e => nomatch e⟩
      · obtain ⟨rfl, rfl⟩ := z
        exact ⟨_, rfl⟩
    refine ⟨by rw [List.length_cons, rv.length]; exact hnl, G1, .ins cn [] :: ds.map O.v, _, by rw [List.length_cons, List.length_map]; exact hnl, ?_, rc, ?_⟩
    · show ((isV (.ins cn []) || ([0] : List Nat).contains 0) && chk [0] 1 (ds.map O.v)) = true
      rw [chk_vals]; rfl
    · rw [hφ]
      intro G' H' F' v S rl' st' ok' z'
      cases o with
      | ins _ _ => exact p1.elim
      | fn _ => exact p1.elim
      | c c =>
        cases c with
        | val d =>
          cases d with
          | non =>
            cases os' with
            | nil => exact p1.elim
            | cons o rest =>
              have hv : v = .non := by
                cases ok' with
                | c h => cases h with | val h => cases h; rfl
              refine ⟨hv, ?_⟩
              obtain ⟨u, e1, e2⟩ := rl'.ok 0 o rfl
              cases e1
              have nx : ∀ {a}, F1.U a → ∀ j, ¬ (j = 0 ∧ a = x) := fun {a} ⟨i, z⟩ j h => by
                rw [h.2] at z; exact (rl1.out i x z).2 hx
              refine p1 G' H' F1 (.ref x) (F' 0) ⟨rl1.len, fun i u e => ?_, rl1.dis, fun i a z => ?_, rl1.non, rl'.subT⟩ ⟨st'.le, fun a o ha n nt => ?_, fun a ha gn n => ?_, fun a ha => ?_, fun j a z => .inl z⟩ e2 fun a za => ?_
              · obtain ⟨w, e3, e4⟩ := rl1.ok i u e
                exact ⟨w, e3, e4.mono2 st'.le fun a o za ha => st'.fr a o (old a o ha) fun ⟨j, h⟩ => nx ⟨i, za⟩ j h⟩
              · have o1 := rl1.out i a z
                obtain ⟨o, ho⟩ := Option.ne_none_iff_exists'.mp o1.2
                refine ⟨st'.fresh a (by rw [old a o ho]; exact fun e => nomatch e) o1.1 fun ⟨j, h⟩ => nx ⟨i, z⟩ j h, ?_⟩
                exact st'.there a (by rw [old a o ho]; exact fun e => nomatch e)
              · exact st'.fr a o (old a o ha) (fun ⟨j, h⟩ => by rw [h.2, hx] at ha; cases ha) nt
              · obtain ⟨o, ho⟩ := Option.ne_none_iff_exists'.mp ha
                exact st'.fresh a (by rw [old a o ho]; exact fun e => nomatch e) gn fun ⟨j, h⟩ => ha (by rw [h.2]; exact hx)
              · obtain ⟨o, ho⟩ := Option.ne_none_iff_exists'.mp ha
                exact st'.there a (by rw [old a o ho]; exact fun e => nomatch e)
              · have hn1 : H1 a = none := by
                  rcases st'.own 0 a za with h | h
                  · rw [h.2]; exact hx
                  · cases q : H1 a with
                    | none => rfl
                    | some o => rw [old a o q] at h; cases h
                exact ⟨hn1, (rl'.out 0 a za).1, (rl'.out 0 a za).2, fun ⟨i, z⟩ => (rl1.out i a z).2 hn1⟩
          | _ => exact p1.elim
        | _ => exact p1.elim
  | ex e os' => rw [hφ] at p1; exact p1.elim
  | stuck => rw [hφ] at p1; exact p1.elim
section
variable {X : Cx} {W : WX} {es : List Expr} {e : Expr} {pos p : Pos} {cn : Str} {C : Addr} {k j : Nat} {f : Addr} {fd : FuncData} {ps : List Str} {φ : List O → RF} {g : FE (List D)}
structure MakC (P : Program) (w : World) (K : PySem.W.Frag) (mg : Str → Option Value) (base : Heap) (k : Nat) (C : Addr) (f : Addr) (fd : FuncData) (ps : List Str) (φ : List O → RF) : Prop where
  fn : FnF P w K mg base k f fd ps [0] φ
  bd : Binds K fd ps []
  made : Mk K C f
theorem passes_no {X : Cx} : Passes (L2.CX X.prog X.w) X (fun _ _ _ => False) := fun pins σ H s e s' I h => (cx_none h).elim
theorem ok_make (I : InsC X.K X.mg cn C) (M : MakC X.prog X.w X.K X.mg X.base k C f fd ps φ) (hr : Room j X.A) (hg : Gl X cn) (ha : OkDs X W (e :: es) g) (hn : ∀ ρ ds ρ', g ρ = .ok ds ρ' → ds.length + 1 = ps.length) (hk : k + 1 ≤ j := by decide)
    (hdb : (cn == ("__debug__" : Str)) = false := by decide) (he : starEach (e :: es) X.env = (false, eval e X.env) :: starEach es X.env := by rfl) (hpl : (backTo pos (starEach es X.env)).any (·.1) = false := by rfl) :
    OkO X W (.Call (.Name cn p) (e :: es) [] pos) (makeF cn φ g) :=
  (pe_make M.made M.fn (hr.mono hk) hg I.gl M.bd .nil passes_no ha hdb he hpl).to fun σ H Q h => t_make I hn h
theorem consF_len {f : FE D} {g : FE (List D)} {n : Nat} (h : ∀ ρ ds ρ', g ρ = .ok ds ρ' → ds.length + 1 = n) : ∀ ρ ds ρ', consF f g ρ = .ok ds ρ' → ds.length + 1 = n + 1 := fun ρ ds ρ' e => by
  unfold consF at e
  cases h1 : f ρ with
  | ok x ρ1 =>
    rw [h1] at e
    simp only [R.bind] at e
    cases h2 : g ρ1 with
    | ok xs ρ2 => rw [h2] at e; cases e; rw [List.length_cons, h _ _ _ h2]
    | ex _ _ => rw [h2] at e; cases e
    | stuck => rw [h2] at e; cases e
  | ex _ _ => rw [h1] at e; cases e
  | stuck => rw [h1] at e; cases e
theorem nilF_len : ∀ ρ ds ρ', nilF ρ = .ok ds ρ' → ds.length + 1 = 1 := fun ρ ds ρ' e => by cases e; rfl
end
end Fx

set_option Elab.async false
set_option linter.all false
set_option maxRecDepth 100000
set_option maxHeartbeats 4000000
namespace Fx
variable [FnSem]
open PySem PySem.Spec PyProof.Rows L2

theorem tuple_mulW1 (l : Addr) (items : Array Value) (n : Nat) (dd : Option Addr) (sl : Array (Option Value)) (x : Int) (u : Tok) (c0 : (decide (x < -(2 ^ 63)) || decide (x ≥ 2 ^ 63)) = false) (c1 : (items.isEmpty || x == 1) = true) :
    Meets (Builtin.«tuple.__mul__» ⟨[.ref l, .int x u], []⟩) (fun _ R s => s.heap.get? l = some { cls := .type "tuple", dict := dd, data := .seq items n, slots := sl } ∧ R (.ok (.ret (Value.ref l))) s) :=
  .of_wp fun prog w A R s h => by
    obtain ⟨hp, g, d, tk, os⟩ := s
    obtain ⟨hl, h⟩ := h
    have f1 := AutoSeq1.idx_int
    wp_walk using wpAny_loadPart' hl
    repeat (first
      | (refine wpAny_ite_false (decide_eq_false (by rw [c0]; exact Bool.false_ne_true)) ?_; wp_walk using wpAny_loadPart' hl)
      | (refine wpAny_ite_true (decide_eq_true c1) ?_; wp_walk using wpAny_loadPart' hl))
    exact ⟨_, rfl, h⟩

def rRepT1 (K : PySem.W.Frag) : R2 := fun x y H Q => ∃ l k xs, x = .ref l ∧ y = .int k ∧ SqT K H l xs ∧ (k = 1 ∨ xs = []) ∧ -(2 ^ 63) ≤ k ∧ k < 2 ^ 63 ∧ Q (.ref l) H
theorem op_repT1 {X : Cx} : OpR X (binaryOp .Mult) (rRepT1 X.K) := by
  intro pins s σ H x y v u Q I rx ry h
  obtain ⟨l, k, xs, rfl, rfl, hT, hk, h1, h2, q⟩ := h
  cases rx
  obtain ⟨t, rfl⟩ := ry
  obtain ⟨its, r, ⟨⟨cls, dd, data, sl⟩, ho, hc, n, hd⟩, hs⟩ := I.tuple hT
  simp only at hc hd
  subst hc hd
  have c0 : (decide (k < -(2 ^ 63)) || decide (k ≥ 2 ^ 63)) = false := by
    rw [decide_eq_false (by omega), decide_eq_false (by omega)] <;> rfl
  have c1 : (its.toArray.isEmpty || k == 1) = true := by
    rcases hk with rfl | rfl
    · simp
    · cases r; rfl
  exact wpAny_binaryOp_repeat_ref (T := "tuple") (U := "int") (by decide) ⟨_, ho, rfl⟩ (fun s' => typeIs_int s' k t) noFill_tuple_mul F.fills_int_mul F.slot_int_rmul repeat_tuple F.slot_int_index.lookup
    (call_meets F.slot_int_rmul (typeIs_int s k t) F.entry_int_rmul (F.args_int_rmul_2 _ _) (int_rmul_tuple k t l its.toArray n dd sl)
      ⟨ho, rfl, ⟨_, ho, rfl⟩, call_meets F.slot_tuple_mul ⟨_, ho, rfl⟩ F.entry_tuple_mul (F.args_tuple_mul_2 _ _) (tuple_mulW1 l its.toArray n dd sl k t c0 c1) ⟨ho, ⟨.ref l, H, I, rfl, q⟩⟩⟩)
theorem tuple_mulW0 (l : Addr) (items : Array Value) (n : Nat) (dd : Option Addr) (sl : Array (Option Value)) (x : Int) (u : Tok) (c0 : (decide (x < -(2 ^ 63)) || decide (x ≥ 2 ^ 63)) = false) (c1 : (items.isEmpty || x == 1) = false) (c2 : (decide (x ≤ 0) || items.isEmpty) = true) :
    Meets (Builtin.«tuple.__mul__» ⟨[.ref l, .int x u], []⟩) (fun _ R s => s.heap.get? l = some { cls := .type "tuple", dict := dd, data := .seq items n, slots := sl } ∧ R (.ok (.ret (Value.ref s.heap.objs.size))) { s with heap := s.heap.push { cls := Value.type "tuple", data := Data.seq #[] }, toks := s.toks }) :=
  .of_wp fun prog w A R s h => by
    obtain ⟨hp, g, d, tk, os⟩ := s
    obtain ⟨hl, h⟩ := h
    have f1 := AutoSeq1.idx_int
    wp_walk using wpAny_loadPart' hl
    repeat (first
      | (refine wpAny_ite_false (decide_eq_false (by rw [c0]; exact Bool.false_ne_true)) ?_; wp_walk using wpAny_loadPart' hl)
      | (refine wpAny_ite_false (decide_eq_false (by rw [c1]; exact Bool.false_ne_true)) ?_; wp_walk using wpAny_loadPart' hl)
      | (refine wpAny_ite_true (decide_eq_true c2) ?_; wp_walk using wpAny_loadPart' hl))
    exact ⟨_, rfl, h⟩
def rRepT0 (K : PySem.W.Frag) : R2 := fun x y H Q => ∃ l k xs, x = .ref l ∧ y = .int k ∧ SqT K H l xs ∧ xs ≠ [] ∧ k ≤ 0 ∧ -(2 ^ 63) ≤ k ∧ ∀ p (o : Obj), H p = none → o.dict = none → Q (.ref p) (upd H p (.frz o (.tup [])))
theorem op_repT0 {X : Cx} : OpR X (binaryOp .Mult) (rRepT0 X.K) := by
  intro pins s σ H x y v u Q I rx ry h
  obtain ⟨l, k, xs, rfl, rfl, hT, hne, h2, h1, q⟩ := h
  cases rx
  obtain ⟨t, rfl⟩ := ry
  obtain ⟨its, r, ⟨⟨cls, dd, data, sl⟩, ho, hc, n, hd⟩, hs⟩ := I.tuple hT
  simp only at hc hd
  subst hc hd
  have hi : its.toArray.isEmpty = false := by
    cases r with
    | nil => exact absurd rfl hne
    | cons _ _ => rfl
  have c0 : (decide (k < -(2 ^ 63)) || decide (k ≥ 2 ^ 63)) = false := by
    rw [decide_eq_false (by omega), decide_eq_false (by omega)] <;> rfl
  have c1 : (its.toArray.isEmpty || k == 1) = false := by
    rw [hi, Bool.false_or]
    exact beq_eq_false_iff_ne.mpr (by omega)
  have c2 : (decide (k ≤ 0) || its.toArray.isEmpty) = true := by
    rw [decide_eq_true h2, Bool.true_or]
  refine wpAny_binaryOp_repeat_ref (T := "tuple") (U := "int") (by decide) ⟨_, ho, rfl⟩ (fun s' => typeIs_int s' k t) noFill_tuple_mul F.fills_int_mul F.slot_int_rmul repeat_tuple F.slot_int_index.lookup
    (call_meets F.slot_int_rmul (typeIs_int s k t) F.entry_int_rmul (F.args_int_rmul_2 _ _) (int_rmul_tuple k t l its.toArray n dd sl)
      ⟨ho, rfl, ⟨_, ho, rfl⟩, call_meets F.slot_tuple_mul ⟨_, ho, rfl⟩ F.entry_tuple_mul (F.args_tuple_mul_2 _ _) (tuple_mulW0 l its.toArray n dd sl k t c0 c1 c2) ⟨ho, ?_⟩⟩)
  exact ⟨.ref s.heap.objs.size, _, inv_tupP I (its := []) .nil (Nat.zero_le _) s.toks, rfl, q _ _ (I.hok.fresh (Nat.le_refl _)) rfl⟩
def rRepP (K : PySem.W.Frag) : R2 := fun x y H Q => ∃ (l : Addr) (k : Nat) (xs : List V), x = .ref l ∧ y = .int (k : Int) ∧ SqT K H l xs ∧ xs ≠ [] ∧ 2 ≤ k ∧ k ≤ 100000 ∧ k * xs.length ≤ 1000000 ∧ ∀ p (o : Obj), H p = none → o.dict = none → Q (.ref p) (upd H p (.frz o (.tup (List.replicate k xs).flatten)))
theorem op_repP {X : Cx} : OpR X (binaryOp .Mult) (rRepP X.K) := by
  intro pins s σ H x y v u Q I rx ry h
  obtain ⟨l, k, xs, rfl, rfl, hT, hne, h1, h2, pn, q⟩ := h
  obtain rfl : v = Value.ref l := rx
  obtain ⟨t, rfl⟩ := ry
  obtain ⟨its, r, ⟨⟨cls, dd, data, sl⟩, ho, hc, n, hd⟩, hs⟩ := I.tuple hT
  obtain rfl : cls = .type "tuple" := hc
  obtain rfl : data = .seq its.toArray n := hd
  have hlen : its.length = xs.length := r.length.symm
  have full : its.toArray.isEmpty = false := by
    cases r with
    | nil => exact absurd rfl hne
    | cons _ _ => rfl
  have size0 : its.toArray.size = xs.length := by rw [List.size_toArray, hlen]
  have prod : ((xs.length : Nat) : Int) * (k : Int) ≤ 1000000 := by
    rw [← Int.natCast_mul, Nat.mul_comm]; omega
  have kn : ((k : Nat) : Int).toNat = k := Int.toNat_natCast k
  have room : (List.replicate k its).flatten.length ≤ sizeLine := by
    rw [PyProof.Rows.lm_len_rep_flat, hlen]
    exact Nat.le_trans pn (by decide)
  have d0 : (decide ((k : Int) < -(2 ^ 63)) || decide ((k : Int) ≥ 2 ^ 63)) = false := by simp; omega
  have d1 : (its.toArray.isEmpty || (k : Int) == 1) = false := by
    rw [full, Bool.false_or]; exact beq_eq_false_iff_ne.mpr (by omega)
  have d2 : (decide ((k : Int) ≤ 0) || its.toArray.isEmpty) = false := by
    rw [full, Bool.or_false]; exact decide_eq_false (by omega)
  have d4 : Builtin.Tuple.tupleTooMany (((its.toArray.size : Nat) : Int) * k) = false := by
    unfold Builtin.Tuple.tupleTooMany
    rw [size0, sizeLine_eq]
    exact decide_eq_false (by omega)
  refine wpAny_binaryOp_repeat_ref (T := "tuple") (U := "int") (by decide) ⟨_, ho, rfl⟩ (fun s' => typeIs_int s' k t) noFill_tuple_mul F.fills_int_mul F.slot_int_rmul repeat_tuple F.slot_int_index.lookup ?_
  refine call_meets F.slot_int_rmul (typeIs_int s k t) F.entry_int_rmul (F.args_int_rmul_2 _ _) (int_rmul_tuple k t l its.toArray n dd sl) ⟨ho, rfl, ⟨_, ho, rfl⟩, ?_⟩
  refine call_meets F.slot_tuple_mul ⟨_, ho, rfl⟩ F.entry_tuple_mul (F.args_tuple_mul_2 _ _) (tuple_mulW l its.toArray n dd sl k t d0 d1 d2 (by rw [size0]; omega) d4 (by rw [kn, size_rep, List.size_toArray]; exact room)) ⟨ho, ?_⟩
  rw [kn, size_rep]
  exact ⟨.ref s.heap.objs.size, _, inv_tupP I (r.rep k) (by rw [PyProof.Rows.lm_len_rep_flat]; exact Nat.le_trans pn (by decide)) s.toks, rfl, q _ _ (I.hok.fresh (Nat.le_refl _)) rfl⟩

def repL (k : Int) (xs : List D) : List D := (List.replicate k.toNat xs).flatten
theorem RpL.rep {K : PySem.W.Frag} {G : Hp} {vs : List V} {ds : List D} (r : RpL K G vs ds) : ∀ n : Nat, RpL K G (List.replicate n vs).flatten (List.replicate n ds).flatten
  | 0 => .nil
  | n + 1 => by
    rw [List.replicate_succ, List.replicate_succ, List.flatten_cons, List.flatten_cons]
    exact r.append (r.rep n)
theorem repL_one (xs : List D) : repL 1 xs = xs := by simp [repL]
theorem repL_nil (k : Int) : repL k [] = [] := by simp [repL]
def mulTD : D → D → Option D
  | .tup xs, .int k => if xs.length ≤ 1000 ∧ k ≤ 1000 ∧ -1000 ≤ k then some (.tup (repL k xs)) else none
  | _, _ => none
abbrev rRepA (K : PySem.W.Frag) : R2 := fun x y H Q => rRepP K x y H Q ∨ (rRepT1 K x y H Q ∨ rRepT0 K x y H Q)
theorem v2_mulT {K : PySem.W.Frag} : V2 K (rRepA K) mulTD := fun G H x y a b z Q s ra rb e q => by
  unfold mulTD at e
  split at e
  · split at e
    · rename_i xs k h
      cases e
      cases rb
      cases ra with
      | tup h1 r1 =>
        rename_i l vs
        have hl := r1.length
        by_cases h0 : k = 1 ∨ vs = []
        · refine .inr (.inl ⟨l, k, vs, rfl, rfl, s.sqt h1, h0, by omega, by omega, ?_⟩)
          have : repL k xs = xs := by
            rcases h0 with rfl | rfl
            · exact repL_one xs
            · cases r1; exact repL_nil k
          rw [this] at q
          exact q _ G H (.refl s) (.tup h1 r1)
        · have hne : vs ≠ [] := fun e => h0 (.inr e)
          by_cases hk : k ≤ 0
          · refine .inr (.inr ⟨l, k, vs, rfl, rfl, s.sqt h1, hne, hk, by omega, fun p o hp ho => ?_⟩)
            have : repL k xs = [] := by
              unfold repL
              rw [show k.toNat = 0 by omega]; rfl
            rw [this] at q
            exact q _ _ _ (.new s hp) (.tup (.new ho) .nil)
          · obtain ⟨m, rfl⟩ := Int.eq_ofNat_of_zero_le (show 0 ≤ k by omega)
            refine .inl ⟨l, m, vs, rfl, rfl, s.sqt h1, hne, by omega, by omega, Nat.le_trans (Nat.mul_le_mul (show m ≤ 1000 by omega) (show vs.length ≤ 1000 by omega)) (by decide), fun p o hp ho => ?_⟩
            exact q _ _ _ (.new s hp) (.tup (.new ho) ((r1.rep _).mono (Ext.new s hp).le))
    · cases e
  · cases e
def timesT : D → D → Option D := orD mulD (orD mulSD mulTD)
section
variable {X : Cx} {W : WX} {io : List Nat} {e a b tg : Expr} {pos : Pos} {fa fb : FE D} {fo : FE O}
theorem ok_timesT (ha : OkD X W a fa) (hb : OkD X W b fb) : OkD X W (.BinOp a .Mult b pos) (op2F timesT fa fb) := ok_op (OpR_or o_mul (OpR_or op_mulS (OpR_or op_repP (OpR_or op_repT1 op_repT0)))) (v2_or v2_iic (v2_or v2_mulS v2_mulT)) ha hb

def addLD : D → D → Option D
  | .lst a, .lst b => if a.length + b.length ≤ sizeLine then some (.lst (a ++ b)) else none
  | _, _ => none
def plusL : D → D → Option D := orD plusD addLD
def eqC (n : Bool) (c : C1) (b : D) : Option D := match c with
  | .val a => eqD n a b
  | .lst xs => eqD n (.lst xs) b
  | _ => none
theorem C1Ok.dp {K : PySem.W.Frag} {G H : Hp} {v : V} {S : Addr → Prop} {ds : List D} (s : Le G H) (h : C1Ok K G H v (.lst ds) S) (c : (toPy (.lst ds)).canLay0 = true) : Dp K H v (toPy (.lst ds)) := by
  cases h with
  | lst e r =>
    unfold toPy at c ⊢
    exact .lst (.inl (.inl e)) (RpL.dp s r (by simpa only [PyData.canLay0] using c))
variable {f : FE Pl}
def pairsD (xs ys : List D) : List D := (xs.zip ys).map fun p => .wt [p.1, p.2]
def zipF (fs : FE (List D)) : FE (List D) := fun ρ => (fs ρ).bind fun ds ρ => match ds with
  | [.lst xs, .lst ys] => .ok (pairsD xs ys) ρ
  | [.tup xs, .tup ys] => .ok (pairsD xs ys) ρ
  | _ => .stuck
def numbD : Nat → List D → List D
  | _, [] => []
  | i, x :: xs => .wt [.int i, x] :: numbD (i + 1) xs
def enumF (fs : FE (List D)) : FE (List D) := fun ρ => (fs ρ).bind fun ds ρ => match ds with
  | [.lst xs] => .ok (numbD 0 xs) ρ
  | _ => .stuck
theorem numb_get : ∀ {xs : List D} {k i : Nat} {d : D}, (numbD k xs)[i]? = some d → ∃ x, xs[i]? = some x ∧ d = .wt [.int (k + i : Nat), x]
  | [], _, _, _, h => by simp [numbD] at h
  | x :: xs, k, 0, d, h => by cases h; exact ⟨x, rfl, rfl⟩
  | x :: xs, k, i + 1, d, h => by
    obtain ⟨y, h1, h2⟩ := numb_get (xs := xs) (k := k + 1) (i := i) h
    refine ⟨y, h1, ?_⟩
    rw [h2, show k + 1 + i = k + (i + 1) by omega]
theorem numb_len : ∀ {xs : List D} {k : Nat}, (numbD k xs).length = xs.length
  | [], _ => rfl
  | _ :: _, _ => congrArg (· + 1) numb_len
end
end Fx

set_option Elab.async false
set_option linter.all false
set_option maxRecDepth 100000
set_option maxHeartbeats 3200000
namespace Fx
variable [FnSem]
open PySem L2

def onceZ : List Str → List Str → List Str
  | acc, [] => acc
  | acc, c :: r => onceZ (if c ∈ acc then acc else c :: acc) r
section
variable {P : Program} {w : World} {A : Around} {I : Addr} {zs : List Str} {St : Nat → Shared → Prop} {fp wr : List Addr} {G : Array GenState → Array GenState → Prop} {R : Result → Shared → Prop}
end
section
variable {P : Program} {w : World} {A : Around} {E : Value → Shared → Prop} {s : Shared}
end
def lenSetZD : D → Option D
  | .tup xs => match strsOf xs with
    | some zs => if zs.length ≤ 4000 then some (.int ((onceZ [] zs).length : Nat)) else none
    | none => none
  | _ => none
end Fx

set_option Elab.async false
set_option linter.all false
set_option maxRecDepth 100000
set_option maxHeartbeats 1000000
namespace Fx
variable [FnSem]
open PySem PySem.Spec PyProof.Rows L2
def iSeq (K : PySem.W.Frag) (ta : TE) : TI := fun σ H R => ta σ H fun v H1 =>
  (∃ a vs, v = .ref a ∧ SqL K H1 a vs ∧ R (Itl K a) H1) ∨ (∃ a vs, v = .ref a ∧ SqT K H1 a vs ∧ R (Itt K a) H1) ∨ ∃ z, v = .str z ∧ R (Its z) H1
theorem pi_seq {X : Cx} {tg e : Expr} {ta : TE} (he : PE X e ta) : PI X tg e (iSeq X.K ta) := by
  constructor
  intro pins s σ H R I h
  refine thn (he.run pins s σ H _ I h) ?_
  rintro v s1 ⟨y, H1, I1, r1, q⟩
  rcases q with ⟨a, vs, rfl, hs, q⟩ | ⟨a, vs, rfl, hs, q⟩ | ⟨z, rfl, q⟩
  · obtain rfl : v = Value.ref a := r1
    obtain ⟨us, _, pl, _⟩ := I1.list hs
    exact wpAny_pyIter_list pl.isList (pi_one (tk := s1.toks) I1 _ (turn_list a _) ⟨_, Heap.get?_push_size _ rfl, rfl, rfl⟩ q)
  · obtain rfl : v = Value.ref a := r1
    obtain ⟨us, _, pl, _⟩ := I1.tuple hs
    exact wpAny_pyIter_tuple (show s1.heap.IsTuple a us.toArray from pl) (pi_one (tk := s1.toks) I1 _ (turn_tuple a _) ⟨_, Heap.get?_push_size _ rfl, rfl, rfl⟩ q)
  · obtain ⟨t, rfl⟩ := r1
    by_cases hz : z.cps.all (· < 128) = true
    · exact wpAny_pyIter_ascii hz (pi_one (tk := s1.toks) I1 _ (turn_str _ z t "str_ascii_iterator" (.inl rfl)) ⟨_, Heap.get?_push_size _ rfl, rfl, rfl⟩ q)
    · exact wpAny_pyIter_wide (Bool.eq_false_iff.mpr hz) (pi_one (tk := s1.toks) I1 _ (turn_str _ z t "str_iterator" (.inr rfl)) ⟨_, Heap.get?_push_size _ rfl, rfl, rfl⟩ q)
def itemsD : D → Option (List D)
  | .lst xs => some xs
  | .tup xs => some xs
  | .str z => some (signsD z)
  | _ => none
def itA (f : FE D) : FE (List D) := fun ρ => (f ρ).bind fun d ρ => optR (itemsD d) ρ
theorem oki_any {X : Cx} {W : WX} {tg e : Expr} {fa : FE D} (h : OkD X W e fa) : OkI X W tg e (itA fa) := (pi_seq h).to fun σ H R q => by
  obtain ⟨G, ρ, F, rl, p⟩ := q
  refine ⟨G, ρ, F, rl, Post.bind p fun d ρ1 G1 H1 F1 _ rl1 st1 p1 v rv => ?_⟩
  cases rv with
  | lst hs r => exact .inl ⟨_, _, rfl, rl1.sub.sql hs, p1 G1 H1 F1 rl1 .refl _ (it_list hs r)⟩
  | tup hs r => exact .inr (.inl ⟨_, _, rfl, rl1.sub.sqt hs, p1 G1 H1 F1 rl1 .refl _ (it_tup hs r)⟩)
  | str z => exact .inr (.inr ⟨_, rfl, p1 G1 H1 F1 rl1 .refl _ it_str⟩)
  | _ => exact p1.elim
end Fx

set_option Elab.async false
set_option linter.all false
set_option maxRecDepth 100000
set_option maxHeartbeats 1000000
namespace Fx
open PySem L2
section
variable {ρ : Env} {fa fb : FE D} {fo : FE O} {fs : FE (List D)} {fps : FE (List Pl)}
@[simp] theorem e_fld {i : Nat} {cn f : Str} : fldF i cn f ρ = match ρ[i]? with
  | some (some (.ins c fs)) => if c = cn then (match fs.lookup f with
    | some (.val d) => .ok d ρ
    | _ => .stuck) else .stuck
  | _ => .stuck := rfl
@[simp] theorem e_setFld {i : Nat} {cn f : Str} : setFldF i cn f fo ρ = bindS (fo ρ) fun o ρ => match o, ρ[i]? with
  | .c c, some (some (.ins k fs)) => if k = cn ∧ fs.length < 1000 then .nx (ρ.set i (some (.ins k (putC f c fs)))) else .stuck
  | _, _ => .stuck := rfl
@[simp] theorem e_meth {i : Nat} {cn m : Str} {io : List Nat} {φ : List O → RF} : methF i cn m io φ fps ρ = match ρ[i]? with
  | some (some (.ins c fs)) => if c = cn ∧ fs.lookup m = none then (fps ρ).bind fun pls ρ => callP io φ (.sl i :: pls) ρ else .stuck
  | _ => .stuck := id rfl
@[simp] theorem e_make {cn : Str} {φ : List O → RF} : makeF cn φ fs ρ = (fs ρ).bind fun ds ρ => match φ (.ins cn [] :: ds.map O.v) with
  | .ok (.c (.val .non)) (o :: _) => .ok o ρ
  | _ => .stuck := id rfl
@[simp] theorem e_putC0 {f : Str} {c : C1} : putC f c [] = [(f, c)] := rfl
@[simp] theorem e_putC1 {f g : Str} {c x : C1} {r : List (Str × C1)} : putC f c ((g, x) :: r) = if g = f then (g, c) :: r else (g, x) :: putC f c r := rfl
@[simp] theorem e_isVi {c : Str} {fs : List (Str × C1)} : isV (.ins c fs) = false := rfl
@[simp] theorem e_frz5 {c : Str} {fs : List (Str × C1)} : frz (.ins c fs) = (recOf fs).map (.ob c) := rfl
@[simp] theorem e_itA : itA fa ρ = (fa ρ).bind fun d ρ => optR (itemsD d) ρ := rfl
@[simp] theorem e_items1 {xs : List D} : itemsD (.lst xs) = some xs := rfl
@[simp] theorem e_items2 {xs : List D} : itemsD (.tup xs) = some xs := rfl
@[simp] theorem e_items3 {z : Str} : itemsD (.str z) = some (signsD z) := rfl
@[simp] theorem e_zip : zipF fs ρ = (fs ρ).bind fun ds ρ => match ds with
  | [.lst xs, .lst ys] => .ok (pairsD xs ys) ρ
  | [.tup xs, .tup ys] => .ok (pairsD xs ys) ρ
  | _ => .stuck := rfl
@[simp] theorem e_enum : enumF fs ρ = (fs ρ).bind fun ds ρ => match ds with
  | [.lst xs] => .ok (numbD 0 xs) ρ
  | _ => .stuck := rfl
@[simp] theorem v_timesI {i j : Int} (h : MulC i j) : timesT (.int i) (.int j) = some (.int (i * j)) := by
  simp [timesT, orD, h]
@[simp] theorem v_timesT {xs : List D} {k : Int} : timesT (.tup xs) (.int k) = if xs.length ≤ 1000 ∧ k ≤ 1000 ∧ -1000 ≤ k then some (.tup (repL k xs)) else none := by
  simp [timesT, orD, iicD, mulSD, mulTD]
theorem v_timesS {z : Str} {k : Int} : timesT (.str z) (.int k) = if 0 ≤ k ∧ k ≤ 1000000 ∧ z.length ≤ 10 then some (.str (Txt.mul z k)) else none := by
  by_cases h : 0 ≤ k ∧ k ≤ 1000000 ∧ z.length ≤ 10
  · simp [timesT, orD, iicD, mulSD, h]
  · simp [timesT, orD, iicD, mulSD, mulTD, h]
@[simp] theorem v_plusLL {a b : List D} : plusL (.lst a) (.lst b) = if a.length + b.length ≤ sizeLine then some (.lst (a ++ b)) else none := by
  simp [plusL, orD, plusD, addLD]
@[simp] theorem v_eqC1 {n : Bool} {a b : D} : eqC n (.val a) b = eqD n a b := rfl
@[simp] theorem v_eqC2 {n : Bool} {xs : List D} {b : D} : eqC n (.lst xs) b = eqD n (.lst xs) b := rfl
end
end Fx

set_option Elab.async false
set_option linter.all false
set_option maxRecDepth 100000
set_option maxHeartbeats 2000000
namespace Fx
variable [FnSem]
open PySem PySem.Spec PyProof.Rows L2 ItX

section
variable {K : PySem.W.Frag} {mg : Str → Option Value} {W : WX} {G1 H1 : Hp} {σ : L2.St} {F1 : Fp}
end

theorem nn {a b : Nat} (h : a < b ∨ b < a) : a ≠ b := by omega
section
variable {X : Cx}
end

def zipAnyF (i : Nat) (fs : FE (List D)) (vs : List Nat) (g : FG) (ft : FE Bool) (fe : FE D) : FS := fun ρ => bindS (fs ρ) fun ds ρ => match ds with
  | [.tup xs, .tup ys] => (match lcF (fun ρ => .ok (pairsD xs ys) ρ) vs g ft fe (ρ.set i none) with
    | .ok (.c c) ρ => (match anyD c with
      | some (.bl b) => .ret (.v (.bl (!b))) ρ
      | _ => .stuck)
    | _ => .stuck)
  | _ => .stuck

section
variable {X : Cx} {W : WX} {io io' : List Nat} {e1 e2 elt tg : Expr} {ifs : List Expr} {scope : Scope} {own : List (Str × Nat)} {fs : FE (List D)} {g : FG} {ft : FE Bool} {fe : FE D}
end
end Fx

set_option Elab.async false
set_option linter.all false
set_option maxRecDepth 100000
set_option maxHeartbeats 1000000
namespace Fx
variable [FnSem]
open PySem L2
def par3F (i j l : Nat) (f : FE (List D)) : FS := fun ρ => bindS (f ρ) fun ds ρ => match ds with
  | [a, b, c] => .nx (((ρ.set i (some (.v a))).set j (some (.v b))).set l (some (.v c)))
  | _ => .stuck
section
variable {X : Cx} {W : WX} {io : List Nat} {a b c : Expr} {pos : Pos}
end
@[simp] theorem e_par3 {ρ : Env} {i j l : Nat} {fs : FE (List D)} : par3F i j l fs ρ = bindS (fs ρ) fun ds ρ => match ds with
  | [a, b, c] => .nx (((ρ.set i (some (.v a))).set j (some (.v b))).set l (some (.v c)))
  | _ => .stuck := rfl
@[simp] theorem e_zipAny {ρ : Env} {i : Nat} {fs : FE (List D)} {vs : List Nat} {g : FG} {ft : FE Bool} {fe : FE D} : zipAnyF i fs vs g ft fe ρ = bindS (fs ρ) fun ds ρ => match ds with
  | [.tup xs, .tup ys] => (match lcF (fun ρ => .ok (pairsD xs ys) ρ) vs g ft fe (ρ.set i none) with
    | .ok (.c c) ρ => (match anyD c with
      | some (.bl b) => .ret (.v (.bl (!b))) ρ
      | _ => .stuck)
    | _ => .stuck)
  | _ => .stuck := rfl
end Fx

set_option Elab.async false
set_option linter.all false
set_option maxRecDepth 100000
set_option maxHeartbeats 1000000
namespace Fx
open PySem L2
@[simp] theorem e_look0 {f : Str} : List.lookup f ([] : List (Str × C1)) = none := rfl
@[simp] theorem e_look1 {f g : Str} {x : C1} {r : List (Str × C1)} : List.lookup f ((g, x) :: r) = if f = g then some x else List.lookup f r := by
  rw [List.lookup_cons]
  by_cases h : f = g
  · rw [if_pos h, h, beq_self_eq_true]
  · rw [if_neg h, beq_false_of_ne h]
@[simp] theorem v_isNb {n b : Bool} : isNoneD n (.val (.bl b)) = some (.bl n) := by cases n <;> rfl
@[simp] theorem v_isNs {n : Bool} {z : Str} : isNoneD n (.val (.str z)) = some (.bl n) := by cases n <;> rfl
@[simp] theorem v_isNl {n : Bool} {xs : List D} : isNoneD n (.val (.lst xs)) = some (.bl n) := by cases n <;> rfl
@[simp] theorem v_isNt {n : Bool} {xs : List D} : isNoneD n (.val (.tup xs)) = some (.bl n) := by cases n <;> rfl
@[simp] theorem v_isNi {n : Bool} {i : Int} : isNoneD n (.val (.int i)) = some (.bl n) := by cases n <;> rfl
end Fx

set_option Elab.async false
set_option linter.all false
set_option maxRecDepth 100000
set_option maxHeartbeats 4000000
namespace Fx
variable [FnSem]
open PySem PySem.Spec PyProof.Rows L2

def max2D : List D → Option D
  | [.int i, .int j] => some (.int (if j > i then j else i))
  | _ => none
section
variable {X : Cx} {W : WX} {io : List Nat} {e a b tg : Expr} {pos : Pos} {fa fb : FE D} {fs : FE (List D)}
def mulBD : D → D → Option D
  | .tup xs, .int k => if xs.length ≤ 10 ∧ k ≤ 100000 ∧ 2 ≤ k ∧ xs ≠ [] then some (.tup (repL k xs)) else none
  | _, _ => none
def timesU : D → D → Option D := orD timesT mulBD
end
@[simp] theorem v_max2 {i j : Int} : max2D [.int i, .int j] = some (.int (if j > i then j else i)) := rfl
theorem v_timesUT {a b c : D} (h : timesT a b = some c) : timesU a b = some c := by unfold timesU orD; rw [h]
end Fx

set_option Elab.async false
set_option linter.all false
set_option maxRecDepth 100000
set_option maxHeartbeats 2000000
namespace Fx
variable [FnSem]
open PySem PySem.Spec PyProof.Rows L2 ItX

section
variable {X : Cx} {s0 : Shared} {H0 : Hp} {scope : Scope} {ce : PySem.Env} {fp : List Addr} {W : WX}
end

end Fx

set_option Elab.async false
set_option linter.all false
set_option maxRecDepth 100000
set_option maxHeartbeats 2000000
namespace Fx
variable [FnSem]
open PySem PySem.Spec PyProof.Rows L2 ItX

end Fx

set_option Elab.async false
set_option linter.all false
set_option maxRecDepth 100000
set_option maxHeartbeats 2000000
namespace Fx
variable [FnSem]
open PySem L2
open PyProof.Rows (envOfC)

section
variable {K : PySem.W.Frag} {mg : Str → Option Value} {W : WX} {G H G1 H1 : Hp} {σ : L2.St} {F F1 : Fp}
end
section
variable {X : Cx} {W : WX} {elt tg iter : Expr} {ifs : List Expr} {scope : Scope} {own : List (Str × Nat)} {pos : Pos} {fi : FE (List D)} {g : FG} {ft : FE Bool} {fe : FE D} {io : List Nat}
end
end Fx

set_option Elab.async false
set_option linter.all false
set_option maxRecDepth 100000
set_option maxHeartbeats 2000000
namespace Fx
variable [FnSem]
open PySem L2
open PyProof.Rows (envOfC)

section
variable {K : PySem.W.Frag} {mg : Str → Option Value} {G H : Hp} {σ : L2.St} {ρ : Env} {F : Fp}
end

def fld1F (g : C1 → Option D) (i : Nat) (cn f : Str) : FE D := fun ρ => match ρ[i]? with
  | some (some (.ins c fs)) => if c = cn then (match fs.lookup f with
    | some x => optR (g x) ρ
    | none => .stuck) else .stuck
  | _ => .stuck
def lenAt (i : Nat) (ρ : Env) : Option D := match ρ[i]? with
  | some (some (.c c)) => lenD c
  | _ => none
def fldIxF (i : Nat) (cn f : Str) (j : Nat) : FE D := fun ρ => match ρ[i]?, lenAt j ρ with
  | some (some (.ins c fs)), some k => if c = cn then (match fs.lookup f with
    | some x => optR (ixD x k) ρ
    | none => .stuck) else .stuck
  | _, _ => .stuck
section
variable {X : Cx} {W : WX} {io : List Nat} {e a b : Expr} {pos p1 p2 p3 apos : Pos} {cn f : Str} {C : Addr}
def newDTF : FE O := fun ρ => .ok (.c (.dt [])) ρ
end
end Fx

set_option Elab.async false
set_option linter.all false
set_option maxRecDepth 100000
set_option maxHeartbeats 2000000
namespace Fx
variable [FnSem]
open PySem L2
open PyProof.Rows (envOfC)

abbrev key2 (x y : Int) : List L2.Key := [.inl x, .inl y]
def spNum (C : Addr) : Sp := fun vs H Q E => ∃ (p a dx dn dm : Addr) (fs : List (Str × V)) (kvs : List (List L2.Key × V)) (ms : List V) (x y : Int), vs = [.ref p, .ref a] ∧ H p = some (.ins C dx fs) ∧ fs.lookup ("numbers" : Str) = some (V.ref dn) ∧ fs.lookup ("met" : Str) = some (V.ref dm) ∧
  H dn = some (.dT kvs) ∧ H dm = some (.lst ms) ∧ H a = some (.tup [.int x, .int y]) ∧ kvs.length < sizeLine ∧ ms.length < sizeLine ∧
  (∀ v, valV kvs (key2 x y) = some v → Q v H) ∧ (valV kvs (key2 x y) = none → Q (.int ms.length) (upd (upd H dn (.dT (putK kvs (key2 x y) (.int ms.length)))) dm (.lst (ms ++ [.ref a]))))
structure CalN (P : Program) (w : World) (K : PySem.W.Frag) (mg : Str → Option Value) (base : Heap) (k : Nat) (C : Addr) (m : Str) (f : Addr) (fd : FuncData) : Prop where
  fn : FnOk P w K mg base (L2.CX P w) k f fd ["self", "pair"] (spNum C)
  bd : Binds K fd ["self", "pair"] []
  me : Meth K C m f

def lookT (kd : List (List L2.Key × D)) (k : List L2.Key) : Option D := (kd.find? fun kv => decide (kv.1 = k)).map (·.2)
theorem RpT.len {K : PySem.W.Frag} {G : Hp} : ∀ {kvs : List (List L2.Key × V)} {kd : List (List L2.Key × D)}, RpT K G kvs kd → kvs.length = kd.length
  | _, _, .nil => rfl
  | _, _, .cons _ r => congrArg (· + 1) r.len
theorem RpT.snoc {K : PySem.W.Frag} {G : Hp} {k : List L2.Key} {v : V} {d : D} (hv : Rp K G v d) : ∀ {kvs : List (List L2.Key × V)} {kd : List (List L2.Key × D)}, RpT K G kvs kd → RpT K G (kvs ++ [(k, v)]) (kd ++ [(k, d)])
  | _, _, .nil => .cons hv .nil
  | _, _, .cons h r => .cons h (r.snoc hv)
def numF (i : Nat) (cn : Str) (fa fb : FE D) : FE D := fun ρ => match ρ[i]? with
  | some (some (.ins c0 fs0)) => if c0 = cn ∧ fs0.lookup ("number" : Str) = none then
    (fa ρ).bind fun x ρ => (fb ρ).bind fun y ρ => (match x, y, ρ[i]? with
    | .int x, .int y, some (some (.ins c fs)) => if c = cn then (match fs.lookup ("numbers" : Str), fs.lookup ("met" : Str) with
      | some (.dt kd), some (.lst md) => if kd.length < sizeLine ∧ md.length < sizeLine then (match lookT kd (key2 x y) with
        | some d => .ok d ρ
        | none => .ok (.int md.length) (ρ.set i (some (.ins c (putC "met" (.lst (md ++ [.wt [.int x, .int y]])) (putC "numbers" (.dt (kd ++ [(key2 x y, .int md.length)])) fs)))))) else .stuck
      | _, _ => .stuck) else .stuck
    | _, _, _ => .stuck) else .stuck
  | _ => .stuck
section
variable {X : Cx} {W : WX} {e1 e2 : Expr} {pos p1 p2 apos : Pos} {cn : Str} {C : Addr} {k j : Nat} {f : Addr} {fd : FuncData} {fa fb : FE D} {kk : Nat}
end
end Fx

set_option Elab.async false
set_option linter.all false
set_option maxRecDepth 100000
set_option maxHeartbeats 2000000
namespace Fx
variable [FnSem]
open PySem L2
def par2OO (i j : Nat) (fa fb : FE O) : FS := fun ρ => bindS (fa ρ) fun a ρ => bindS (fb ρ) fun b ρ => .nx ((ρ.set i (some a)).set j (some b))
section
variable {X : Cx} {W : WX} {io : List Nat} {e a b tg : Expr} {pos : Pos} {fa fb : FE O}
theorem ok_par2OO {i j : Nat} {x y : Str} {px py pt : Pos} {kt k2 pt2} (hc : X.calm = true) (hN : X.N.Nodup) (hi : X.N[i]? = some x) (hj : X.N[j]? = some y) (hij : i ≠ j)
    (hx : X.env.scope.names.lookup x = some .local) (hy : X.env.scope.names.lookup y = some .local) (hio : (io.contains i || io.contains j) = false) (ha : OkO X W a fa) (hb : OkO X W b fb)
    (hw : swappedStores [.Tuple [.Name x px, .Name y py] kt pt] (.Tuple [a, b] k2 pt2) X.env = pure (some [x, y]))
    (hs : swapsWithSole [.Tuple [.Name x px, .Name y py] kt pt] (.Tuple [a, b] k2 pt2) pos.line X.env = pure false := by rfl)
    (hst : starEach [a, b] X.env = (false, eval a X.env) :: starEach [b] X.env := by rfl) (hst2 : starEach [b] X.env = (false, eval b X.env) :: starEach [] X.env := by rfl) :
    OkS X W io (.Assign [.Tuple [.Name x px, .Name y py] kt pt] (.Tuple [a, b] k2 pt2) pos) (par2OO i j fa fb) := (ps_par hc hN hi hj hij hx hy (pa_cons ha (pa_cons hb pa_nil hst2) hst) hw hs).to fun Dn σ H q => by
  rw [Bool.or_eq_false_iff] at hio
  have nei : ∀ k ∈ io, k ≠ i := fun k hk e => by subst e; rw [List.contains_iff_mem.mpr hk] at hio; cases hio.1
  have nej : ∀ k ∈ io, k ≠ j := fun k hk e => by subst e; rw [List.contains_iff_mem.mpr hk] at hio; cases hio.2
  obtain ⟨G, ρ, F, rl, p⟩ := q
  refine ⟨G, ρ, F, rl, PostS.bindO p fun o1 ρ1 G1 H1 F1 v S1 _ rl1 st1 ok1 z1 p1 => ⟨G1, ρ1, F1, rl1, ?_⟩⟩
  cases eb : fb ρ1 with
  | stuck => rw [eb] at p1; exact p1.elim
  | ex e ρ2 =>
    rw [eb] at p1
    exact fun cv d G' H' F' rl' st x => p1 cv d σ G' H' F' rl' (st1.trans st) (fun _ _ => rfl) x
  | ok o2 ρ2 =>
    rw [eb] at p1
    intro G2 H2 F2 w S2 rl2 st2 ok2 z2
    have k1 : ∀ a, S1 a → G2 a = none ∧ H2 a ≠ none ∧ ¬ F2.U a := fun a q => by
      obtain ⟨y1, y2, y3, y4⟩ := z1 a q
      refine ⟨st2.fresh a y3 y2 y4, st2.there a y3, fun h => ?_⟩
      rcases st2.ownU h with h | h
      · exact y4 h
      · exact y3 h
    have back : ∀ a, H1 a = none → H a = none := fun a e => by
      cases q : H a with
      | none => rfl
      | some o => exact absurd e (st1.there a (by rw [q]; exact fun e => nomatch e))
    have ok1' : OOk X.K X.mg G2 H2 v o1 S1 := ok1.mono2 st2.le fun a u q h => st2.fr a u h (z1 a q).2.2.2
    have r1 := rl2.set i ok1' fun a q => ⟨(k1 a q).1, (k1 a q).2.1, fun k _ y => (k1 a q).2.2 ⟨k, y⟩⟩
    refine ⟨v, w, rfl, p1 _ G2 H2 _ (r1.set j ok2 fun a q => ⟨(z2 a q).2.1, (z2 a q).2.2.1, fun k hk y => ?_⟩) (((st1.trans st2).set fun a q => .inl (z1 a q).1).set fun a q => .inl (back a (z2 a q).1)) fun k hk => ?_⟩
    · by_cases hki : k = i
      · rw [if_pos hki] at y
        exact (z1 a y.2).2.2.1 (z2 a q).1
      · rw [if_neg hki] at y; exact (z2 a q).2.2.2 ⟨k, y⟩
    · rw [List.getElem?_set_ne (nej k hk).symm, List.getElem?_set_ne (nei k hk).symm]
end

def inC (n : Bool) (x : D) (c : C1) : Option D := match c.lst? with
  | some ys => if SeqAt.shaped (toPy x) = true ∧ SeqAt.shaped (toPy (.lst ys)) = true then some (.bl (if n then !(ys.any fun y => eqB y x) else ys.any fun y => eqB y x)) else none
  | none => none
def inBF (n : Bool) (fa : FE D) (f : FE Pl) : FE D := fun ρ => (fa ρ).bind fun x ρ => (f ρ).bind fun p ρ => match p.get ρ with
  | some c => optR (inC n x c) ρ
  | none => .stuck
def idxC (c : C1) (x : D) : Option D := match c.lst? with
  | some ys => if SeqAt.shaped (toPy x) = true ∧ SeqAt.shaped (toPy (.lst ys)) = true then (ys.findIdx? fun y => eqB y x).map fun j => .int (j : Nat) else none
  | none => none
def idxBF (f : FE Pl) (fa : FE D) : FE D := fun ρ => (f ρ).bind fun p ρ => match (p.get ρ).bind C1.lst? with
  | some _ => (fa ρ).bind fun x ρ => (match p.get ρ with
    | some c => optR (idxC c x) ρ
    | none => .stuck)
  | none => .stuck
section
variable {X : Cx} {W : WX} {io : List Nat} {a b : Expr} {pos apos : Pos} {fa : FE D} {f : FE Pl}
end
section
variable {ρ : Env} {fa fb : FE D} {fo ga : FE O} {f : FE Pl} {n : Bool}
@[simp] theorem e_par2OO {i j : Nat} : par2OO i j fo ga ρ = bindS (fo ρ) fun a ρ => bindS (ga ρ) fun b ρ => .nx ((ρ.set i (some a)).set j (some b)) := id rfl
@[simp] theorem e_inB : inBF n fa f ρ = (fa ρ).bind fun x ρ => (f ρ).bind fun p ρ => match p.get ρ with
  | some c => optR (inC n x c) ρ
  | none => .stuck := id rfl
@[simp] theorem e_idxB : idxBF f fa ρ = (f ρ).bind fun p ρ => match (p.get ρ).bind C1.lst? with
  | some _ => (fa ρ).bind fun x ρ => (match p.get ρ with
    | some c => optR (idxC c x) ρ
    | none => .stuck)
  | none => .stuck := id rfl
@[simp] theorem e_newDT : newDTF ρ = .ok (.c (.dt [])) ρ := rfl
@[simp] theorem e_fld1 {g : C1 → Option D} {i : Nat} {cn f : Str} : fld1F g i cn f ρ = match ρ[i]? with
  | some (some (.ins c fs)) => if c = cn then (match fs.lookup f with
    | some x => optR (g x) ρ
    | none => .stuck) else .stuck
  | _ => .stuck := id rfl
@[simp] theorem e_fldIx {i j : Nat} {cn f : Str} : fldIxF i cn f j ρ = match ρ[i]?, lenAt j ρ with
  | some (some (.ins c fs)), some k => if c = cn then (match fs.lookup f with
    | some x => optR (ixD x k) ρ
    | none => .stuck) else .stuck
  | _, _ => .stuck := id rfl
@[simp] theorem e_num {i : Nat} {cn : Str} : numF i cn fa fb ρ = match ρ[i]? with
  | some (some (.ins c0 fs0)) => if c0 = cn ∧ fs0.lookup ("number" : Str) = none then
    (fa ρ).bind fun x ρ => (fb ρ).bind fun y ρ => (match x, y, ρ[i]? with
    | .int x, .int y, some (some (.ins c fs)) => if c = cn then (match fs.lookup ("numbers" : Str), fs.lookup ("met" : Str) with
      | some (.dt kd), some (.lst md) => if kd.length < sizeLine ∧ md.length < sizeLine then (match lookT kd (key2 x y) with
        | some d => .ok d ρ
        | none => .ok (.int md.length) (ρ.set i (some (.ins c (putC "met" (.lst (md ++ [.wt [.int x, .int y]])) (putC "numbers" (.dt (kd ++ [(key2 x y, .int md.length)])) fs)))))) else .stuck
      | _, _ => .stuck) else .stuck
    | _, _, _ => .stuck) else .stuck
  | _ => .stuck := id rfl
end
end Fx

set_option Elab.async false
set_option linter.all false
set_option maxRecDepth 100000
set_option maxHeartbeats 2000000
namespace Fx
variable [FnSem]
open PySem L2

def revTD : D → Option D
  | .tup xs => some (.tup xs.reverse)
  | _ => none
def tupleSD : D → Option D
  | .str z => if z.length ≤ sizeLine then some (.tup (signsD z)) else none
  | _ => none
def min2D : List D → Option D
  | [.int i, .int j] => some (.int (if j < i then j else i))
  | _ => none
theorem vn_min2 {K : PySem.W.Frag} : VN K (fun xs H Q => ∃ i j, xs = [.int i, .int j] ∧ Q (.int (if j < i then j else i)) H) min2D := fun G H xs as z Q s r e q => by
  unfold min2D at e
  split at e
  · rename_i i j
    cases e
    cases r with
    | cons r1 r =>
      cases r with
      | cons r2 r =>
        cases r; cases r1; cases r2
        exact ⟨i, j, rfl, q _ G H (.refl s) (.int _)⟩
  · cases e
section
variable {X : Cx} {W : WX} {io : List Nat} {e a b : Expr} {pos : Pos} {fa fb : FE D} {fs : FE (List D)}
theorem ok_min2 {p : Pos} (hc : X.calm = true) (hg : Gl X "min") (hm : X.mg "min" = none) (ha : OkDs X W [a, b] fs)
    (he : starEach [a, b] X.env = (false, eval a X.env) :: starEach [b] X.env := by rfl) (hpl : (backTo pos (starEach [b] X.env)).any (·.1) = false := by rfl) : OkD X W (.Call (.Name "min" p) [a, b] [] pos) (opNF min2D fs) :=
  (pe_callB (call_min2 hc) hg hm (by decide +kernel) ha (by decide) (by decide) he hpl).to fun σ H Q h => t_opN vn_min2 h
end
@[simp] theorem v_revT {xs : List D} : revTD (.tup xs) = some (.tup xs.reverse) := rfl
@[simp] theorem v_min2 {i j : Int} : min2D [.int i, .int j] = some (.int (if j < i then j else i)) := rfl
theorem v_tupleS {z : Str} (h : z.length ≤ 1000000) : tupleSD (.str z) = some (.tup (signsD z)) := by
  show (if z.length ≤ sizeLine then _ else _) = _
  rw [if_pos (line_le h)]
end Fx

set_option Elab.async false
set_option linter.all false
set_option maxRecDepth 100000
set_option maxHeartbeats 2000000
namespace Fx
variable [FnSem]
open PySem L2
section
variable {X : Cx} {W : WX} {io : List Nat} {a b : Expr} {pos apos : Pos} {fa : FE D} {f : FE Pl}
end
end Fx

set_option Elab.async false
set_option linter.all false
set_option maxRecDepth 100000
set_option maxHeartbeats 2000000
namespace Fx
open PySem L2
open PyProof.Rows (envOfC)
section
variable [FnTabs]

def PostV (K : PySem.W.Frag) (mg : Str → Option Value) (G H : Hp) (Q : VK) (E : XK) : RD → Prop
  | .ok d => ∀ v G' H', Stp (fun _ _ => False) G H G' H' (fun _ _ => False) → Sub G' H' → Rp K G' v d → Q v H'
  | .ex e => ∀ cv x G' H', Stp (fun _ _ => False) G H G' H' (fun _ _ => False) → Sub G' H' → XOk K mg G' H' e cv x → E cv x H'
  | .stuck => False
structure CallAt (P : Program) (w : World) (K : PySem.W.Frag) (mg : Str → Option Value) (base : Heap) (j : Nat) (a : Addr) (G : Hp) (ψ : D → RD) : Prop where
  there : ∀ (H : Hp) (h : Heap), Le G H → HOk P w H h → K.In h → PySem.W.FnAt a h
  run : ∀ (A : Around) (outer : List PySem.Env) (s : Shared) (H G1 : Hp) (u : Value) (v : V) (d : D) (Q : VK) (E : XK), Le G G1 → Sub G1 H → Room j A → Env0 P w K mg base A outer s H → RelV v u → Rp K G1 v d → PostV K mg G1 H Q E (ψ d) →
    codeAny (model P w) A (.call (.ref a) ⟨[u], []⟩) (CR (L2.CX P w) outer P w H s Q E) s
theorem CallAt.mono {P : Program} {w : World} {K : PySem.W.Frag} {mg : Str → Option Value} {base : Heap} {j : Nat} {a : Addr} {G G' : Hp} {ψ : D → RD} (l : Le G G') (h : CallAt P w K mg base j a G ψ) : CallAt P w K mg base j a G' ψ :=
  ⟨fun H hp lh => h.there H hp (l.trans lh), fun A outer s H G1 u v d Q E l1 => h.run A outer s H G1 u v d Q E (l.trans l1)⟩
abbrev fnSem (T : List (Addr × Str)) (cl : Str → Addr) (P : Program) (w : World) (K : PySem.W.Frag) (mg : Str → Option Value) (base : Heap) (j : Nat) : FnSem :=
  letI : FnTabs := ⟨T, w, cl⟩
  { tabs := T, w := w, cls := cl, fn := fun a G ψ => CallAt P w K mg base j a G ψ, mono := fun l h => CallAt.mono l h }
end
variable [FnSem]
def callVF (i : Nat) (fa : FE D) : FE D := fun ρ => match ρ[i]? with
  | some (some (.fn ψ)) => (fa ρ).bind fun d ρ => match ψ d with
    | .ok d' => .ok d' ρ
    | .ex e => .ex e ρ
    | .stuck => .stuck
  | _ => .stuck
section
variable {X : Cx} {W : WX} {e : Expr} {p pos : Pos} {x : Str} {fa : FE D} {j : Nat}
end

section
variable {P : Program} {w : World} {K : PySem.W.Frag} {mg : Str → Option Value} {base : Heap} {j k : Nat} {f : Addr} {fd : FuncData} {p : Str} {φ : List O → RF}
end
def bF (ψ : D → RD) : FE Pl := fun ρ => .ok (.f ψ) ρ
section
variable {X : Cx} {W : WX} {pos : Pos} {x : Str} {f : Addr} {ψ : D → RD}
def bFS (i : Nat) : FE Pl := fun ρ => match ρ[i]? with
  | some (some (.fn ψ)) => .ok (.f ψ) ρ
  | _ => .stuck
end
section
variable {ρ : Env} {fa : FE D} {i : Nat} {ψ : D → RD}
@[simp] theorem e_callV : callVF i fa ρ = match ρ[i]? with
  | some (some (.fn ψ)) => (fa ρ).bind fun d ρ => match ψ d with
    | .ok d' => .ok d' ρ
    | .ex e => .ex e ρ
    | .stuck => .stuck
  | _ => .stuck := id rfl
@[simp] theorem e_bF : bF ψ ρ = .ok (.f ψ) ρ := id rfl
@[simp] theorem e_bFS : bFS i ρ = match ρ[i]? with
  | some (some (.fn ψ)) => .ok (.f ψ) ρ
  | _ => .stuck := id rfl
end
end Fx

set_option Elab.async false
set_option linter.all false
set_option maxRecDepth 100000
set_option maxHeartbeats 2000000
namespace Fx
open PySem L2
open PyProof.Rows (envOfC)
variable [FnSem]

structure LF where
  qual : Str
  params : Arguments
  body : Expr
  scope : Scope
  cl : List (Str × Addr)
  c : Addr
abbrev LF.fd (L : LF) (pm ctv : Value) : FuncData := PySem.W.kla_fn "<lambda>" L.qual L.params L.body L.scope L.cl pm (.ref L.c) ctv
def LamO (f : Addr) (L : LF) : HO := .ext fun h => ∃ od sl pm ctv, h.get? f = some (⟨.type "function", od, .func (L.fd pm ctv), sl⟩ : Obj)
def PinO (c : Addr) (o : Obj) : HO := .ext fun h => h.get? c = some o
section
variable {X : Cx} {pins : List (Addr × Obj)} {σ : L2.St} {G H : Hp} {s : Shared}
end
end Fx

set_option Elab.async false
set_option linter.all false
set_option maxRecDepth 100000
set_option maxHeartbeats 2000000
namespace Fx
open PySem L2
open PyProof.Rows (envOfC)

def LeX (G G' : Hp) : Prop := ∀ a o, G a = some o → (∀ f, o ≠ .ext f) → G' a = some o
section
variable [FnTabs] {K : PySem.W.Frag} {G G' : Hp}
theorem LeX.rd (l : LeX G G') {a : Addr} {u : HO} (hu : ∀ f, u ≠ .ext f) (h : Rd G a u) : Rd G' a u := by
  rcases h with h | ⟨o, h⟩
  · exact .inl (l _ _ h hu)
  · exact .inr ⟨o, l _ _ h fun _ => nofun⟩
theorem LeX.sqp (l : LeX G G') {a : Addr} {xs : List V} (h : SqP K G a xs) : SqP K G' a xs := by
  obtain ⟨o, h1, h | h⟩ := h
  · exact ⟨o, h1, .inl (l _ _ h fun _ => nofun)⟩
  · exact ⟨o, h1, .inr h⟩
theorem LeX.sql (l : LeX G G') {a : Addr} {xs : List V} (h : SqL K G a xs) : SqL K G' a xs := by
  rcases h with h | h
  · exact .inl (l.rd (fun _ => nofun) h)
  · exact .inr h
theorem LeX.dk (l : LeX G G') {a : Addr} {kvs : List (Key × V)} (h : Rd G a (.dK kvs)) : Rd G' a (.dK kvs) := l.rd (fun _ => nofun) h
theorem LeX.dt (l : LeX G G') {a : Addr} {kvs : List (List Key × V)} (h : Rd G a (.dT kvs)) : Rd G' a (.dT kvs) := l.rd (fun _ => nofun) h
end

variable [FnSem]
section
variable {S : Addr → Prop} [DecidablePred S] {H H' : Hp} {b : Addr}
end
structure CapOk (K : PySem.W.Frag) (G : Hp) (cl : List (Str × Addr)) (fr : List Str) (ws : List V) (ds : List D) : Prop where
  len : ws.length = fr.length
  rp : RpL K G ws ds
  all : ∀ y c, cl.lookup y = some c → ∃ o v, G c = some (PinO c o) ∧ o.data = .cell v
  inj : ∀ x y c, cl.lookup x = some c → cl.lookup y = some c → x = y
  has : ∀ (i : Nat) (y : Str), fr[i]? = some y → ∃ c o v u, cl.lookup y = some c ∧ G c = some (PinO c o) ∧ ws[i]? = some v ∧ RelV v u ∧ o.data = .cell (some u)
theorem CapOk.mono {K : PySem.W.Frag} {G G' : Hp} {cl : List (Str × Addr)} {fr : List Str} {ws : List V} {ds : List D} (l : Le G G') (h : CapOk K G cl fr ws ds) : CapOk K G' cl fr ws ds := by
  refine ⟨h.len, h.rp.mono l, fun y c e => ?_, h.inj, fun i y e => ?_⟩
  · obtain ⟨o, v, e1, e2⟩ := h.all y c e
    exact ⟨o, v, l _ _ e1, e2⟩
  · obtain ⟨c, o, v, u, e1, e2, e3, e4, e5⟩ := h.has i y e
    exact ⟨c, o, v, u, e1, l _ _ e2, e3, e4, e5⟩
def lamR (n : Nat) (fe : FE D) (ds : List D) : D → RD := fun d => match fe (some (.v d) :: (ds.map fun x => some (.v x)) ++ List.replicate (n - 1 - ds.length) none) with
  | .ok d' _ => .ok d'
  | _ => .stuck
section
variable {P : Program} {w : World} {K : PySem.W.Frag} {mg : Str → Option Value} {base : Heap} {k : Nat} {N fr : List Str} {p : Str} {L : LF} {f : Addr} {G : Hp} {ws : List V} {ds : List D} {fe : FE D}
end
end Fx

set_option Elab.async false
set_option linter.all false
set_option maxRecDepth 100000
set_option maxHeartbeats 2000000
namespace Fx
open PySem L2
open PyProof.Rows (envOfC)
variable [FnSem]

def valAt (ρ : Env) (j : Nat) : Option D := match ρ[j]? with
  | some (some (O.c (C1.val d))) => some d
  | _ => none
def capD : List Nat → Env → Option (List D)
  | [], _ => some []
  | j :: js, ρ => match valAt ρ j, capD js ρ with
    | some d, some r => some (d :: r)
    | _, _ => none
def LamAt (i : Nat) (mk : Addr → LF) (σ : L2.St) (G : Hp) : Prop := ∃ f c', σ[i]? = some (some (.ref f)) ∧ G f = some (LamO f (mk c')) ∧ G c' = some (LamX.CodeO c' (mk c').qual) ∧ (mk c').c = c'
theorem LamAt.mono {i : Nat} {mk : Addr → LF} {σ σ' : L2.St} {G G' : Hp} (l : Le G G') (e : σ'[i]? = σ[i]?) (h : LamAt i mk σ G) : LamAt i mk σ' G' := by
  obtain ⟨f, c', h1, h2, h3, h4⟩ := h
  exact ⟨f, c', by rw [e]; exact h1, l _ _ h2, l _ _ h3, h4⟩
section
variable {X : Cx} {j k : Nat} {N fr : List Str} {p : Str} {scope : Scope} {cl : List (Str × Addr)} {js : List Nat} {fe : FE D} {mk : Addr → LF} {φ : List O → RF} {g : Addr} {gd : FuncData} {ps : List Str}
end
end Fx

set_option Elab.async false
set_option linter.all false
set_option maxRecDepth 100000
set_option maxHeartbeats 2000000
namespace Fx
open PySem L2
open PyProof.Rows (envOfC)
variable [FnSem]

structure Cond where
  C : L2.St → Hp → Prop
  mono : ∀ {σ G G'}, Le G G' → C σ G → C σ G'
section
variable {X : Cx} {W : WX} {C : Cond} {io : List Nat} {e a : Expr} {es : List Expr} {st : Stmt} {sts : List Stmt} {pos : Pos} {fa : FE D} {fs : FE (List D)} {f g : FS}
end
def letLF (i : Nat) (g : FS) : FS := fun ρ => match ρ[i]? with
  | some none => g ρ
  | _ => .stuck
section
variable {X : Cx} {W : WX} {io : List Nat} {sts : List Stmt} {g : FS} {x : Str} {pos lpos pos' : Pos} {i : Nat} {c P : Addr} {params : Arguments} {body : Expr} {scope : Scope}
end

def callLF (n : Nat) (fe : FE D) (js : List Nat) (ψ2 : Option (D → RD)) (φ : List O → RF) (fa : FE D) : FE D := fun ρ => (fa ρ).bind fun x ρ => match capD js ρ with
  | some ds => match φ [.v x, .fn (lamR n fe ds), .fn (ψ2.getD (lamR n fe ds))] with
    | .ok o _ => optR (frz o) ρ
    | _ => .stuck
  | none => .stuck
section
variable {X : Cx} {W : WX} {j k : Nat} {N fr : List Str} {p gx y : Str} {js : List Nat} {fe fa : FE D} {mk : Addr → LF} {φ : List O → RF} {g : Addr} {gd : FuncData} {ps : List Str} {i : Nat} {ψ2 : Option (D → RD)} {e r : Expr} {p1 py pos : Pos} {cl : List (Str × Addr)}
end
section
variable {ρ : Env} {i n : Nat} {g : FS} {fe fa : FE D} {js : List Nat} {ψ2 : Option (D → RD)} {φ : List O → RF}
@[simp] theorem e_letL : letLF i g ρ = match ρ[i]? with
  | some none => g ρ
  | _ => .stuck := id rfl
@[simp] theorem e_callL : callLF n fe js ψ2 φ fa ρ = (fa ρ).bind fun x ρ => match capD js ρ with
  | some ds => match φ [.v x, .fn (lamR n fe ds), .fn (ψ2.getD (lamR n fe ds))] with
    | .ok o _ => optR (frz o) ρ
    | _ => .stuck
  | none => .stuck := id rfl
end
end Fx

set_option Elab.async false
set_option linter.all false
set_option maxRecDepth 100000
set_option maxHeartbeats 2000000
namespace Fx
open PySem L2
open PyProof.Rows (envOfC)

structure FunC (K : PySem.W.Frag) (x qual : Str) (st : Stmt) (f : Addr) (fd : FuncData) (c : Addr) : Prop where
  ex : ∃ (oc : Value) (od : Option Addr) (kV doc pm : Value) (an : Option Addr) (ct : Value) (osl : Array (Option Value)), fd = PySem.W.fnOf x qual (defArgs st) (defBody st) (defScope st) .none kV doc pm an (.ref c) ct ∧
    K.lookup f = some ⟨oc, od, .func fd, osl⟩ ∧ PySem.W.codeIn K (.ref c) qual = true
  kp : PySem.W.keepIn K (.ref f) = true
theorem FunC.to {K : PySem.W.Frag} {x qual : Str} {st : Stmt} {f : Addr} {fd : FuncData} {c : Addr} (F : FunC K x qual st f fd c) : Fun K x qual st f fd := by
  obtain ⟨oc, od, kV, doc, pm, an, ct, osl, e1, e2, e3⟩ := F.ex
  exact ⟨⟨oc, od, kV, doc, pm, an, .ref c, ct, osl, e1, e2, e3⟩, F.kp⟩
section
variable [FnSem] {P : Program} {w : World} {K : PySem.W.Frag} {mg : Str → Option Value} {base : Heap}
end
open PySem.W in
theorem walk_tabs {l : PySem.W.OpenLaw} {n k : Nat} {q : Program} {loose : List Str} {XP : (Str → Option Value) → Heap → Prop} {YP : World → Heap → Prop} {d : DefRec} {K : Params → PySem.W.Frag} {CX : World → CXT} {x : Str}
    (hn : l.most = some n) (hn2 : n ≤ sizeLine) (hdf : d.params.defaults = []) (hr : Room k callerA) (hY : ∀ (w : World) (h : Heap), YP w h → (K w.params).In h)
    (F : ∀ (w : World) (mg mb : Str → Option Value) (lo : List Str) (mean : ExcName → Option Value) (fa : Addr) (h : Heap), YP w h → (K w.params).In h → PyProof.Rows.Top q lo mean mg mb h → mg d.name = some (.ref fa) → LamX.LawAtS l w (K w.params) (CX w) k n x mg fa h)
    (hCX : ∀ (w : World) (H : Hp) (s : Shared) (e : Value) (s' : Shared), CX w [] H s (fun _ _ _ => False) e s' → False) :
    PySem.W.WalkO q loose XP YP l.row.toRowW d [] (fun f vs => PySem.call f vs) := by
  refine Att.attach_callB hn hdf fun w s0 s1 mg mb fa o pm cd doc a vs ns G Y ho hd hcd hmg hobj hints hlen hbits hg => ?_
  have KX := hY w _ Y
  obtain ⟨fd, cs, sp, hT, nT, C, hb, hsp, hF⟩ := F w mg mb _ _ fa _ Y KX G.T hmg
  exact LamX.law_callTs KX G.T.g G.T.b G.T.builtins G.T.nolimit hg hT nT C G.T.bmain hobj hints (Nat.le_trans hlen hn2) hr hF hb (fun H hH hS => hsp H a ns hlen hbits hH hS) fun H e s' => hCX w H s1 e s'
end Fx

set_option Elab.async false
set_option linter.all false
set_option maxRecDepth 100000
set_option maxHeartbeats 2000000
namespace Fx
open PySem L2
variable [FnSem]
theorem list_mulW (l : Addr) (items : Array Value) (n : Nat) (sl : Array (Option Value)) (x : Int) (u : Tok) (hc0 : ¬(!Builtin.List.listFitsIndex x) = true) (hc1 : ¬items.size * x.toNat > (2 ^ 63 - 1) / 8) (hc2 : ¬Builtin.List.listTooLong (items.size * x.toNat) = true) :
    Meets (Builtin.«list.__mul__» ⟨[.ref l, .int x u], []⟩) (fun _ R s => s.heap.get? l = some { cls := .type "list", dict := none, data := .seq items n, slots := sl } ∧ R (.ok (.ret (Value.ref s.heap.objs.size))) { s with heap := s.heap.push { cls := Value.type "list", data := Data.seq (List.foldl (fun x1 x2 => x1 ++ x2) #[] (List.replicate (if items.isEmpty = true then 0 else x.toNat) items)) }, toks := s.toks }) :=
  .of_wp fun prog w A R s h => by
    obtain ⟨hp, g, d, tk, os⟩ := s; obtain ⟨hl, h⟩ := h
    have hsz := AutoListH.joined_fits hc2
    wp_walk using wpAny_loadPart' hl; refine wpAny_ite_false (decide_eq_false (Nat.not_lt.mpr hsz)) ?_; wp_walk using wpAny_loadPart' hl; exact ⟨_, rfl, h⟩
theorem int_rmul_list (a : Int) (t : Tok) (l : Addr) (items : Array Value) (n : Nat) (sl : Array (Option Value)) :
    Meets (Builtin.«int.__rmul__» ⟨[.int a t, .ref l], []⟩) (fun _ R s => s.heap.get? l = some { cls := .type "list", dict := none, data := .seq items n, slots := sl } ∧ R (.ok (.ret Value.notImplemented)) s) :=
  .of_wp fun prog w A R s h => by obtain ⟨hp, g, d, tk, os⟩ := s; obtain ⟨hl, h⟩ := h; wp_walk using wpAny_loadPart' hl; exact ⟨_, rfl, h⟩
def rRepLA (K : PySem.W.Frag) : R2 := fun x y H Q => ∃ l k xs, x = .ref l ∧ y = .int k ∧ SqL K H l xs ∧ -(2 ^ 63) ≤ k ∧ k < 2 ^ 63 ∧ xs.length * k.toNat ≤ sizeLine ∧ ∀ p, H p = none → Q (.ref p) (upd H p (.lst (List.replicate k.toNat xs).flatten))
theorem op_repLA {X : Cx} : OpR X (binaryOp .Mult) (rRepLA X.K) := by
  intro pins s σ H x y v u Q I rx ry h
  obtain ⟨l, k, xs, rfl, rfl, hH, h1, h2, hz, q⟩ := h
  cases rx
  obtain ⟨t, rfl⟩ := ry
  obtain ⟨its, r, ⟨⟨cls, dd, data, sl⟩, n, ho, hc, hd, hdt⟩, _⟩ := I.list hH
  simp only at hc hd hdt
  subst hc hd hdt
  have hl := r.length
  have hlen : its.toArray.size * k.toNat ≤ sizeLine := by rw [List.size_toArray, ← hl]; exact hz
  have hcap : ¬ its.toArray.size * k.toNat > (2 ^ 63 - 1) / 8 := by
    have : (sizeLine : Nat) ≤ (2 ^ 63 - 1) / 8 := by decide
    omega
  have hfit : ¬ (!Builtin.List.listFitsIndex k) = true := by
    rw [fitsIndex_both h1 h2]
    exact Bool.false_ne_true
  have hlong : ¬ Builtin.List.listTooLong (its.toArray.size * k.toNat) = true := by
    rw [notLongL hlen]
    exact Bool.false_ne_true
  have hnew : List.foldl (fun x1 x2 => x1 ++ x2) #[] (List.replicate (if its.toArray.isEmpty = true then 0 else k.toNat) its.toArray) = (List.replicate k.toNat its).flatten.toArray := by
    have f0 : ∀ m : Nat, List.foldl (fun x1 x2 => x1 ++ x2) #[] (List.replicate m its.toArray) = (List.replicate m its).flatten.toArray := fun m => by
      have := foldl_rep its m []
      rw [List.nil_append] at this
      exact this
    rw [f0]
    cases its with
    | nil => simp
    | cons a r' => rw [if_neg (by simp)]
  refine wpAny_binaryOp_repeat_ref (T := "list") (U := "int") (by decide) ⟨_, ho, rfl⟩ (fun s' => typeIs_int s' k t) noFill_list_mul PySem.F.fills_int_mul PySem.F.slot_int_rmul repeat_list PySem.F.slot_int_index.lookup
    (call_meets PySem.F.slot_int_rmul (typeIs_int s k t) PySem.F.entry_int_rmul (PySem.F.args_int_rmul_2 _ _) (int_rmul_list k t l its.toArray n sl)
      ⟨ho, rfl, ⟨_, ho, rfl⟩, call_meets PySem.F.slot_list_mul ⟨_, ho, rfl⟩ PySem.F.entry_list_mul (PySem.F.args_list_mul_2 _ _) (list_mulW l its.toArray n sl k t hfit hcap hlong) ⟨ho, ?_⟩⟩)
  rw [hnew]
  exact ⟨.ref _, _, I.lnew (t' := s.toks) (r.rep k.toNat) (by rw [PyProof.Rows.lm_len_rep_flat, Nat.mul_comm]; exact hz), rfl, q _ I.fresh⟩
section
variable {X : Cx} {W : WX} {io : List Nat} {e a b : Expr} {pos : Pos} {fa fb : FE D} {f : FE Pl} {fe : FE D}
def extF (f : FE Pl) (fe : FE D) : FS := fun ρ => bindS (f ρ) fun pl ρ => match ownL pl ρ with
  | some _ => bindS (fe ρ) fun d ρ => (match ownL pl ρ with
    | some (i, xs) => (match d with
      | .tup zs => if xs.length + zs.length ≤ sizeLine then .nx (ρ.set i (some (.c (.lst (xs ++ zs))))) else .stuck
      | _ => .stuck)
    | none => .stuck)
  | none => .stuck
end
section
variable {ρ : Env} {f : FE Pl} {fe : FE D}
@[simp] theorem e_ext : extF f fe ρ = bindS (f ρ) fun pl ρ => match ownL pl ρ with
  | some _ => bindS (fe ρ) fun d ρ => (match ownL pl ρ with
    | some (i, xs) => (match d with
      | .tup zs => if xs.length + zs.length ≤ sizeLine then .nx (ρ.set i (some (.c (.lst (xs ++ zs))))) else .stuck
      | _ => .stuck)
    | none => .stuck)
  | none => .stuck := id rfl
end
end Fx

set_option Elab.async false
set_option linter.all false
set_option maxRecDepth 100000
set_option maxHeartbeats 2000000
namespace Fx
open PySem L2 PyProof.Rows

mutual
inductive KyV (K : PySem.W.Frag) (H : Hp) : NestedKey → V → Prop
  | non : KyV K H .none .non
  | int (i : Int) : KyV K H (.num i) (.int i)
  | str (x : Str) : KyV K H (.text x) (.str x)
  | tup {a : Addr} {vs : List V} {ks : List NestedKey} : SqT K H a vs → KyVs K H ks vs → KyV K H (.tup ks) (.ref a)
inductive KyVs (K : PySem.W.Frag) (H : Hp) : List NestedKey → List V → Prop
  | nil : KyVs K H [] []
  | cons {k : NestedKey} {v : V} {ks : List NestedKey} {vs : List V} : KyV K H k v → KyVs K H ks vs → KyVs K H (k :: ks) (v :: vs)
end
section
variable [FnTabs] {K : PySem.W.Frag} {G H : Hp}
mutual
theorem Rp.ky (l : Le G H) : ∀ {v : V} {d : D} {k : NestedKey}, Rp K G v d → keyN d = some k → KyV K H k v
  | _, _, _, .non, e => by unfold keyN at e; cases e; exact .non
  | _, _, _, .bl b, e => by unfold keyN at e; cases e
  | _, _, _, .int i, e => by unfold keyN at e; cases e; exact .int i
  | _, _, _, .str x, e => by unfold keyN at e; cases e; exact .str x
  | _, .tup ds, _, .tup h r, e => by
    unfold keyN at e
    cases q : keyNs ds with
    | none => rw [q] at e; cases e
    | some ks => rw [q] at e; cases e; exact .tup (l.sqt h) (RpL.ky l r q)
  | _, _, _, .lst h r, e => by unfold keyN at e; cases e
  | _, _, _, .dk h r, e => by unfold keyN at e; cases e
  | _, _, _, .dt h r, e => by unfold keyN at e; cases e
  | _, _, _, .tb h r, e => by unfold keyN at e; cases e
  | _, _, _, .wt h r, e => by unfold keyN at e; cases e
  | _, _, _, .ob h r, e => by unfold keyN at e; cases e
theorem RpL.ky (l : Le G H) : ∀ {vs : List V} {ds : List D} {ks : List NestedKey}, RpL K G vs ds → keyNs ds = some ks → KyVs K H ks vs
  | _, _, _, .nil, e => by unfold keyNs at e; cases e; exact .nil
  | _, d :: ds, _, .cons h r, e => by
    unfold keyNs at e
    cases q : keyN d with
    | none => rw [q] at e; cases e
    | some k =>
      cases q2 : keyNs ds with
      | none => rw [q, q2] at e; cases e
      | some ks => rw [q, q2] at e; cases e; exact .cons (Rp.ky l h q) (RpL.ky l r q2)
end
def KeyAt (K : PySem.W.Frag) (H : Hp) (nk : NestedKey) (q : Addr) : Prop := KyV K H nk (.ref q) ∧ nk.depth ≤ 8
theorem keyT_inv {d : D} {k : NestedKey} (h : keyT d = some k) : ∃ xs, d = .tup xs ∧ keyN d = some k ∧ k.depth ≤ 8 := by
  unfold keyT at h
  split at h
  · rename_i xs
    cases q : keyNs xs with
    | none => rw [q] at h; cases h
    | some ks =>
      rw [q] at h
      simp only [] at h
      split at h
      · rename_i hd
        cases h
        refine ⟨xs, rfl, by unfold keyN; rw [q], by unfold NestedKey.depth; omega⟩
      · cases h
  · cases h
theorem Rp.key (l : Le G H) {v : V} {d : D} {k : NestedKey} (r : Rp K G v d) (e : keyT d = some k) : ∃ q, v = .ref q ∧ KeyAt K H k q := by
  obtain ⟨xs, rfl, e2, hd⟩ := keyT_inv e
  cases r with
  | tup h r => exact ⟨_, rfl, Rp.ky l (.tup h r) e2, hd⟩
end
section
variable {X : Cx} {pins : List (Addr × Obj)} {σ : L2.St} {H : Hp} {s : Shared}
mutual
theorem KyV.is (I : Inv X pins σ H s) : ∀ {k : NestedKey} {v : V} {u : Value}, KyV X.K H k v → RelV v u → NestedIs s.heap k u
  | _, _, _, .non, r => by cases (show _ = Value.none from r); exact .none
  | _, _, _, .int i, r => by obtain ⟨t, e⟩ := (show ∃ t, _ = Value.int i t from r); subst e; exact .int i t
  | _, _, _, .str x, r => by obtain ⟨t, e⟩ := (show ∃ t, _ = Value.str x t from r); subst e; exact .text x t
  | _, _, _, .tup (a := a) h t, r => by
    cases (show _ = Value.ref a from r)
    obtain ⟨its, rv, ⟨o, h1, h2, n, h3⟩, _⟩ := I.tuple h
    exact .tup h1 h2 h3 (by simpa using KyVs.is I t rv)
theorem KyVs.is (I : Inv X pins σ H s) : ∀ {ks : List NestedKey} {vs : List V} {us : List Value}, KyVs X.K H ks vs → Vals vs us → NestedAll s.heap ks us
  | _, _, _, .nil, r => by cases r; exact .nil
  | _, _, _, .cons h t, r => by
    cases r with
    | cons r1 r2 => exact .cons (KyV.is I h r1) (KyVs.is I t r2)
end
theorem KeyAt.is {k : NestedKey} {q : Addr} (I : Inv X pins σ H s) (h : KeyAt X.K H k q) : (nestedKind X.prog X.w).is s.heap k q := ⟨KyV.is I h.1 rfl, h.2⟩
end

abbrev Xs := List (NestedKey × Addr × V)
abbrev XU : Xs → List (NestedKey × Addr × Value) → Prop := Paired fun p q => p.1 = q.1 ∧ p.2.1 = q.2.1 ∧ RelV p.2.2 q.2.2
def findX (xs : Xs) (k : NestedKey) : Option V := (xs.find? fun x => decide (x.1 = k)).map (·.2.2)
def putX (xs : Xs) (k : NestedKey) (q : Addr) (v : V) : Xs := if (findX xs k).isSome then xs.map (fun x => if x.1 = k then (x.1, x.2.1, v) else x) else xs ++ [(k, q, v)]
def dropX (xs : Xs) (k : NestedKey) : Xs := xs.filter fun x => decide (x.1 ≠ k)
theorem XU.find {xs : Xs} {us : List (NestedKey × Addr × Value)} (r : XU xs us) (k : NestedKey) : RelO (findX xs k) ((atKey us k).map (·.2)) := by
  induction r with
  | nil => exact True.intro
  | @cons p q ps qs h t ih =>
    obtain ⟨h1, h2, h3⟩ := h
    unfold findX atKey at *
    by_cases e : p.1 = k
    · have e' : q.1 = k := h1.symm.trans e
      simpa [List.find?_cons, e, e'] using (show RelO (some p.2.2) (some q.2.2) from h3)
    · have e' : ¬ q.1 = k := fun z => e (h1.trans z)
      simpa [List.find?_cons, e, e'] using ih
theorem XU.map {xs : Xs} {us : List (NestedKey × Addr × Value)} (r : XU xs us) (k : NestedKey) {v : V} {u : Value} (rv : RelV v u) : XU (xs.map (fun x => if x.1 = k then (x.1, x.2.1, v) else x)) (us.map (putAt k u)) := by
  induction r with
  | nil => exact .nil
  | @cons p q ps qs h t ih =>
    obtain ⟨h1, h2, h3⟩ := h
    rw [List.map_cons, List.map_cons]
    refine .cons ?_ ih
    unfold putAt
    by_cases e : p.1 = k
    · rw [if_pos e, if_pos (h1.symm.trans e)]; exact ⟨h1, h2, rv⟩
    · rw [if_neg e, if_neg (fun z => e (h1.trans z))]; exact ⟨h1, h2, h3⟩
theorem XU.put {xs : Xs} {us : List (NestedKey × Addr × Value)} (r : XU xs us) (k : NestedKey) (q : Addr) {v : V} {u : Value} (rv : RelV v u) : XU (putX xs k q v) (storedH us k q u) := by
  have e : (findX xs k).isSome = (atKey us k).isSome := by rw [(r.find k).isSome_eq, Option.isSome_map]
  unfold putX storedH
  rw [e]
  split
  · exact r.map k rv
  · exact Paired.snoc r ⟨rfl, rfl, rv⟩
theorem XU.drop {xs : Xs} {us : List (NestedKey × Addr × Value)} (r : XU xs us) (k : NestedKey) : XU (dropX xs k) (withoutH us k) := by
  induction r with
  | nil => exact .nil
  | @cons p q ps qs h t ih =>
    obtain ⟨h1, h2, h3⟩ := h
    unfold dropX withoutH at *
    by_cases e : p.1 = k
    · have e' : q.1 = k := h1.symm.trans e
      simpa [List.filter_cons, e, e'] using ih
    · have e' : ¬ q.1 = k := fun z => e (h1.trans z)
      rw [List.filter_cons_of_pos (by simpa using e), List.filter_cons_of_pos (by simpa using e')]
      exact .cons ⟨h1, h2, h3⟩ ih
def TbV (K : PySem.W.Frag) (w : World) (H : Hp) (a : Addr) (xs : Xs) : Prop := Rd H a (DTo w a xs) ∧ ∀ x ∈ xs, KeyAt K H x.1 x.2.1
def TbO (K : PySem.W.Frag) (w : World) (H : Hp) (a : Addr) (xs : Xs) : Prop := H a = some (DTo w a xs) ∧ ∀ x ∈ xs, KeyAt K H x.1 x.2.1
theorem TbO.v {K : PySem.W.Frag} {w : World} {H : Hp} {a : Addr} {xs : Xs} (h : TbO K w H a xs) : TbV K w H a xs := ⟨.inl h.1, h.2⟩
theorem tbAt_ok {P : Program} {w w' : World} {H : Hp} {h : Heap} {a : Addr} {xs : Xs} (t : TbAt w a xs h) : ObjOk P w' H h a (DTo w a xs) := by
  refine ⟨t, ?_, fun h1 h2 t1 k => ?_⟩
  · obtain ⟨us, _, _, _, o, _, _, e, _⟩ := t; exact ⟨o, e⟩
  · obtain ⟨us, r, z, y, o, es, ep, e, c⟩ := t1
    exact ⟨us, r, z, y, o, es, ep, k _ e, c⟩
section
variable {X : Cx} {pins : List (Addr × Obj)} {σ : L2.St} {H : Hp} {s : Shared} {a : Addr} {xs : Xs}
theorem TbV.of (I : Inv X pins σ H s) (h : TbV X.K X.w H a xs) : ∃ us, XU xs us ∧ us.length ≤ sizeLine ∧ (a == sysModules) = false ∧ s.heap.DictOfH (nestedKind X.prog X.w) a us := by
  have t : TbAt X.w a xs s.heap := by
    rcases h.1 with q | ⟨o, q⟩
    · exact (I.hok a _ q).1
    · exact (I.hok a _ q).2.1
  obtain ⟨us, r, z, y, o, es, ep, e, c, hd, he, hn⟩ := t
  refine ⟨us, r, z, y, o, es, ep, e, c, hd, he, ?_, hn⟩
  have all : ∀ {l : Xs} {m : List (NestedKey × Addr × Value)}, XU l m → (∀ x ∈ l, KeyAt X.K H x.1 x.2.1) → ∀ x ∈ m, (nestedKind X.prog X.w).is s.heap x.1 x.2.1 := by
    intro l m q
    induction q with
    | nil => intro _ x hx; exact nomatch hx
    | @cons p q ps qs hq t ih =>
      intro hk x hx
      rcases List.mem_cons.mp hx with e | hx
      · subst e
        rw [← hq.1, ← hq.2.1]
        exact (hk p List.mem_cons_self).is I
      · exact ih (fun y hy => hk y (List.mem_cons_of_mem _ hy)) x hx
  exact all r h.2
theorem TbO.write (I : Inv X pins σ H s) (h : TbO X.K X.w H a xs) {xs' : Xs} {us' : List (NestedKey × Addr × Value)} {h' : Heap} {t' : Nat} (r : XU xs' us') (z : us'.length ≤ sizeLine) (hs : Heap.SameBut a s.heap h') (d : h'.DictOfH (nestedKind X.prog X.w) a us') :
    Inv X pins σ (upd H a (DTo X.w a xs')) { s with heap := h', toks := t' } := by
  obtain ⟨_, _, _, y, _⟩ := h.v.of I
  obtain ⟨o, es, ep, e, c, hd, he, _, hn⟩ := d
  refine I.write (x := a) (e := a) (by rw [h.1]; exact True.intro) (.inl rfl) (fun b u hb q => (hs.2 b hb).trans q) ⟨o, e⟩ (tbAt_ok ⟨us', r, z, y, o, es, ep, e, c, hd, he, hn⟩)
end

def rGetT (K : PySem.W.Frag) (w : World) : R2 := fun x y H Q => ∃ a xs nk q v, x = .ref a ∧ TbV K w H a xs ∧ y = .ref q ∧ KeyAt K H nk q ∧ findX xs nk = some v ∧ Q v H
def rGet2T (K : PySem.W.Frag) (w : World) : V → List V → Hp → VK → Prop := fun x ys H Q => ∃ a xs nk q d, x = .ref a ∧ TbV K w H a xs ∧ ys = [.ref q, d] ∧ KeyAt K H nk q ∧ Q ((findX xs nk).getD d) H
section
variable {X : Cx} {o i e value : Expr} {pos pos' tpos : Pos} {td ty tv : TE}
theorem roomT {A : Around} (hu : A.units + 64 < cLine) {prog : Program} {w : World} : (nestedKind prog w).room A.in1 := by show A.units + 1 + 8 < cLine; omega
theorem pe_getT (hu : X.A.units + 64 < cLine) (ho : PE X o td) (hi : PE X i ty) (hs : NoSl i) : PE X (.Subscript o i pos) (tOp (rGetT X.K X.w) td ty) := by
  refine ⟨fun pins s σ H Q I h => ?_⟩
  refine subD_of PySem.F.slot_dict_getitem.lookup hs (thn (ho.run pins s σ H _ I h) fun u s1 ⟨x, H1, I1, rx, q1⟩ => thn (hi.run pins s1 σ H1 _ I1 q1) fun iv s2 ⟨y, H2, I2, ry, a, xs, nk, q, v, ex, ht, ey, hk, hf, hq⟩ => ?_)
  subst ex ey
  cases (show u = Value.ref a from rx)
  cases (show iv = Value.ref q from ry)
  obtain ⟨us, r, _, hd, dd⟩ := ht.of I2
  obtain ⟨w', hw, rw'⟩ := RelO.some_of (v := v) (o := (atKey us nk).map (·.2)) (by rw [← hf]; exact r.find nk)
  obtain ⟨p, hp, hp2⟩ := Option.map_eq_some_iff.mp hw
  refine ⟨dd.typeIs, wpAny_getItem_heap (roomT hu) (hk.is I2) dd hp ⟨v, H2, I2.tok _, ?_, hq⟩⟩
  rw [hp2]; exact rw'
theorem mt_get2T (hu : X.A.units + 64 < cLine) : MtR X "dict.get" (rGet2T X.K X.w) := fun pins s σ H x ys v us Q I rx ry ⟨a, xs, nk, q, d, ex, ht, ey, hk, hq⟩ => by
  subst ex ey
  cases (show v = Value.ref a from rx)
  cases ry with
  | cons r1 r2 =>
    cases r2 with
    | cons r2 r3 =>
      cases r3
      cases (show _ = Value.ref q from r1)
      obtain ⟨us, r, _, hd, dd⟩ := ht.of I
      exact call_meetsIn PySem.F.slot_dict_get dd.typeIs PySem.F.entry_dict_get (PySem.F.args_dict_get_3 _ _ _) (meetsH_dict_get_default (nestedKind X.prog X.w) a q hd _) ⟨roomT hu, nk, us, hk.is I, dd, _, H, I.tok _, (r.find nk).getD r2, hq⟩
def sPutT (K : PySem.W.Frag) (w : World) (td ty tv : TE) : TS := fun D σ H => tv σ H fun v H1 => td σ H1 fun x H2 => ty σ H2 fun y H3 => ∃ a xs nk q, x = .ref a ∧ TbO K w H3 a xs ∧ y = .ref q ∧ KeyAt K H3 nk q ∧ xs.length < sizeLine ∧ D.nx σ (upd H3 a (DTo w a (putX xs nk q v)))
theorem storedH_len (us : List (NestedKey × Addr × Value)) (k : NestedKey) (q : Addr) (u : Value) : (storedH us k q u).length ≤ us.length + 1 := by
  unfold storedH
  split <;> simp
theorem ps_putT (hu : X.A.units + 64 < cLine) (ho : PE X o td) (hi : PE X i ty) (hv : PE X value tv) (hs : swapsWith value (some (.Subscript o i pos')) pos.line X.env = pure false) :
    PS X (.Assign [.Subscript o i pos'] value pos) (sPutT X.K X.w td ty tv) := by
  refine ⟨fun pins s σ H D I h => ?_⟩
  refine wpAny_Assign_Subscript (thn (hv.run pins s σ H _ I h) fun r s1 ⟨v, H1, I1, rv, q1⟩ => thn (ho.run pins s1 σ H1 _ I1 q1) fun u s2 ⟨x, H2, I2, rx, q2⟩ => thn (hi.run pins s2 σ H2 _ I2 q2) fun iv s3 ⟨y, H3, I3, ry, a, xs, nk, q, ex, ht, ey, hk, hl, hq⟩ => ?_) hs
  subst ex ey
  cases (show u = Value.ref a from rx)
  cases (show iv = Value.ref q from ry)
  obtain ⟨us, rr, hz, hd, dd⟩ := ht.v.of I3
  have el : us.length = xs.length := (Paired.length rr).symm
  exact wpAny_setItem_heap (hsz := hz) (roomT hu) (hk.is I3) dd fun h' dd' hs' => ⟨σ, _, ht.write I3 (rr.put nk q rv) (by have := storedH_len us nk q r; omega) hs' dd', hq⟩
def tNewT (w : World) : TE := fun _ H Q => ∀ p, H p = none → Q (.ref p) (upd H p (DTo w p []))
theorem pe_newT : PE X (.Dict [] [] pos) (tNewT X.w) := ⟨fun pins s σ H Q I h =>
  wpAny_Dict_empty ⟨.ref s.heap.objs.size, _, I.laid (a := s.heap.objs.size) (o := DTo X.w s.heap.objs.size []) (t' := s.toks) (fun _ _ q => Heap.get?_push_of_some _ q) (Nat.le_refl _)
    (tbAt_ok ⟨[], .nil, Nat.zero_le _, beq_eq_false_iff_ne.mpr (Ne.symm (Nat.ne_of_lt I.big)), _, #[], 0, Heap.get?_push_size _ rfl, ⟨rfl, rfl, rfl⟩, rfl, rfl, List.nodup_nil⟩), rfl, h _ (I.hok.fresh (Nat.le_refl _))⟩⟩
end
end Fx

set_option Elab.async false
set_option linter.all false
set_option maxRecDepth 100000
set_option maxHeartbeats 2000000
namespace Fx
open PySem L2 PyProof.Rows

section
variable {X : Cx} {pins : List (Addr × Obj)} {σ : L2.St} {H : Hp} {s : Shared} {d : Addr} {o : Obj} {xs : Xs}
theorem XU.at {l : Xs} {m : List (NestedKey × Addr × Value)} (r : XU l m) : ∀ {i : Nat} {x : NestedKey × Addr × V}, l[i]? = some x → ∃ u, m[i]? = some (x.1, x.2.1, u) ∧ RelV x.2.2 u := by
  induction r with
  | nil => intro i x e; simp at e
  | @cons p q ps qs h t ih =>
    intro i x e
    cases i with
    | zero =>
      cases e
      obtain ⟨h1, h2, h3⟩ := h
      exact ⟨q.2.2, by rw [h1, h2]; rfl, h3⟩
    | succ i => exact ih (i := i) e
theorem Inv.frzB (I : Inv X pins σ H s) (h : H d = some (.frz o (DTo X.w d xs))) : (d == sysModules) = false ∧ s.heap.get? d = some o ∧ ∃ (es : Array DictEntry) (ep : Nat), s.heap.DictRaw d es ep ∧ o.data = .dict es ep ∧ es.size = xs.length ∧
    ∀ (i : Nat) (nk : NestedKey) (q : Addr) (v : V), xs[i]? = some (nk, q, v) → ∃ (hi : i < es.size) (u : Value), es[i].key = .ref q ∧ es[i].val = u ∧ RelV v u := by
  obtain ⟨hd, ⟨us, r, z, y, o', es, ep, e, c, hdt, he, hn⟩, _⟩ := I.hok d _ h
  rw [hd] at e
  cases e
  have hl : es.size = xs.length := by
    have l2 : xs.length = us.length := Paired.length r
    rw [← Array.length_toList, he, List.length_map, l2]
  refine ⟨y, hd, es, ep, ⟨o, hd, c, hdt⟩, hdt, hl, fun i nk q v ei => ?_⟩
  obtain ⟨u, e1, ru⟩ := XU.at r ei
  have e2 : es[i]? = some ⟨nk.hash X.w, .ref q, u⟩ := by
    rw [← Array.getElem?_toList, he, List.getElem?_map, e1]; rfl
  obtain ⟨hi, e3⟩ := Array.getElem?_eq_some_iff.mp e2
  exact ⟨hi, u, by rw [e3], by rw [e3], ru⟩
end
def ItkB (w : World) (d : Addr) (o : Obj) (xs : Xs) : It :=
  ⟨fun i H => H d = some (.frz o (DTo w d xs)) ∧ i < xs.length, fun i H x H' => H' = H ∧ ∃ nk q v, xs[i]? = some (nk, q, v) ∧ x = .ref q, fun i H => H d = some (.frz o (DTo w d xs)) ∧ xs.length ≤ i⟩
def ItiB (w : World) (d : Addr) (o : Obj) (xs : Xs) : It :=
  ⟨fun i H => H d = some (.frz o (DTo w d xs)) ∧ i < xs.length, fun i H x H' => ∃ T nk q v, xs[i]? = some (nk, q, v) ∧ x = .ref T ∧ H T = none ∧ H' = upd H T (.tup [.ref q, v]), fun i H => H d = some (.frz o (DTo w d xs)) ∧ xs.length ≤ i⟩
section
variable {P : Program} {w : World} {K : PySem.W.Frag} {tg : Expr} {d : Addr} {o : Obj} {es : Array DictEntry} {ep : Nat} {xs : Xs}
theorem turn_keysB (it : Addr) (hod : o.data = .dict es ep) : Turn P w K tg (ItkB w d o xs) [it] it (fun i h => h.IsKeyIter it d i xs.length ep) where
  mem := by simp
  obj := fun i h st b hb => by
    have e : b = it := by simpa using hb
    subst e
    obtain ⟨oi, e, c, dd⟩ := st
    exact ⟨oi, e, fun v z => by rw [dd] at z; cases z⟩
  keep := fun i h h' st k => st.at fun oi e => k it (by simp) oi e
  item := by
    intro X hP hw hK hc i pins s σ H E I hf st hg
    subst hP hw hK
    obtain ⟨hd, hi⟩ := hg
    obtain ⟨f0, f1, f2, f3, f4, f5⟩ := hf it (by simp)
    obtain ⟨hs, hgd, es', ep', hr, hdt, hsz, ent⟩ := Inv.frzB I hd
    obtain ⟨rfl, rfl⟩ := dict_ep hod hdt
    obtain ⟨⟨nk, q, v⟩, hkv⟩ : ∃ p, xs[i]? = some p := ⟨xs[i], List.getElem?_eq_getElem hi⟩
    obtain ⟨hi2, u, ek, ev, ru⟩ := ent i nk q v hkv
    rw [← hsz] at st
    refine wpAny_pyNext_keys_item_raw st hr hi2 fun h' st' sb => ?_
    have I1 : Inv X pins σ H { s with heap := h' } := I.turned (t' := s.toks) (fun b ob hb e => (sb.2 b hb).trans e) f0 f1 f3 f4 f5
    obtain ⟨oi, e, c, dd⟩ := id st'
    rw [ek]
    refine ⟨_, rfl, go_of (s := { s with heap := h' }) e c dd (by decide) ⟨.ref q, H, I1, rfl, ⟨rfl, nk, q, v, hkv, rfl⟩, ?_, fun b hb => (hf b hb).1⟩⟩
    show h'.IsKeyIter it d (i + 1) xs.length _
    rw [← hsz]
    exact st'
  done := by
    intro X hP hw hK hc i pins s σ H E I hf st hg
    subst hP hw hK
    obtain ⟨hd, hi⟩ := hg
    obtain ⟨f0, f1, f2, f3, f4, f5⟩ := hf it (by simp)
    obtain ⟨hs, hgd, es', ep', hr, hdt, hsz, ent⟩ := Inv.frzB I hd
    obtain ⟨rfl, rfl⟩ := dict_ep hod hdt
    rw [← hsz] at st
    exact wpAny_pyNext_keys_end_raw (I.ok.hd hc) st hr (by omega) fun h' eb => ⟨rfl, I.turned (t' := s.toks) (fun b ob hb e => eb b ob hb e) f0 f1 f3 f4 f5⟩
  self := fun A i s Q E st h => wpAny_pyIter_keyiter st h
theorem turn_itemsB {elts : List Expr} {kk : Nat} {tpos : Pos} (it : Addr) (hod : o.data = .dict es ep) :
    Turn P w K (.Tuple elts kk tpos) (ItiB w d o xs) [it] it (fun i h => ∃ ok ov, IsItemIter h it d i xs.length ep ok ov) where
  mem := by simp
  obj := fun i h st b hb => by
    have e : b = it := by simpa using hb
    subst e
    obtain ⟨ok, ov, e⟩ := st
    exact ⟨_, e, fun v z => nomatch z⟩
  keep := fun i h h' st k => let ⟨ok, ov, e⟩ := st; ⟨ok, ov, k it (by simp) _ e⟩
  item := by
    intro X hP hw hK hc i pins s σ H E I hf st hg
    subst hP hw hK
    obtain ⟨hd, hi⟩ := hg
    obtain ⟨hs, hgd, es', ep', hr, hdt, hsz, ent⟩ := Inv.frzB I hd
    obtain ⟨rfl, rfl⟩ := dict_ep hod hdt
    obtain ⟨⟨nk, q, v⟩, hkv⟩ : ∃ p, xs[i]? = some p := ⟨xs[i], List.getElem?_eq_getElem hi⟩
    obtain ⟨hi2, u, ek, ev, ru⟩ := ent i nk q v hkv
    obtain ⟨ok, ov, he⟩ := st
    rw [← hsz] at he
    have hlt : it < s.heap.objs.size := Heap.lt_size he
    refine wpAny_pyNext_items_item_raw he hr hi2 fun h' ho hT hz hk => ?_
    refine ⟨_, rfl, wpAny_letOwnedTupleGo_items (s := { s with heap := h' }) ho fun h'' he' sb => ?_⟩
    rw [ek, ev] at hT
    have hT2 : h''.get? s.heap.objs.size = some { cls := .type "tuple", data := .seq #[.ref q, u] } := (sb.2 _ (Nat.ne_of_gt hlt)).trans hT
    have new : ObjOk X.prog X.w (upd H s.heap.objs.size (.tup [.ref q, v])) h'' s.heap.objs.size (.tup [.ref q, v]) :=
      ⟨by show 2 ≤ sizeLine; decide, [.ref q, u], .cons rfl (.cons ru .nil), ⟨_, hT2, rfl, _, rfl⟩⟩
    have I1 : Inv X pins σ (upd H s.heap.objs.size (.tup [.ref q, v])) { s with heap := h'' } :=
      I.turnedNew (t' := s.toks) (ch := [it]) (fun b ob hb e => (sb.2 b (by simpa using hb)).trans (hk b ob (by simpa using hb) e)) hf (Nat.le_refl _) new
    refine ⟨.ref s.heap.objs.size, _, I1, rfl, ⟨_, nk, q, v, hkv, rfl, I.hok.fresh (Nat.le_refl _), rfl⟩, ⟨_, _, (by rw [← hsz]; exact he')⟩, fun b hb => ?_⟩
    · have e : b = it := by simpa using hb
      rw [e, upd_ne (Nat.ne_of_lt hlt)]
      exact (hf it (by simp)).1
  done := by
    intro X hP hw hK hc i pins s σ H E I hf st hg
    subst hP hw hK
    obtain ⟨hd, hi⟩ := hg
    obtain ⟨f0, f1, f2, f3, f4, f5⟩ := hf it (by simp)
    obtain ⟨hs, hgd, es', ep', hr, hdt, hsz, ent⟩ := Inv.frzB I hd
    obtain ⟨rfl, rfl⟩ := dict_ep hod hdt
    obtain ⟨ok, ov, he⟩ := st
    rw [← hsz] at he
    exact wpAny_pyNext_items_end_raw (I.ok.hd hc) he hr (by omega) fun h' eb => ⟨rfl, I.turned (t' := s.toks) (fun b ob hb e => eb b ob hb e) f0 f1 f3 f4 f5⟩
  self := fun A i s Q E st h => let ⟨_, _, e⟩ := st; PySem.W.kcp_self e h
end
def iKeysB (w : World) (td : TE) : TI := fun σ H R => td σ H fun x H1 => ∃ d o xs, x = .ref d ∧ H1 d = some (.frz o (DTo w d xs)) ∧ R (ItkB w d o xs) H1
def iItemsB (w : World) (td : TE) : TI := fun σ H R => td σ H fun x H1 => ∃ d o xs, x = .ref d ∧ H1 d = some (.frz o (DTo w d xs)) ∧ R (ItiB w d o xs) H1
section
variable {X : Cx} {e : Expr} {td : TE} {tg : Expr} {apos cpos tpos : Pos}
theorem raw_noDict {s : Shared} {d : Addr} {es : Array DictEntry} {ep : Nat} (h : s.heap.DictRaw d es ep) : ∃ ob, s.heap.get? d = some ob ∧ ob.dict = none := by
  obtain ⟨o, h1, h2, _⟩ := h
  exact ⟨o, h1, h2.2.1⟩
theorem pi_keysB (he : PE X e td) : PI X tg e (iKeysB X.w td) := by
  refine ⟨fun pins s σ H R I h => ?_⟩
  refine thn (he.run pins s σ H _ I h) fun u s1 ⟨x, H1, I1, rx, d, o, xs, ex, hd, q⟩ => ?_
  subst ex
  obtain rfl : u = Value.ref d := rx
  obtain ⟨hs, hgd, es, ep, hr, hdt, hsz, ent⟩ := Inv.frzB I1 hd
  refine wpAny_pyIter_dict_raw hs hr (pi_one (tk := s1.toks) I1 _ (turn_keysB _ hdt) ⟨_, Heap.get?_push_size _ rfl, rfl, ?_⟩ q)
  rw [hsz] <;> rfl
theorem pi_itemsB {elts : List Expr} {kk : Nat} (he : PE X e td) (hbase : attributeBase e "items" X.env (eval e X.env) = eval e X.env := by rfl) (hline : (apos.endLine == cpos.line) = true := by rfl) :
    PI X (.Tuple elts kk tpos) (.Call (.Attribute e "items" apos) [] [] cpos) (iItemsB X.w td) := by
  refine ⟨fun pins s σ H R I h => ?_⟩
  refine wpAny_Call_method0_late hbase hline (thn (he.run pins s σ H _ I h) fun u s1 ⟨x, H1, I1, rx, d, o, xs, ex, hd, q⟩ => ?_)
  subst ex
  obtain rfl : u = Value.ref d := rx
  obtain ⟨hs, hgd, es, ep, hr, hdt, hsz, ent⟩ := Inv.frzB I1 hd
  refine ⟨"dict", "dict.items", F.plainAttrs_dict, F.slot_dict_items, F.type_dict_items, hr.typeIs, fun a ea => by cases ea; exact raw_noDict hr, ?_⟩
  have I2 : Inv X pins σ H1 { s1 with heap := s1.heap.push { cls := .type "dict_items", data := .fields #[.ref d] } } := I1.kept (t' := s1.toks) fun b ob q => Heap.get?_push_of_some _ q
  refine Calls.callWith_builtin rfl (PySem.evalArgs_none (call_meetsIn F.slot_dict_items hr.typeIs F.entry_dict_items (F.args_dict_items_1 _) (meets_dict_items_raw d hs) ⟨⟨es, ep, hr⟩, ?_⟩))
  refine wpAny_pyIter_items_raw (d := d) ⟨_, Heap.get?_push_size _ rfl, rfl, rfl⟩ (hr.at fun o e => Heap.get?_push_of_some _ e) (pi_one (tk := s1.toks) I2 _ (turn_itemsB _ hdt) ⟨.none, .none, ?_⟩ q)
  rw [← hsz]
  exact Heap.get?_push_size _ rfl
def tBT (K : PySem.W.Frag) (w : World) (r : V → List V → Hp → VK → Prop) (to : TE) (t : TA) : TE := fun σ H Q => to σ H fun x H1 => (∃ a xs, x = .ref a ∧ TbV K w H1 a xs) ∧ t σ H1 fun ys H2 => r x ys H2 Q
theorem pe_bT {o e : Expr} {es : List Expr} {to : TE} {t : TA} {name : Str} {id : String} {r : V → List V → Hp → VK → Prop} (slot : Slot "dict" name id) (hty : typeOf (.builtin id) = pure (.type "method_descriptor")) (hm : MtR X id r) (ho : PE X o to) (ha : PA X (e :: es) t)
    (hbase : attributeBase o name X.env (eval o X.env) = eval o X.env := by rfl)
    (hfew : ((backTo cpos (starEach (e :: es) X.env)).all (fun x => !x.1) && (backToKw cpos (keywordEach [] X.env)).all (fun x => x.1.isSome)
      && decide ((e :: es).length + ([] : List Keyword).length + (if ([] : List Keyword).isEmpty then 0 else 1) < 30)) = true := by rfl)
    (hline : (apos.endLine == cpos.line) = true := by rfl) (hs : starEach (e :: es) X.env = (false, eval e X.env) :: starEach es X.env := by rfl) (hplain : (backTo cpos (starEach es X.env)).any (·.1) = false := by rfl) :
    PE X (.Call (.Attribute o name apos) (e :: es) [] cpos) (tBT X.K X.w r to t) := by
  refine ⟨fun pins s σ H Q I h => ?_⟩
  refine wpAny_Call_method_late hbase hfew hline rfl (thn (ho.run pins s σ H _ I h) fun v s1 ⟨x, H1, I1, r1, ⟨a, xs, ex, ty⟩, q1⟩ => ?_)
  subst ex
  obtain rfl : v = Value.ref a := r1
  obtain ⟨us, _, _, _, dd⟩ := ty.of I1
  refine ⟨"dict", id, F.plainAttrs_dict, slot, hty, dd.typeIs, fun b eb => by cases eb; obtain ⟨ob, _, _, h1, h2, _⟩ := dd; exact ⟨ob, h1, h2.2.1⟩, ?_⟩
  have hA := ha.run cpos pins s1 σ H1 _ I1 q1
  rw [hs] at hA ⊢
  refine Calls.callWith_builtin (by show (false || (backTo cpos (starEach es X.env)).any (·.1)) = false; rw [hplain] <;> rfl) (Calls.evalArgs_plain ?_)
  exact thn hA fun us s2 ⟨vs, H2, I2, r2, q2⟩ => hm pins s2 σ H2 (.ref a) vs (.ref a) us Q I2 rfl r2 q2
end
end Fx

set_option Elab.async false
set_option linter.all false
set_option maxRecDepth 100000
set_option maxHeartbeats 2000000
namespace Fx
open PySem L2 PyProof.Rows

def lookB (ds : List (D × D)) (k : NestedKey) : Option D := (ds.find? fun p => decide (keyT p.1 = some k)).map (·.2)
def putB (ds : List (D × D)) (dk : D) (k : NestedKey) (d : D) : List (D × D) := if (lookB ds k).isSome then ds.map (fun p => if keyT p.1 = some k then (p.1, d) else p) else ds ++ [(dk, d)]
def dropB (ds : List (D × D)) (k : NestedKey) : List (D × D) := ds.filter fun p => decide (keyT p.1 ≠ some k)
section
variable [FnTabs] {K : PySem.W.Frag} {G H : Hp}
theorem RpB.len {xs : Xs} {ds : List (D × D)} (r : RpB K G xs ds) : xs.length = ds.length := by
  induction xs generalizing ds with
  | nil => cases r; rfl
  | cons x xs ih => cases r with | cons _ _ _ r => simp [ih r]
theorem RpB.keys (l : Le G H) {xs : Xs} {ds : List (D × D)} (r : RpB K G xs ds) : ∀ x ∈ xs, KeyAt K H x.1 x.2.1 := by
  induction xs generalizing ds with
  | nil => intro x hx; exact nomatch hx
  | cons x xs ih =>
    cases r with
    | cons hk e _ r =>
      intro y hy
      rcases List.mem_cons.mp hy with z | hy
      · subst z
        obtain ⟨q, e1, e2⟩ := Rp.key l hk e
        cases e1
        exact e2
      · exact ih r y hy
theorem RpB.find {xs : Xs} {ds : List (D × D)} (r : RpB K G xs ds) (k : NestedKey) : (lookB ds k = none ∧ findX xs k = none) ∨ ∃ d v, lookB ds k = some d ∧ findX xs k = some v ∧ Rp K G v d := by
  induction xs generalizing ds with
  | nil => cases r; exact .inl ⟨rfl, rfl⟩
  | cons x xs ih =>
    cases r with
    | @cons nk q dk v _ d ds hk e hv r =>
      unfold lookB findX at *
      by_cases h : nk = k
      · subst h
        exact .inr ⟨d, v, by simp [List.find?_cons, e], by simp [List.find?_cons], hv⟩
      · have h2 : ¬ keyT dk = some k := by rw [e]; exact fun z => h (Option.some.inj z)
        simpa [List.find?_cons, h, h2] using ih r
theorem RpB.isSome {xs : Xs} {ds : List (D × D)} (r : RpB K G xs ds) (k : NestedKey) : (findX xs k).isSome = (lookB ds k).isSome := by
  rcases r.find k with ⟨h1, h2⟩ | ⟨d, v, h1, h2, _⟩ <;> rw [h1, h2] <;> rfl
theorem RpB.map {xs : Xs} {ds : List (D × D)} (r : RpB K G xs ds) (k : NestedKey) {v : V} {d : D} (rv : Rp K G v d) : RpB K G (xs.map (fun x => if x.1 = k then (x.1, x.2.1, v) else x)) (ds.map (fun p => if keyT p.1 = some k then (p.1, d) else p)) := by
  induction xs generalizing ds with
  | nil => cases r; exact .nil
  | cons x xs ih =>
    cases r with
    | @cons nk q dk w _ d' ds hk e hv r =>
      rw [List.map_cons, List.map_cons]
      by_cases h : nk = k
      · rw [if_pos h, if_pos (by rw [e, h])]; exact .cons hk e rv (ih r)
      · rw [if_neg h, if_neg (by rw [e]; exact fun z => h (Option.some.inj z))]; exact .cons hk e hv (ih r)
theorem RpB.snoc {xs : Xs} {ds : List (D × D)} (r : RpB K G xs ds) {nk : NestedKey} {q : Addr} {dk : D} {v : V} {d : D} (hk : Rp K G (.ref q) dk) (e : keyT dk = some nk) (rv : Rp K G v d) : RpB K G (xs ++ [(nk, q, v)]) (ds ++ [(dk, d)]) := by
  induction xs generalizing ds with
  | nil => cases r; exact .cons hk e rv .nil
  | cons x xs ih => cases r with | cons h1 h2 h3 r => exact .cons h1 h2 h3 (ih r)
theorem RpB.put {xs : Xs} {ds : List (D × D)} (r : RpB K G xs ds) {nk : NestedKey} {q : Addr} {dk : D} {v : V} {d : D} (hk : Rp K G (.ref q) dk) (e : keyT dk = some nk) (rv : Rp K G v d) : RpB K G (putX xs nk q v) (putB ds dk nk d) := by
  unfold putX putB
  rw [r.isSome]
  split
  · exact r.map nk rv
  · exact r.snoc hk e rv
theorem RpB.drop {xs : Xs} {ds : List (D × D)} (r : RpB K G xs ds) (k : NestedKey) : RpB K G (dropX xs k) (dropB ds k) := by
  induction xs generalizing ds with
  | nil => cases r; exact .nil
  | cons x xs ih =>
    cases r with
    | @cons nk q dk w _ d' ds hk e hv r =>
      unfold dropX dropB at *
      by_cases h : nk = k
      · simpa [List.filter_cons, h, e] using ih r
      · have h2 : ¬ keyT dk = some k := by rw [e]; exact fun z => h (Option.some.inj z)
        rw [List.filter_cons_of_pos (by simpa using h), List.filter_cons_of_pos (by simpa using h2)]
        exact .cons hk e hv (ih r)
theorem RpB.get {xs : Xs} {ds : List (D × D)} (r : RpB K G xs ds) {i : Nat} {x : NestedKey × Addr × V} {p : D × D} (e1 : xs[i]? = some x) (e2 : ds[i]? = some p) : Rp K G (.ref x.2.1) p.1 ∧ Rp K G x.2.2 p.2 := by
  induction xs generalizing ds i with
  | nil => simp at e1
  | cons y xs ih =>
    cases r with
    | cons hk e hv r =>
      cases i with
      | zero => cases e1; cases e2; exact ⟨hk, hv⟩
      | succ i => exact ih r (i := i) e1 e2
end
variable [FnSem]
def C1.tb? : C1 → Option (List (D × D))
  | .tb ds => some ds
  | .val (.tb ds) => some ds
  | _ => none
theorem C1Ok.tb? {K : PySem.W.Frag} {G H : Hp} {v : V} {c : C1} {S : Addr → Prop} (s : Le G H) (h : C1Ok K G H v c S) {ds : List (D × D)} (e : c.tb? = some ds) : ∃ a xs, v = .ref a ∧ TbV K FnTabs.w H a xs ∧ RpB K G xs ds := by
  cases h with
  | val r =>
    cases r with
    | tb h r => cases e; exact ⟨_, _, rfl, ⟨.inr ⟨_, s _ _ h⟩, r.keys s⟩, r⟩
    | _ => cases e
  | tb h r => cases e; exact ⟨_, _, rfl, ⟨.inl h, r.keys s⟩, r⟩
  | _ => cases e
def getTb (c : C1) (k : D) : Option D := match c.tb?, keyT k with
  | some ds, some nk => lookB ds nk
  | _, _ => none
def hasTb (n : Bool) (c : C1) (k : D) : Option D := match c.tb?, keyT k with
  | some ds, some nk => some (.bl (if n then !(lookB ds nk).isSome else (lookB ds nk).isSome))
  | _, _ => none
def getOrTb (c : C1) (k x : D) : Option D := match c.tb?, keyT k with
  | some ds, some nk => some ((lookB ds nk).getD x)
  | _, _ => none
section
variable {X : Cx} {W : WX} {io : List Nat} {o i e a b k x : Expr} {es : List Expr} {pos pos' apos cpos tpos : Pos} {f : FE Pl} {fi fa fb fk fx fe : FE D}
theorem b2_getT {K : PySem.W.Frag} : B2 K (rGetT K FnTabs.w) getTb := fun G H v c S y b z Q s ok ry e q => by
  unfold getTb at e
  split at e
  · rename_i ds nk e1 e2
    obtain ⟨p, xs, rfl, hT, r⟩ := ok.tb? s e1
    obtain ⟨q2, rfl, hk⟩ := Rp.key s ry e2
    rcases r.find nk with ⟨h1, _⟩ | ⟨d, v, h1, h2, h3⟩
    · rw [h1] at e; cases e
    · rw [h1] at e
      cases e
      exact ⟨p, xs, nk, q2, v, rfl, hT, rfl, hk, h2, q _ G H (.refl s) h3⟩
  · cases e
theorem ok_getT (hw : X.w = FnTabs.w) (hu : X.A.units + 64 < cLine) (hb : OkB X W o f) (hi : OkD X W i fi) (hs : NoSl i := by exact fun _ _ => rfl) : OkD X W (.Subscript o i pos) (b2F getTb f fi) :=
  (pe_getT hu hb hi hs).to fun _ _ _ h => t_b2 (by rw [hw]; exact b2_getT) h
def inTF (n : Bool) (fa : FE D) (f : FE Pl) : FE D := fun ρ => (fa ρ).bind fun x ρ => (f ρ).bind fun p ρ => match p.get ρ with
  | some c => optR (hasTb n c x) ρ
  | none => .stuck
def get2TF (f : FE Pl) (fk fx : FE D) : FE D := fun ρ => (f ρ).bind fun p ρ => match (p.get ρ).bind C1.tb? with
  | some _ => (fk ρ).bind fun k ρ => (fx ρ).bind fun x ρ => (match p.get ρ with
    | some c => optR (getOrTb c k x) ρ
    | none => .stuck)
  | none => .stuck
theorem ok_get2T (hw : X.w = FnTabs.w) (hu : X.A.units + 64 < cLine) (hb : OkB X W o f) (hk : OkD X W k fk) (hx : OkD X W x fx)
    (hbase : attributeBase o "get" X.env (eval o X.env) = eval o X.env := by rfl)
    (hfew : ((backTo cpos (starEach [k, x] X.env)).all (fun x => !x.1) && (backToKw cpos (keywordEach [] X.env)).all (fun x => x.1.isSome)
      && decide ([k, x].length + ([] : List Keyword).length + (if ([] : List Keyword).isEmpty then 0 else 1) < 30)) = true := by rfl)
    (hline : (apos.endLine == cpos.line) = true := by rfl) (hs1 : starEach [k, x] X.env = (false, eval k X.env) :: starEach [x] X.env := by rfl) (hs2 : starEach [x] X.env = (false, eval x X.env) :: starEach [] X.env := by rfl)
    (hplain : (backTo cpos (starEach [x] X.env)).any (·.1) = false := by rfl) : OkD X W (.Call (.Attribute o "get" apos) [k, x] [] cpos) (get2TF f fk fx) :=
  (pe_bT PySem.F.slot_dict_get PySem.F.type_dict_get (mt_get2T hu) hb (pa_cons hk (pa_cons hx pa_nil hs2) hs1) hbase hfew hline hs1 hplain).to fun σ H Q h => by
    obtain ⟨G, ρ, F, rl, p⟩ := h
    refine ⟨G, ρ, F, rl, Post.bind p fun pl ρ1 G1 H1 F1 _ rl1 st1 p1 u pu => ?_⟩
    cases ec : pl.get ρ1 with
    | none => simp only [ec] at p1; exact p1.elim
    | some c =>
      simp only [ec, Option.bind_some] at p1
      obtain ⟨S, ok⟩ := rl1.pl pu ec
      cases e1 : c.tb? with
      | none => simp only [e1] at p1; exact p1.elim
      | some ds =>
        simp only [e1] at p1
        obtain ⟨p, xs, rfl, hT, r⟩ := ok.tb? rl1.sub e1
        refine ⟨⟨p, xs, rfl, by rw [hw]; exact hT⟩, G1, ρ1, F1, rl1, Post.bind p1 fun y ρ2 G2 H2 F2 _ rl2 st2 p2 v rv => ⟨G2, ρ2, F2, rl2, Post.bind p2 fun z ρ3 G3 H3 F3 _ rl3 st3 p3 v2 rv2 => ?_⟩⟩
        cases ec3 : pl.get ρ3 with
        | none => simp only [ec3] at p3; exact p3.elim
        | some c3 =>
          simp only [ec3] at p3
          obtain ⟨S3, ok3⟩ := rl3.pl (pu.mono (st2.le.trans st3.le)) ec3
          unfold getOrTb at p3
          split at p3
          · rename_i ds3 nk e3 e4
            obtain ⟨p', xs3, ep, hT3, r3⟩ := ok3.tb? rl3.sub e3
            obtain ⟨q2, rfl, hk⟩ := Rp.key rl3.sub (rv.mono st3.le) e4
            refine ⟨p', xs3, nk, q2, v2, ep, by rw [hw]; exact hT3, rfl, hk, ?_⟩
            rcases r3.find nk with ⟨h1, h2⟩ | ⟨d, w, h1, h2, h3⟩
            · rw [h2]; rw [h1] at p3; exact p3 G3 H3 F3 rl3 .refl _ rv2
            · rw [h2]; rw [h1] at p3; exact p3 G3 H3 F3 rl3 .refl _ h3
          · exact p3.elim
theorem new_own {K : PySem.W.Frag} {mg : Str → Option Value} {G H : Hp} {σ : L2.St} {ρ : Env} {F : Fp} (rl : Rel K mg G H σ ρ F) {p : Addr} {ob : HO} (hp : H p = none) :
    Rel K mg G (upd H p ob) σ ρ F ∧ Stp F G H G (upd H p ob) F ∧ (∀ a, a = p → H a = none ∧ G a = none ∧ upd H p ob a ≠ none ∧ ¬ F.U a) := by
  have ne : ∀ a, H a ≠ none → a ≠ p := fun a h e => h (by rw [e]; exact hp)
  refine ⟨⟨rl.len, fun i o e => ?_, rl.dis, fun i a z => ⟨(rl.out i a z).1, ?_⟩, rl.non, ?_⟩, ⟨Le.refl _, fun a o h _ => ?_, fun _ _ g _ => g, fun a h => ?_, fun _ _ z => .inl z⟩, ?_⟩
  · obtain ⟨v, e1, e2⟩ := rl.ok i o e
    exact ⟨v, e1, e2.mono (Le.refl _) fun a u _ q => Le.upd hp a u q⟩
  · rw [upd_ne (ne a (rl.out i a z).2)]; exact (rl.out i a z).2
  · exact rl.subT.new hp
  · exact fun _ => Le.upd hp a o h
  · rw [upd_ne (ne a h)]; exact h
  · rintro a rfl
    exact ⟨hp, rl.sub.back hp, (by rw [upd_same]; exact fun e => (nomatch e)), fun ⟨i, z⟩ => (rl.out i a z).2 hp⟩
def newTF : FE O := fun ρ => .ok (.c (.tb [])) ρ
theorem ok_newT (hw : X.w = FnTabs.w) : OkO X W (.Dict [] [] pos) newTF := pe_newT.to fun σ H Q h => by
  obtain ⟨G, ρ, F, rl, p⟩ := h
  intro q hq
  rw [hw]
  obtain ⟨r2, s2, z2⟩ := new_own (ob := DTo FnTabs.w q []) rl hq
  exact p G _ F (.ref q) (fun a => a = q) r2 s2 (.c (.tb upd_same .nil)) z2
theorem Rel.tbl {K : PySem.W.Frag} {mg : Str → Option Value} {G H : Hp} {σ : L2.St} {ρ : Env} {F : Fp} (rl : Rel K mg G H σ ρ F) {i : Nat} {ds : List (D × D)} (e : ρ[i]? = some (some (.c (.tb ds)))) :
    ∃ p vs, σ[i]? = some (some (.ref p)) ∧ H p = some (DTo FnTabs.w p vs) ∧ RpB K G vs ds ∧ ∀ a, F i a ↔ a = p := by
  obtain ⟨v, e1, ok⟩ := rl.ok i _ e
  generalize hF : F i = S at ok
  cases ok with
  | c ok =>
    cases ok with
    | tb h r => exact ⟨_, _, e1, h, r, fun a => by simp⟩
def ownT (p : Pl) (ρ : Env) : Option (Nat × List (D × D)) := match p with
  | .sl i => match ρ[i]? with
    | some (some (.c (.tb xs))) => some (i, xs)
    | _ => none
  | .v _ => none
  | .f _ => none
theorem Rel.ownT {K : PySem.W.Frag} {mg : Str → Option Value} {G H : Hp} {σ : L2.St} {ρ : Env} {F : Fp} (rl : Rel K mg G H σ ρ F) {p : Pl} {v : V} {i : Nat} {ds : List (D × D)} (pu : PlOk K G σ v p) (h : Fx.ownT p ρ = some (i, ds)) :
    ∃ q vs, v = .ref q ∧ TbO K FnTabs.w H q vs ∧ RpB K G vs ds ∧ ∀ (o : HO) (ds' : List (D × D)), C1Ok K G (upd H q o) (.ref q) (.tb ds') (fun a => a = q) → Rel K mg G (upd H q o) σ (ρ.set i (some (.c (.tb ds')))) F ∧ Stp F G H G (upd H q o) F := by
  have e : p = .sl i ∧ ρ[i]? = some (some (.c (.tb ds))) := by
    unfold Fx.ownT at h
    split at h
    · split at h
      · rename_i e; cases h; exact ⟨rfl, e⟩
      · cases h
    · cases h
    · cases h
  obtain ⟨rfl, e⟩ := e
  obtain ⟨q, vs, e2, e3, r, hF⟩ := rl.tbl e
  rw [show σ[i]? = some (some v) from pu] at e2
  cases e2
  exact ⟨q, vs, rfl, ⟨e3, r.keys rl.sub⟩, r, fun o ds' ok => rl.mut pu hF ok⟩
def putTF (f : FE Pl) (fi fe : FE D) : FS := fun ρ => bindS (fe ρ) fun d ρ => bindS (f ρ) fun pl ρ => bindS (fi ρ) fun k ρ => match ownT pl ρ, keyT k with
  | some (i, ds), some nk => if ds.length < sizeLine then .nx (ρ.set i (some (.c (.tb (putB ds k nk d))))) else .stuck
  | _, _ => .stuck
def delTF (f : FE Pl) (fi : FE D) : FS := fun ρ => bindS (f ρ) fun pl ρ => bindS (fi ρ) fun k ρ => match ownT pl ρ, keyT k with
  | some (i, ds), some nk => if (lookB ds nk).isSome then .nx (ρ.set i (some (.c (.tb (dropB ds nk))))) else .stuck
  | _, _ => .stuck
theorem ok_putT {k : Expr} (hw : X.w = FnTabs.w) (hu : X.A.units + 64 < cLine) (hb : OkB X W b f) (hi : OkD X W k fi) (he : OkD X W e fe) (hs : swapsWith e (some (.Subscript b k pos')) pos.line X.env = pure false := by rfl) :
    OkS X W io (.Assign [.Subscript b k pos'] e pos) (putTF f fi fe) := (ps_putT hu hb hi he hs).to fun Dn σ H q => by
  obtain ⟨G, ρ, F, rl, p⟩ := q
  refine ⟨G, ρ, F, rl, PostS.bind p fun d ρ1 G1 H1 F1 _ rl1 st1 p1 v rv => ⟨G1, ρ1, F1, rl1, PostS.bind p1 fun pl ρ2 G2 H2 F2 _ rl2 st2 p2 u pu => ⟨G2, ρ2, F2, rl2, PostS.bind p2 fun k ρ3 G3 H3 F3 _ rl3 st3 p3 w rw => ?_⟩⟩⟩
  split at p3
  · rename_i i ds nk eo ek
    obtain ⟨q, vs, rfl, hT, r, up⟩ := rl3.ownT (PlOk.mono st3.le pu) eo
    obtain ⟨q2, rfl, hk⟩ := Rp.key rl3.sub rw ek
    split at p3
    · rename_i hl
      refine ⟨q, vs, nk, q2, rfl, by rw [hw]; exact hT, rfl, hk, by rw [r.len]; exact hl, ?_⟩
      rw [hw]
      obtain ⟨r4, s4⟩ := up (DTo FnTabs.w q (putX vs nk q2 v)) (putB ds k nk d) (.tb upd_same (r.put rw ek (rv.mono (st2.le.trans st3.le))))
      exact p3 σ G3 _ F3 r4 s4 fun _ _ => rfl
    · exact p3.elim
  · exact p3.elim
theorem it_keysB {K : PySem.W.Frag} {G : Hp} {a : Addr} {o : Obj} {xs : Xs} {ds : List (D × D)} (h : G a = some (.frz o (DTo FnTabs.w a xs))) (r : RpB K G xs ds) : ItOk K G (ItkB FnTabs.w a o xs) (ds.map (·.1)) := fun i G1 H1 l s => by
  have h1 := s _ _ (l _ _ h)
  refine ⟨fun d e => ?_, fun e => ⟨h1, by rw [r.len]; simpa using e⟩⟩
  rw [List.getElem?_map] at e
  obtain ⟨p, e1, rfl⟩ := Option.map_eq_some_iff.mp e
  have hi : i < ds.length := (List.getElem?_eq_some_iff.mp e1).1
  refine ⟨⟨h1, by rw [r.len]; exact hi⟩, fun x H2 ⟨hH, nk, q, v, e2, ex⟩ => ?_⟩
  subst hH ex
  exact ⟨G1, .refl s, (r.get e2 e1).1.mono l⟩
theorem it_itemsB {K : PySem.W.Frag} {G : Hp} {a : Addr} {o : Obj} {xs : Xs} {ds : List (D × D)} (h : G a = some (.frz o (DTo FnTabs.w a xs))) (r : RpB K G xs ds) : ItOk K G (ItiB FnTabs.w a o xs) (ds.map fun p => .wt [p.1, p.2]) := fun i G1 H1 l s => by
  have h1 := s _ _ (l _ _ h)
  refine ⟨fun d e => ?_, fun e => ⟨h1, by rw [r.len]; simpa using e⟩⟩
  rw [List.getElem?_map] at e
  obtain ⟨p, e1, rfl⟩ := Option.map_eq_some_iff.mp e
  have hi : i < ds.length := (List.getElem?_eq_some_iff.mp e1).1
  refine ⟨⟨h1, by rw [r.len]; exact hi⟩, fun x H2 ⟨T, nk, q, v, e2, ex, hT, hH⟩ => ?_⟩
  subst hH ex
  obtain ⟨rk, rv⟩ := r.get e2 e1
  have le := (Ext.new s hT (o := .tup [.ref q, v])).le
  exact ⟨upd G1 T (.tup [.ref q, v]), .new s hT, .wt (.inl (.inl upd_same)) (.cons (rk.mono (l.trans le)) (.cons (rv.mono (l.trans le)) .nil))⟩
def keysTF (fa : FE D) : FE (List D) := fun ρ => (fa ρ).bind fun d ρ => match d with
  | .tb ds => .ok (ds.map (·.1)) ρ
  | _ => .stuck
def itemsTF (fa : FE D) : FE (List D) := fun ρ => (fa ρ).bind fun d ρ => match d with
  | .tb ds => .ok (ds.map fun p => .wt [p.1, p.2]) ρ
  | _ => .stuck
theorem oki_keysT {tg : Expr} (hw : X.w = FnTabs.w) (h : OkD X W e fa) : OkI X W tg e (keysTF fa) := (pi_keysB h).to fun σ H R q => by
  obtain ⟨G, ρ, F, rl, p⟩ := q
  refine ⟨G, ρ, F, rl, Post.bind p fun d ρ1 G1 H1 F1 _ rl1 st1 p1 v rv => ?_⟩
  cases rv with
  | tb h r => exact ⟨_, _, _, rfl, by rw [hw]; exact rl1.sub _ _ h, by rw [hw]; exact p1 G1 H1 F1 rl1 .refl _ (it_keysB h r)⟩
  | _ => exact p1.elim
theorem oki_itemsT {elts : List Expr} {kk : Nat} (hw : X.w = FnTabs.w) (h : OkD X W e fa) (hbase : attributeBase e "items" X.env (eval e X.env) = eval e X.env := by rfl) (hline : (apos.endLine == cpos.line) = true := by rfl) :
    OkI X W (.Tuple elts kk tpos) (.Call (.Attribute e "items" apos) [] [] cpos) (itemsTF fa) := (pi_itemsB h hbase hline).to fun σ H R q => by
  obtain ⟨G, ρ, F, rl, p⟩ := q
  refine ⟨G, ρ, F, rl, Post.bind p fun d ρ1 G1 H1 F1 _ rl1 st1 p1 v rv => ?_⟩
  cases rv with
  | tb h r => exact ⟨_, _, _, rfl, by rw [hw]; exact rl1.sub _ _ h, by rw [hw]; exact p1 G1 H1 F1 rl1 .refl _ (it_itemsB h r)⟩
  | _ => exact p1.elim
end
end Fx

set_option Elab.async false
set_option linter.all false
set_option maxRecDepth 100000
set_option maxHeartbeats 2000000
namespace Fx
open PySem L2 PyProof.Rows
open PySem.W (EachIs AllAlike Sortable KeyedOut KeepsBut dataLe)
variable [FnSem]

section
variable {X : Cx} {pins : List (Addr × Obj)} {σ : L2.St} {G H H' : Hp} {s : Shared} {a : Addr} {o : Obj}
theorem FpOk.to (f : FpOk X pins H a) (n : H' a = none) : FpOk X pins H' a := ⟨n, f.2⟩
end

section
variable {X : Cx} {pins : List (Addr × Obj)} {σ : L2.St} {G H : Hp} {s : Shared} {a kS f : Addr} {A : Around} {E : Value → Shared → Prop} {j e1 : Nat} {ψ : D → RD} {b : Bool} {P : PySem.Fin → Shared → Prop} {vs : List Value} {Vs : List V} {ds ks : List D}
theorem reads_keys {K : PySem.W.Frag} (hK : K = X.K) (I : Inv X pins σ H s) (l : Le G H) : ∀ {Vs : List V} {us : List Value} {ds : List D}, RpL K G Vs ds → Vals Vs us → (∀ d ∈ ds, (toPy d).canLay0 = true) → EachIs (fun v k => ∃ as, Reads s.heap v k as) us (ds.map toPy)
  | [], us, [], _, r, _ => by cases r; exact .nil
  | [], us, _ :: _, h, _, _ => by cases h
  | _ :: _, us, [], h, _, _ => by cases h
  | v :: Vs, us, d :: ds, h', r, c => by
    subst hK
    obtain ⟨h, t⟩ : Rp X.K G v d ∧ RpL X.K G Vs ds := by cases h' with | cons h t => exact ⟨h, t⟩
    cases r with
    | cons r1 r2 => exact .cons (Dp.reads I _ _ _ (h.dp l (c d List.mem_cons_self)) r1) (reads_keys rfl I l t r2 fun x hx => c x (List.mem_cons_of_mem _ hx))
end
end Fx

set_option Elab.async false
set_option linter.all false
set_option maxRecDepth 100000
set_option maxHeartbeats 2000000
namespace Fx
open PySem L2 PyProof.Rows
open PySem.W (EachIs AllAlike Sortable KeyedOut KeepsBut dataLe)
variable [FnSem]

def keysR (ψ : D → RD) : List D → Option (List D)
  | [] => some []
  | d :: ds => match ψ d, keysR ψ ds with
    | .ok k, some ks => some (k :: ks)
    | _, _ => none
structure KeysOk (ks : List D) : Prop where
  lay : ∀ k ∈ ks, (toPy k).canLay0 = true
  like : AllAlike (ks.map toPy)
  srt : Sortable (ks.map toPy)
  deep : ∀ k ∈ ks, (toPy k).depth ≤ 20
def sortBy (b : Bool) (ds ks : List D) : List D := ((ds.zip ks).mergeSort (dataLe b fun x => toPy x.2)).map (·.1)
section
variable {X : Cx} {pins : List (Addr × Obj)} {σ : L2.St} {G H : Hp} {s : Shared} {a f : Addr} {E : Value → Shared → Prop} {j : Nat} {ψ : D → RD} {b : Bool} {vs : List Value} {Vs : List V} {ds ks : List D}
end

abbrev pairsB (ds : List (D × D)) : List D := ds.map fun p => .tup [p.1, p.2]
section
variable {X : Cx} {pins : List (Addr × Obj)} {σ : L2.St} {s : Shared} {h' : Heap} {tk : Nat} {H0 : Hp}
end
section
variable {X : Cx}
end
open Classical in
noncomputable def sortItF (b : Bool) (ψ : D → RD) (fa : FE D) : FE O := fun ρ => (fa ρ).bind fun d ρ => match d with
  | .tb ds => (match keysR ψ (pairsB ds) with
    | some ks => if KeysOk ks ∧ ds.length ≤ sizeLine then .ok (.c (.lst (sortBy b (pairsB ds) ks))) ρ else .stuck
    | none => .stuck)
  | _ => .stuck
section
variable {X : Cx} {W : WX} {io : List Nat} {e : Expr} {fa fe : FE D} {p c P : Addr} {params : Arguments} {body : Expr} {scope : Scope} {pos lpos np apos cpos kp1 kp2 bp : Pos} {N : List Str} {pn : Str} {k jj : Nat} {b : Bool}
end
end Fx

set_option Elab.async false
set_option linter.all false
set_option maxRecDepth 100000
set_option maxHeartbeats 2000000
namespace Fx
open PySem L2 PyProof.Rows
open PySem.W (EachIs AllAlike Sortable KeyedOut KeepsBut dataLe alike dataLt)
variable [FnSem]

def CmpOk (a b : D) : Prop := alike (toPy a) (toPy b) = true ∧ toPy a ≠ .none ∧ (toPy a).canLay0 = true ∧ (toPy b).canLay0 = true ∧ (toPy a).depth ≤ 20
def rCmpD (K : PySem.W.Frag) (f : PyData → PyData → Bool) : R2 := fun x y H Q => ∃ da db, Dp K H x da ∧ Dp K H y db ∧ alike da db = true ∧ da ≠ .none ∧ da.depth ≤ 20 ∧ Q (.bl (f da db)) H
open Classical in
noncomputable def cmpD (f : PyData → PyData → Bool) (a b : D) : Option D := if CmpOk a b then some (.bl (f (toPy a) (toPy b))) else none
theorem v2_cmpD {K : PySem.W.Frag} {f : PyData → PyData → Bool} : V2 K (rCmpD K f) (cmpD f) := fun G H x y a b z Q s ra rb e q => by
  unfold cmpD at e
  split at e
  · rename_i h
    cases e
    obtain ⟨h1, h2, h3, h4, h5⟩ := h
    exact ⟨_, _, ra.dp s h3, rb.dp s h4, h1, h2, h5, q _ G H (.refl s) (.bl _)⟩
  · cases e
section
variable {X : Cx}
theorem op_gtD (hu : X.A.units + 64 < cLine) : OpR X (compareOp .Gt) (rCmpD X.K fun a b => dataLt b a) := fun pins s σ H x y v u Q I rx ry ⟨da, db, h1, h2, h3, h4, h5, q⟩ => by
  obtain ⟨as, r1⟩ := Dp.reads I da x v h1 rx
  obtain ⟨bs, r2⟩ := Dp.reads I db y u h2 ry
  exact PySem.W.gt_data r1 r2 h3 h4 (by omega) ⟨.bl _, H, I, rfl, q⟩
end
noncomputable abbrev gtD := cmpD fun a b => dataLt b a
def sumSD (c : C1) : Option D := match c.seq? with
  | some xs => (xs.mapM unint).map fun bs => .int bs.sum
  | none => none
theorem rp_unint {K : PySem.W.Frag} {G : Hp} : ∀ {vs : List V} {ds : List D} {bs : List Int}, RpL K G vs ds → ds.mapM unint = some bs → vs = bs.map V.int
  | [], _, bs, .nil, e => by cases e; rfl
  | v :: vs, d :: ds, bs, .cons h r, e => by
    rw [List.mapM_cons] at e
    cases h with
    | int i =>
      cases h2 : ds.mapM unint with
      | none => rw [h2] at e; cases e
      | some bs' => rw [h2] at e; cases e; rw [rp_unint r h2]; rfl
    | _ => cases e
def rSumS (K : PySem.W.Frag) : List V → Hp → VK → Prop := fun vs H Q => ∃ (a : Addr) (ns : List Int), vs = [V.ref a] ∧ (SqL K H a (ns.map V.int) ∨ SqT K H a (ns.map V.int)) ∧ Q (.int ns.sum) H
section
variable {X : Cx}
theorem cr_sumS (hc : X.calm = true) : CallR X (.builtin "sum") (rSumS X.K) := by
  intro pins s σ H vs us Q I r h
  obtain ⟨a, ns, rfl, hs | hs, q⟩ := h
  · exact cr_sum hc pins s σ H _ us Q I r ⟨a, ns, rfl, hs, q⟩
  · obtain ⟨its, rv, ⟨o, h1, h2, n, h3⟩, _⟩ := I.tuple hs
    rw [Vals.ref1 r]
    have hi := rv.ints
    obtain ⟨xs, e⟩ := hi.allInts.items
    have hn : numsOf (intItems xs).toList = ns := by rw [← e]; exact hi.numsOf
    rw [nums_intItems] at hn
    rw [e] at h3
    refine PySem.W.ktm_sumG (I.ok.hd hc) ⟨o, h1, h2, n, h3⟩ fun h' tk t' hk => ⟨.int _, H, I.kept hk, ⟨t', ?_⟩, q⟩
    rw [preSum_eq, List.take_of_length_le (by simp), hn]
end
section
variable {X : Cx} {W : WX} {e a b : Expr} {pos : Pos} {f : FE Pl} {fa fb fk fv : FE D}
theorem b1_sumS {K : PySem.W.Frag} : B1 K (fun x H Q => rSumS K [x] H Q) sumSD := fun G H v c S z Q s ok e q => by
  unfold sumSD at e
  cases h : c.seq? with
  | none => rw [h] at e; cases e
  | some xs =>
    rw [h] at e
    simp only [] at e
    obtain ⟨p, vs, rfl, hs, r⟩ := ok.seq? s h
    cases h2 : xs.mapM unint with
    | none => rw [h2] at e; cases e
    | some bs =>
      rw [h2] at e
      cases e
      have := rp_unint r h2
      subst this
      exact ⟨p, bs, rfl, hs, q _ G H (.refl s) (.int _)⟩
theorem ok_sumS {p : Pos} (hc : X.calm = true) (hg : Gl X "sum") (hm : X.mg "sum" = none) (ha : OkB X W a f) (hst : starEach [a] X.env = (false, eval a X.env) :: starEach [] X.env := by rfl) : OkD X W (.Call (.Name "sum" p) [a] [] pos) (b1F sumSD f) := by
  refine (pe_callB (cr_sumS hc) hg hm (by decide +kernel) (pa_cons ha pa_nil hst) (by decide) (by decide) hst rfl).to fun σ H Q h => ?_
  exact t_b1 b1_sumS h

def sortD (ds : List D) : List D := ds.mergeSort (dataLe false toPy)
open Classical in
noncomputable def sortLF (fa : FE D) : FE O := fun ρ => (fa ρ).bind fun d ρ => match d with
  | .lst ds => if KeysOk ds ∧ ds.length ≤ sizeLine then .ok (.c (.lst (sortD ds))) ρ else .stuck
  | _ => .stuck
def rSortL (K : PySem.W.Frag) : List V → Hp → VK → Prop := fun vs H Q => ∃ (a : Addr) (Vs : List V) (ds : List D) (G : Hp), vs = [.ref a] ∧ SqL K H a Vs ∧ RpL K G Vs ds ∧ Le G H ∧ KeysOk ds ∧ ∀ l Vo, H l = none → RpL K G Vo (sortD ds) → Q (.ref l) (upd H l (.lst Vo))
theorem vals_each {K : PySem.W.Frag} {G : Hp} {us : List Value} {ms : List D} (e : EachIs (fun (u : Value) (x : D) => ∃ v, RelV v u ∧ Rp K G v x) us ms) : ∃ Vo, Vals Vo us ∧ RpL K G Vo ms := by
  induction e with
  | nil => exact ⟨[], .nil, .nil⟩
  | cons h t ih =>
    obtain ⟨v, h1, h2⟩ := h
    obtain ⟨Vo, i1, i2⟩ := ih
    exact ⟨v :: Vo, .cons h1 i1, .cons h2 i2⟩
theorem each_vals {K : PySem.W.Frag} {G : Hp} : ∀ {Vs : List V} {us : List Value} {ds : List D}, Vals Vs us → RpL K G Vs ds → EachIs (fun (u : Value) (x : D) => ∃ v, RelV v u ∧ Rp K G v x) us ds
  | [], _, _, .nil, r => by cases r; exact .nil
  | v :: Vs, _, [], .cons _ _, r => by cases r
  | v :: Vs, _, d :: ds, .cons h t, r => by
    cases r with
    | cons h2 t2 => exact .cons ⟨v, h, h2⟩ (each_vals t t2)
theorem each_fwd {α β γ : Type} {R : α → γ → Prop} (f : β → γ) : ∀ {as : List α} {bs : List β}, EachIs R as (bs.map f) → EachIs (fun a b => R a (f b)) as bs
  | [], [], _ => .nil
  | [], _ :: _, e => by cases e
  | _ :: _, [], e => by cases e
  | a :: as, b :: bs, e => by
    cases e with
    | cons h t => exact .cons h (each_fwd f t)
theorem cr_sortL (hu : X.A.units + 64 < cLine) : CallR X (.builtin "sorted") (rSortL X.K) := by
  intro pins s σ H vs us Q I r h
  obtain ⟨a, Vs, ds, G, rfl, hs, rp, le, ok, q⟩ := h
  obtain ⟨its, rv, hl, hz⟩ := I.list hs
  rw [Vals.ref1 r]
  have lz : ds.length ≤ sizeLine := by have := rp.length; omega
  refine PySem.W.sorted_data (enc := toPy) (bs := ds) hl.isList (each_vals rv rp) (each_fwd toPy (reads_keys rfl I le rp rv ok.lay)) ok.like ok.srt lz (fun d hd => by have := ok.deep d hd; omega) fun out hlen eo => ?_
  obtain ⟨Vo, v1, v2⟩ := vals_each eo
  obtain ⟨ep, he'⟩ := PyProof.Rows.sortedAll_at s.heap its (List.toArray out)
  have lo : Vo.length ≤ sizeLine := by
    have h1 : Vo.length = out.length := v1.length
    omega
  exact ⟨.ref _, upd H (s.heap.objs.size + 1) (.lst Vo), I.laid (t' := s.toks) (fun _ _ => PyProof.Rows.sortedAll_old) (Nat.le_succ _) ⟨lo, out, ep, v1, he'⟩, rfl, q _ Vo (I.hok.fresh (Nat.le_succ _)) v2⟩
theorem ok_sortL {p : Pos} (hu : X.A.units + 64 < cLine) (hg : Gl X "sorted") (hm : X.mg "sorted" = none) (ha : OkD X W a fa) (he : starEach [a] X.env = (false, eval a X.env) :: starEach [] X.env := by rfl) : OkO X W (.Call (.Name "sorted" p) [a] [] pos) (sortLF fa) :=
  (pe_callB (cr_sortL hu) hg hm (by decide +kernel) (pa_cons ha pa_nil he) (by decide) (by decide) he rfl).to fun σ H Q h => by
    obtain ⟨G, ρ, F, rl, p⟩ := h
    refine ⟨G, ρ, F, rl, PostO.bind p fun d ρ1 G1 H1 F1 _ rl1 st1 p1 v rv => ?_⟩
    cases rv with
    | @lst a vs ds hs r =>
      simp only [] at p1
      split at p1
      · rename_i ok
        refine ⟨a, vs, ds, G1, rfl, rl1.sub.sql hs, r, rl1.sub, ok.1, fun l Vo hl rr => ?_⟩
        obtain ⟨r5, s5, o5, z5⟩ := new_lst rl1 rr hl
        exact p1 _ _ F1 _ _ r5 s5 o5 z5
      · exact p1.elim
    | _ => exact p1.elim

def dispTF (fk fv : FE D) : FE O := fun ρ => (fk ρ).bind fun k ρ => (fv ρ).bind fun v ρ => if (keyT k).isSome then .ok (.c (.tb [(k, v)])) ρ else .stuck
def tDispT (K : PySem.W.Frag) (w : World) (tk tv : TE) : TE := fun σ H Q => ∀ p, H p = none → tk σ (upd H p (DTo w p [])) fun x H1 => tv σ H1 fun y H2 => H2 p = some (DTo w p []) ∧ ∃ nk q, x = .ref q ∧ KeyAt K H2 nk q ∧ Q (.ref p) (upd H2 p (DTo w p [(nk, q, y)]))
theorem pe_dispT {k v : Expr} {tk tv : TE} (hu : X.A.units + 64 < cLine) (hk : PE X k tk) (hv : PE X v tv) : PE X (.Dict [some k] [v] pos) (tDispT X.K X.w tk tv) := by
  refine ⟨fun pins s σ H Q I q => ?_⟩
  have hn := I.hok.fresh (Nat.le_refl s.heap.objs.size)
  have I1 := I.laid (a := s.heap.objs.size) (o := DTo X.w s.heap.objs.size []) (h' := s.heap.push { cls := .type "dict", data := .dict #[] }) (t' := s.toks) (fun _ _ q => Heap.get?_push_of_some _ q) (Nat.le_refl _)
    (tbAt_ok ⟨[], .nil, Nat.zero_le _, beq_eq_false_iff_ne.mpr (Ne.symm (Nat.ne_of_lt I.big)), _, #[], 0, Heap.get?_push_size _ rfl, ⟨rfl, rfl, rfl⟩, rfl, rfl, List.nodup_nil⟩)
  have hp := pairTrees_length [some k] [v] X.env pos rfl rfl
  rw [arm_eval_Dict, zip_pairTrees [some k] [v] X.env pos rfl rfl, dictDisplay_pairs (pairTrees [some k] [v] X.env pos) (fun e => by rw [e] at hp; cases hp) (by rw [hp]; show 1 < 17; decide)]
  refine wpAny_bind (wpAny_standAt (wpAny_bind (wpAny_subDictH (knd := nestedKind X.prog X.w) (by show X.A.units + 8 < cLine; omega) (by rw [hp]; show 1 ≤ 15; decide) ?_)))
  refine pairTrees_cons_walk (thn (hk.run pins _ σ _ _ I1 (q _ hn)) fun u s1 ⟨x, H1, J1, rx, q1⟩ => thn (hv.run pins s1 σ H1 _ J1 q1) fun u2 s2 ⟨y, H2, I2, ry, e2, nk, qa, ex, hka, q2⟩ => pairTrees_nil_walk ?_)
  subst ex
  cases (show u = Value.ref qa from rx)
  have hO : TbO X.K X.w H2 s.heap.objs.size [] := ⟨e2, fun _ h => nomatch h⟩
  obtain ⟨us, r, _, hd, dd⟩ := hO.v.of I2
  cases r
  refine ⟨[(nk, qa, u2)], ⟨rfl, rfl, hka.is I2, trivial⟩, dd, fun h' tk dd' hs' => wpAny_pure ⟨.ref s.heap.objs.size, _, hO.write (t' := tk) (xs' := [(nk, qa, y)]) (us' := [(nk, qa, u2)]) I2 (.cons ⟨rfl, rfl, ry⟩ .nil) (by show 1 ≤ sizeLine; decide) hs' dd', rfl, q2⟩⟩
theorem ok_dispT {k v : Expr} (hw : X.w = FnTabs.w) (hu : X.A.units + 64 < cLine) (hk : OkD X W k fk) (hv : OkD X W v fv) : OkO X W (.Dict [some k] [v] pos) (dispTF fk fv) := (pe_dispT hu hk hv).to fun σ H Q h => by
  obtain ⟨G, ρ, F, rl, p⟩ := h
  intro q hq
  rw [hw]
  obtain ⟨r2, s2, z2⟩ := new_own (ob := DTo FnTabs.w q []) rl hq
  have sq : ∀ {ρ2 : Env} {F2 : Fp} {G2 H2 : Hp}, Stp F G (upd H q (DTo FnTabs.w q [])) G2 H2 F2 → H2 q = some (DTo FnTabs.w q []) ∧ G2 q = none ∧ ¬ F2.U q := fun {ρ2 F2 G2 H2} st => by
    have nU : ¬ F.U q := (z2 q rfl).2.2.2
    refine ⟨st.fr q _ upd_same nU (fun _ => nofun), st.fresh q (by rw [upd_same]; exact fun e => nomatch e) (z2 q rfl).2.1 nU, fun z => (st.ownU z).elim nU fun e => by rw [upd_same] at e; cases e⟩
  unfold dispTF at p
  refine ⟨G, ρ, F, r2, ?_⟩
  cases e1 : fk ρ with
  | stuck => rw [e1] at p; exact p.elim
  | ex e ρ1 => rw [e1] at p; exact fun cv d G' H' F' rl' st xo => p cv d G' H' F' rl' (s2.trans st) xo
  | ok d ρ1 =>
    rw [e1, R.bind_ok] at p
    intro G1 H1 F1 rl1 st1 x rx
    refine ⟨G1, ρ1, F1, rl1, ?_⟩
    cases e2 : fv ρ1 with
    | stuck => rw [e2] at p; exact p.elim
    | ex e ρ2 => rw [e2] at p; exact fun cv d G' H' F' rl' st xo => p cv d G' H' F' rl' (s2.trans (st1.trans st)) xo
    | ok d2 ρ2 =>
      rw [e2, R.bind_ok] at p
      intro G2 H2 F2 rl3 st2 y ry
      obtain ⟨h1, h2, h3⟩ := sq (ρ2 := ρ2) (st1.trans st2)
      split at p
      · rename_i hkt
        obtain ⟨nk, hnk⟩ := Option.isSome_iff_exists.mp hkt
        obtain ⟨qa, rfl, hka⟩ := Rp.key rl3.sub (rx.mono st2.le) hnk
        refine ⟨h1, nk, qa, rfl, hka, ?_⟩
        have ne : ∀ i a, F2 i a → a ≠ q := fun i a z e => h3 (by rw [← e]; exact ⟨i, z⟩)
        have stA := s2.trans (st1.trans st2)
        refine p G2 _ F2 (.ref q) (fun a => a = q) ⟨rl3.len, fun i o e => ?_, rl3.dis, fun i a z => ⟨(rl3.out i a z).1, ?_⟩, rl3.non, rl3.subT.own h1 noTab_tb h2⟩ ⟨stA.le, fun a o h n nt => ?_, stA.fresh, fun a h => ?_, stA.own⟩ (.c (.tb upd_same (.cons (rx.mono st2.le) hnk ry .nil))) fun a ea => ?_
        · obtain ⟨w, e3, e4⟩ := rl3.ok i o e
          exact ⟨w, e3, e4.mono (Le.refl _) fun a u z hh => by rw [upd_ne (ne i a z)]; exact hh⟩
        · rw [upd_ne (ne i a z)]; exact (rl3.out i a z).2
        · rw [upd_ne fun e => by rw [e, hq] at h; cases h]; exact stA.fr a o h n nt
        · rw [upd_ne fun e => h (by rw [e]; exact hq)]; exact stA.there a h
        · subst ea
          exact ⟨hq, h2, (by rw [upd_same]; exact fun e => nomatch e), h3⟩
      · exact p.elim
end
end Fx

set_option Elab.async false
set_option linter.all false
set_option maxRecDepth 100000
set_option maxHeartbeats 2000000
namespace Fx
open PySem L2
end Fx

set_option Elab.async false
set_option linter.all false
set_option maxRecDepth 100000
set_option maxHeartbeats 2000000
namespace Fx
open PySem L2 PyProof.Rows
variable [FnSem]
section
variable {prog : Program} {w : World} {K : Type} [DecidableEq K] {knd : HeapKind prog w K} {A : Around} {E : Value → Shared → Prop} {s : Shared}
end
section
variable {X : Cx} {W : WX} {e a b : Expr} {pos : Pos} {f : FE Pl}
def numsN : List NestedKey → Option (List Int)
  | [] => some []
  | .num i :: r => (numsN r).map (i :: ·)
  | _ => none
def hashE (e : List Int) : Int := reduceHash (Builtin.Tuple.tupleHashOf (e.map hashInt))
def hashK : NestedKey → Option Int
  | .tup ks => (numsN ks).map hashE
  | _ => none
def hashD (d : D) : Option Int := (keyT d).bind hashK
def ApartB (ds : List (D × D)) : Prop := ∃ hs, ds.mapM (fun p => hashD p.1) = some hs ∧ hs.Nodup
open Classical in
noncomputable def copyTF (f : FE Pl) : FE O := fun ρ => (f ρ).bind fun p ρ => match (p.get ρ).bind C1.tb? with
  | some ds => if ApartB ds then .ok (.c (.tb ds)) ρ else .stuck
  | none => .stuck
end
end Fx

set_option Elab.async false
set_option linter.all false
set_option maxRecDepth 100000
set_option maxHeartbeats 2000000
namespace Fx
open PySem L2
variable [FnSem]
def strD : C1 → Option D
  | .val (.int i) => if i.natAbs.log2 < 1920 then some (.str (toString i)) else none
  | _ => none
section
variable {X : Cx} {W : WX} {e a b : Expr} {pos : Pos} {f : FE Pl} {fa fb : FE D}
def repLF (fa fb : FE D) : FE O := fun ρ => (fa ρ).bind fun x ρ => (fb ρ).bind fun y ρ => match x, y with
  | .lst xs, .int k => if xs.length ≤ 1000 ∧ k ≤ 1000 ∧ -1000 ≤ k then .ok (.c (.lst (repL k xs))) ρ else .stuck
  | _, _ => .stuck
theorem ok_repO (ha : OkD X W a fa) (hb : OkD X W b fb) : OkO X W (.BinOp a .Mult b pos) (repLF fa fb) := (pe_op op_repLA ha hb).to fun σ H Q h => by
  obtain ⟨G, ρ, F, rl, p⟩ := h
  refine ⟨G, ρ, F, rl, PostO.bind p fun x ρ1 G1 H1 F1 _ rl1 st1 p1 v rv => ⟨G1, ρ1, F1, rl1, PostO.bind p1 fun y ρ2 G2 H2 F2 _ rl2 st2 p2 u ru => ?_⟩⟩
  have rv2 := rv.mono st2.le
  cases rv2 with
  | @lst l vs xs hs r =>
    cases ru with
    | int k =>
      simp only [] at p2
      split at p2
      · rename_i h
        have hl := r.length
        have hz : vs.length * k.toNat ≤ 1000 * 1000 := Nat.mul_le_mul (by omega) (by omega)
        refine ⟨l, k, vs, rfl, rfl, rl2.sub.sql hs, by omega, by omega, Nat.le_trans hz (by decide), fun q hq => ?_⟩
        obtain ⟨r5, s5, o5, z5⟩ := new_lst rl2 (r.rep k.toNat) hq
        exact p2 _ _ F2 _ _ r5 s5 o5 z5
      · exact p2.elim
    | _ => exact p2.elim
  | _ => exact p2.elim
variable {ρ : Env}
@[simp] theorem e_repL : repLF fa fb ρ = (fa ρ).bind fun x ρ => (fb ρ).bind fun y ρ => match x, y with
  | .lst xs, .int k => if xs.length ≤ 1000 ∧ k ≤ 1000 ∧ -1000 ≤ k then .ok (.c (.lst (repL k xs))) ρ else .stuck
  | _, _ => .stuck := id rfl
@[simp] theorem v_strI {i : Int} : strD (.val (.int i)) = if i.natAbs.log2 < 1920 then some (.str (toString i)) else none := id rfl
end
end Fx

set_option Elab.async false
set_option linter.all false
set_option maxRecDepth 100000
set_option maxHeartbeats 2000000
namespace Fx
open PySem L2 PyProof.Rows
variable [FnSem]
def PairsAt (K : PySem.W.Frag) (H : Hp) (rs : List V) (xs : Xs) : Prop := Paired (fun r x => ∃ t, r = .ref t ∧ SqT K H t [.ref x.2.1, x.2.2] ∧ KeyAt K H x.1 x.2.1) rs xs
def putAllX (xs ps : Xs) : Xs := ps.foldl (fun acc p => putX acc p.1 p.2.1 p.2.2) xs
def rDictP (K : PySem.W.Frag) (w : World) : List V → Hp → VK → Prop := fun vs H Q => ∃ (a : Addr) (rs : List V) (ps : Xs), vs = [.ref a] ∧ (SqL K H a rs ∨ SqP K H a rs) ∧ PairsAt K H rs ps ∧ ps.length ≤ sizeLine ∧ ∀ p, H p = none → Q (.ref p) (upd H p (DTo w p (putAllX [] ps)))
theorem XU.putAll : ∀ {ps : Xs} {us : List (NestedKey × Addr × Value)} {xs : Xs} {ws : List (NestedKey × Addr × Value)}, XU xs ws → XU ps us → XU (putAllX xs ps) (storedAllH ws us)
  | [], [], _, _, h, _ => h
  | (k, a, v) :: ps, (k', a', u) :: us, xs, ws, h, .cons hq t => by
    obtain ⟨e1, e2, r⟩ := hq
    simp only at e1 e2
    subst e1 e2
    show XU (putAllX (putX xs k a v) ps) (storedAllH (storedH ws k a u) us)
    exact XU.putAll (h.put k a r) t
section
variable {X : Cx} {pins : List (Addr × Obj)} {σ : L2.St} {H : Hp} {s : Shared}
theorem pairs_of (I : Inv X pins σ H s) : ∀ {rs : List V} {xs : Xs}, PairsAt X.K H rs xs → ∃ (ts : List Addr) (us : List (NestedKey × Addr × Value)), rs = ts.map V.ref ∧ XU xs us ∧ Paired (fun t x => s.heap.IsTuple t #[.ref x.2.1, x.2.2]) ts us ∧ ∀ x ∈ us, (nestedKind X.prog X.w).is s.heap x.1 x.2.1
  | [], [], .nil => ⟨[], [], rfl, .nil, .nil, fun _ h => nomatch h⟩
  | r :: rs, x :: xs, .cons h t => by
    obtain ⟨a, rfl, hs, hk⟩ := h
    obtain ⟨ts, us, e, xu, pr, ki⟩ := pairs_of I t
    obtain ⟨its, rv, p, _⟩ := I.tuple hs
    cases rv with
    | cons r1 r2 =>
      cases r2 with
      | @cons _ u _ _ ru r3 =>
        cases r3
        cases (show _ = Value.ref x.2.1 from r1)
        refine ⟨a :: ts, (x.1, x.2.1, u) :: us, by rw [e]; rfl, .cons ⟨rfl, rfl, ru⟩ xu, .cons p pr, fun y hy => ?_⟩
        rcases List.mem_cons.mp hy with e2 | hy
        · rw [e2]; exact hk.is I
        · exact ki y hy
theorem paired_at {α β : Type} {R : α → β → Prop} {l : List α} {m : List β} (r : Paired R l m) : ∀ {i : Nat} {y : β}, m[i]? = some y → ∃ x, l[i]? = some x ∧ R x y := by
  induction r with
  | nil => intro i y h; simp at h
  | cons h t ih =>
    intro i y e
    cases i with
    | zero => cases e; exact ⟨_, rfl, h⟩
    | succ i => exact ih (i := i) e
theorem vals_refs : ∀ {ts : List Addr} {its : List Value}, Vals (ts.map V.ref) its → its = ts.map Value.ref
  | [], [], .nil => rfl
  | t :: ts, u :: its, .cons h r => by
    cases (show u = Value.ref t from h)
    rw [vals_refs r]; rfl
theorem SqP.plain (I : Inv X pins σ H s) {a : Addr} {xs : List V} (h : SqP X.K H a xs) : ∃ its : List Value, Vals xs its ∧ PlainSeq "tuple" s.heap a its.toArray ∧ xs.length ≤ sizeLine := by
  obtain ⟨o, hd, h | ⟨hk, its, n, hc, hdat, hz, r⟩⟩ := h
  · obtain ⟨ho, z, its, r, o', ho', hc, n, hdat⟩ := (show s.heap.get? a = some o ∧ ObjOk X.prog X.w H s.heap a (.tup xs) from I.hok a _ h)
    rw [ho] at ho'
    cases ho'
    exact ⟨its, r, ⟨o, n, ho, hc, hd, hdat⟩, z⟩
  · refine ⟨its.toList, r, ⟨o, n, I.kIn a o hk, hc, hd, by simpa using hdat⟩, ?_⟩
    have := r.length
    simp at this
    omega
theorem cr_dictP (hc : X.calm = true) (hu : X.A.units + 64 < cLine) : CallR X (.type "dict") (rDictP X.K X.w) := by
  intro pins s σ H vs us0 Q I r h
  obtain ⟨a, rs, ps, rfl, hs, hp, hz, q⟩ := h
  rw [Vals.ref1 r]
  obtain ⟨ts, us, rfl, xu, pr, ki⟩ := pairs_of I hp
  have hul : us.length = ps.length := (Paired.length xu).symm
  have htl : ts.length = us.length := Paired.length pr
  have hh : X.A.handled = none := I.ok.hd hc
  have pit : PairItems s.heap (ts.map Value.ref).toArray (fun j => ts.getD j 0) (us.map fun x => (Value.ref x.2.1, x.2.2)) := by
    refine ⟨by simp [htl], fun j k v e => ?_⟩
    rw [List.getElem?_map] at e
    obtain ⟨x, e1, e2⟩ := Option.map_eq_some_iff.mp e
    cases e2
    obtain ⟨t, e3, e4⟩ := paired_at pr e1
    have e5 : ts.getD j 0 = t := by rw [List.getD_eq_getElem?_getD, e3]; rfl
    exact ⟨by simp [e3], by show PairAt s.heap (ts.getD j 0) _ _; rw [e5]; exact .inl e4⟩
  have have1 : PairsHaveH (nestedKind X.prog X.w) (us.map fun x => (Value.ref x.2.1, x.2.2)).length (PairRel (us.map fun x => (Value.ref x.2.1, x.2.2))) us := by
    refine ⟨by rw [List.length_map], fun i key v e => ?_⟩
    have e : (us.map fun x => (Value.ref x.2.1, x.2.2))[i]? = some (key, v) := e
    rw [List.getElem?_map] at e
    obtain ⟨x, e1, e2⟩ := Option.map_eq_some_iff.mp e
    cases e2
    exact ⟨x.1, x.2.1, e1, rfl⟩
  have room : (nestedKind X.prog X.w).room X.A.in1.in1 := by show X.A.units + 1 + 1 + 8 < cLine; omega
  have stay : KeysStay (nestedKind X.prog X.w) s.heap s.heap.objs.size [] us := fun h' hk x hx => nestedKind_stays.all h' (fun b o hw e => hk b o (Nat.ne_of_lt (Heap.lt_size e)) hw e) _ _ (ki x hx)
  have fin : ∀ h' tk, h'.DictOfH (nestedKind X.prog X.w) s.heap.objs.size (storedAllH [] us) → (∀ b o, b ∉ ([] : List Addr) → s.heap.get? b = some o → h'.get? b = some o) → EP X pins σ Q (.ref s.heap.objs.size) { s with heap := h', toks := tk } := fun h' tk d1 hk => by
    obtain ⟨o, es, ep, e, c, hd, he, _, hn⟩ := d1
    have hl2 := storedAllH_length us ([] : List (NestedKey × Addr × Value))
    simp only [List.length_nil, Nat.zero_add] at hl2
    exact ⟨.ref _, _, I.laid (a := s.heap.objs.size) (o := DTo X.w s.heap.objs.size (putAllX [] ps)) (t' := tk) (fun b o e => hk b o (fun z => nomatch z) e) (Nat.le_refl _) (tbAt_ok ⟨storedAllH [] us, XU.putAll .nil xu, by omega, beq_eq_false_iff_ne.mpr (Ne.symm (Nat.ne_of_lt I.big)), o, es, ep, e, c, hd, he, hn⟩), rfl, q _ (I.hok.fresh (Nat.le_refl _))⟩
  have hsz : (us.map fun x => (Value.ref x.2.1, x.2.2)).length ≤ sizeLine := by rw [List.length_map]; omega
  rcases hs with hs | hs
  · obtain ⟨its, rv, ⟨o, n, ho, hcl, hd, hdat⟩, _⟩ := I.list hs
    obtain rfl := vals_refs rv
    exact call_dict_pairsH (PairArg.list a _ _ _) hh room ⟨⟨o, n, ho, hcl, hd, hdat⟩, pit⟩ have1 stay hsz fin
  · obtain ⟨its, rv, pl, _⟩ := hs.plain I
    obtain rfl := vals_refs rv
    exact call_dict_pairsH (PairArg.tuple a _ _ _) hh room ⟨pl, pit⟩ have1 stay hsz fin
end
end Fx

set_option Elab.async false
set_option linter.all false
set_option maxRecDepth 100000
set_option maxHeartbeats 2000000
namespace Fx
open PySem L2
variable [FnSem]
def pairOfD : D → Option (D × D)
  | .tup [k, v] => if (keyT k).isSome then some (k, v) else none
  | _ => none
def putAllB (ds ps : List (D × D)) : List (D × D) := ps.foldl (fun acc p => match keyT p.1 with | some nk => putB acc p.1 nk p.2 | none => acc) ds
def dictPF (f : FE Pl) : FE O := fun ρ => (f ρ).bind fun p ρ => match (p.get ρ).bind C1.seq? with
  | some xs => (match xs.mapM pairOfD with
    | some ps => if ps.length ≤ sizeLine then .ok (.c (.tb (putAllB [] ps))) ρ else .stuck
    | none => .stuck)
  | none => .stuck
theorem C1Ok.seqP? {K : PySem.W.Frag} {G H : Hp} {v : V} {c : C1} {S : Addr → Prop} (s : Le G H) (h : C1Ok K G H v c S) {ds : List D} (e : c.seq? = some ds) : ∃ p vs, v = .ref p ∧ (SqL K H p vs ∨ SqP K H p vs) ∧ RpL K G vs ds := by
  cases h with
  | val r =>
    cases r with
    | lst h r => cases e; exact ⟨_, _, rfl, .inl (s.sql h), r⟩
    | tup h r => cases e; exact ⟨_, _, rfl, .inr (s.sqp h), r⟩
    | _ => cases e
  | lst h r => cases e; exact ⟨_, _, rfl, .inl (.inl (.inl h)), r⟩
  | _ => cases e
theorem pairs_rp {K : PySem.W.Frag} {G H : Hp} (l : Le G H) : ∀ {rs : List V} {xs : List D} {ps : List (D × D)}, RpL K G rs xs → xs.mapM pairOfD = some ps → ∃ ks : Xs, PairsAt K H rs ks ∧ RpB K G ks ps
  | [], [], ps, .nil, e => by cases e; exact ⟨[], .nil, .nil⟩
  | r :: rs, x :: xs, ps, .cons h t, e => by
    rw [List.mapM_cons] at e
    cases e1 : pairOfD x with
    | none => rw [e1] at e; cases e
    | some p =>
      rw [e1] at e
      cases e2 : xs.mapM pairOfD with
      | none => rw [e2] at e; cases e
      | some ps' =>
        rw [e2] at e
        cases e
        obtain ⟨ks, i1, i2⟩ := pairs_rp l t e2
        unfold pairOfD at e1
        split at e1
        · rename_i k v
          split at e1
          · rename_i hk
            cases e1
            obtain ⟨nk, hnk⟩ := Option.isSome_iff_exists.mp hk
            cases h with
            | tup hs rr =>
              cases rr with
              | cons rk rr =>
                cases rr with
                | cons rv rr =>
                  cases rr
                  obtain ⟨q, rfl, hka⟩ := Rp.key l rk hnk
                  exact ⟨(nk, q, _) :: ks, .cons ⟨_, rfl, l.sqt hs, hka⟩ i1, .cons rk hnk rv i2⟩
          · cases e1
        · cases e1
theorem RpB.putAll {K : PySem.W.Frag} {G : Hp} : ∀ {ks : Xs} {ps : List (D × D)} {xs : Xs} {ds : List (D × D)}, RpB K G xs ds → RpB K G ks ps → RpB K G (putAllX xs ks) (putAllB ds ps)
  | [], [], _, _, h, _ => h
  | (nk, q, v) :: ks, (dk, d) :: ps, xs, ds, h, .cons rk e rv r => by
    have : putAllB ds ((dk, d) :: ps) = putAllB (putB ds dk nk d) ps := by
      unfold putAllB
      rw [List.foldl_cons, e]
    rw [this]
    show RpB K G (putAllX (putX xs nk q v) ks) _
    exact RpB.putAll (h.put rk e rv) r
section
variable {X : Cx} {W : WX} {a : Expr} {pos : Pos} {f : FE Pl}
theorem ok_dictP {p : Pos} (hw : X.w = FnTabs.w) (hc : X.calm = true) (hu : X.A.units + 64 < cLine) (hg : Gl X "dict") (hm : X.mg "dict" = none) (ha : OkB X W a f) (he : starEach [a] X.env = (false, eval a X.env) :: starEach [] X.env := by rfl) : OkO X W (.Call (.Name "dict" p) [a] [] pos) (dictPF f) :=
  (pe_callTy (cr_dictP hc hu) hg hm (by decide +kernel) (pa_cons ha pa_nil he) (by decide) (by decide) he rfl).to fun σ H Q h => by
    obtain ⟨G, ρ, F, rl, p⟩ := h
    refine ⟨G, ρ, F, rl, PostO.bind p fun pl ρ1 G1 H1 F1 _ rl1 st1 p1 v pv => ?_⟩
    cases eg : pl.get ρ1 with
    | none => rw [eg] at p1; exact p1.elim
    | some c =>
      rw [eg] at p1
      simp only [Option.bind] at p1
      cases e : c.seq? with
      | none => rw [e] at p1; exact p1.elim
      | some xs =>
        rw [e] at p1
        simp only [] at p1
        cases e2 : xs.mapM pairOfD with
        | none => rw [e2] at p1; exact p1.elim
        | some ps =>
          rw [e2] at p1
          simp only [] at p1
          split at p1
          · rename_i hz
            obtain ⟨S, ok⟩ := rl1.pl pv eg
            obtain ⟨a, vs, rfl, hs, r⟩ := ok.seqP? rl1.sub e
            obtain ⟨ks, k1, k2⟩ := pairs_rp rl1.sub r e2
            refine ⟨a, vs, ks, rfl, hs, k1, by rw [k2.len]; exact hz, fun q hq => ?_⟩
            rw [hw]
            obtain ⟨r2, s2, z2⟩ := new_own (ob := DTo FnTabs.w q (putAllX [] ks)) rl1 hq
            exact p1 _ _ F1 (.ref q) (fun a => a = q) r2 s2 (.c (.tb upd_same (RpB.putAll .nil k2))) z2
          · exact p1.elim
end
end Fx

set_option Elab.async false
set_option linter.all false
set_option maxRecDepth 100000
set_option maxHeartbeats 1000000
namespace PySem.W
open Lean Elab Tactic Meta PySem PySem.Calls PyProof.Rows PyProof.V PySem.Spec
section
variable {prog : Program} {w : World} {A : Around} {E : Value → Shared → Prop} {s : Shared}
end
end PySem.W
namespace Fx
variable [FnSem]
open PySem L2
section
variable {X : Cx}
end
def eqEC (n : Bool) (c : C1) (b : D) : Option D := match c.tb?, b with
  | some ds, .tb [] => some (.bl (if n then !ds.isEmpty else ds.isEmpty))
  | _, _ => none
section
variable {X : Cx} {W : WX} {a b : Expr} {pos : Pos} {f : FE Pl} {fa fb : FE D}
end

theorem RpF.none {K : PySem.W.Frag} {G : Hp} {f : Str} : ∀ {vs : List (Str × V)} {ds : List (Str × D)}, RpF K G vs ds → ds.lookup f = none → vs.lookup f = none
  | _, _, .nil, _ => rfl
  | _, _, .cons (f := g) h r, e => by
    rw [List.lookup_cons] at e ⊢
    cases q : f == g with
    | true => rw [q] at e; cases e
    | false => rw [q] at e; exact r.none e
def fldOF (cn f : Str) (fa : FE D) : FE D := fun ρ => (fa ρ).bind fun d ρ => match d with
  | .ob c fs => if c = cn then optR (fs.lookup f) ρ else .stuck
  | _ => .stuck
def methVF (cn m : Str) (io : List Nat) (φ : List O → RF) (fa : FE D) (g : FE (List Pl)) : FE O := fun ρ => (fa ρ).bind fun d ρ => match d with
  | .ob c fs => if c = cn ∧ fs.lookup m = none then (g ρ).bind fun pls ρ => callP io φ (.v d :: pls) ρ else .stuck
  | _ => .stuck
section
variable {X : Cx} {W : WX} {a o e : Expr} {es : List Expr} {pos p1 apos : Pos} {cn f m : Str} {C : Addr} {fa : FE D} {k j : Nat} {fn : Addr} {fd : FuncData} {ps : List Str} {jo : List Nat} {φ : List O → RF} {g : FE (List Pl)}
end
def listRgF (fa : FE D) : FE O := fun ρ => (fa ρ).bind fun d ρ => match d with
  | .int i => if 0 ≤ i ∧ i ≤ 16777216 then .ok (.c (.lst (rangeL 0 i.toNat))) ρ else .stuck
  | _ => .stuck
section
variable {X : Cx} {W : WX} {a : Expr} {pos : Pos} {fa : FE D}
end
end Fx

set_option Elab.async false
set_option linter.all false
set_option maxRecDepth 100000
set_option maxHeartbeats 1000000
namespace Fx
open PySem L2
def clsOf : List (Str × Addr) → Str → Addr
  | [], _ => (0 : Nat)
  | (c, a) :: r, s => if s == c then a else clsOf r s
theorem clsOf_hd {c : Str} {a : Addr} {r : List (Str × Addr)} : clsOf ((c, a) :: r) c = a := by unfold clsOf; rw [if_pos (by simp)]
section
variable [FnSem]
theorem fnF_stuck {P : Program} {w : World} {K : PySem.W.Frag} {mg : Str → Option Value} {base : Heap} {k : Nat} {f : Addr} {fd : FuncData} {ps : List Str} {io : List Nat} {φ : List O → RF} (h : ∀ os, φ os = .stuck) : FnF P w K mg base k f fd ps io φ := by
  have no : ∀ vs H Q E, ¬ spF K mg io ps.length φ vs H Q E := fun vs H Q E ⟨_, G, os, F, _, _, _, p⟩ => by rw [h] at p; exact p
  exact ⟨fun vs H Q E q => (no _ _ _ _ q).elim, fun A outer s H args us vs Q E _ _ _ _ q => (no _ _ _ _ q).elim⟩
variable {ρ : Env} {fa : FE D}
@[simp] theorem e_fldO {cn f : Str} : fldOF cn f fa ρ = (fa ρ).bind fun d ρ => match d with
  | .ob c fs => if c = cn then optR (fs.lookup f) ρ else .stuck
  | _ => .stuck := rfl
@[simp] theorem e_methV {cn m : Str} {io : List Nat} {φ : List O → RF} {g : FE (List Pl)} : methVF cn m io φ fa g ρ = (fa ρ).bind fun d ρ => match d with
  | .ob c fs => if c = cn ∧ fs.lookup m = none then (g ρ).bind fun pls ρ => callP io φ (.v d :: pls) ρ else .stuck
  | _ => .stuck := rfl
@[simp] theorem v_eqE {n : Bool} {ds : List (D × D)} : eqEC n (.val (.tb ds)) (.tb []) = some (.bl (if n then !ds.isEmpty else ds.isEmpty)) := rfl
@[simp] theorem v_eqEo {n : Bool} {ds : List (D × D)} : eqEC n (.tb ds) (.tb []) = some (.bl (if n then !ds.isEmpty else ds.isEmpty)) := rfl
theorem listRg_le {n : Nat} (h : fa ρ = .ok (.int n) ρ) (hn : n ≤ 1000000) : listRgF fa ρ = .ok (.c (.lst (rangeL 0 n))) ρ := by
  unfold listRgF
  rw [h]
  show (if 0 ≤ (n : Int) ∧ (n : Int) ≤ 16777216 then _ else _) = _
  rw [if_pos (by omega)]; rfl
end
end Fx

set_option Elab.async false
set_option linter.all false
set_option maxRecDepth 100000
set_option maxHeartbeats 1000000
namespace Fx
variable [FnSem]
open PySem L2
section
variable {X : Cx}
end
def eqNlC (n : Bool) (c : C1) (b : D) : Option D := match c.lst?, b with
  | some ds, .lst [] => some (.bl (if n then !ds.isEmpty else ds.isEmpty))
  | _, _ => none
section
variable {X : Cx} {W : WX} {a b : Expr} {pos : Pos} {f : FE Pl} {fa fb : FE D}
end
@[simp] theorem v_eqNl {n : Bool} {ds : List D} : eqNlC n (.val (.lst ds)) (.lst []) = some (.bl (if n then !ds.isEmpty else ds.isEmpty)) := rfl
@[simp] theorem v_eqNlo {n : Bool} {ds : List D} : eqNlC n (.lst ds) (.lst []) = some (.bl (if n then !ds.isEmpty else ds.isEmpty)) := rfl
end Fx

set_option Elab.async false
set_option linter.all false
set_option maxRecDepth 100000
set_option maxHeartbeats 1000000
namespace Fx
variable [FnSem]
open PySem L2 PySem.Spec PyProof.Rows
section
variable {X : Cx} {W : WX} {io : List Nat} {e a b : Expr} {pos : Pos} {fa fb : FE D} {f : FE Pl} {fe : FE D}
def extLF (f : FE Pl) (fe : FE D) : FS := fun ρ => bindS (f ρ) fun pl ρ => match ownL pl ρ with
  | some _ => bindS (fe ρ) fun d ρ => (match ownL pl ρ with
    | some (i, xs) => (match d with
      | .lst zs => if xs.length + zs.length ≤ sizeLine then .nx (ρ.set i (some (.c (.lst (xs ++ zs))))) else .stuck
      | _ => .stuck)
    | none => .stuck)
  | none => .stuck
end
section
variable {ρ : Env} {f : FE Pl} {fe : FE D}
@[simp] theorem e_extL : extLF f fe ρ = bindS (f ρ) fun pl ρ => match ownL pl ρ with
  | some _ => bindS (fe ρ) fun d ρ => (match ownL pl ρ with
    | some (i, xs) => (match d with
      | .lst zs => if xs.length + zs.length ≤ sizeLine then .nx (ρ.set i (some (.c (.lst (xs ++ zs))))) else .stuck
      | _ => .stuck)
    | none => .stuck)
  | none => .stuck := id rfl
end
end Fx

set_option Elab.async false
set_option linter.all false
set_option maxRecDepth 100000
set_option maxHeartbeats 1000000
namespace PySem
theorem meets_enum_1 {v : Value} {o : Obj} {H : Heap → Prop} (B : Begins v o H) :
    Meets (Builtin.«enumerate.__new__» ⟨[.type "enumerate", v], []⟩) (fun _ R s => H s.heap ∧
      R (.ok (.ret (.ref (s.heap.push o).objs.size))) { s with heap := (s.heap.push o).push { cls := .type "enumerate", data := .fields #[.none, .bool false, .ref s.heap.objs.size, rawInt 0, .none, .none] } }) :=
  .of_wp fun prog w A R s h => by
    obtain ⟨hp, g, d, tk, os⟩ := s; obtain ⟨h1, h⟩ := h
    have hsb := sub_enumerate
    have qq : ∀ {A' : Around} {E : Value → Shared → Prop} {Q : Value → Shared → Prop}, Q (.ref hp.objs.size) ⟨hp.push o, g, d, tk, os⟩ → wpAny (model prog w) A' (pyIter v) Q E ⟨hp, g, d, tk, os⟩ := fun q => B.iter prog w _ _ ⟨hp, g, d, tk, os⟩ _ h1 q
    wp_walk using qq
    refine wpAny_stack_any fun sk => wpAny_pure ?_
    split
    · rename_i c _ _ _ _ _
      cases (c == Value.type "enumerate") <;> (wp_walk using qq; exact ⟨_, rfl, h⟩)
    · wp_walk using qq
      exact ⟨_, rfl, h⟩
section
variable {prog : Program} {w : World} {A : Around} {E : Value → Shared → Prop} {s : Shared}
theorem enum_begins1 {v : Value} {o : Obj} {H : Heap → Prop} {Q : Value → Shared → Prop} (B : Begins v o H) (h1 : H s.heap)
    (h : ∀ g, IsEnum g (s.heap.objs.size + 1) s.heap.objs.size 0 .none → g.get? s.heap.objs.size = some o → (∀ b u, s.heap.get? b = some u → g.get? b = some u) → Q (.ref (s.heap.objs.size + 1)) { s with heap := g }) :
    wpAny (model prog w) A (call (.type "enumerate") [v]) Q E s := by
  refine callType_new F.called_enumerate (by decide) (F.typeCall_enumerate_1 _) (F.newCall_enumerate_1 _) (fun obj => F.args_object_init_2 obj _) F.entry_enumerate_new (meets_enum_1 B) ⟨h1, ?_⟩
  have hz : (s.heap.push o).objs.size = s.heap.objs.size + 1 := Heap.size_push ..
  show _ ∧ _
  rw [hz]
  have he : IsEnum ((s.heap.push o).push { cls := .type "enumerate", data := .fields #[.none, .bool false, .ref s.heap.objs.size, rawInt 0, .none, .none] }) (s.heap.objs.size + 1) s.heap.objs.size 0 .none := by
    have e := Heap.get?_push_size (s.heap.push o) (o := { cls := .type "enumerate", data := .fields #[.none, .bool false, .ref s.heap.objs.size, rawInt 0, .none, .none] }) rfl
    rw [hz] at e; exact e
  exact ⟨⟨_, he, rfl⟩, h _ he (Heap.get?_push_of_some _ (Heap.get?_push_size _ B.free)) fun b u x => Heap.get?_push_of_some _ (Heap.get?_push_of_some _ x)⟩
theorem draws_over {prog : Program} {w : World} {A : Around} (hh : A.handled = none) (it t : Addr) (items : Array Value) (i : Nat) (hi : items[i]? = none) :
    Draws prog w A it [it, t] i (fun _ _ => True) (fun j h => j = i ∧ h.IsTupleIter it t i ∧ h.IsTuple t items) where
  live := fun _ _ st => let ⟨o, ho, _⟩ := st.2.1; ⟨o, ho⟩
  frame := fun _ _ _ st hk => ⟨st.1, st.2.1.at fun o e => hk it (by simp) o e, st.2.2.at fun o e => hk t (by simp) o e⟩
  item := fun j s Q E hj st _ => absurd st.1 (Nat.ne_of_lt hj)
  done := fun s Q E st hE => wpAny_nextOf_tuple_end hh st.2.1 st.2.2 hi hE
end
end PySem
namespace Fx
variable [FnSem]
open PySem L2 PySem.Spec PyProof.Rows
def IteT (K : PySem.W.Frag) (a : Addr) : It :=
  ⟨fun i H => ∃ (xs : List V) (x : V), SqT K H a xs ∧ xs[i]? = some x, fun i H v H' => ∃ T x, v = .ref T ∧ H T = none ∧ H' = upd H T (.tup [.int (i : Nat), x]) ∧ ∀ xs, SqT K H a xs → xs[i]? = some x, fun i H => ∃ xs : List V, SqT K H a xs ∧ xs.length ≤ i⟩
theorem turn_enumT {P : Program} {w : World} {K : PySem.W.Frag} {elts : List Expr} {kk : Nat} {tpos : Pos} (a e it : Addr) :
    Turn P w K (.Tuple elts kk tpos) (IteT K a) [e, it] e (fun i h => (∃ old, IsEnum h e it ((i : Nat) : Int) old) ∧ h.IsTupleIter it a i ∧ e ≠ it) where
  mem := List.mem_cons_self
  obj := fun i h st b hb => by
    obtain ⟨⟨old, he⟩, ⟨o, ho, hc, hd⟩, _⟩ := st
    rcases List.mem_cons.mp hb with z | z
    · rw [z]; exact ⟨_, he, fun v q => nomatch q⟩
    · rw [List.mem_singleton.mp z]; exact ⟨o, ho, fun v q => by rw [hd] at q; cases q⟩
  keep := fun i h h' st k => ⟨⟨_, k e List.mem_cons_self _ st.1.choose_spec⟩, st.2.1.at fun o q => k it (List.mem_cons_of_mem _ List.mem_cons_self) o q, st.2.2⟩
  item := by
    intro X hP hw hK hc i pins s σ H E I hf st hg
    subst hP hw hK
    obtain ⟨⟨old, he⟩, hit, hne⟩ := st
    obtain ⟨xs, x, hq, hx⟩ := hg
    obtain ⟨its, rv, p, hz⟩ := I.tuple hq
    obtain ⟨u, hu, ru⟩ := rv.get hx
    have hel : e < s.heap.objs.size := Heap.lt_size he
    have hil : it < s.heap.objs.size := by obtain ⟨_, q, _⟩ := hit; exact Heap.lt_size q
    have hai : a ≠ it := fun z => by
      subst z
      obtain ⟨o, q1, q2, _⟩ := p
      obtain ⟨o', q3, q4, _⟩ := hit
      rw [q1] at q3; cases q3
      have z := q2.symm.trans q4
      injection z with z
      exact absurd z (by decide)
    have hae : e ≠ a := fun z => by
      subst z
      obtain ⟨o, q1, q2, _⟩ := p
      rw [show s.heap.get? e = _ from he] at q1; cases q1
      injection q2 with z
      exact absurd z (by decide)
    have hlen : i < its.toArray.size := by
      have := (List.getElem?_eq_some_iff.mp hu).1
      simpa using this
    refine wpAny_pyNext_enum_itemD (Draws.tuple (A := X.A.in1) (show X.A.in1.handled = Option.none from I.ok.hd hc) it a hai its.toArray) he ⟨hit, p⟩ hlen hne (fun z => by
      rcases List.mem_cons.mp z with z | z
      · exact hne z
      · exact hae (List.mem_singleton.mp z)) fun v h' tk hv ho hs' hT hsz hk => ?_
    have ev : v = u := by
      have h1 : its[i]? = some v := by simpa using hv
      rw [hu] at h1; exact (Option.some.inj h1).symm
    subst ev
    refine ⟨_, rfl, wpAny_letOwnedTupleGo_enum (s := { s with heap := h', toks := tk + 1 }) ho fun h'' he' sb => ?_⟩
    have hT2 : h''.get? s.heap.objs.size = some { cls := .type "tuple", data := .seq #[.int i tk, v] } := (sb.2 _ (Nat.ne_of_gt hel)).trans hT
    have new : ObjOk X.prog X.w (upd H s.heap.objs.size (.tup [.int (i : Nat), x])) h'' s.heap.objs.size (.tup [.int (i : Nat), x]) :=
      ⟨by show 2 ≤ sizeLine; decide, [.int i tk, v], .cons ⟨_, rfl⟩ (.cons ru .nil), ⟨_, hT2, rfl, _, rfl⟩⟩
    have I1 : Inv X pins σ (upd H s.heap.objs.size (.tup [.int (i : Nat), x])) { s with heap := h'', toks := tk + 1 } :=
      I.turnedNew (ch := [e, it]) (fun b ob hb q => (sb.2 b (fun z => hb (by rw [z]; exact List.mem_cons_self))).trans (hk b ob (fun z => hb (by rw [z]; exact List.mem_cons_self)) (fun z => hb (by rw [z]; exact List.mem_cons_of_mem _ List.mem_cons_self)) q)) hf (Nat.le_refl _) new
    refine ⟨.ref s.heap.objs.size, _, I1, rfl, ⟨_, x, rfl, I.hok.fresh (Nat.le_refl _), rfl, fun ys hy => by rw [I.tuple_inj hy hq]; exact hx⟩, ⟨⟨v, ?_⟩, hs'.1.at fun o q => (sb.2 it (Ne.symm hne)).trans q, hne⟩, fun b hb => ?_⟩
    · rw [show ((i + 1 : Nat) : Int) = (i : Int) + 1 by omega]; exact he'
    · have hb' : b < s.heap.objs.size := by
        rcases List.mem_cons.mp hb with z | z
        · rw [z]; exact hel
        · rw [List.mem_singleton.mp z]; exact hil
      rw [upd_ne (Nat.ne_of_lt hb')]
      exact (hf b hb).1
  done := by
    intro X hP hw hK hc i pins s σ H E I hf st hg
    subst hP hw hK
    obtain ⟨⟨old, he⟩, hit, hne⟩ := st
    obtain ⟨xs, hq, hx⟩ := hg
    obtain ⟨its, rv, p, hz⟩ := I.tuple hq
    obtain ⟨f0, f1, f2, f3, f4, f5⟩ := hf it (List.mem_cons_of_mem _ List.mem_cons_self)
    have hl := rv.length
    exact wpAny_pyNext_enum_endD (draws_over (A := X.A.in1) (show X.A.in1.handled = Option.none from I.ok.hd hc) it a its.toArray i (by simp; omega)) he ⟨rfl, hit, p⟩ fun h' eb => ⟨rfl, I.turned (t' := s.toks) (fun b o hb q => eb b o hb q) f0 f1 f3 f4 f5⟩
  self := fun A i s Q E st h => wpAny_pyIter_enum st.1.choose_spec h
def iEnumT (K : PySem.W.Frag) (ta : TA) : TI := fun σ H R => ta σ H fun vs H1 => ∃ a xs, vs = [.ref a] ∧ SqT K H1 a xs ∧ R (IteT K a) H1
theorem pi_enumT {X : Cx} {e : Expr} {ta : TA} {p pos tpos : Pos} {elts : List Expr} {kk : Nat} (hg : Gl X "enumerate") (hm : X.mg "enumerate" = none) (ha : PA X [e] ta) (hs : starEach [e] X.env = [(false, eval e X.env)] := by rfl) :
    PI X (.Tuple elts kk tpos) (.Call (.Name "enumerate" p) [e] [] pos) (iEnumT X.K ta) := by
  refine ⟨fun pins s σ H R I q0 => ?_⟩
  refine Call_ (ld_blt I hg hm boot_enumerate (PyProof.Rows.callWith_type1 (thn (ha.run pos pins s σ H _ I q0) fun us s1 ⟨vs, H1, I1, r1, q1⟩ => ?_) hs rfl))
  obtain ⟨a, xs, ex, hq, q⟩ := q1
  subst ex
  cases r1 with
  | cons r rr =>
    cases rr
    cases r
    obtain ⟨its, rv, p', hz⟩ := I1.tuple hq
    refine enum_begins1 (begins_tuple a its.toArray) p' fun g he hit hk => wpAny_pyIter_enum he ?_
    have I2 : Inv X pins σ H1 { s1 with heap := g } := I1.kept (t' := s1.toks) hk
    refine ⟨s1.heap.objs.size + 1, [s1.heap.objs.size + 1, s1.heap.objs.size], _, _, H1, rfl, I2, turn_enumT a (s1.heap.objs.size + 1) s1.heap.objs.size, ⟨⟨.none, he⟩, ⟨_, hit, rfl, rfl⟩, Nat.succ_ne_self _⟩, fun b hb => ?_, q⟩
    have hle : s1.heap.objs.size ≤ b := by
      rcases List.mem_cons.mp hb with z | z
      · rw [z]; exact Nat.le_add_right _ _
      · rw [List.mem_singleton.mp z]; exact Nat.le_refl _
    exact I1.fpOk hle (I1.hok.fresh hle)
theorem it_enumT {K : PySem.W.Frag} {G : Hp} {a : Addr} {vs : List V} {ds : List D} (h : SqP K G a vs) (r : RpL K G vs ds) : ItOk K G (IteT K a) (numbD 0 ds) := fun i G1 H1 l s => by
  have h1 : SqT K H1 a vs := s.sqt (l.sqp h)
  refine ⟨fun d e => ?_, fun e => ⟨vs, h1, by rw [r.length, ← numb_len (k := 0)]; exact e⟩⟩
  obtain ⟨x, ex, rfl⟩ := numb_get e
  obtain ⟨v, e1, rv⟩ := r.get ex
  refine ⟨⟨vs, v, h1, e1⟩, fun z H2 ⟨T, v', hz, hT, hH, q1⟩ => ?_⟩
  subst hz; subst hH
  have z1 := q1 vs h1
  rw [e1] at z1
  cases z1
  have ex : Ext G1 H1 (upd G1 T (.tup [.int (i : Nat), v])) (upd H1 T (.tup [.int (i : Nat), v])) := .new s hT
  rw [Nat.zero_add]
  exact ⟨_, ex, .wt (.inl (.inl upd_same)) (.cons (.int _) (.cons ((rv.mono l).mono ex.le) .nil))⟩
def enumTF (fs : FE (List D)) : FE (List D) := fun ρ => (fs ρ).bind fun ds ρ => match ds with
  | [.tup xs] => .ok (numbD 0 xs) ρ
  | _ => .stuck
section
variable {X : Cx} {W : WX} {a : Expr} {pos : Pos}
theorem oki_enumT {p tpos : Pos} {elts : List Expr} {kk : Nat} {fs : FE (List D)} (hg : Gl X "enumerate") (hm : X.mg "enumerate" = none) (ha : OkDs X W [a] fs) (hs : starEach [a] X.env = [(false, eval a X.env)] := by rfl) :
    OkI X W (.Tuple elts kk tpos) (.Call (.Name "enumerate" p) [a] [] pos) (enumTF fs) :=
  (pi_enumT hg hm ha hs).to fun σ H R q => by
    obtain ⟨G, ρ, F, rl, p⟩ := q
    refine ⟨G, ρ, F, rl, Post.bind p fun ds ρ1 G1 H1 F1 _ rl1 st1 p1 vs rv => ?_⟩
    split at p1
    · cases rv with
      | cons r1 rv =>
        cases rv
        cases r1 with
        | tup h1 q1 => exact ⟨_, _, rfl, rl1.sub.sqt h1, p1 G1 H1 F1 rl1 .refl _ (it_enumT h1 q1)⟩
    · exact p1.elim
end
@[simp] theorem e_enumT {ρ : Env} {fs : FE (List D)} : enumTF fs ρ = (fs ρ).bind fun ds ρ => match ds with
  | [.tup xs] => .ok (numbD 0 xs) ρ
  | _ => .stuck := id rfl
end Fx

set_option Elab.async false
set_option linter.all false
set_option maxRecDepth 100000
set_option maxHeartbeats 1000000
namespace Fx
variable [FnSem]
open PySem L2 PySem.Spec PyProof.Rows
structure OkX (X : Cx) (e : Expr) (g : Env → Option D) : Prop where
  pe : ∃ te, PE X e te ∧ ∀ {σ : L2.St} {H : Hp} {Q : VK} {G : Hp} {ρ : Env} {F : Fp} {d : D}, Rel X.K X.mg G H σ ρ F → g ρ = some d → (∀ v G' H', Ext G H G' H' → Rp X.K G' v d → Q v H') → te σ H Q
def vxF (i : Nat) : Env → Option D := fun ρ => match ρ[i]? with
  | some (some (.c (.val d))) => some d
  | _ => none
def tup2X (g h : Env → Option D) : Env → Option D := fun ρ => match g ρ, h ρ with
  | some a, some b => some (.tup [a, b])
  | _, _ => none
section
variable {X : Cx} {W : WX} {io : List Nat} {e a b k : Expr} {pos p1 p2 p3 pos' apos : Pos} {cn f : Str} {C : Addr} {g h : Env → Option D} {fe : FE D}
def inFT (n : Bool) (g : Env → Option D) (i : Nat) (cn f : Str) : FE D := fun ρ => match g ρ, ρ[i]? with
  | some k, some (some (.ins c fs)) => if c = cn then (match fs.lookup f with
    | some x => optR (hasTb n x k) ρ
    | none => .stuck) else .stuck
  | _, _ => .stuck
def getFT (g : Env → Option D) (i : Nat) (cn f : Str) : FE D := fun ρ => match g ρ, ρ[i]? with
  | some k, some (some (.ins c fs)) => if c = cn then (match fs.lookup f with
    | some x => optR (getTb x k) ρ
    | none => .stuck) else .stuck
  | _, _ => .stuck
def putFT (g : Env → Option D) (i : Nat) (cn f : Str) (fe : FE D) : FS := fun ρ => bindS (fe ρ) fun d ρ => match g ρ, ρ[i]? with
  | some k, some (some (.ins c fs)) => if c = cn then (match fs.lookup f, keyT k with
    | some (.tb ds), some nk => if ds.length < sizeLine then .nx (ρ.set i (some (.ins c (putC f (.tb (putB ds k nk d)) fs)))) else .stuck
    | _, _ => .stuck) else .stuck
  | _, _ => .stuck
end
@[simp] theorem e_inFT {n : Bool} {g : Env → Option D} {i : Nat} {cn f : Str} {ρ : Env} : inFT n g i cn f ρ = match g ρ, ρ[i]? with
  | some k, some (some (.ins c fs)) => if c = cn then (match fs.lookup f with
    | some x => optR (hasTb n x k) ρ
    | none => .stuck) else .stuck
  | _, _ => .stuck := rfl
@[simp] theorem e_getFT {g : Env → Option D} {i : Nat} {cn f : Str} {ρ : Env} : getFT g i cn f ρ = match g ρ, ρ[i]? with
  | some k, some (some (.ins c fs)) => if c = cn then (match fs.lookup f with
    | some x => optR (getTb x k) ρ
    | none => .stuck) else .stuck
  | _, _ => .stuck := rfl
@[simp] theorem e_putFT {g : Env → Option D} {i : Nat} {cn f : Str} {fe : FE D} {ρ : Env} : putFT g i cn f fe ρ = bindS (fe ρ) fun d ρ => match g ρ, ρ[i]? with
  | some k, some (some (.ins c fs)) => if c = cn then (match fs.lookup f, keyT k with
    | some (.tb ds), some nk => if ds.length < sizeLine then .nx (ρ.set i (some (.ins c (putC f (.tb (putB ds k nk d)) fs)))) else .stuck
    | _, _ => .stuck) else .stuck
  | _, _ => .stuck := rfl
@[simp] theorem e_vxF {i : Nat} {ρ : Env} : vxF i ρ = match ρ[i]? with
  | some (some (.c (.val d))) => some d
  | _ => none := rfl
@[simp] theorem e_tup2X {g h : Env → Option D} {ρ : Env} : tup2X g h ρ = match g ρ, h ρ with
  | some a, some b => some (.tup [a, b])
  | _, _ => none := rfl
end Fx

set_option Elab.async false
set_option linter.all false
set_option maxRecDepth 100000
set_option maxHeartbeats 1000000
namespace Fx
variable [FnSem]
open PySem L2 PySem.Spec PyProof.Rows
section
variable {X : Cx} {W : WX} {io : List Nat} {pos : Pos} {es : List Expr} {gs : FGs}
def tupGL (n : Nat) (gs : FGs) : FG := fun d ρ => match d with
  | .lst ds => if ds.length = n then gs ds ρ else none
  | _ => none
@[simp] theorem e_tupGL {n : Nat} {ds : List D} {ρ : Env} : tupGL n gs (.lst ds) ρ = if ds.length = n then gs ds ρ else none := rfl
end
end Fx

set_option Elab.async false
set_option linter.all false
set_option maxRecDepth 100000
set_option maxHeartbeats 1000000
namespace Fx
variable [FnSem]
open PySem L2 PySem.Spec PyProof.Rows
section
variable {X : Cx} {W : WX} {pos : Pos} {a : Expr} {f : FE Pl}
def isi2D (S T : String) (c : C1) : Option D := match tyN c with
  | some t => some (.bl ((if S = "int" then decide (t = "int" ∨ t = "bool") else decide (t = S)) || (if T = "int" then decide (t = "int" ∨ t = "bool") else decide (t = T))))
  | none => none
@[simp] theorem v_isi2 {S T : String} {c : C1} : isi2D S T c = match tyN c with | some t => some (.bl ((if S = "int" then decide (t = "int" ∨ t = "bool") else decide (t = S)) || (if T = "int" then decide (t = "int" ∨ t = "bool") else decide (t = T)))) | none => none := rfl
theorem ok_isi2 {S T : String} {x y : Str} {p p2 p3 p4 : Pos} {k : Nat} (hS : okT S) (hT : okT T) (hg : Gl X "isinstance") (hm : X.mg "isinstance" = none)
    (hgS : Gl X x) (hmS : X.mg x = none) (hbS : bootBuiltins x = some (.type S)) (hgT : Gl X y) (hmT : X.mg y = none) (hbT : bootBuiltins y = some (.type T)) (ha : OkB X W a f)
    (hn : x ≠ "__name__" := by decide) (hdb : (x == ("__debug__" : Str)) = false := by decide)
    (hn2 : y ≠ "__name__" := by decide) (hdb2 : (y == ("__debug__" : Str)) = false := by decide)
    (hst2 : starEach [.Name x p2, .Name y p3] X.env = (false, eval (.Name x p2) X.env) :: starEach [.Name y p3] X.env := by rfl)
    (hst : starEach [a, .Tuple [.Name x p2, .Name y p3] k p4] X.env = (false, eval a X.env) :: starEach [.Tuple [.Name x p2, .Name y p3] k p4] X.env := by rfl) :
    OkD X W (.Call (.Name "isinstance" p) [a, .Tuple [.Name x p2, .Name y p3] k p4] [] pos) (b1F (isi2D S T) f) := by
  have tt := pe_tup (x1 := k) (pos := p4) (pa_cons (pe_bltn (v := .ty S) hgS hmS hbS rfl hn hdb) (pa_cons (pe_bltn (v := .ty T) hgT hmT hbT rfl hn2 hdb2) pa_nil) hst2)
  refine (pe_callB call_isiT hg hm (by decide +kernel) (pa_cons ha (pa_cons tt pa_nil) hst) (by decide) (by decide) hst rfl).to fun σ H Q h => ?_
  refine t_b1 (r := fun x H Q => [V.ty S, V.ty T].length ≤ sizeLine ∧ ∀ p, H p = none → rIsiT X.K [x, .ref p] (upd H p (.tup [.ty S, .ty T])) Q) (fun G H v c S' z Q s ok e q => ?_) h
  unfold isi2D at e
  cases ht : tyN c with
  | none => rw [ht] at e; cases e
  | some t =>
    rw [ht] at e
    cases e
    refine ⟨(by decide : (2 : Nat) ≤ sizeLine), fun p hp => ?_⟩
    have ex : Ext G H (upd G p (.tup [.ty S, .ty T])) (upd H p (.tup [.ty S, .ty T])) := .new s hp
    have k1 := kit_ty (K := X.K) (hS t (tyN_mem ht))
    have k2 := kit_ty (K := X.K) (hT t (tyN_mem ht))
    have tx : TyX X.K (upd H p (.tup [.ty S, .ty T])) v (.type t) := C1Ok.tyX (G := upd G p (.tup [.ty S, .ty T])) (S := S') ex.sub (ok.mono ex.le fun a o _ h => ex.leH a o h) ht
    refine ⟨v, p, [.ty S, .ty T], .type t, [.type S, .type T], _, rfl, upd_same, .cons (.ty S) (.cons (.ty T) .nil), tx, ?_, q _ _ _ ex (.bl _)⟩
    simp only [PySem.W.kitAny, k1, k2]
    generalize (if S = "int" then decide (t = "int" ∨ t = "bool") else decide (t = S)) = b1
    generalize (if T = "int" then decide (t = "int" ∨ t = "bool") else decide (t = T)) = b2
    cases b1 <;> cases b2 <;> rfl
end
end Fx

set_option Elab.async false
set_option linter.all false
set_option maxRecDepth 100000
set_option maxHeartbeats 1000000
namespace Fx
variable [FnSem]
open PySem L2 PySem.Spec PyProof.Rows
section
variable {X : Cx} {W : WX} {pos : Pos} {a b : Expr} {fa fb : FE D}
def PowBC (i j : Int) : Prop := 0 ≤ j ∧ j ≤ 100000 ∧ i.natAbs < 2 ^ 1000
noncomputable instance (i j : Int) : Decidable (PowBC i j) := Classical.propDecidable _
noncomputable abbrev powBD := iicD PowBC fun i j => i ^ j.toNat
theorem o_powB : OpR X (binaryOp .Pow) (rI PowBC fun i j => .int (i ^ j.toNat)) := opI fun i j _ _ _ _ _ hc q => by
  obtain ⟨h1, h2, h3⟩ := hc
  refine PyProof.Rows.pow_int h1 ?_ q
  have h4 : (Builtin.Int.intBits i : Int) ≤ 1000 := Int.ofNat_le.mpr (PyProof.Rows.intBits_le h3)
  have h5 : (Builtin.Int.intBits i : Int) * j ≤ 1000 * 100000 := Int.mul_le_mul h4 h2 h1 (by decide)
  omega
theorem ok_powB (ha : OkD X W a fa) (hb : OkD X W b fb) : OkD X W (.BinOp a .Pow b pos) (op2F powBD fa fb) := ok_op o_powB v2_iic ha hb
theorem powBC_mk {i j : Int} (h1 : 0 ≤ j) (h2 : j ≤ 100000) (h3 : i.natAbs < 2 ^ 1000) : PowBC i j := ⟨h1, h2, h3⟩
end
end Fx

set_option Elab.async false
set_option linter.all false
set_option maxRecDepth 100000
set_option maxHeartbeats 4000000

namespace Pg
open PySem Fx
noncomputable section
def c_ONE : D := (.tup [(.int 1), (.int 1)])
def fs_is_int : FS :=
  (retF (andVF (b1F (isiD "int") (bS 0)) (notVF (b1F (isiD "bool") (bS 0)))))
def p_is_int (os : List O) : RF := bodyF [] os (fs_is_int (startE ["thing"] os))
def fs_is_row : FS :=
  (retF (andVF (b1F (isiD "tuple") (bS 0)) (chainF (ibD fun i j => decide (i ≤ j)) (ibD fun i j => decide (i ≤ j)) (varF 1) (b1F lenD (bS 0)) (varF 2))))
def p_is_row (os : List O) : RF := bodyF [] os (fs_is_row (startE ["thing", "least", "most"] os))
def fs_is_ratio : FS :=
  (seqF (ifSF (orF (notF (testF (frzF (callF [] p_is_row (consA (bS 0) (consA (bD (cF (.int 2))) (consA (bD (cF (.int 2))) nilA))))))) (orF (notF (testF (frzF (callF [] p_is_int (consA (bD (b2F ixD (bS 0) (cF (.int 0)))) nilA))))) (notF (testF (frzF (callF [] p_is_int (consA (bD (b2F ixD (bS 0) (cF (.int 1)))) nilA))))))) (retF (cF (.bl false))) nextF)
  (retF (andVF (op2F (ibD fun i j => decide (j < i)) (b2F ixD (bS 0) (cF (.int 1))) (cF (.int 0))) (op2F (eqD false) (opNF gcdD (consF (b2F ixD (bS 0) (cF (.int 0))) (consF (b2F ixD (bS 0) (cF (.int 1))) nilF))) (cF (.int 1))))))
def p_is_ratio (os : List O) : RF := bodyF [] os (fs_is_ratio (startE ["thing"] os))
def fs_lowest : FS :=
  (seqF (setF 2 (opNF gcdD (consF (varF 0) (consF (varF 1) nilF))))
  (seqF (ifSF (testF (op2F (ibD fun i j => decide (i < j)) (varF 1) (cF (.int 0)))) (setF 2 (op1F (iD fun i => -i) (varF 2))) nextF)
  (retF (tupF (consF (op2F fdivD (varF 0) (varF 2)) (consF (op2F fdivD (varF 1) (varF 2)) nilF))))))
def p_lowest (os : List O) : RF := bodyF [] os (fs_lowest (startE ["top", "bottom", "shared"] os))
def k_raised_0t : FE Bool :=
  (testF (op2F (ibD fun i j => decide (j < i)) (varF 1) (cF (.int 0))))
def k_raised_0b : FS :=
  (seqF (ifSF (testF (op2F (eqD false) (op2F fmodD (varF 1) (cF (.int 2))) (cF (.int 1)))) (setF 2 (tupF (consF (op2F mulD (b2F ixD (bS 2) (cF (.int 0))) (b2F ixD (bS 3) (cF (.int 0)))) (consF (op2F mulD (b2F ixD (bS 2) (cF (.int 1))) (b2F ixD (bS 3) (cF (.int 1)))) nilF)))) nextF)
  (seqF (augF fdivD 1 (cF (.int 2)))
  (ifSF (testF (op2F (ibD fun i j => decide (j < i)) (varF 1) (cF (.int 0)))) (setF 3 (tupF (consF (op2F mulD (b2F ixD (bS 3) (cF (.int 0))) (b2F ixD (bS 3) (cF (.int 0)))) (consF (op2F mulD (b2F ixD (bS 3) (cF (.int 1))) (b2F ixD (bS 3) (cF (.int 1)))) nilF)))) nextF)))
def fs_raised : FS :=
  (seqF (par2F 2 3 (consF (cF c_ONE) (consF (varF 0) nilF)))
  (seqF (whileF k_raised_0t k_raised_0b)
  (retF (varF 2))))
def p_raised (os : List O) : RF := bodyF [] os (fs_raised (startE ["r", "k", "found", "square"] os))
def fs_need_ratio : FS :=
  (ifSF (notF (testF (frzF (callF [] p_is_ratio (consA (bS 0) nilA))))) (raiseF "BadRatio") nextF)
def p_need_ratio (os : List O) : RF := bodyF [] os (fs_need_ratio (startE ["r"] os))
def k__law_gcd_0t : FE Bool :=
  (testF (op2F (eqD true) (varF 1) (cF (.int 0))))
def k__law_gcd_0b : FS :=
  (par2F 0 1 (consF (varF 1) (consF (op2F fmodD (b1F intD (bS 0)) (varF 1)) nilF)))
def fs__law_gcd : FS :=
  (seqF (par2F 0 1 (consF (b1F absD (bS 0)) (consF (b1F absD (bS 1)) nilF)))
  (seqF (whileF k__law_gcd_0t k__law_gcd_0b)
  (retF (varF 0))))
def p__law_gcd (os : List O) : RF := bodyF [] os (fs__law_gcd (startE ["one", "other"] os))
def fs__law_ratio : FS :=
  (seqF (ifSF (testF (op2F (ibD fun i j => decide (i < j)) (varF 1) (cF (.int 0)))) (par2F 0 1 (consF (op2F subD (cF (.int 0)) (varF 0)) (consF (op2F subD (cF (.int 0)) (varF 1)) nilF))) nextF)
  (seqF (setF 2 (frzF (callF [] p__law_gcd (consA (bS 0) (consA (bS 1) nilA)))))
  (retF (tupF (consF (op2F fdivD (varF 0) (varF 2)) (consF (op2F fdivD (varF 1) (varF 2)) nilF))))))
def p__law_ratio (os : List O) : RF := bodyF [] os (fs__law_ratio (startE ["top", "bottom", "shared"] os))
def fs_added : FS :=
  (seqF (ifSF (andF (testF (op2F (eqD false) (b2F ixD (bS 0) (cF (.int 1))) (cF (.int 1)))) (testF (op2F (eqD false) (b2F ixD (bS 1) (cF (.int 1))) (cF (.int 1))))) (retF (tupF (consF (op2F plusD (b2F ixD (bS 0) (cF (.int 0))) (b2F ixD (bS 1) (cF (.int 0)))) (consF (cF (.int 1)) nilF)))) nextF)
  (retF (frzF (callF [] p_lowest (consA (bD (op2F plusD (op2F mulD (b2F ixD (bS 0) (cF (.int 0))) (b2F ixD (bS 1) (cF (.int 1)))) (op2F mulD (b2F ixD (bS 1) (cF (.int 0))) (b2F ixD (bS 0) (cF (.int 1)))))) (consA (bD (op2F mulD (b2F ixD (bS 0) (cF (.int 1))) (b2F ixD (bS 1) (cF (.int 1))))) nilA))))))
def p_added (os : List O) : RF := bodyF [] os (fs_added (startE ["r", "s"] os))
def fs_ratio_plus : FS :=
  (seqF (dropF (frzF (callF [] p_need_ratio (consA (bS 0) nilA))))
  (seqF (dropF (frzF (callF [] p_need_ratio (consA (bS 1) nilA))))
  (retF (frzF (callF [] p_added (consA (bS 0) (consA (bS 1) nilA)))))))
def p_ratio_plus (os : List O) : RF := bodyF [] os (fs_ratio_plus (startE ["r", "s"] os))
def fs_multiplied : FS :=
  (seqF (ifSF (andF (testF (op2F (eqD false) (b2F ixD (bS 0) (cF (.int 1))) (cF (.int 1)))) (testF (op2F (eqD false) (b2F ixD (bS 1) (cF (.int 1))) (cF (.int 1))))) (retF (tupF (consF (op2F mulD (b2F ixD (bS 0) (cF (.int 0))) (b2F ixD (bS 1) (cF (.int 0)))) (consF (cF (.int 1)) nilF)))) nextF)
  (retF (frzF (callF [] p_lowest (consA (bD (op2F mulD (b2F ixD (bS 0) (cF (.int 0))) (b2F ixD (bS 1) (cF (.int 0))))) (consA (bD (op2F mulD (b2F ixD (bS 0) (cF (.int 1))) (b2F ixD (bS 1) (cF (.int 1))))) nilA))))))
def p_multiplied (os : List O) : RF := bodyF [] os (fs_multiplied (startE ["r", "s"] os))
def fs__law_plus : FS :=
  (retF (frzF (callF [] p__law_ratio (consA (bD (op2F plusD (op2F mulD (b2F ixD (bS 0) (cF (.int 0))) (b2F ixD (bS 1) (cF (.int 1)))) (op2F mulD (b2F ixD (bS 1) (cF (.int 0))) (b2F ixD (bS 0) (cF (.int 1)))))) (consA (bD (op2F mulD (b2F ixD (bS 0) (cF (.int 1))) (b2F ixD (bS 1) (cF (.int 1))))) nilA)))))
def p__law_plus (os : List O) : RF := bodyF [] os (fs__law_plus (startE ["r", "s"] os))
end
end Pg

set_option Elab.async false
set_option linter.all false
set_option maxRecDepth 100000
set_option maxHeartbeats 4000000

namespace Pg
open PySem Fx
noncomputable section
def c_SMALL : D := (.str "abcdefghijklmnopqrstuvwxyz")
end
end Pg

set_option Elab.async false
set_option linter.all false
set_option maxRecDepth 100000
set_option maxHeartbeats 4000000

namespace Pg
open PySem Fx
noncomputable section
def c_MOST_NAME : D := (.int 10)
def c_SMALL_names : D := (.str "abcdefghijklmnopqrstuvwxyz")
def c_MOST_LETTERS : D := (.int 8)
def fs_within : FS :=
  (retF (andVF (frzF (callF [] p_is_int (consA (bS 0) nilA))) (chainF (ibD fun i j => decide (i ≤ j)) (ibD fun i j => decide (i ≤ j)) (varF 1) (varF 0) (varF 2))))
def p_within (os : List O) : RF := bodyF [] os (fs_within (startE ["thing", "least", "most"] os))
def k_is_low_name_0e : FE D :=
  (op2F (inD false) (varF 1) (op2F plusD (cF c_SMALL_names) (cF (.str "0123456789"))))
def fs_is_low_name : FS :=
  (seqF (ifSF (orF (notF (testF (b1F (isiD "str") (bS 0)))) (orF (notF (testF (chainF (ibD fun i j => decide (i ≤ j)) (ibD fun i j => decide (i ≤ j)) (cF (.int 1)) (b1F lenD (bS 0)) (cF c_MOST_NAME)))) (testF (op2F (inD true) (b2F ixD (bS 0) (cF (.int 0))) (cF c_SMALL_names))))) (retF (cF (.bl false))) nextF)
  (retF (b1F allD (bD (frzF (lcF (itA (varF 0)) [1] (nameG 1) yesF k_is_low_name_0e))))))
def p_is_low_name (os : List O) : RF := bodyF [] os (fs_is_low_name (startE ["thing", "sign"] os))
def k_are_low_names_0e : FE D :=
  (frzF (callF [] p_is_low_name (consA (bS 3) nilA)))
def fs_are_low_names : FS :=
  (retF (andVF (frzF (callF [] p_is_row (consA (bS 0) (consA (bS 1) (consA (bS 2) nilA))))) (andVF (b1F allD (bD (frzF (lcF (itA (varF 0)) [3] (nameG 3) yesF k_are_low_names_0e)))) (op2F (eqD false) (op1F lenSetZD (varF 0)) (b1F lenD (bS 0))))))
def p_are_low_names (os : List O) : RF := bodyF [] os (fs_are_low_names (startE ["thing", "least", "most", "name"] os))
end
end Pg

set_option Elab.async false
set_option linter.all false
set_option maxRecDepth 100000
set_option maxHeartbeats 4000000

namespace Pg
open PySem Fx
noncomputable section
def c_ZERO : D := (.tup [(.int 0), (.int 1)])
def k_are_numbers_0e : FE D :=
  (andVF (frzF (callF [] p_is_int (consA (bS 2) nilA))) (op2F (ibD fun i j => decide (j ≤ i)) (varF 2) (cF (.int 0))))
def fs_are_numbers : FS :=
  (retF (andVF (frzF (callF [] p_is_row (consA (bS 0) (consA (bS 1) (consA (bD (varF 1)) nilA))))) (b1F allD (bD (frzF (lcF (itA (varF 0)) [2] (nameG 2) yesF k_are_numbers_0e))))))
def p_are_numbers (os : List O) : RF := bodyF [] os (fs_are_numbers (startE ["thing", "many", "entry"] os))
def fs_is_pair_in : FS :=
  (retF (andVF (frzF (callF [] p_is_row (consA (bS 1) (consA (bD (cF (.int 2))) (consA (bD (cF (.int 2))) nilA))))) (andVF (frzF (callF [] p_are_numbers (consA (bD (b2F ixD (bS 1) (cF (.int 0)))) (consA (bS 0) nilA)))) (frzF (callF [] p_is_ratio (consA (bD (b2F ixD (bS 1) (cF (.int 1)))) nilA))))))
def p_is_pair_in (os : List O) : RF := bodyF [] os (fs_is_pair_in (startE ["n", "thing"] os))
def k_is_polynomial_in_0e : FE D :=
  (op2F gtD (b2F ixD (bS 2) (varF 5)) (b2F ixD (bS 2) (op2F plusD (varF 5) (cF (.int 1)))))
def k_is_polynomial_in_1e : FE D :=
  (tupF (consF (b1F sumSD (bS 3)) (consF (varF 3) nilF)))
def k_is_polynomial_in_2e : FE D :=
  (andVF (frzF (callF [] p_is_pair_in (consA (bS 0) (consA (bS 6) nilA)))) (op2F (eqD true) (b2F ixD (bS 6) (cF (.int 1))) (cF c_ZERO)))
def fs_is_polynomial_in : FS :=
  (seqF (ifSF (orF (notF (testF (b1F (isiD "tuple") (bS 1)))) (notF (testF (b1F allD (bD (frzF (lcF (itA (varF 1)) [6] (nameG 6) yesF k_is_polynomial_in_2e))))))) (retF (cF (.bl false))) nextF)
  (seqF (setF 2 (frzF (lcF (itA (varF 1)) [3, 4] (tupG 2 (consG (nameG 3) (consG (nameG 4) nilG))) yesF k_is_polynomial_in_1e)))
  (retF (b1F allD (bD (frzF (lcF (rng1 (op2F subD (b1F lenD (bS 2)) (cF (.int 1)))) [5] (nameG 5) yesF k_is_polynomial_in_0e)))))))
def p_is_polynomial_in (os : List O) : RF := bodyF [] os (fs_is_polynomial_in (startE ["n", "thing", "keys", "e", "r", "k", "term"] os))
end
end Pg

set_option Elab.async false
set_option linter.all false
set_option maxRecDepth 100000
set_option maxHeartbeats 4000000

namespace Pg
open PySem Fx
noncomputable section
def k_is_point_in_0e : FE D :=
  (frzF (callF [] p_is_ratio (consA (bS 2) nilA)))
def fs_is_point_in : FS :=
  (retF (andVF (frzF (callF [] p_is_row (consA (bS 1) (consA (bS 0) (consA (bD (varF 0)) nilA))))) (b1F allD (bD (frzF (lcF (itA (varF 1)) [2] (nameG 2) yesF k_is_point_in_0e))))))
def p_is_point_in (os : List O) : RF := bodyF [] os (fs_is_point_in (startE ["n", "thing", "r"] os))
def k_is_sets_0e : FE D :=
  (frzF (callF [] p_is_polynomial_in (consA (bS 0) (consA (bS 2) nilA))))
def fs_is_sets : FS :=
  (retF (andVF (frzF (callF [] p_is_row (consA (bS 1) (consA (bS 0) (consA (bD (varF 0)) nilA))))) (b1F allD (bD (frzF (lcF (itA (varF 1)) [2] (nameG 2) yesF k_is_sets_0e))))))
def p_is_sets (os : List O) : RF := bodyF [] os (fs_is_sets (startE ["registers", "thing", "p"] os))
def fs_is_step : FS :=
  (seqF (ifSF (testF (b1F (isNoneD false) (bS 2))) (retF (cF (.bl true))) nextF)
  (retF (andVF (frzF (callF [] p_is_row (consA (bS 2) (consA (bD (cF (.int 2))) (consA (bD (cF (.int 2))) nilA))))) (andVF (frzF (callF [] p_within (consA (bD (b2F ixD (bS 2) (cF (.int 0)))) (consA (bD (cF (.int 0))) (consA (bD (op2F subD (varF 1) (cF (.int 1)))) nilA))))) (frzF (callF [] p_is_sets (consA (bS 0) (consA (bD (b2F ixD (bS 2) (cF (.int 1)))) nilA))))))))
def p_is_step (os : List O) : RF := bodyF [] os (fs_is_step (startE ["registers", "states", "thing"] os))
def k_is_state_0e : FE D :=
  (frzF (callF [] p_is_step (consA (bS 0) (consA (bS 2) (consA (bS 4) nilA)))))
def fs_is_state : FS :=
  (seqF (ifSF (orF (notF (testF (frzF (callF [] p_is_row (consA (bS 3) (consA (bD (cF (.int 2))) (consA (bD (cF (.int 2))) nilA))))))) (orF (notF (testF (frzF (callF [] p_is_polynomial_in (consA (bS 0) (consA (bD (b2F ixD (bS 3) (cF (.int 0)))) nilA)))))) (notF (testF (frzF (callF [] p_is_row (consA (bD (b2F ixD (bS 3) (cF (.int 1)))) (consA (bS 1) (consA (bD (varF 1)) nilA))))))))) (retF (cF (.bl false))) nextF)
  (retF (b1F allD (bD (frzF (lcF (itA (b2F ixD (bS 3) (cF (.int 1)))) [4] (nameG 4) yesF k_is_state_0e))))))
def p_is_state (os : List O) : RF := bodyF [] os (fs_is_state (startE ["registers", "letters", "states", "thing", "step"] os))
def k__law_low_0t : FE Bool :=
  (testF (op2F (eqD true) (varF 3) (cF (.int 0))))
def k__law_low_0b : FS :=
  (par2F 2 3 (consF (varF 3) (consF (op2F fmodD (b1F intD (bS 2)) (varF 3)) nilF)))
def fs__law_low : FS :=
  (seqF (par2F 2 3 (consF (b1F absD (bS 0)) (consF (b1F absD (bS 1)) nilF)))
  (seqF (whileF k__law_low_0t k__law_low_0b)
  (seqF (ifSF (testF (op2F (ibD fun i j => decide (i < j)) (varF 1) (cF (.int 0)))) (setF 2 (op1F (iD fun i => -i) (varF 2))) nextF)
  (retF (tupF (consF (op2F fdivD (varF 0) (varF 2)) (consF (op2F fdivD (varF 1) (varF 2)) nilF)))))))
def p__law_low (os : List O) : RF := bodyF [] os (fs__law_low (startE ["top", "bottom", "one", "other"] os))
def fs__law_add : FS :=
  (retF (frzF (callF [] p__law_low (consA (bD (op2F plusD (op2F mulD (b2F ixD (bS 0) (cF (.int 0))) (b2F ixD (bS 1) (cF (.int 1)))) (op2F mulD (b2F ixD (bS 1) (cF (.int 0))) (b2F ixD (bS 0) (cF (.int 1)))))) (consA (bD (op2F mulD (b2F ixD (bS 0) (cF (.int 1))) (b2F ixD (bS 1) (cF (.int 1))))) nilA)))))
def p__law_add (os : List O) : RF := bodyF [] os (fs__law_add (startE ["r", "s"] os))
def fs__law_mul : FS :=
  (retF (frzF (callF [] p__law_low (consA (bD (op2F mulD (b2F ixD (bS 0) (cF (.int 0))) (b2F ixD (bS 1) (cF (.int 0))))) (consA (bD (op2F mulD (b2F ixD (bS 0) (cF (.int 1))) (b2F ixD (bS 1) (cF (.int 1))))) nilA)))))
def p__law_mul (os : List O) : RF := bodyF [] os (fs__law_mul (startE ["r", "s"] os))
end
end Pg

set_option Elab.async false
set_option linter.all false
set_option maxRecDepth 100000
set_option maxHeartbeats 4000000

namespace Pg
open PySem Fx
noncomputable section
def fs_terms_of : FS :=
  (retF (frzF (dictPF (bS 0))))
def p_terms_of (os : List O) : RF := bodyF [] os (fs_terms_of (startE ["p"] os))
def fs_Words__init : FS :=
  (seqF (setFldF 0 "Words" "registers" (valF (varF 1)))
  (seqF (setFldF 0 "Words" "letters" (valF (varF 2)))
  (seqF (setFldF 0 "Words" "start" (valF (varF 3)))
  (seqF (setFldF 0 "Words" "begin" (valF (varF 4)))
  (seqF (setFldF 0 "Words" "told" (valF (varF 5)))
  (setFldF 0 "Words" "steps" (valF (varF 6))))))))
def p_Words__init (os : List O) : RF := bodyF [0] os (fs_Words__init (startE ["self", "registers", "letters", "start", "begin", "told", "steps"] os))
def k_opened_2e : FE D :=
  (frzF (callF [] p_terms_of (consA (bS 10) nilA)))
def k_opened_1e : FE D :=
  (ifF (testF (b1F (isNoneD false) (bS 9))) (cF .non) (tupF (consF (b2F ixD (bS 9) (cF (.int 0))) (consF (frzF (lcF (itA (b2F ixD (bS 9) (cF (.int 1)))) [10] (nameG 10) yesF k_opened_2e)) nilF))))
def k_opened_0b : FS :=
  (appF (bS 7) (frzF (lcF (itA (b2F ixD (bS 8) (cF (.int 1)))) [9] (nameG 9) yesF k_opened_1e)))
def k_opened_3e : FE D :=
  (frzF (callF [] p_terms_of (consA (bD (b2F ixD (bS 8) (cF (.int 0)))) nilA)))
def fs_opened : FS :=
  (seqF (asgF (varF 0) (tupG 4 (consG (nameG 1) (consG (nameG 2) (consG (tupG 2 (consG (nameG 3) (consG (nameG 4) nilG))) (consG (nameG 5) nilG))))))
  (seqF (setOF 6 (lcF (itA (varF 5)) [8] (nameG 8) yesF k_opened_3e))
  (seqF (setOF 7 (lstF nilF))
  (seqF (forSF (itA (varF 5)) (nameG 8) k_opened_0b)
  (retF (frzF (makeF "Words" p_Words__init (consF (varF 1) (consF (varF 2) (consF (varF 3) (consF (varF 4) (consF (varFzF 6) (consF (varFzF 7) nilF)))))))))))))
def p_opened (os : List O) : RF := bodyF [] os (fs_opened (startE ["machine", "registers", "letters", "start", "values", "states", "told", "steps", "state", "step", "p"] os))
def k_first_words_1b : FS :=
  (ifSF (andF (testF (b1F (isNoneD true) (bS 6))) (testF (b1F (isNoneD false) (bD (b2F ixD (bS 1) (b2F ixD (bS 6) (cF (.int 0)))))))) (seqF (setItF (bS 1) (b2F ixD (bS 6) (cF (.int 0))) (op2F plusD (b2F ixD (bS 1) (varF 4)) (tupF (consF (varF 5) nilF))))
  (appF (bS 2) (b2F ixD (bS 6) (cF (.int 0))))) nextF)
def k_first_words_0t : FE Bool :=
  (testF (op2F (ibD fun i j => decide (i < j)) (varF 3) (b1F lenD (bS 2))))
def k_first_words_0b : FS :=
  (seqF (setF 4 (b2F ixD (bS 2) (varF 3)))
  (seqF (augF addD 3 (cF (.int 1)))
  (forSF (enumF (consF (b2F ixD (bD (fldOF "Words" "steps" (varF 0))) (varF 4)) nilF)) (tupG 2 (consG (nameG 5) (consG (nameG 6) nilG))) k_first_words_1b)))
def fs_first_words : FS :=
  (seqF (setOF 1 (repLF (frzF (lstF (consF (cF .non) nilF))) (b1F lenD (bD (fldOF "Words" "told" (varF 0))))))
  (seqF (setItF (bS 1) (fldOF "Words" "start" (varF 0)) (tupF nilF))
  (seqF (par2OO 2 3 (lstF (consF (fldOF "Words" "start" (varF 0)) nilF)) (valF (cF (.int 0))))
  (seqF (whileF k_first_words_0t k_first_words_0b)
  (retF (varFzF 1))))))
def p_first_words (os : List O) : RF := bodyF [] os (fs_first_words (startE ["words", "found", "due", "at", "state", "letter", "step"] os))
def k__law_same_0t (r__law_same : List O → RF) : FE Bool :=
  (notF (testF (frzF (callF [] r__law_same (consA (bD (b2F ixD (bS 0) (varF 2))) (consA (bD (b2F ixD (bS 1) (varF 2))) nilA))))))
def k__law_same_0e (r__law_same : List O → RF) : FE D :=
  (varF 2)
def fs__law_same (r__law_same : List O → RF) : FS :=
  (seqF (ifSF (testF (b1F (isiD "tuple") (bS 1))) (seqF (ifSF (orF (notF (testF (b1F (isiD "tuple") (bS 0)))) (testF (op2F (eqD true) (b1F lenD (bS 0)) (b1F lenD (bS 1))))) (retF (cF (.bl false))) nextF)
  (retF (op2F (eqD false) (frzF (lcF (rng1 (b1F lenD (bS 1))) [2] (nameG 2) (k__law_same_0t r__law_same) (k__law_same_0e r__law_same))) (frzF (lstF nilF))))) nextF)
  (seqF (ifSF (orF (testF (b1F (isiD "tuple") (bS 0))) (testF (op2F (eqD true) (b1F (isiD "bool") (bS 0)) (b1F (isiD "bool") (bS 1))))) (retF (cF (.bl false))) nextF)
  (retF (andVF (op2F (eqD false) (b1F (isiD "str") (bS 0)) (b1F (isiD "str") (bS 1))) (andVF (op2F (eqD false) (b1F (isNoneD false) (bS 0)) (b1F (isNoneD false) (bS 1))) (op2F (eqD false) (varF 0) (varF 1)))))))
def pr__law_same : Nat → List O → RF
  | 0, _ => .stuck
  | n + 1, os => bodyF [] os (fs__law_same (pr__law_same n) (startE ["found", "due", "k"] os))
def fs_need_state : FS :=
  (ifSF (notF (testF (frzF (callF [] p_within (consA (bS 1) (consA (bD (cF (.int 0))) (consA (bD (op2F subD (b1F lenD (bD (fldOF "Words" "told" (varF 0)))) (cF (.int 1)))) nilA))))))) (raiseF "BadState") nextF)
def p_need_state (os : List O) : RF := bodyF [] os (fs_need_state (startE ["words", "state"] os))
end
end Pg

set_option Elab.async false
set_option linter.all false
set_option maxRecDepth 100000
set_option maxHeartbeats 4000000

namespace Pg
open PySem Fx
noncomputable section
def c_MOST_WORD : D := (.int 10000)
def k__law_value_2b : FS :=
  (setF 4 (frzF (callF [] p__law_mul (consA (bS 4) (consA (bD (b2F ixD (bS 1) (varF 5))) nilA)))))
def k__law_value_1b : FS :=
  (forSF (rng1 (b2F ixD (bS 3) (varF 5))) (nameG 6) k__law_value_2b)
def k_need_word_0e : FE D :=
  (frzF (callF [] p_within (consA (bS 2) (consA (bD (cF (.int 0))) (consA (bD (op2F subD (b1F lenD (bD (fldOF "Words" "letters" (varF 0)))) (cF (.int 1)))) nilA)))))
def fs_need_word : FS :=
  (ifSF (orF (notF (testF (frzF (callF [] p_is_row (consA (bS 1) (consA (bD (cF (.int 0))) (consA (bD (cF c_MOST_WORD)) nilA))))))) (notF (testF (b1F allD (bD (frzF (lcF (itA (varF 1)) [2] (nameG 2) yesF k_need_word_0e))))))) (raiseF "BadWord") nextF)
def p_need_word (os : List O) : RF := bodyF [] os (fs_need_word (startE ["words", "word", "letter"] os))
def k_value_at_1b : FS :=
  (ifSF (testF (op2F (ibD fun i j => decide (j < i)) (varF 6) (cF (.int 0)))) (setF 4 (frzF (callF [] p_multiplied (consA (bS 4) (consA (bD (frzF (callF [] p_raised (consA (bD (b2F ixD (bS 1) (varF 5))) (consA (bS 6) nilA))))) nilA))))) nextF)
def k_value_at_0b : FS :=
  (seqF (forSF (enumTF (consF (varF 3) nilF)) (tupG 2 (consG (nameG 5) (consG (nameG 6) nilG))) k_value_at_1b)
  (setF 2 (frzF (callF [] p_added (consA (bS 2) (consA (bS 4) nilA))))))
def fs_value_at : FS :=
  (seqF (setF 2 (cF c_ZERO))
  (seqF (forSF (itemsTF (varF 0)) (tupG 2 (consG (nameG 3) (consG (nameG 4) nilG))) k_value_at_0b)
  (retF (varF 2))))
def p_value_at (os : List O) : RF := bodyF [] os (fs_value_at (startE ["p", "point", "found", "e", "r", "i", "k"] os))
def k_step_of_0e : FE D :=
  (frzF (callF [] p_value_at (consA (bS 6) (consA (bS 4) nilA))))
def fs_step_of : FS :=
  (seqF (asgF (varF 1) (tupG 2 (consG (nameG 3) (consG (nameG 4) nilG))))
  (seqF (setF 5 (b2F ixD (bD (b2F ixD (bD (fldOF "Words" "steps" (varF 0))) (varF 3))) (varF 2)))
  (seqF (ifSF (testF (b1F (isNoneD false) (bS 5))) (retF (cF .non)) nextF)
  (retF (tupF (consF (b2F ixD (bS 5) (cF (.int 0))) (consF (b1F tupleD (bD (frzF (lcF (itA (b2F ixD (bS 5) (cF (.int 1)))) [6] (nameG 6) yesF k_step_of_0e)))) nilF)))))))
def p_step_of (os : List O) : RF := bodyF [] os (fs_step_of (startE ["words", "at", "letter", "state", "values", "step", "p"] os))
def k_run_of_0b : FS :=
  (seqF (setF 2 (frzF (callF [] p_step_of (consA (bS 0) (consA (bS 2) (consA (bS 3) nilA))))))
  (ifSF (testF (b1F (isNoneD false) (bS 2))) (retF (cF .non)) nextF))
def fs_run_of : FS :=
  (seqF (setF 2 (tupF (consF (fldOF "Words" "start" (varF 0)) (consF (b1F tupleD (bD (fldOF "Words" "begin" (varF 0)))) nilF))))
  (seqF (forSF (itA (varF 1)) (nameG 3) k_run_of_0b)
  (retF (varF 2))))
def p_run_of (os : List O) : RF := bodyF [] os (fs_run_of (startE ["words", "word", "at", "letter"] os))
def fs_told_of : FS :=
  (retF (ifF (testF (b1F (isNoneD false) (bS 1))) (cF c_ZERO) (frzF (callF [] p_value_at (consA (bD (b2F ixD (bD (fldOF "Words" "told" (varF 0))) (b2F ixD (bS 1) (cF (.int 0))))) (consA (bD (b2F ixD (bS 1) (cF (.int 1)))) nilA))))))
def p_told_of (os : List O) : RF := bodyF [] os (fs_told_of (startE ["words", "at"] os))
end
end Pg

set_option Elab.async false
set_option linter.all false
set_option maxRecDepth 100000
set_option maxHeartbeats 4000000

namespace Pg
open PySem Fx
noncomputable section
def c_MOST_ROUNDS : D := (.int 10000)
def c_GREATEST : D := (.int 1000000000000000000000000000000000000000000000000000000000000000000000000000000000000000000000000000000000000000000000000000000000000000000000000000000000000000000000000000000000000000000000000000000000000000000000000000000000000000000000000000000000000000000000000000000000000000000000000000000000000000000000000000000000000000000000000000000000000000000000000000000000000000000000000000000000000000000000000000000000000000000000000000000000000000000000000000000000000000000000000000000000000000000000000000000000000000000000000000000000000000000000000000000000000000000000000000000000000000000000000000000000000000000000000000000000000000000000000000000000000000000000000000000000000000000000000000000000000000000000000000000000000000000000000000000000000000000000000000000000000000000000000000000000000000000000000000000000000000000000000000000000000000000000000000000000000000000000000000000000000000000000000000000000000000000000000000000000000000000000000000000000000000000000000000000000000000000000000000000000000000000000000000000000000000000000000000000000000000000000000000000000000000000000000000000000000000000000000000000000000000000000000000000000000000000000000000000000000000000000000000000000000000000000000000000000000000000000000000000000000000000000000000000000000000000000000000000000000000000000000000000000000000000000000000000000000000000000000000000000000000000000000000000000000000000000000000000000000000000000000000000000000000000000000000000000000000000000000000000000000000000000000000000000000000000000000000000000000000000000000000000000000000000000000000000000000000000000000000000000000000000000000000000000000000000000000000000000000000000000000000000000000000000000000000000000000000000000000000000000000000000000000000000000000000000000000000000000000000000000000000000000000000000000000000000000000000000000000000000000000000000000000000000000000000000000000000000000000000000000000000000000000000000000000000000000000000000000000000000000000000000000000000000000000000000000000000000000000000000000000000000000000000000000000000000000000000000000000000000000000000000000000000000000000000000000000000000000000000000000000000000000000000000000000000000000000000000000000000000000000000000000000000000000000000000000000000000000000000000000000000000000000000000000000000000000000000000000000000000000000000000000000000000000000000000000000000000000000000000000000000000000000000000000000000000000000000000000000000000000000000000000000000000000000000000000000000000000000000000000000000000000000000000000000000000000000000000000000000000000000000000000000000000000000000000000000000000000000000000000000000000000000000000000000000000000000000000000000000000000000000000000000000000000000000000000000000000000000000000000000000000000000000000000000000000000000000000000000000000000000000000000000000000000000000000000000000000000000000000000000000000000000000000000000000000000000000000000000000000000000000000000000000000000000000000000000000000000000000000000000)
def fs_need_loop_polynomial : FS :=
  (ifSF (notF (testF (frzF (callF [] p_is_polynomial_in (consA (bD (b1F lenD (bD (b2F ixD (bS 0) (cF (.int 0)))))) (consA (bS 1) nilA)))))) (raiseF "BadPolynomial") nextF)
def p_need_loop_polynomial (os : List O) : RF := bodyF [] os (fs_need_loop_polynomial (startE ["loop", "polynomial"] os))
def fs_need_rounds : FS :=
  (ifSF (notF (testF (frzF (callF [] p_within (consA (bS 0) (consA (bD (cF (.int 0))) (consA (bD (cF c_MOST_ROUNDS)) nilA))))))) (raiseF "BadRounds") nextF)
def p_need_rounds (os : List O) : RF := bodyF [] os (fs_need_rounds (startE ["rounds"] os))
def k_Course__init_1e : FE D :=
  (frzF (callF [] p_terms_of (consA (bS 2) nilA)))
def fs_Course__init : FS :=
  (seqF (setFldF 0 "Course" "values_now" (valF (b2F ixD (bS 1) (cF (.int 0)))))
  (setFldF 0 "Course" "sets" (valF (frzF (lcF (itA (b2F ixD (bS 1) (cF (.int 1)))) [2] (nameG 2) yesF k_Course__init_1e)))))
def p_Course__init (os : List O) : RF := bodyF [0] os (fs_Course__init (startE ["self", "loop", "p"] os))
def k_Course__go_0b : FS :=
  (ifSF (orF (notF (testF (chainF (ibD fun i j => decide (i < j)) (ibD fun i j => decide (i < j)) (op1F (iD fun i => -i) (cF c_GREATEST)) (varF 2) (cF c_GREATEST)))) (testF (op2F (ibD fun i j => decide (j ≤ i)) (varF 3) (cF c_GREATEST)))) (raiseF "TooGreat") nextF)
def k_Course__go_1e : FE D :=
  (frzF (callF [] p_value_at (consA (bS 4) (consA (bD (fldF 0 "Course" "values_now")) nilA))))
def fs_Course__go : FS :=
  (seqF (setF 1 (b1F tupleD (bD (frzF (lcF (itA (fldF 0 "Course" "sets")) [4] (nameG 4) yesF k_Course__go_1e)))))
  (seqF (forSF (itA (varF 1)) (tupG 2 (consG (nameG 2) (consG (nameG 3) nilG))) k_Course__go_0b)
  (setFldF 0 "Course" "values_now" (valF (varF 1)))))
def p_Course__go (os : List O) : RF := bodyF [0] os (fs_Course__go (startE ["self", "found", "top", "bottom", "terms"] os))
def fs__law_jug : FS :=
  (retOF (lstF (consF (frzF (listF (bS 0))) (consF (cF (.int 0)) (consF (cF (.int 0)) nilF)))))
def p__law_jug (os : List O) : RF := bodyF [] os (fs__law_jug (startE ["script"] os))
def fs__law_take : FS :=
  (seqF (ifSF (testF (op2F (eqD false) (b2F ixD (bS 0) (cF (.int 2))) (cF (.int 0)))) (seqF (setF 2 (b2F ixD (bS 0) (cF (.int 1))))
  (seqF (setF 3 (op2F plusD (op2F mulD (cF (.int 3)) (varF 2)) (cF (.int 5))))
  (seqF (ifSF (testF (op2F (ibD fun i j => decide (i < j)) (varF 2) (b1F lenD (bD (b2F ixD (bS 0) (cF (.int 0))))))) (setF 3 (op2F plusD (op2F mulD (cF (.int 2)) (b1F absD (bD (b2F ixD (bD (b2F ixD (bS 0) (cF (.int 0)))) (varF 2))))) (b1F intD (bD (op2F (ibD fun i j => decide (i < j)) (b2F ixD (bD (b2F ixD (bS 0) (cF (.int 0)))) (varF 2)) (cF (.int 0))))))) nextF)
  (seqF (ifSF (testF (op2F (ibD fun i j => decide (i < j)) (varF 3) (op2F powBD (cF (.int 10)) (cF (.int 18))))) (setF 3 (op2F fmodD (b1F intD (bD (op2F powBD (op2F plusD (op2F plusD (op2F mulD (varF 3) (cF (.int 2654435761))) (op2F mulD (varF 2) (cF (.int 40503)))) (cF (.int 977))) (cF (.int 3))))) (cF (.int 618970019642690137449562111)))) nextF)
  (seqF (setItF (bS 0) (cF (.int 1)) (op2F plusD (varF 2) (cF (.int 1))))
  (setItF (bS 0) (cF (.int 2)) (varF 3))))))) nextF)
  (seqF (setF 4 (op2F fmodD (b1F intD (bD (b2F ixD (bS 0) (cF (.int 2))))) (varF 1)))
  (seqF (setItF (bS 0) (cF (.int 2)) (op2F fdivD (b2F ixD (bS 0) (cF (.int 2))) (varF 1)))
  (retF (varF 4)))))
def p__law_take (os : List O) : RF := bodyF [0] os (fs__law_take (startE ["jug", "many", "at", "cell", "got"] os))
def fs__law_by : FS :=
  (retF (frzF (callF [] p__law_low (consA (bD (op2F mulD (b2F ixD (bS 0) (cF (.int 0))) (b2F ixD (bS 1) (cF (.int 0))))) (consA (bD (op2F mulD (b2F ixD (bS 0) (cF (.int 1))) (b2F ixD (bS 1) (cF (.int 1))))) nilA)))))
def p__law_by (os : List O) : RF := bodyF [] os (fs__law_by (startE ["r", "s"] os))
end
end Pg

set_option Elab.async false
set_option linter.all false
set_option maxRecDepth 100000
set_option maxHeartbeats 4000000

namespace K74
open PySem Fx Pg
noncomputable section
def c_MOST_VARIABLES : D := (.int 6)
def pi_kp_first_zero_0_most_polynomial_loop {A : Type} : List A → List A → List A := permG 0 3 [2, 1, 0]
def tbl_BadLoop : List (Str × Bool) := [("BadLoop", true), ("BadPolynomial", false), ("BadRounds", false), ("TooGreat", false)]
def tbl_BadPolynomial : List (Str × Bool) := [("BadLoop", false), ("BadPolynomial", true), ("BadRounds", false), ("TooGreat", false)]
def tbl_BadRounds : List (Str × Bool) := [("BadLoop", false), ("BadPolynomial", false), ("BadRounds", true), ("TooGreat", false)]
def tbl_IdealError : List (Str × Bool) := [("BadLoop", true), ("BadPolynomial", true), ("BadRounds", true), ("TooGreat", true)]
def k_is_loop_0e : FE D :=
  (frzF (callF [] p_is_polynomial_in (consA (bS 1) (consA (bS 2) nilA))))
def k_is_loop_1e : FE D :=
  (frzF (callF [] p_is_ratio (consA (bS 3) nilA)))
def fs_is_loop : FS :=
  (seqF (ifSF (orF (notF (testF (frzF (callF [] p_is_row (consA (bS 0) (consA (bD (cF (.int 2))) (consA (bD (cF (.int 2))) nilA))))))) (notF (testF (frzF (callF [] p_is_row (consA (bD (b2F ixD (bS 0) (cF (.int 0)))) (consA (bD (cF (.int 1))) (consA (bD (cF c_MOST_VARIABLES)) nilA)))))))) (retF (cF (.bl false))) nextF)
  (seqF (setF 1 (b1F lenD (bD (b2F ixD (bS 0) (cF (.int 0))))))
  (seqF (ifSF (orF (notF (testF (b1F allD (bD (frzF (lcF (itA (b2F ixD (bS 0) (cF (.int 0)))) [3] (nameG 3) yesF k_is_loop_1e)))))) (notF (testF (frzF (callF [] p_is_row (consA (bD (b2F ixD (bS 0) (cF (.int 1)))) (consA (bS 1) (consA (bD (varF 1)) nilA)))))))) (retF (cF (.bl false))) nextF)
  (retF (b1F allD (bD (frzF (lcF (itA (b2F ixD (bS 0) (cF (.int 1)))) [2] (nameG 2) yesF k_is_loop_0e))))))))
def p_is_loop (os : List O) : RF := bodyF [] os (fs_is_loop (startE ["thing", "n", "p", "value"] os))
def fs_need_loop : FS :=
  (ifSF (notF (testF (frzF (callF [] p_is_loop (consA (bS 0) nilA))))) (raiseF "BadLoop") nextF)
def p_need_loop (os : List O) : RF := bodyF [] os (fs_need_loop (startE ["loop"] os))
def k_first_zero_0b : FS :=
  (seqF (ifSF (testF (op2F (eqD false) (b2F ixD (bD (frzF (callF [] p_value_at (consA (bS 4) (consA (bD (fldF 3 "Course" "values_now")) nilA))))) (cF (.int 0))) (cF (.int 0)))) (retF (varF 5)) nextF)
  (ifSF (testF (op2F (ibD fun i j => decide (i < j)) (varF 5) (varF 2))) (dropF (frzF (methF 3 "Course" "go" [0] p_Course__go nilA))) nextF))
def fs_first_zero : FS :=
  (seqF (dropF (frzF (callF [] p_need_loop (consA (bS 0) nilA))))
  (seqF (dropF (frzF (callF [] p_need_loop_polynomial (consA (bS 0) (consA (bS 1) nilA)))))
  (seqF (dropF (frzF (callF [] p_need_rounds (consA (bS 2) nilA))))
  (seqF (par2OO 3 4 (makeF "Course" p_Course__init (consF (varF 0) nilF)) (callF [] p_terms_of (consA (bS 1) nilA)))
  (seqF (forSF (rng1 (op2F plusD (varF 2) (cF (.int 1)))) (nameG 5) k_first_zero_0b)
  (retF (cF .non)))))))
def p_first_zero (os : List O) : RF := bodyF [] os (fs_first_zero (startE ["loop", "polynomial", "most", "course", "told", "k"] os))
def k__law_same_0t (r__law_same : List O → RF) : FE Bool :=
  (notF (testF (frzF (callF [] r__law_same (consA (bD (b2F ixD (bS 0) (varF 2))) (consA (bD (b2F ixD (bS 1) (varF 2))) nilA))))))
def k__law_same_0e (r__law_same : List O → RF) : FE D :=
  (varF 2)
def fs__law_same (r__law_same : List O → RF) : FS :=
  (seqF (ifSF (orF (testF (b1F (isNoneD false) (bS 1))) (testF (b1F (isNoneD false) (bS 0)))) (retF (andVF (b1F (isNoneD false) (bS 0)) (b1F (isNoneD false) (bS 1)))) nextF)
  (seqF (ifSF (testF (b1F (isiD "tuple") (bS 1))) (seqF (ifSF (orF (notF (testF (b1F (isiD "tuple") (bS 0)))) (testF (op2F (eqD true) (b1F lenD (bS 0)) (b1F lenD (bS 1))))) (retF (cF (.bl false))) nextF)
  (retF (op2F (eqD false) (frzF (lcF (rng1 (b1F lenD (bS 1))) [2] (nameG 2) (k__law_same_0t r__law_same) (k__law_same_0e r__law_same))) (frzF (lstF nilF))))) nextF)
  (seqF (ifSF (orF (testF (op2F (eqD true) (b1F (isiD "bool") (bS 0)) (b1F (isiD "bool") (bS 1)))) (testF (op2F (eqD true) (b1F (isiD "str") (bS 0)) (b1F (isiD "str") (bS 1))))) (retF (cF (.bl false))) nextF)
  (retF (andVF (b1F (isi2D "int" "str") (bS 0)) (op2F (eqD false) (varF 0) (varF 1)))))))
def pr__law_same : Nat → List O → RF
  | 0, _ => .stuck
  | n + 1, os => bodyF [] os (fs__law_same (pr__law_same n) (startE ["found", "due", "k"] os))
def p__law_same : List O → RF := pr__law_same 14
def fs__law_plus : FS :=
  (retF (frzF (callF [] p__law_low (consA (bD (op2F plusD (op2F mulD (b2F ixD (bS 0) (cF (.int 0))) (b2F ixD (bS 1) (cF (.int 1)))) (op2F mulD (b2F ixD (bS 1) (cF (.int 0))) (b2F ixD (bS 0) (cF (.int 1)))))) (consA (bD (op2F mulD (b2F ixD (bS 0) (cF (.int 1))) (b2F ixD (bS 1) (cF (.int 1))))) nilA)))))
def p__law_plus (os : List O) : RF := bodyF [] os (fs__law_plus (startE ["r", "s"] os))
def k__law_poly_0e : FE D :=
  (tupF (consF (varF 2) (consF (b2F getTb (bS 0) (varF 2)) nilF)))
def k__law_poly_1t : FE Bool :=
  (testF (op2F (eqD true) (b2F ixD (bD (b2F getTb (bS 0) (varF 2))) (cF (.int 0))) (cF (.int 0))))
def k__law_poly_1e : FE D :=
  (tupF (consF (b1F sumSD (bS 2)) (consF (varF 2) nilF)))
def fs__law_poly : FS :=
  (seqF (setF 1 (frzF (sortLF (frzF (lcF (keysTF (varF 0)) [2] (nameG 2) k__law_poly_1t k__law_poly_1e)))))
  (retF (b1F tupleD (bD (frzF (lcF (itA (frzF (revLF (bS 1)))) [3, 2] (tupG 2 (consG (nameG 3) (consG (nameG 2) nilG))) yesF k__law_poly_0e))))))
def p__law_poly (os : List O) : RF := bodyF [] os (fs__law_poly (startE ["table", "rows", "e", "degree"] os))
def k__law_sum_0b : FS :=
  (putTF (bS 2) (varF 3) (frzF (callF [] p__law_plus (consA (bD (get2TF (bS 2) (varF 3) (tupF (consF (cF (.int 0)) (consF (cF (.int 1)) nilF))))) (consA (bS 4) nilA)))))
def fs__law_sum : FS :=
  (seqF (setOF 2 (dictPF (bS 0)))
  (seqF (forSF (itA (varF 1)) (tupG 2 (consG (nameG 3) (consG (nameG 4) nilG))) k__law_sum_0b)
  (retF (frzF (callF [] p__law_poly (consA (bD (varFzF 2)) nilA))))))
def p__law_sum (os : List O) : RF := bodyF [] os (fs__law_sum (startE ["p", "q", "table", "e", "r"] os))
def k__law_value_2b : FS :=
  (setF 4 (frzF (callF [] p__law_by (consA (bS 4) (consA (bD (b2F ixD (bS 1) (varF 5))) nilA)))))
def k__law_value_1b : FS :=
  (forSF (rng1 (b2F ixD (bS 3) (varF 5))) (nameG 6) k__law_value_2b)
def k__law_value_0b : FS :=
  (seqF (forSF (rng1 (b1F lenD (bS 3))) (nameG 5) k__law_value_1b)
  (setF 2 (frzF (callF [] p__law_plus (consA (bS 2) (consA (bS 4) nilA))))))
def fs__law_value : FS :=
  (seqF (setF 2 (tupF (consF (cF (.int 0)) (consF (cF (.int 1)) nilF))))
  (seqF (forSF (itA (varF 0)) (tupG 2 (consG (nameG 3) (consG (nameG 4) nilG))) k__law_value_0b)
  (retF (varF 2))))
def p__law_value (os : List O) : RF := bodyF [] os (fs__law_value (startE ["p", "point", "found", "e", "r", "i", "turn"] os))
def fs__law_const : FS :=
  (retF (frzF (callF [] p__law_poly (consA (bD (frzF (dispTF (op2F timesT (tupF (consF (cF (.int 0)) nilF)) (varF 0)) (varF 1)))) nilA))))
def p__law_const (os : List O) : RF := bodyF [] os (fs__law_const (startE ["m", "r"] os))
def fs__law_ratio : FS :=
  (seqF (setF 1 (frzF (callF [0] p__law_take (consA (bS 0) (consA (bD (cF (.int 8))) nilA)))))
  (seqF (ifSF (testF (op2F (ibD fun i j => decide (i < j)) (varF 1) (cF (.int 6)))) (retF (tupF (consF (op2F subD (frzF (callF [0] p__law_take (consA (bS 0) (consA (bD (cF (.int 7))) nilA)))) (cF (.int 3))) (consF (cF (.int 1)) nilF)))) nextF)
  (retF (frzF (callF [] p__law_low (consA (bD (op2F subD (frzF (callF [0] p__law_take (consA (bS 0) (consA (bD (cF (.int 19))) nilA)))) (cF (.int 9)))) (consA (bD (op2F plusD (cF (.int 1)) (frzF (callF [0] p__law_take (consA (bS 0) (consA (bD (cF (.int 4))) nilA)))))) nilA)))))))
def p__law_ratio (os : List O) : RF := bodyF [0] os (fs__law_ratio (startE ["jug", "shape"] os))
def k__law_drawn_1b : FS :=
  (ifSF (testF (op2F (ibD fun i j => decide (j < i)) (varF 1) (cF (.int 0)))) (seqF (setF 8 (frzF (callF [0] p__law_take (consA (bS 0) (consA (bS 1) nilA)))))
  (setItF (bS 6) (varF 8) (op2F plusD (b2F ixD (bS 6) (varF 8)) (cF (.int 1))))) nextF)
def k__law_drawn_0b : FS :=
  (seqF (setOF 6 (repLF (frzF (lstF (consF (cF (.int 0)) nilF))) (varF 1)))
  (seqF (forSF (rng1 (frzF (callF [0] p__law_take (consA (bS 0) (consA (bD (op2F plusD (varF 3) (cF (.int 1)))) nilA))))) (nameG 7) k__law_drawn_1b)
  (putTF (bS 4) (b1F tupleD (bS 6)) (frzF (callF [0] p__law_ratio (consA (bS 0) nilA))))))
def fs__law_drawn : FS :=
  (seqF (setOF 4 newTF)
  (seqF (forSF (rng1 (varF 2)) (nameG 5) k__law_drawn_0b)
  (retF (frzF (callF [] p__law_poly (consA (bD (varFzF 4)) nilA))))))
def p__law_drawn (os : List O) : RF := bodyF [0] os (fs__law_drawn (startE ["jug", "m", "many", "degree", "table", "k", "e", "turn", "i"] os))
def k__law_loop_0e : FE D :=
  (frzF (callF [0] p__law_drawn (consA (bS 0) (consA (bS 1) (consA (bD (op2F plusD (cF (.int 1)) (frzF (callF [0] p__law_take (consA (bS 0) (consA (bD (cF (.int 3))) nilA)))))) (consA (bS 2) nilA))))))
def k__law_loop_1e : FE D :=
  (frzF (callF [0] p__law_ratio (consA (bS 0) nilA)))
def fs__law_loop : FS :=
  (seqF (setF 3 (b1F tupleD (bD (frzF (lcF (rng1 (varF 1)) [4] (nameG 4) yesF k__law_loop_1e)))))
  (retF (tupF (consF (varF 3) (consF (b1F tupleD (bD (frzF (lcF (rng1 (varF 1)) [4] (nameG 4) yesF k__law_loop_0e)))) nilF)))))
def p__law_loop (os : List O) : RF := bodyF [0] os (fs__law_loop (startE ["jug", "n", "degree", "start", "i"] os))
def k__law_after_1e : FE D :=
  (frzF (callF [] p__law_value (consA (bS 4) (consA (bS 2) nilA))))
def k__law_after_0b : FS :=
  (setF 2 (b1F tupleD (bD (frzF (lcF (itA (b2F ixD (bS 0) (cF (.int 1)))) [4] (nameG 4) yesF k__law_after_1e)))))
def fs__law_after : FS :=
  (seqF (setF 2 (b2F ixD (bS 0) (cF (.int 0))))
  (seqF (forSF (rng1 (varF 1)) (nameG 3) k__law_after_0b)
  (retF (varF 2))))
def p__law_after (os : List O) : RF := bodyF [] os (fs__law_after (startE ["loop", "rounds", "point", "turn", "p"] os))
def fs__law_told : FS :=
  (seqF (setF 3 (cF .non))
  (seqF (tryF (setF 3 (frzF (callF [] p_first_zero (consA (bS 0) (consA (bS 1) (consA (bS 2) nilA)))))) [(tbl_BadLoop, (setF 3 (cF (.str "loop")))), (tbl_BadPolynomial, (setF 3 (cF (.str "polynomial")))), (tbl_BadRounds, (setF 3 (cF (.str "rounds")))), (tbl_IdealError, (setF 3 (cF (.str "other"))))])
  (retF (varF 3))))
def p__law_told (os : List O) : RF := bodyF [] os (fs__law_told (startE ["loop", "p", "most", "found"] os))
def k_law_1t : FE Bool :=
  (testF (op2F (eqD false) (frzF (callF [] p__law_value (consA (bS 5) (consA (bD (frzF (callF [] p__law_after (consA (bS 4) (consA (bS 10) nilA))))) nilA)))) (tupF (consF (cF (.int 0)) (consF (cF (.int 1)) nilF)))))
def k_law_1e : FE D :=
  (varF 10)
def k_law_0b : FS :=
  (seqF (setF 3 (op2F plusD (cF (.int 1)) (frzF (callF [0] p__law_take (consA (bS 1) (consA (bD (cF (.int 3))) nilA))))))
  (seqF (setF 4 (frzF (callF [0] p__law_loop (consA (bS 1) (consA (bS 3) (consA (bD (cF (.int 1))) nilA))))))
  (seqF (setF 5 (frzF (callF [0] p__law_drawn (consA (bS 1) (consA (bS 3) (consA (bD (cF (.int 2))) (consA (bD (cF (.int 2))) nilA)))))))
  (seqF (ifSF (testF (op2F (eqD false) (frzF (callF [0] p__law_take (consA (bS 1) (consA (bD (cF (.int 2))) nilA)))) (cF (.int 0)))) (seqF (setF 6 (frzF (callF [] p__law_value (consA (bS 5) (consA (bD (frzF (callF [] p__law_after (consA (bS 4) (consA (bD (frzF (callF [0] p__law_take (consA (bS 1) (consA (bD (cF (.int 12))) nilA))))) nilA))))) nilA)))))
  (setF 5 (frzF (callF [] p__law_sum (consA (bS 5) (consA (bD (frzF (callF [] p__law_const (consA (bS 3) (consA (bD (tupF (consF (op1F (iD fun i => -i) (b2F ixD (bS 6) (cF (.int 0)))) (consF (b2F ixD (bS 6) (cF (.int 1))) nilF)))) nilA))))) nilA)))))) nextF)
  (seqF (setF 7 (frzF (callF [0] p__law_take (consA (bS 1) (consA (bD (cF (.int 21))) nilA)))))
  (seqF (setOF 8 (lcF (rng1 (op2F plusD (varF 7) (cF (.int 1)))) [10] (nameG 10) k_law_1t k_law_1e))
  (seqF (ifSF (notF (testF (frzF (callF [] p__law_same (consA (bD (frzF (callF [] p__law_told (consA (bS 4) (consA (bS 5) (consA (bS 7) nilA)))))) (consA (bD (ifF (testF (op2F (eqD true) (varFzF 8) (frzF (lstF nilF)))) (b2F ixD (bS 8) (cF (.int 0))) (cF .non))) nilA)))))) (retF (cF (.bl false))) nextF)
  (seqF (ifSF (notF (testF (frzF (callF [] p__law_same (consA (bD (frzF (callKF [] p_first_zero (fun {_} => pi_kp_first_zero_0_most_polynomial_loop) 3 nilA (consA (bS 7) (consA (bS 5) (consA (bS 4) nilA)))))) (consA (bD (ifF (testF (op2F (eqD true) (varFzF 8) (frzF (lstF nilF)))) (b2F ixD (bS 8) (cF (.int 0))) (cF .non))) nilA)))))) (retF (cF (.bl false))) nextF)
  (seqF (setF 9 (b2F ixD (bD (frzF (lstF (consF (op1F (iD fun i => -i) (cF (.int 1))) (consF (cF (.int 10001)) (consF (cF .non) (consF (cF (.bl true)) nilF))))))) (frzF (callF [0] p__law_take (consA (bS 1) (consA (bD (cF (.int 4))) nilA))))))
  (ifSF (orF (testF (op2F (eqD true) (frzF (callF [] p__law_told (consA (bS 4) (consA (bS 5) (consA (bS 9) nilA))))) (cF (.str "rounds")))) (orF (testF (op2F (eqD true) (frzF (callF [] p__law_told (consA (bS 4) (consA (bD (cF .non)) (consA (bS 9) nilA))))) (cF (.str "polynomial")))) (testF (op2F (eqD true) (frzF (callF [] p__law_told (consA (bD (tupF nilF)) (consA (bD (cF .non)) (consA (bS 9) nilA))))) (cF (.str "loop")))))) (retF (cF (.bl false))) nextF))))))))))
def fs_law : FS :=
  (seqF (setOF 1 (callF [] p__law_jug (consA (bS 0) nilA)))
  (seqF (forSF (rng1 (op2F plusD (cF (.int 1)) (opNF min2D (consF (b1F lenD (bS 0)) (consF (cF (.int 6)) nilF))))) (nameG 2) k_law_0b)
  (retF (cF (.bl true)))))
def p_law (os : List O) : RF := bodyF [] os (fs_law (startE ["script", "jug", "turn", "n", "loop", "p", "told", "most", "due", "odd", "k"] os))
end
end K74

set_option Elab.async false
set_option linter.all false
set_option maxRecDepth 100000
set_option maxHeartbeats 4000000

namespace K74
open PySem L2 Fx Pg
def top (i : Nat) : Stmt := PySem.Challenge.pw_idealsame_k74_first_zeros_of_loops.main.body.getD i (.Pass ⟨0, 0, 0, 0⟩)
abbrev s_terms_of : Stmt := top 20
theorem sc_terms_of : FnScope ["p"] ["p"] (defScope s_terms_of) := ⟨rfl, rfl, rfl, by decide +kernel, rfl, by decide +kernel, by decide +kernel⟩
abbrev s_lowest : Stmt := top 15
theorem sc_lowest : FnScope ["top", "bottom", "shared"] ["top", "bottom"] (defScope s_lowest) := ⟨rfl, rfl, rfl, by decide +kernel, rfl, by decide +kernel, by decide +kernel⟩
abbrev s_added : Stmt := top 16
theorem sc_added : FnScope ["r", "s"] ["r", "s"] (defScope s_added) := ⟨rfl, rfl, rfl, by decide +kernel, rfl, by decide +kernel, by decide +kernel⟩
abbrev s_multiplied : Stmt := top 17
theorem sc_multiplied : FnScope ["r", "s"] ["r", "s"] (defScope s_multiplied) := ⟨rfl, rfl, rfl, by decide +kernel, rfl, by decide +kernel, by decide +kernel⟩
abbrev s_raised : Stmt := top 18
theorem sc_raised : FnScope ["r", "k", "found", "square"] ["r", "k"] (defScope s_raised) := ⟨rfl, rfl, rfl, by decide +kernel, rfl, by decide +kernel, by decide +kernel⟩
abbrev s_value_at : Stmt := top 21
theorem sc_value_at : FnScope ["p", "point", "found", "e", "r", "i", "k"] ["p", "point"] (defScope s_value_at) := ⟨rfl, rfl, rfl, by decide +kernel, rfl, by decide +kernel, by decide +kernel⟩
abbrev s_is_row : Stmt := top 10
theorem sc_is_row : FnScope ["thing", "least", "most"] ["thing", "least", "most"] (defScope s_is_row) := ⟨rfl, rfl, rfl, by decide +kernel, rfl, by decide +kernel, by decide +kernel⟩
abbrev s_is_int : Stmt := top 8
theorem sc_is_int : FnScope ["thing"] ["thing"] (defScope s_is_int) := ⟨rfl, rfl, rfl, by decide +kernel, rfl, by decide +kernel, by decide +kernel⟩
abbrev s_is_ratio : Stmt := top 23
theorem sc_is_ratio : FnScope ["thing"] ["thing"] (defScope s_is_ratio) := ⟨rfl, rfl, rfl, by decide +kernel, rfl, by decide +kernel, by decide +kernel⟩
abbrev s_are_numbers : Stmt := top 11
theorem sc_are_numbers : FnScope ["thing", "many", "entry"] ["thing", "many"] (defScope s_are_numbers) := ⟨rfl, rfl, rfl, by decide +kernel, rfl, by decide +kernel, by decide +kernel⟩
abbrev s_is_pair_in : Stmt := top 25
theorem sc_is_pair_in : FnScope ["n", "thing"] ["n", "thing"] (defScope s_is_pair_in) := ⟨rfl, rfl, rfl, by decide +kernel, rfl, by decide +kernel, by decide +kernel⟩
abbrev s_is_polynomial_in : Stmt := top 26
theorem sc_is_polynomial_in : FnScope ["n", "thing", "keys", "e", "r", "k", "term"] ["n", "thing"] (defScope s_is_polynomial_in) := ⟨rfl, rfl, rfl, by decide +kernel, rfl, by decide +kernel, by decide +kernel⟩
abbrev s_is_loop : Stmt := top 31
theorem sc_is_loop : FnScope ["thing", "n", "p", "value"] ["thing"] (defScope s_is_loop) := ⟨rfl, rfl, rfl, by decide +kernel, rfl, by decide +kernel, by decide +kernel⟩
abbrev s_need_loop : Stmt := top 32
theorem sc_need_loop : FnScope ["loop"] ["loop"] (defScope s_need_loop) := ⟨rfl, rfl, rfl, by decide +kernel, rfl, by decide +kernel, by decide +kernel⟩
abbrev s_need_loop_polynomial : Stmt := top 33
theorem sc_need_loop_polynomial : FnScope ["loop", "polynomial"] ["loop", "polynomial"] (defScope s_need_loop_polynomial) := ⟨rfl, rfl, rfl, by decide +kernel, rfl, by decide +kernel, by decide +kernel⟩
abbrev s_within : Stmt := top 9
theorem sc_within : FnScope ["thing", "least", "most"] ["thing", "least", "most"] (defScope s_within) := ⟨rfl, rfl, rfl, by decide +kernel, rfl, by decide +kernel, by decide +kernel⟩
abbrev s_need_rounds : Stmt := top 34
theorem sc_need_rounds : FnScope ["rounds"] ["rounds"] (defScope s_need_rounds) := ⟨rfl, rfl, rfl, by decide +kernel, rfl, by decide +kernel, by decide +kernel⟩
abbrev s_Course__init : Stmt := inClass (top 35) 0
theorem sc_Course__init : FnScope ["self", "loop", "p"] ["self", "loop"] (defScope s_Course__init) := ⟨rfl, rfl, rfl, by decide +kernel, rfl, by decide +kernel, by decide +kernel⟩
abbrev s_Course__go : Stmt := inClass (top 35) 1
theorem sc_Course__go : FnScope ["self", "found", "top", "bottom", "terms"] ["self"] (defScope s_Course__go) := ⟨rfl, rfl, rfl, by decide +kernel, rfl, by decide +kernel, by decide +kernel⟩
abbrev s_first_zero : Stmt := top 36
theorem sc_first_zero : FnScope ["loop", "polynomial", "most", "course", "told", "k"] ["loop", "polynomial", "most"] (defScope s_first_zero) := ⟨rfl, rfl, rfl, by decide +kernel, rfl, by decide +kernel, by decide +kernel⟩
abbrev s__law_jug : Stmt := top 38
theorem sc__law_jug : FnScope ["script"] ["script"] (defScope s__law_jug) := ⟨rfl, rfl, rfl, by decide +kernel, rfl, by decide +kernel, by decide +kernel⟩
abbrev s__law_take : Stmt := top 39
theorem sc__law_take : FnScope ["jug", "many", "at", "cell", "got"] ["jug", "many"] (defScope s__law_take) := ⟨rfl, rfl, rfl, by decide +kernel, rfl, by decide +kernel, by decide +kernel⟩
abbrev s__law_same : Stmt := top 40
theorem sc__law_same : FnScope ["found", "due", "k"] ["found", "due"] (defScope s__law_same) := ⟨rfl, rfl, rfl, by decide +kernel, rfl, by decide +kernel, by decide +kernel⟩
abbrev s__law_low : Stmt := top 41
theorem sc__law_low : FnScope ["top", "bottom", "one", "other"] ["top", "bottom"] (defScope s__law_low) := ⟨rfl, rfl, rfl, by decide +kernel, rfl, by decide +kernel, by decide +kernel⟩
abbrev s__law_plus : Stmt := top 42
theorem sc__law_plus : FnScope ["r", "s"] ["r", "s"] (defScope s__law_plus) := ⟨rfl, rfl, rfl, by decide +kernel, rfl, by decide +kernel, by decide +kernel⟩
abbrev s__law_poly : Stmt := top 44
theorem sc__law_poly : FnScope ["table", "rows", "e", "degree"] ["table"] (defScope s__law_poly) := ⟨rfl, rfl, rfl, by decide +kernel, rfl, by decide +kernel, by decide +kernel⟩
abbrev s__law_sum : Stmt := top 45
theorem sc__law_sum : FnScope ["p", "q", "table", "e", "r"] ["p", "q"] (defScope s__law_sum) := ⟨rfl, rfl, rfl, by decide +kernel, rfl, by decide +kernel, by decide +kernel⟩
abbrev s__law_by : Stmt := top 43
theorem sc__law_by : FnScope ["r", "s"] ["r", "s"] (defScope s__law_by) := ⟨rfl, rfl, rfl, by decide +kernel, rfl, by decide +kernel, by decide +kernel⟩
abbrev s__law_value : Stmt := top 46
theorem sc__law_value : FnScope ["p", "point", "found", "e", "r", "i", "turn"] ["p", "point"] (defScope s__law_value) := ⟨rfl, rfl, rfl, by decide +kernel, rfl, by decide +kernel, by decide +kernel⟩
abbrev s__law_const : Stmt := top 47
theorem sc__law_const : FnScope ["m", "r"] ["m", "r"] (defScope s__law_const) := ⟨rfl, rfl, rfl, by decide +kernel, rfl, by decide +kernel, by decide +kernel⟩
abbrev s__law_ratio : Stmt := top 48
theorem sc__law_ratio : FnScope ["jug", "shape"] ["jug"] (defScope s__law_ratio) := ⟨rfl, rfl, rfl, by decide +kernel, rfl, by decide +kernel, by decide +kernel⟩
abbrev s__law_drawn : Stmt := top 49
theorem sc__law_drawn : FnScope ["jug", "m", "many", "degree", "table", "k", "e", "turn", "i"] ["jug", "m", "many", "degree"] (defScope s__law_drawn) := ⟨rfl, rfl, rfl, by decide +kernel, rfl, by decide +kernel, by decide +kernel⟩
abbrev s__law_loop : Stmt := top 50
theorem sc__law_loop : FnScope ["jug", "n", "degree", "start", "i"] ["jug", "n", "degree"] (defScope s__law_loop) := ⟨rfl, rfl, rfl, by decide +kernel, rfl, by decide +kernel, by decide +kernel⟩
abbrev s__law_after : Stmt := top 51
theorem sc__law_after : FnScope ["loop", "rounds", "point", "turn", "p"] ["loop", "rounds"] (defScope s__law_after) := ⟨rfl, rfl, rfl, by decide +kernel, rfl, by decide +kernel, by decide +kernel⟩
abbrev s__law_told : Stmt := top 52
theorem sc__law_told : FnScope ["loop", "p", "most", "found"] ["loop", "p", "most"] (defScope s__law_told) := ⟨rfl, rfl, rfl, by decide +kernel, rfl, by decide +kernel, by decide +kernel⟩
abbrev s_law : Stmt := top 53
theorem sc_law : FnScope ["script", "jug", "turn", "n", "loop", "p", "told", "most", "due", "odd", "k"] ["script"] (defScope s_law) := ⟨rfl, rfl, rfl, by decide +kernel, rfl, by decide +kernel, by decide +kernel⟩
section
variable [FnSem] {P : Program} {w : World} {K : PySem.W.Frag} {mg : Str → Option Value} {base : Heap}
theorem K_kp_first_zero_0_most_polynomial_loop {f : Addr} {fd : FuncData} (F : Fun K "first_zero" "first_zero" s_first_zero f fd) : KPerm fd ["loop", "polynomial", "most"] ["most", "polynomial", "loop"] (fun {_} => pi_kp_first_zero_0_most_polynomial_loop) := by
  obtain ⟨oc, od, kV, doc, pm, an, cdv, ct, osl, rfl, _, _⟩ := F.ex
  refine ⟨fun s us ws hl => ?_, @fun _ _ R _ _ _ _ h1 h2 => permG_rel h1 h2⟩
  have hh := permG_len hl (by decide)
  match us, ws, hh, hl with
  | [], [_, _, _], _, _ => exact .of_eq rfl
theorem ok_terms_of {f : Addr} {fd : FuncData} (F : Fun K "terms_of" "terms_of" s_terms_of f fd) (HW : w = FnTabs.w) (z_dict : mg "dict" = none) :
    FnF P w K mg base 1 f fd ["p"] [] p_terms_of :=
  fn_ok F sc_terms_of fun cdv A outer s H E hr tk hp => by
  have hu := hr.units
  exact ⟨fs_terms_of, (oks_oneS (ok_ret (OkO.toD (ok_dictP HW rfl hu (by rfl) z_dict (okb_var 0))))), fun _ _ _ _ => rfl⟩
theorem ok_lowest {f : Addr} {fd : FuncData} (F : Fun K "lowest" "lowest" s_lowest f fd) (gg_gcd : mg "gcd" = some (.builtin "math.gcd")) :
    FnF P w K mg base 1 f fd ["top", "bottom"] [] p_lowest :=
  fn_ok F sc_lowest fun cdv A outer s H E hr tk hp => by
  have hu := hr.units
  exact ⟨fs_lowest, (oks_consS (ok_set (i := 2) (io := []) sc_lowest.nd rfl (Or.inl rfl) (ok_gcd (by rfl) gg_gcd (oks_cons (ok_var 0) (oks_cons (ok_var 1) oks_nil))))
  (oks_consS (ok_ifS (okt_cmp op_lt v2_ib (ok_var 1) ok_int (nomark _)) (oks_oneS (ok_set (i := 2) (io := []) sc_lowest.nd rfl (Or.inl rfl) (ok_neg (ok_var 2)))) oks_nilS)
  (oks_oneS (ok_ret (ok_tup (oks_cons (ok_fdiv (ok_var 0) (ok_var 2)) (oks_cons (ok_fdiv (ok_var 1) (ok_var 2)) oks_nil))))))), fun _ _ _ _ => rfl⟩
theorem ok_added {f : Addr} {fd : FuncData} (F : Fun K "added" "added" s_added f fd) {f_lowest : Addr} {d_lowest : FuncData} (C_lowest : Cal P w K mg base 1 "lowest" f_lowest d_lowest ["top", "bottom"] [] p_lowest) :
    FnF P w K mg base 2 f fd ["r", "s"] [] p_added :=
  fn_ok F sc_added fun cdv A outer s H E hr tk hp => by
  have hu := hr.units
  exact ⟨fs_added, (oks_consS (ok_ifS (okt_w (okw_and (okt_cmp (op_eqD hu) v2_eq (ok_ix (okb_var 0) ok_int) ok_int (nomark _)) (okw_and1 (okt_cmp (op_eqD hu) v2_eq (ok_ix (okb_var 1) ok_int) ok_int (nomark _))))) (oks_oneS (ok_ret (ok_tup (oks_cons (ok_plus (ok_ix (okb_var 0) ok_int) (ok_ix (okb_var 1) ok_int)) (oks_cons ok_int oks_nil))))) oks_nilS)
  (oks_oneS (ok_ret (OkO.toD (ok_cal C_lowest tk hr (by rfl) (oka_cons (OkD.toB (ok_plus (ok_mul (ok_ix (okb_var 0) ok_int) (ok_ix (okb_var 1) ok_int)) (ok_mul (ok_ix (okb_var 1) ok_int) (ok_ix (okb_var 0) ok_int)))) (oka_cons (OkD.toB (ok_mul (ok_ix (okb_var 0) ok_int) (ok_ix (okb_var 1) ok_int))) oka_nil)) (consA_len (consA_len nilA_len))))))), fun _ _ _ _ => rfl⟩
theorem ok_multiplied {f : Addr} {fd : FuncData} (F : Fun K "multiplied" "multiplied" s_multiplied f fd) {f_lowest : Addr} {d_lowest : FuncData} (C_lowest : Cal P w K mg base 1 "lowest" f_lowest d_lowest ["top", "bottom"] [] p_lowest) :
    FnF P w K mg base 2 f fd ["r", "s"] [] p_multiplied :=
  fn_ok F sc_multiplied fun cdv A outer s H E hr tk hp => by
  have hu := hr.units
  exact ⟨fs_multiplied, (oks_consS (ok_ifS (okt_w (okw_and (okt_cmp (op_eqD hu) v2_eq (ok_ix (okb_var 0) ok_int) ok_int (nomark _)) (okw_and1 (okt_cmp (op_eqD hu) v2_eq (ok_ix (okb_var 1) ok_int) ok_int (nomark _))))) (oks_oneS (ok_ret (ok_tup (oks_cons (ok_mul (ok_ix (okb_var 0) ok_int) (ok_ix (okb_var 1) ok_int)) (oks_cons ok_int oks_nil))))) oks_nilS)
  (oks_oneS (ok_ret (OkO.toD (ok_cal C_lowest tk hr (by rfl) (oka_cons (OkD.toB (ok_mul (ok_ix (okb_var 0) ok_int) (ok_ix (okb_var 1) ok_int))) (oka_cons (OkD.toB (ok_mul (ok_ix (okb_var 0) ok_int) (ok_ix (okb_var 1) ok_int))) oka_nil)) (consA_len (consA_len nilA_len))))))), fun _ _ _ _ => rfl⟩
theorem ok_raised {f : Addr} {fd : FuncData} (F : Fun K "raised" "raised" s_raised f fd) {a_ONE : V} {u_ONE : Value} (gc_ONE : mg "ONE" = some u_ONE) (rc_ONE : ∀ G, Rp K G a_ONE c_ONE) (rv_ONE : RelV a_ONE u_ONE) :
    FnF P w K mg base 1 f fd ["r", "k"] [] p_raised :=
  fn_ok F sc_raised fun cdv A outer s H E hr tk hp => by
  have hu := hr.units
  exact ⟨fs_raised, (oks_consS (ok_par2 (i := 2) (j := 3) (io := []) rfl sc_raised.nd rfl rfl (by decide) rfl rfl rfl (oks_cons (ok_glob (by rfl) gc_ONE rv_ONE rc_ONE) (oks_cons (ok_var 0) oks_nil)) (by rfl))
  (oks_consS (ok_while hp (okt_cmp op_gt v2_ib (ok_var 1) ok_int (nomark _)) (oks_consS (ok_ifS (okt_cmp (op_eqD hu) v2_eq (ok_mod (ok_var 1) ok_int) ok_int (nomark _)) (oks_oneS (ok_set (i := 2) (io := []) sc_raised.nd rfl (Or.inl rfl) (ok_tup (oks_cons (ok_mul (ok_ix (okb_var 2) ok_int) (ok_ix (okb_var 3) ok_int)) (oks_cons (ok_mul (ok_ix (okb_var 2) ok_int) (ok_ix (okb_var 3) ok_int)) oks_nil))))) oks_nilS)
  (oks_consS (ok_aug (i := 1) (io := []) sc_raised.nd rfl (Or.inl rfl) o_ifdiv v2_iic ok_int)
  (oks_oneS (ok_ifS (okt_cmp op_gt v2_ib (ok_var 1) ok_int (nomark _)) (oks_oneS (ok_set (i := 3) (io := []) sc_raised.nd rfl (Or.inl rfl) (ok_tup (oks_cons (ok_mul (ok_ix (okb_var 3) ok_int) (ok_ix (okb_var 3) ok_int)) (oks_cons (ok_mul (ok_ix (okb_var 3) ok_int) (ok_ix (okb_var 3) ok_int)) oks_nil))))) oks_nilS)))))
  (oks_oneS (ok_ret (ok_var 2))))), fun _ _ _ _ => rfl⟩
theorem ok_value_at {f : Addr} {fd : FuncData} (F : Fun K "value_at" "value_at" s_value_at f fd) {f_added : Addr} {d_added : FuncData} (C_added : Cal P w K mg base 2 "added" f_added d_added ["r", "s"] [] p_added) {f_multiplied : Addr} {d_multiplied : FuncData} (C_multiplied : Cal P w K mg base 2 "multiplied" f_multiplied d_multiplied ["r", "s"] [] p_multiplied) {f_raised : Addr} {d_raised : FuncData} (C_raised : Cal P w K mg base 1 "raised" f_raised d_raised ["r", "k"] [] p_raised) (HW : w = FnTabs.w) {a_ZERO : V} {u_ZERO : Value} (gc_ZERO : mg "ZERO" = some u_ZERO) (z_enumerate : mg "enumerate" = none) (rc_ZERO : ∀ G, Rp K G a_ZERO c_ZERO) (rv_ZERO : RelV a_ZERO u_ZERO) :
    FnF P w K mg base 3 f fd ["p", "point"] [] p_value_at :=
  fn_ok F sc_value_at fun cdv A outer s H E hr tk hp => by
  have hu := hr.units
  exact ⟨fs_value_at, (oks_consS (ok_set (i := 2) (io := []) sc_value_at.nd rfl (Or.inl rfl) (ok_glob (by rfl) gc_ZERO rv_ZERO rc_ZERO))
  (oks_consS (ok_for hp rfl (oki_itemsT HW (ok_var 0)) (okg_tup rfl (okg_cons (okg_name (i := 3) (io := []) sc_value_at.nd rfl (Or.inl rfl)) (okg_cons (okg_name (i := 4) (io := []) sc_value_at.nd rfl (Or.inl rfl)) okg_nil))) (oks_consS (ok_for hp rfl (oki_enumT (by rfl) z_enumerate (oks_cons (ok_var 3) oks_nil)) (okg_tup rfl (okg_cons (okg_name (i := 5) (io := []) sc_value_at.nd rfl (Or.inl rfl)) (okg_cons (okg_name (i := 6) (io := []) sc_value_at.nd rfl (Or.inl rfl)) okg_nil))) (oks_oneS (ok_ifS (okt_cmp op_gt v2_ib (ok_var 6) ok_int (nomark _)) (oks_oneS (ok_set (i := 4) (io := []) sc_value_at.nd rfl (Or.inl rfl) (OkO.toD (ok_cal C_multiplied tk hr (by rfl) (oka_cons (okb_var 4) (oka_cons (OkD.toB (OkO.toD (ok_cal C_raised tk hr (by rfl) (oka_cons (OkD.toB (ok_ix (okb_var 1) (ok_var 5))) (oka_cons (okb_var 6) oka_nil)) (consA_len (consA_len nilA_len))))) oka_nil)) (consA_len (consA_len nilA_len)))))) oks_nilS)))
  (oks_oneS (ok_set (i := 2) (io := []) sc_value_at.nd rfl (Or.inl rfl) (OkO.toD (ok_cal C_added tk hr (by rfl) (oka_cons (okb_var 2) (oka_cons (okb_var 4) oka_nil)) (consA_len (consA_len nilA_len))))))))
  (oks_oneS (ok_ret (ok_var 2))))), fun _ _ _ _ => rfl⟩
theorem ok_is_row {f : Addr} {fd : FuncData} (F : Fun K "is_row" "is_row" s_is_row f fd) (z_isinstance : mg "isinstance" = none) (z_len : mg "len" = none) (z_tuple : mg "tuple" = none) :
    FnF P w K mg base 1 f fd ["thing", "least", "most"] [] p_is_row :=
  fn_ok F sc_is_row fun cdv A outer s H E hr tk hp => by
  have hu := hr.units
  exact ⟨fs_is_row, (oks_oneS (ok_ret (ok_and (ok_isi okT_tuple (by rfl) z_isinstance (by rfl) z_tuple (by decide +kernel) (okb_var 0)) (ok_one (ok_chain op_le v2_ib op_le v2_ib (ok_var 1) (ok_len (by rfl) z_len (okb_var 0)) (ok_var 2)))))), fun _ _ _ _ => rfl⟩
theorem ok_is_int {f : Addr} {fd : FuncData} (F : Fun K "is_int" "is_int" s_is_int f fd) (z_bool : mg "bool" = none) (z_int : mg "int" = none) (z_isinstance : mg "isinstance" = none) :
    FnF P w K mg base 1 f fd ["thing"] [] p_is_int :=
  fn_ok F sc_is_int fun cdv A outer s H E hr tk hp => by
  have hu := hr.units
  exact ⟨fs_is_int, (oks_oneS (ok_ret (ok_and (ok_isi okT_int (by rfl) z_isinstance (by rfl) z_int (by decide +kernel) (okb_var 0)) (ok_one (ok_not (ok_isi okT_bool (by rfl) z_isinstance (by rfl) z_bool (by decide +kernel) (okb_var 0))))))), fun _ _ _ _ => rfl⟩
theorem ok_is_ratio {f : Addr} {fd : FuncData} (F : Fun K "is_ratio" "is_ratio" s_is_ratio f fd) {f_is_int : Addr} {d_is_int : FuncData} (C_is_int : Cal P w K mg base 1 "is_int" f_is_int d_is_int ["thing"] [] p_is_int) {f_is_row : Addr} {d_is_row : FuncData} (C_is_row : Cal P w K mg base 1 "is_row" f_is_row d_is_row ["thing", "least", "most"] [] p_is_row) (gg_gcd : mg "gcd" = some (.builtin "math.gcd")) :
    FnF P w K mg base 2 f fd ["thing"] [] p_is_ratio :=
  fn_ok F sc_is_ratio fun cdv A outer s H E hr tk hp => by
  have hu := hr.units
  exact ⟨fs_is_ratio, (oks_consS (ok_ifS (okt_w (okw_or (okt_not (okt_val (OkO.toD (ok_cal C_is_row tk hr (by rfl) (oka_cons (okb_var 0) (oka_cons (OkD.toB ok_int) (oka_cons (OkD.toB ok_int) oka_nil))) (consA_len (consA_len (consA_len nilA_len))))))) (okw_or (okt_not (okt_val (OkO.toD (ok_cal C_is_int tk hr (by rfl) (oka_cons (OkD.toB (ok_ix (okb_var 0) ok_int)) oka_nil) (consA_len nilA_len))))) (okw_or1 (okt_not (okt_val (OkO.toD (ok_cal C_is_int tk hr (by rfl) (oka_cons (OkD.toB (ok_ix (okb_var 0) ok_int)) oka_nil) (consA_len nilA_len))))))))) (oks_oneS (ok_ret ok_bl)) oks_nilS)
  (oks_oneS (ok_ret (ok_and (ok_cmp op_gt v2_ib (ok_ix (okb_var 0) ok_int) ok_int (nomark _)) (ok_one (ok_cmp (op_eqD hu) v2_eq (ok_gcd (by rfl) gg_gcd (oks_cons (ok_ix (okb_var 0) ok_int) (oks_cons (ok_ix (okb_var 0) ok_int) oks_nil))) ok_int (nomark _))))))), fun _ _ _ _ => rfl⟩
theorem ok_are_numbers {f : Addr} {fd : FuncData} (F : Fun K "are_numbers" "are_numbers" s_are_numbers f fd) {f_is_int : Addr} {d_is_int : FuncData} (C_is_int : Cal P w K mg base 1 "is_int" f_is_int d_is_int ["thing"] [] p_is_int) {f_is_row : Addr} {d_is_row : FuncData} (C_is_row : Cal P w K mg base 1 "is_row" f_is_row d_is_row ["thing", "least", "most"] [] p_is_row) (z_all : mg "all" = none) :
    FnF P w K mg base 2 f fd ["thing", "many"] [] p_are_numbers :=
  fn_ok F sc_are_numbers fun cdv A outer s H E hr tk hp => by
  have hu := hr.units
  exact ⟨fs_are_numbers, (oks_oneS (ok_ret (ok_and (OkO.toD (ok_cal C_is_row tk hr (by rfl) (oka_cons (okb_var 0) (oka_cons (okb_var 1) (oka_cons (OkD.toB (ok_var 1)) oka_nil))) (consA_len (consA_len (consA_len nilA_len))))) (ok_one (ok_all rfl (by rfl) z_all (OkD.toB (OkO.toD (ok_lc (own := [("entry", 2)]) (io := [0, 1]) rfl sc_are_numbers.nd (oki_any (ok_var 0)) (blkOk_by (own := [("entry", 2)]) (N := ["thing", "many", "entry"]) (sc := defScope s_are_numbers) (by decide +kernel)) (show ∀ i : Nat, i < 3 → i ∈ [2] ∨ i ∈ [0, 1] by decide +kernel) (fun _ _ _ _ _ => (okg_name (i := 2) (io := [0, 1]) sc_are_numbers.nd rfl (Or.inl rfl))) (fun _ _ _ _ _ => okts_nil) (fun _ _ _ _ _ => (ok_and (OkO.toD (ok_cal C_is_int takes0 hr (by rfl) (oka_cons (okb_var 2) oka_nil) (consA_len nilA_len))) (ok_one (ok_cmp op_ge v2_ib (ok_var 2) ok_int (nomark _))))))))))))), fun _ _ _ _ => rfl⟩
theorem ok_is_pair_in {f : Addr} {fd : FuncData} (F : Fun K "is_pair_in" "is_pair_in" s_is_pair_in f fd) {f_are_numbers : Addr} {d_are_numbers : FuncData} (C_are_numbers : Cal P w K mg base 2 "are_numbers" f_are_numbers d_are_numbers ["thing", "many"] [] p_are_numbers) {f_is_ratio : Addr} {d_is_ratio : FuncData} (C_is_ratio : Cal P w K mg base 2 "is_ratio" f_is_ratio d_is_ratio ["thing"] [] p_is_ratio) {f_is_row : Addr} {d_is_row : FuncData} (C_is_row : Cal P w K mg base 1 "is_row" f_is_row d_is_row ["thing", "least", "most"] [] p_is_row) :
    FnF P w K mg base 3 f fd ["n", "thing"] [] p_is_pair_in :=
  fn_ok F sc_is_pair_in fun cdv A outer s H E hr tk hp => by
  have hu := hr.units
  exact ⟨fs_is_pair_in, (oks_oneS (ok_ret (ok_and (OkO.toD (ok_cal C_is_row tk hr (by rfl) (oka_cons (okb_var 1) (oka_cons (OkD.toB ok_int) (oka_cons (OkD.toB ok_int) oka_nil))) (consA_len (consA_len (consA_len nilA_len))))) (ok_and (OkO.toD (ok_cal C_are_numbers tk hr (by rfl) (oka_cons (OkD.toB (ok_ix (okb_var 1) ok_int)) (oka_cons (okb_var 0) oka_nil)) (consA_len (consA_len nilA_len)))) (ok_one (OkO.toD (ok_cal C_is_ratio tk hr (by rfl) (oka_cons (OkD.toB (ok_ix (okb_var 1) ok_int)) oka_nil) (consA_len nilA_len)))))))), fun _ _ _ _ => rfl⟩
theorem ok_is_polynomial_in {f : Addr} {fd : FuncData} (F : Fun K "is_polynomial_in" "is_polynomial_in" s_is_polynomial_in f fd) {f_is_pair_in : Addr} {d_is_pair_in : FuncData} (C_is_pair_in : Cal P w K mg base 3 "is_pair_in" f_is_pair_in d_is_pair_in ["n", "thing"] [] p_is_pair_in) {a_ZERO : V} {u_ZERO : Value} (gc_ZERO : mg "ZERO" = some u_ZERO) (z_all : mg "all" = none) (z_isinstance : mg "isinstance" = none) (z_len : mg "len" = none) (z_range : mg "range" = none) (z_sum : mg "sum" = none) (z_tuple : mg "tuple" = none) (rc_ZERO : ∀ G, Rp K G a_ZERO c_ZERO) (rv_ZERO : RelV a_ZERO u_ZERO) :
    FnF P w K mg base 4 f fd ["n", "thing"] [] p_is_polynomial_in :=
  fn_ok F sc_is_polynomial_in fun cdv A outer s H E hr tk hp => by
  have hu := hr.units
  exact ⟨fs_is_polynomial_in, (oks_consS (ok_ifS (okt_w (okw_or (okt_not (okt_val (ok_isi okT_tuple (by rfl) z_isinstance (by rfl) z_tuple (by decide +kernel) (okb_var 1)))) (okw_or1 (okt_not (okt_val (ok_all rfl (by rfl) z_all (OkD.toB (OkO.toD (ok_lc (own := [("term", 6)]) (io := [0, 1, 2, 3, 4, 5]) rfl sc_is_polynomial_in.nd (oki_any (ok_var 1)) (blkOk_by (own := [("term", 6)]) (N := ["n", "thing", "keys", "e", "r", "k", "term"]) (sc := defScope s_is_polynomial_in) (by decide +kernel)) (show ∀ i : Nat, i < 7 → i ∈ [6] ∨ i ∈ [0, 1, 2, 3, 4, 5] by decide +kernel) (fun _ _ _ _ _ => (okg_name (i := 6) (io := [0, 1, 2, 3, 4, 5]) sc_is_polynomial_in.nd rfl (Or.inl rfl))) (fun _ _ _ _ _ => okts_nil) (fun _ _ _ _ _ => (ok_and (OkO.toD (ok_cal C_is_pair_in takes0 hr (by rfl) (oka_cons (okb_var 0) (oka_cons (okb_var 6) oka_nil)) (consA_len (consA_len nilA_len)))) (ok_one (ok_cmp (op_neD hu) v2_ne (ok_ix (okb_var 6) ok_int) (ok_glob (by rfl) gc_ZERO rv_ZERO rc_ZERO) (nomark _)))))))))))))) (oks_oneS (ok_ret ok_bl)) oks_nilS)
  (oks_consS (ok_set (i := 2) (io := []) sc_is_polynomial_in.nd rfl (Or.inr rfl) (OkO.toD (ok_lc (own := [("e", 3), ("r", 4)]) (io := [0, 1, 2, 5, 6]) rfl sc_is_polynomial_in.nd (oki_any (ok_var 1)) (blkOk_by (own := [("e", 3), ("r", 4)]) (N := ["n", "thing", "keys", "e", "r", "k", "term"]) (sc := defScope s_is_polynomial_in) (by decide +kernel)) (show ∀ i : Nat, i < 7 → i ∈ [3, 4] ∨ i ∈ [0, 1, 2, 5, 6] by decide +kernel) (fun _ _ _ _ _ => (okg_tup rfl (okg_cons (okg_name (i := 3) (io := [0, 1, 2, 5, 6]) sc_is_polynomial_in.nd rfl (Or.inl rfl)) (okg_cons (okg_name (i := 4) (io := [0, 1, 2, 5, 6]) sc_is_polynomial_in.nd rfl (Or.inl rfl)) okg_nil)))) (fun _ _ _ _ _ => okts_nil) (fun _ _ _ _ _ => (ok_tup (oks_cons (ok_sumS rfl (by rfl) z_sum (okb_var 3)) (oks_cons (ok_var 3) oks_nil)))))))
  (oks_oneS (ok_ret (ok_all rfl (by rfl) z_all (OkD.toB (OkO.toD (ok_lc (own := [("k", 5)]) (io := [0, 1, 2, 3, 4, 6]) rfl sc_is_polynomial_in.nd (oki_range1 (by rfl) z_range (ok_sub (ok_len (by rfl) z_len (okb_var 2)) ok_int)) (blkOk_by (own := [("k", 5)]) (N := ["n", "thing", "keys", "e", "r", "k", "term"]) (sc := defScope s_is_polynomial_in) (by decide +kernel)) (show ∀ i : Nat, i < 7 → i ∈ [5] ∨ i ∈ [0, 1, 2, 3, 4, 6] by decide +kernel) (fun _ _ _ _ _ => (okg_name (i := 5) (io := [0, 1, 2, 3, 4, 6]) sc_is_polynomial_in.nd rfl (Or.inl rfl))) (fun _ _ _ _ _ => okts_nil) (fun _ _ _ _ _ => (ok_cmp (op_gtD hu) v2_cmpD (ok_ix (okb_var 2) (ok_var 5)) (ok_ix (okb_var 2) (ok_plus (ok_var 5) ok_int)) (nomark _))))))))))), fun _ _ _ _ => rfl⟩
theorem ok_is_loop {f : Addr} {fd : FuncData} (F : Fun K "is_loop" "is_loop" s_is_loop f fd) {f_is_polynomial_in : Addr} {d_is_polynomial_in : FuncData} (C_is_polynomial_in : Cal P w K mg base 4 "is_polynomial_in" f_is_polynomial_in d_is_polynomial_in ["n", "thing"] [] p_is_polynomial_in) {f_is_ratio : Addr} {d_is_ratio : FuncData} (C_is_ratio : Cal P w K mg base 2 "is_ratio" f_is_ratio d_is_ratio ["thing"] [] p_is_ratio) {f_is_row : Addr} {d_is_row : FuncData} (C_is_row : Cal P w K mg base 1 "is_row" f_is_row d_is_row ["thing", "least", "most"] [] p_is_row) {a_MOST_VARIABLES : V} {u_MOST_VARIABLES : Value} (gc_MOST_VARIABLES : mg "MOST_VARIABLES" = some u_MOST_VARIABLES) (z_all : mg "all" = none) (z_len : mg "len" = none) (rc_MOST_VARIABLES : ∀ G, Rp K G a_MOST_VARIABLES c_MOST_VARIABLES) (rv_MOST_VARIABLES : RelV a_MOST_VARIABLES u_MOST_VARIABLES) :
    FnF P w K mg base 5 f fd ["thing"] [] p_is_loop :=
  fn_ok F sc_is_loop fun cdv A outer s H E hr tk hp => by
  have hu := hr.units
  exact ⟨fs_is_loop, (oks_consS (ok_ifS (okt_w (okw_or (okt_not (okt_val (OkO.toD (ok_cal C_is_row tk hr (by rfl) (oka_cons (okb_var 0) (oka_cons (OkD.toB ok_int) (oka_cons (OkD.toB ok_int) oka_nil))) (consA_len (consA_len (consA_len nilA_len))))))) (okw_or1 (okt_not (okt_val (OkO.toD (ok_cal C_is_row tk hr (by rfl) (oka_cons (OkD.toB (ok_ix (okb_var 0) ok_int)) (oka_cons (OkD.toB ok_int) (oka_cons (OkD.toB (ok_glob (by rfl) gc_MOST_VARIABLES rv_MOST_VARIABLES rc_MOST_VARIABLES)) oka_nil))) (consA_len (consA_len (consA_len nilA_len)))))))))) (oks_oneS (ok_ret ok_bl)) oks_nilS)
  (oks_consS (ok_set (i := 1) (io := []) sc_is_loop.nd rfl (Or.inr rfl) (ok_len (by rfl) z_len (OkD.toB (ok_ix (okb_var 0) ok_int))))
  (oks_consS (ok_ifS (okt_w (okw_or (okt_not (okt_val (ok_all rfl (by rfl) z_all (OkD.toB (OkO.toD (ok_lc (own := [("value", 3)]) (io := [0, 1, 2]) rfl sc_is_loop.nd (oki_any (ok_ix (okb_var 0) ok_int)) (blkOk_by (own := [("value", 3)]) (N := ["thing", "n", "p", "value"]) (sc := defScope s_is_loop) (by decide +kernel)) (show ∀ i : Nat, i < 4 → i ∈ [3] ∨ i ∈ [0, 1, 2] by decide +kernel) (fun _ _ _ _ _ => (okg_name (i := 3) (io := [0, 1, 2]) sc_is_loop.nd rfl (Or.inl rfl))) (fun _ _ _ _ _ => okts_nil) (fun _ _ _ _ _ => (OkO.toD (ok_cal C_is_ratio takes0 hr (by rfl) (oka_cons (okb_var 3) oka_nil) (consA_len nilA_len)))))))))) (okw_or1 (okt_not (okt_val (OkO.toD (ok_cal C_is_row tk hr (by rfl) (oka_cons (OkD.toB (ok_ix (okb_var 0) ok_int)) (oka_cons (okb_var 1) (oka_cons (OkD.toB (ok_var 1)) oka_nil))) (consA_len (consA_len (consA_len nilA_len)))))))))) (oks_oneS (ok_ret ok_bl)) oks_nilS)
  (oks_oneS (ok_ret (ok_all rfl (by rfl) z_all (OkD.toB (OkO.toD (ok_lc (own := [("p", 2)]) (io := [0, 1, 3]) rfl sc_is_loop.nd (oki_any (ok_ix (okb_var 0) ok_int)) (blkOk_by (own := [("p", 2)]) (N := ["thing", "n", "p", "value"]) (sc := defScope s_is_loop) (by decide +kernel)) (show ∀ i : Nat, i < 4 → i ∈ [2] ∨ i ∈ [0, 1, 3] by decide +kernel) (fun _ _ _ _ _ => (okg_name (i := 2) (io := [0, 1, 3]) sc_is_loop.nd rfl (Or.inl rfl))) (fun _ _ _ _ _ => okts_nil) (fun _ _ _ _ _ => (OkO.toD (ok_cal C_is_polynomial_in takes0 hr (by rfl) (oka_cons (okb_var 1) (oka_cons (okb_var 2) oka_nil)) (consA_len (consA_len nilA_len)))))))))))))), fun _ _ _ _ => rfl⟩
theorem ok_need_loop {f : Addr} {fd : FuncData} (F : Fun K "need_loop" "need_loop" s_need_loop f fd) {x_BadLoop : Addr} {f_is_loop : Addr} {d_is_loop : FuncData} (C_is_loop : Cal P w K mg base 5 "is_loop" f_is_loop d_is_loop ["thing"] [] p_is_loop) (X_BadLoop : ExC K mg "BadLoop" x_BadLoop) :
    FnF P w K mg base 6 f fd ["loop"] [] p_need_loop :=
  fn_ok F sc_need_loop fun cdv A outer s H E hr tk hp => by
  have hu := hr.units
  exact ⟨fs_need_loop, (oks_oneS (ok_ifS (okt_not (okt_val (OkO.toD (ok_cal C_is_loop tk hr (by rfl) (oka_cons (okb_var 0) oka_nil) (consA_len nilA_len))))) (oks_oneS (ok_raise rfl tk X_BadLoop (by rfl))) oks_nilS)), fun _ _ _ _ => rfl⟩
theorem ok_need_loop_polynomial {f : Addr} {fd : FuncData} (F : Fun K "need_loop_polynomial" "need_loop_polynomial" s_need_loop_polynomial f fd) {x_BadPolynomial : Addr} {f_is_polynomial_in : Addr} {d_is_polynomial_in : FuncData} (C_is_polynomial_in : Cal P w K mg base 4 "is_polynomial_in" f_is_polynomial_in d_is_polynomial_in ["n", "thing"] [] p_is_polynomial_in) (X_BadPolynomial : ExC K mg "BadPolynomial" x_BadPolynomial) (z_len : mg "len" = none) :
    FnF P w K mg base 5 f fd ["loop", "polynomial"] [] p_need_loop_polynomial :=
  fn_ok F sc_need_loop_polynomial fun cdv A outer s H E hr tk hp => by
  have hu := hr.units
  exact ⟨fs_need_loop_polynomial, (oks_oneS (ok_ifS (okt_not (okt_val (OkO.toD (ok_cal C_is_polynomial_in tk hr (by rfl) (oka_cons (OkD.toB (ok_len (by rfl) z_len (OkD.toB (ok_ix (okb_var 0) ok_int)))) (oka_cons (okb_var 1) oka_nil)) (consA_len (consA_len nilA_len)))))) (oks_oneS (ok_raise rfl tk X_BadPolynomial (by rfl))) oks_nilS)), fun _ _ _ _ => rfl⟩
theorem ok_within {f : Addr} {fd : FuncData} (F : Fun K "within" "within" s_within f fd) {f_is_int : Addr} {d_is_int : FuncData} (C_is_int : Cal P w K mg base 1 "is_int" f_is_int d_is_int ["thing"] [] p_is_int) :
    FnF P w K mg base 2 f fd ["thing", "least", "most"] [] p_within :=
  fn_ok F sc_within fun cdv A outer s H E hr tk hp => by
  have hu := hr.units
  exact ⟨fs_within, (oks_oneS (ok_ret (ok_and (OkO.toD (ok_cal C_is_int tk hr (by rfl) (oka_cons (okb_var 0) oka_nil) (consA_len nilA_len))) (ok_one (ok_chain op_le v2_ib op_le v2_ib (ok_var 1) (ok_var 0) (ok_var 2)))))), fun _ _ _ _ => rfl⟩
theorem ok_need_rounds {f : Addr} {fd : FuncData} (F : Fun K "need_rounds" "need_rounds" s_need_rounds f fd) {x_BadRounds : Addr} {f_within : Addr} {d_within : FuncData} (C_within : Cal P w K mg base 2 "within" f_within d_within ["thing", "least", "most"] [] p_within) (X_BadRounds : ExC K mg "BadRounds" x_BadRounds) {a_MOST_ROUNDS : V} {u_MOST_ROUNDS : Value} (gc_MOST_ROUNDS : mg "MOST_ROUNDS" = some u_MOST_ROUNDS) (rc_MOST_ROUNDS : ∀ G, Rp K G a_MOST_ROUNDS c_MOST_ROUNDS) (rv_MOST_ROUNDS : RelV a_MOST_ROUNDS u_MOST_ROUNDS) :
    FnF P w K mg base 3 f fd ["rounds"] [] p_need_rounds :=
  fn_ok F sc_need_rounds fun cdv A outer s H E hr tk hp => by
  have hu := hr.units
  exact ⟨fs_need_rounds, (oks_oneS (ok_ifS (okt_not (okt_val (OkO.toD (ok_cal C_within tk hr (by rfl) (oka_cons (okb_var 0) (oka_cons (OkD.toB ok_int) (oka_cons (OkD.toB (ok_glob (by rfl) gc_MOST_ROUNDS rv_MOST_ROUNDS rc_MOST_ROUNDS)) oka_nil))) (consA_len (consA_len (consA_len nilA_len))))))) (oks_oneS (ok_raise rfl tk X_BadRounds (by rfl))) oks_nilS)), fun _ _ _ _ => rfl⟩
theorem ok_Course__init {f : Addr} {fd : FuncData} (F : Fun K "__init__" "Course.__init__" s_Course__init f fd) {a_Course : Addr} (I_Course : InsC K mg "Course" a_Course) {f_terms_of : Addr} {d_terms_of : FuncData} (C_terms_of : Cal P w K mg base 1 "terms_of" f_terms_of d_terms_of ["p"] [] p_terms_of) (N_Course_sets : NoAttr K a_Course "sets") (N_Course_values_now : NoAttr K a_Course "values_now") :
    FnF P w K mg base 2 f fd ["self", "loop"] [0] p_Course__init :=
  fn_ok F sc_Course__init fun cdv A outer s H E hr tk hp => by
  have hu := hr.units
  exact ⟨fs_Course__init, (oks_consS (ok_setFld 0 I_Course N_Course_values_now (OkD.toO (ok_ix (okb_var 1) ok_int)))
  (oks_oneS (ok_setFld 0 I_Course N_Course_sets (OkD.toO (OkO.toD (ok_lc (own := [("p", 2)]) (io := [0, 1]) rfl sc_Course__init.nd (oki_any (ok_ix (okb_var 1) ok_int)) (blkOk_by (own := [("p", 2)]) (N := ["self", "loop", "p"]) (sc := defScope s_Course__init) (by decide +kernel)) (show ∀ i : Nat, i < 3 → i ∈ [2] ∨ i ∈ [0, 1] by decide +kernel) (fun _ _ _ _ _ => (okg_name (i := 2) (io := [0, 1]) sc_Course__init.nd rfl (Or.inl rfl))) (fun _ _ _ _ _ => okts_nil) (fun _ _ _ _ _ => (OkO.toD (ok_cal C_terms_of takes0 hr (by rfl) (oka_cons (okb_var 2) oka_nil) (consA_len nilA_len)))))))))), fun _ _ _ _ => rfl⟩
theorem ok_Course__go {f : Addr} {fd : FuncData} (F : Fun K "go" "Course.go" s_Course__go f fd) {a_Course : Addr} (I_Course : InsC K mg "Course" a_Course) {x_TooGreat : Addr} {f_value_at : Addr} {d_value_at : FuncData} (C_value_at : Cal P w K mg base 3 "value_at" f_value_at d_value_at ["p", "point"] [] p_value_at) (N_Course_sets : NoAttr K a_Course "sets") (N_Course_values_now : NoAttr K a_Course "values_now") (X_TooGreat : ExC K mg "TooGreat" x_TooGreat) {a_GREATEST : V} {u_GREATEST : Value} (gc_GREATEST : mg "GREATEST" = some u_GREATEST) (z_tuple : mg "tuple" = none) (rc_GREATEST : ∀ G, Rp K G a_GREATEST c_GREATEST) (rv_GREATEST : RelV a_GREATEST u_GREATEST) :
    FnF P w K mg base 4 f fd ["self"] [0] p_Course__go :=
  fn_ok F sc_Course__go fun cdv A outer s H E hr tk hp => by
  have hu := hr.units
  exact ⟨fs_Course__go, (oks_consS (ok_set (i := 1) (io := [0]) sc_Course__go.nd rfl (Or.inl rfl) (ok_tuplec (by rfl) z_tuple (OkD.toB (OkO.toD (ok_lc (own := [("terms", 4)]) (io := [0, 1, 2, 3]) rfl sc_Course__go.nd (oki_any (ok_fld 0 I_Course N_Course_sets)) (blkOk_by (own := [("terms", 4)]) (N := ["self", "found", "top", "bottom", "terms"]) (sc := defScope s_Course__go) (by decide +kernel)) (show ∀ i : Nat, i < 5 → i ∈ [4] ∨ i ∈ [0, 1, 2, 3] by decide +kernel) (fun _ _ _ _ _ => (okg_name (i := 4) (io := [0, 1, 2, 3]) sc_Course__go.nd rfl (Or.inl rfl))) (fun _ _ _ _ _ => okts_nil) (fun _ _ _ _ _ => (OkO.toD (ok_cal C_value_at takes0 hr (by rfl) (oka_cons (okb_var 4) (oka_cons (OkD.toB (ok_fld 0 I_Course N_Course_values_now)) oka_nil)) (consA_len (consA_len nilA_len))))))))))
  (oks_consS (ok_for hp rfl (oki_any (ok_var 1)) (okg_tup rfl (okg_cons (okg_name (i := 2) (io := [0]) sc_Course__go.nd rfl (Or.inl rfl)) (okg_cons (okg_name (i := 3) (io := [0]) sc_Course__go.nd rfl (Or.inl rfl)) okg_nil))) (oks_oneS (ok_ifS (okt_w (okw_or (okt_not (okt_chain op_lt v2_ib op_lt v2_ib (ok_neg (ok_glob (by rfl) gc_GREATEST rv_GREATEST rc_GREATEST)) (ok_var 2) (ok_glob (by rfl) gc_GREATEST rv_GREATEST rc_GREATEST))) (okw_or1 (okt_cmp op_ge v2_ib (ok_var 3) (ok_glob (by rfl) gc_GREATEST rv_GREATEST rc_GREATEST) (nomark _))))) (oks_oneS (ok_raise rfl tk X_TooGreat (by rfl))) oks_nilS)))
  (oks_oneS (ok_setFld 0 I_Course N_Course_values_now (OkD.toO (ok_var 1)))))), fun _ _ _ _ => rfl⟩
theorem ok_first_zero {f : Addr} {fd : FuncData} (F : Fun K "first_zero" "first_zero" s_first_zero f fd) {a_Course : Addr} (I_Course : InsC K mg "Course" a_Course) {f_Course__init : Addr} {d_Course__init : FuncData} (B_Course__init : MakC P w K mg base 2 a_Course f_Course__init d_Course__init ["self", "loop"] p_Course__init) {f_need_loop : Addr} {d_need_loop : FuncData} (C_need_loop : Cal P w K mg base 6 "need_loop" f_need_loop d_need_loop ["loop"] [] p_need_loop) {f_need_loop_polynomial : Addr} {d_need_loop_polynomial : FuncData} (C_need_loop_polynomial : Cal P w K mg base 5 "need_loop_polynomial" f_need_loop_polynomial d_need_loop_polynomial ["loop", "polynomial"] [] p_need_loop_polynomial) {f_need_rounds : Addr} {d_need_rounds : FuncData} (C_need_rounds : Cal P w K mg base 3 "need_rounds" f_need_rounds d_need_rounds ["rounds"] [] p_need_rounds) {f_terms_of : Addr} {d_terms_of : FuncData} (C_terms_of : Cal P w K mg base 1 "terms_of" f_terms_of d_terms_of ["p"] [] p_terms_of) {f_value_at : Addr} {d_value_at : FuncData} (C_value_at : Cal P w K mg base 3 "value_at" f_value_at d_value_at ["p", "point"] [] p_value_at) {f_Course__go : Addr} {d_Course__go : FuncData} (M_Course__go : CalM P w K mg base 4 a_Course "go" f_Course__go d_Course__go ["self"] [0] p_Course__go) (N_Course_values_now : NoAttr K a_Course "values_now") (z_range : mg "range" = none) :
    FnF P w K mg base 7 f fd ["loop", "polynomial", "most"] [] p_first_zero :=
  fn_ok F sc_first_zero fun cdv A outer s H E hr tk hp => by
  have hu := hr.units
  exact ⟨fs_first_zero, (oks_consS (ok_expr (OkO.toD (ok_cal C_need_loop tk hr (by rfl) (oka_cons (okb_var 0) oka_nil) (consA_len nilA_len))))
  (oks_consS (ok_expr (OkO.toD (ok_cal C_need_loop_polynomial tk hr (by rfl) (oka_cons (okb_var 0) (oka_cons (okb_var 1) oka_nil)) (consA_len (consA_len nilA_len)))))
  (oks_consS (ok_expr (OkO.toD (ok_cal C_need_rounds tk hr (by rfl) (oka_cons (okb_var 2) oka_nil) (consA_len nilA_len))))
  (oks_consS (ok_par2OO (i := 3) (j := 4) (io := []) rfl sc_first_zero.nd rfl rfl (by decide) rfl rfl rfl (ok_make I_Course B_Course__init hr (by rfl) (oks_cons (ok_var 0) oks_nil) (consF_len nilF_len)) (ok_cal C_terms_of tk hr (by rfl) (oka_cons (okb_var 1) oka_nil) (consA_len nilA_len)) (by rfl))
  (oks_consS (ok_for hp rfl (oki_range1 (by rfl) z_range (ok_plus (ok_var 2) ok_int)) (okg_name (i := 5) (io := []) sc_first_zero.nd rfl (Or.inl rfl)) (oks_consS (ok_ifS (okt_cmp (op_eqD hu) v2_eq (ok_ix (OkD.toB (OkO.toD (ok_cal C_value_at tk hr (by rfl) (oka_cons (okb_var 4) (oka_cons (OkD.toB (ok_fld 3 I_Course N_Course_values_now)) oka_nil)) (consA_len (consA_len nilA_len))))) ok_int) ok_int (nomark _)) (oks_oneS (ok_ret (ok_var 5))) oks_nilS)
  (oks_oneS (ok_ifS (okt_cmp op_lt v2_ib (ok_var 5) (ok_var 2) (nomark _)) (oks_oneS (ok_expr (OkO.toD (ok_meth0 3 I_Course M_Course__go tk hr rfl)))) oks_nilS))))
  (oks_oneS (ok_ret ok_non))))))), fun _ _ _ _ => rfl⟩
theorem ok__law_jug {f : Addr} {fd : FuncData} (F : Fun K "_law_jug" "_law_jug" s__law_jug f fd) (z_list : mg "list" = none) :
    FnF P w K mg base 1 f fd ["script"] [] p__law_jug :=
  fn_ok F sc__law_jug fun cdv A outer s H E hr tk hp => by
  have hu := hr.units
  exact ⟨fs__law_jug, (oks_oneS (ok_retO (ok_lst (oks_cons (OkO.toD (ok_listc (by rfl) z_list (okb_var 0))) (oks_cons ok_int (oks_cons ok_int oks_nil)))))), fun _ _ _ _ => rfl⟩
theorem ok__law_take {f : Addr} {fd : FuncData} (F : Fun K "_law_take" "_law_take" s__law_take f fd) (z_abs : mg "abs" = none) (z_int : mg "int" = none) (z_len : mg "len" = none) :
    FnF P w K mg base 1 f fd ["jug", "many"] [0] p__law_take :=
  fn_ok F sc__law_take fun cdv A outer s H E hr tk hp => by
  have hu := hr.units
  exact ⟨fs__law_take, (oks_consS (ok_ifS (okt_cmp (op_eqD hu) v2_eq (ok_ix (okb_var 0) ok_int) ok_int (nomark _)) (oks_consS (ok_set (i := 2) (io := [0]) sc__law_take.nd rfl (Or.inl rfl) (ok_ix (okb_var 0) ok_int))
  (oks_consS (ok_set (i := 3) (io := [0]) sc__law_take.nd rfl (Or.inl rfl) (ok_plus (ok_mul ok_int (ok_var 2)) ok_int))
  (oks_consS (ok_ifS (okt_cmp op_lt v2_ib (ok_var 2) (ok_len (by rfl) z_len (OkD.toB (ok_ix (okb_var 0) ok_int))) (nomark _)) (oks_oneS (ok_set (i := 3) (io := [0]) sc__law_take.nd rfl (Or.inl rfl) (ok_plus (ok_mul ok_int (ok_abs (by rfl) z_abs (OkD.toB (ok_ix (OkD.toB (ok_ix (okb_var 0) ok_int)) (ok_var 2))))) (ok_intc (by rfl) z_int (OkD.toB (ok_cmp op_lt v2_ib (ok_ix (OkD.toB (ok_ix (okb_var 0) ok_int)) (ok_var 2)) ok_int (nomark _))))))) oks_nilS)
  (oks_consS (ok_ifS (okt_cmp op_lt v2_ib (ok_var 3) (ok_powB ok_int ok_int) (nomark _)) (oks_oneS (ok_set (i := 3) (io := [0]) sc__law_take.nd rfl (Or.inl rfl) (ok_mod (ok_intc (by rfl) z_int (OkD.toB (ok_powB (ok_plus (ok_plus (ok_mul (ok_var 3) ok_int) (ok_mul (ok_var 2) ok_int)) ok_int) ok_int))) ok_int))) oks_nilS)
  (oks_consS (ok_setIt (okb_var 0) ok_int (ok_plus (ok_var 2) ok_int))
  (oks_oneS (ok_setIt (okb_var 0) ok_int (ok_var 3)))))))) oks_nilS)
  (oks_consS (ok_set (i := 4) (io := [0]) sc__law_take.nd rfl (Or.inl rfl) (ok_mod (ok_intc (by rfl) z_int (OkD.toB (ok_ix (okb_var 0) ok_int))) (ok_var 1)))
  (oks_consS (ok_setIt (okb_var 0) ok_int (ok_fdiv (ok_ix (okb_var 0) ok_int) (ok_var 1)))
  (oks_oneS (ok_ret (ok_var 4)))))), fun _ _ _ _ => rfl⟩
theorem ok__law_same {f : Addr} {fd : FuncData} (F : Fun K "_law_same" "_law_same" s__law_same f fd) {f__law_same : Addr} {d__law_same : FuncData} {n : Nat} (C__law_same : Cal P w K mg base (1 + n) "_law_same" f__law_same d__law_same ["found", "due"] [] (pr__law_same n)) (z_bool : mg "bool" = none) (z_int : mg "int" = none) (z_isinstance : mg "isinstance" = none) (z_len : mg "len" = none) (z_range : mg "range" = none) (z_str : mg "str" = none) (z_tuple : mg "tuple" = none) :
    FnF P w K mg base (1 + n + 1) f fd ["found", "due"] [] (pr__law_same (n + 1)) :=
  fn_ok F sc__law_same fun cdv A outer s H E hr tk hp => by
  have hu := hr.units
  exact ⟨fs__law_same (pr__law_same n), (oks_consS (ok_ifS (okt_w (okw_or (okt_isN (okb_var 1)) (okw_or1 (okt_isN (okb_var 0))))) (oks_oneS (ok_ret (ok_and (ok_isN (okb_var 0)) (ok_one (ok_isN (okb_var 1)))))) oks_nilS)
  (oks_consS (ok_ifS (okt_val (ok_isi okT_tuple (by rfl) z_isinstance (by rfl) z_tuple (by decide +kernel) (okb_var 1))) (oks_consS (ok_ifS (okt_w (okw_or (okt_not (okt_val (ok_isi okT_tuple (by rfl) z_isinstance (by rfl) z_tuple (by decide +kernel) (okb_var 0)))) (okw_or1 (okt_cmp (op_neD hu) v2_ne (ok_len (by rfl) z_len (okb_var 0)) (ok_len (by rfl) z_len (okb_var 1)) (nomark _))))) (oks_oneS (ok_ret ok_bl)) oks_nilS)
  (oks_oneS (ok_ret (ok_cmp (op_eqD hu) v2_eq (OkO.toD (ok_lc (own := [("k", 2)]) (io := [0, 1]) rfl sc__law_same.nd (oki_range1 (by rfl) z_range (ok_len (by rfl) z_len (okb_var 1))) (blkOk_by (own := [("k", 2)]) (N := ["found", "due", "k"]) (sc := defScope s__law_same) (by decide +kernel)) (show ∀ i : Nat, i < 3 → i ∈ [2] ∨ i ∈ [0, 1] by decide +kernel) (fun _ _ _ _ _ => (okg_name (i := 2) (io := [0, 1]) sc__law_same.nd rfl (Or.inl rfl))) (fun _ _ _ _ _ => (okts_one (okt_not (okt_val (OkO.toD (ok_cal C__law_same takes0 hr (by rfl) (oka_cons (OkD.toB (ok_ix (okb_var 0) (ok_var 2))) (oka_cons (OkD.toB (ok_ix (okb_var 1) (ok_var 2))) oka_nil)) (consA_len (consA_len nilA_len)) (hk := by omega))))))) (fun _ _ _ _ _ => (ok_var 2)))) (OkO.toD (ok_lst oks_nil)) (nomark _))))) oks_nilS)
  (oks_consS (ok_ifS (okt_w (okw_or (okt_cmp (op_neD hu) v2_ne (ok_isi okT_bool (by rfl) z_isinstance (by rfl) z_bool (by decide +kernel) (okb_var 0)) (ok_isi okT_bool (by rfl) z_isinstance (by rfl) z_bool (by decide +kernel) (okb_var 1)) (nomark _)) (okw_or1 (okt_cmp (op_neD hu) v2_ne (ok_isi okT_str (by rfl) z_isinstance (by rfl) z_str (by decide +kernel) (okb_var 0)) (ok_isi okT_str (by rfl) z_isinstance (by rfl) z_str (by decide +kernel) (okb_var 1)) (nomark _))))) (oks_oneS (ok_ret ok_bl)) oks_nilS)
  (oks_oneS (ok_ret (ok_and (ok_isi2 okT_int okT_str (by rfl) z_isinstance (by rfl) z_int (by decide +kernel) (by rfl) z_str (by decide +kernel) (okb_var 0)) (ok_one (ok_cmp (op_eqD hu) v2_eq (ok_var 0) (ok_var 1) (nomark _))))))))), fun _ _ _ _ => rfl⟩
theorem ok__law_low {f : Addr} {fd : FuncData} (F : Fun K "_law_low" "_law_low" s__law_low f fd) (z_abs : mg "abs" = none) (z_int : mg "int" = none) :
    FnF P w K mg base 1 f fd ["top", "bottom"] [] p__law_low :=
  fn_ok F sc__law_low fun cdv A outer s H E hr tk hp => by
  have hu := hr.units
  exact ⟨fs__law_low, (oks_consS (ok_par2 (i := 2) (j := 3) (io := []) rfl sc__law_low.nd rfl rfl (by decide) rfl rfl rfl (oks_cons (ok_abs (by rfl) z_abs (okb_var 0)) (oks_cons (ok_abs (by rfl) z_abs (okb_var 1)) oks_nil)) (by rfl))
  (oks_consS (ok_while hp (okt_cmp (op_neD hu) v2_ne (ok_var 3) ok_int (nomark _)) (oks_oneS (ok_par2 (i := 2) (j := 3) (io := []) rfl sc__law_low.nd rfl rfl (by decide) rfl rfl rfl (oks_cons (ok_var 3) (oks_cons (ok_mod (ok_intc (by rfl) z_int (okb_var 2)) (ok_var 3)) oks_nil)) (by rfl))))
  (oks_consS (ok_ifS (okt_cmp op_lt v2_ib (ok_var 1) ok_int (nomark _)) (oks_oneS (ok_set (i := 2) (io := []) sc__law_low.nd rfl (Or.inl rfl) (ok_neg (ok_var 2)))) oks_nilS)
  (oks_oneS (ok_ret (ok_tup (oks_cons (ok_fdiv (ok_var 0) (ok_var 2)) (oks_cons (ok_fdiv (ok_var 1) (ok_var 2)) oks_nil)))))))), fun _ _ _ _ => rfl⟩
theorem ok__law_plus {f : Addr} {fd : FuncData} (F : Fun K "_law_plus" "_law_plus" s__law_plus f fd) {f__law_low : Addr} {d__law_low : FuncData} (C__law_low : Cal P w K mg base 1 "_law_low" f__law_low d__law_low ["top", "bottom"] [] p__law_low) :
    FnF P w K mg base 2 f fd ["r", "s"] [] p__law_plus :=
  fn_ok F sc__law_plus fun cdv A outer s H E hr tk hp => by
  have hu := hr.units
  exact ⟨fs__law_plus, (oks_oneS (ok_ret (OkO.toD (ok_cal C__law_low tk hr (by rfl) (oka_cons (OkD.toB (ok_plus (ok_mul (ok_ix (okb_var 0) ok_int) (ok_ix (okb_var 1) ok_int)) (ok_mul (ok_ix (okb_var 1) ok_int) (ok_ix (okb_var 0) ok_int)))) (oka_cons (OkD.toB (ok_mul (ok_ix (okb_var 0) ok_int) (ok_ix (okb_var 1) ok_int))) oka_nil)) (consA_len (consA_len nilA_len)))))), fun _ _ _ _ => rfl⟩
theorem ok__law_poly {f : Addr} {fd : FuncData} (F : Fun K "_law_poly" "_law_poly" s__law_poly f fd) (HW : w = FnTabs.w) (z_sorted : mg "sorted" = none) (z_sum : mg "sum" = none) (z_tuple : mg "tuple" = none) :
    FnF P w K mg base 1 f fd ["table"] [] p__law_poly :=
  fn_ok F sc__law_poly fun cdv A outer s H E hr tk hp => by
  have hu := hr.units
  exact ⟨fs__law_poly, (oks_consS (ok_set (i := 1) (io := []) sc__law_poly.nd rfl (Or.inl rfl) (OkO.toD (ok_sortL hu (by rfl) z_sorted (OkO.toD (ok_lc (own := [("e", 2)]) (io := [0, 1, 3]) rfl sc__law_poly.nd (oki_keysT HW (ok_var 0)) (blkOk_by (own := [("e", 2)]) (N := ["table", "rows", "e", "degree"]) (sc := defScope s__law_poly) (by decide +kernel)) (show ∀ i : Nat, i < 4 → i ∈ [2] ∨ i ∈ [0, 1, 3] by decide +kernel) (fun _ _ _ _ _ => (okg_name (i := 2) (io := [0, 1, 3]) sc__law_poly.nd rfl (Or.inl rfl))) (fun _ _ _ _ _ => (okts_one (okt_cmp (op_neD hu) v2_ne (ok_ix (OkD.toB (ok_getT HW hu (okb_var 0) (ok_var 2))) ok_int) ok_int (nomark _)))) (fun _ _ _ _ _ => (ok_tup (oks_cons (ok_sumS rfl (by rfl) z_sum (okb_var 2)) (oks_cons (ok_var 2) oks_nil)))))))))
  (oks_oneS (ok_ret (ok_tuplec (by rfl) z_tuple (OkD.toB (OkO.toD (ok_lc (own := [("degree", 3), ("e", 2)]) (io := [0, 1]) rfl sc__law_poly.nd (oki_any (OkO.toD (ok_revL (okb_var 1)))) (blkOk_by (own := [("degree", 3), ("e", 2)]) (N := ["table", "rows", "e", "degree"]) (sc := defScope s__law_poly) (by decide +kernel)) (show ∀ i : Nat, i < 4 → i ∈ [3, 2] ∨ i ∈ [0, 1] by decide +kernel) (fun _ _ _ _ _ => (okg_tup rfl (okg_cons (okg_name (i := 3) (io := [0, 1]) sc__law_poly.nd rfl (Or.inl rfl)) (okg_cons (okg_name (i := 2) (io := [0, 1]) sc__law_poly.nd rfl (Or.inl rfl)) okg_nil)))) (fun _ _ _ _ _ => okts_nil) (fun _ _ _ _ _ => (ok_tup (oks_cons (ok_var 2) (oks_cons (ok_getT HW hu (okb_var 0) (ok_var 2)) oks_nil))))))))))), fun _ _ _ _ => rfl⟩
theorem ok__law_sum {f : Addr} {fd : FuncData} (F : Fun K "_law_sum" "_law_sum" s__law_sum f fd) {f__law_plus : Addr} {d__law_plus : FuncData} (C__law_plus : Cal P w K mg base 2 "_law_plus" f__law_plus d__law_plus ["r", "s"] [] p__law_plus) {f__law_poly : Addr} {d__law_poly : FuncData} (C__law_poly : Cal P w K mg base 1 "_law_poly" f__law_poly d__law_poly ["table"] [] p__law_poly) (HW : w = FnTabs.w) (z_dict : mg "dict" = none) :
    FnF P w K mg base 3 f fd ["p", "q"] [] p__law_sum :=
  fn_ok F sc__law_sum fun cdv A outer s H E hr tk hp => by
  have hu := hr.units
  exact ⟨fs__law_sum, (oks_consS (ok_setO (i := 2) (io := []) sc__law_sum.nd rfl (Or.inl rfl) (ok_dictP HW rfl hu (by rfl) z_dict (okb_var 0)))
  (oks_consS (ok_for hp rfl (oki_any (ok_var 1)) (okg_tup rfl (okg_cons (okg_name (i := 3) (io := []) sc__law_sum.nd rfl (Or.inl rfl)) (okg_cons (okg_name (i := 4) (io := []) sc__law_sum.nd rfl (Or.inl rfl)) okg_nil))) (oks_oneS (ok_putT HW hu (okb_var 2) (ok_var 3) (OkO.toD (ok_cal C__law_plus tk hr (by rfl) (oka_cons (OkD.toB (ok_get2T HW hu (okb_var 2) (ok_var 3) (ok_tup (oks_cons ok_int (oks_cons ok_int oks_nil))))) (oka_cons (okb_var 4) oka_nil)) (consA_len (consA_len nilA_len)))))))
  (oks_oneS (ok_ret (OkO.toD (ok_cal C__law_poly tk hr (by rfl) (oka_cons (OkD.toB (ok_varFz 2)) oka_nil) (consA_len nilA_len))))))), fun _ _ _ _ => rfl⟩
theorem ok__law_by {f : Addr} {fd : FuncData} (F : Fun K "_law_by" "_law_by" s__law_by f fd) {f__law_low : Addr} {d__law_low : FuncData} (C__law_low : Cal P w K mg base 1 "_law_low" f__law_low d__law_low ["top", "bottom"] [] p__law_low) :
    FnF P w K mg base 2 f fd ["r", "s"] [] p__law_by :=
  fn_ok F sc__law_by fun cdv A outer s H E hr tk hp => by
  have hu := hr.units
  exact ⟨fs__law_by, (oks_oneS (ok_ret (OkO.toD (ok_cal C__law_low tk hr (by rfl) (oka_cons (OkD.toB (ok_mul (ok_ix (okb_var 0) ok_int) (ok_ix (okb_var 1) ok_int))) (oka_cons (OkD.toB (ok_mul (ok_ix (okb_var 0) ok_int) (ok_ix (okb_var 1) ok_int))) oka_nil)) (consA_len (consA_len nilA_len)))))), fun _ _ _ _ => rfl⟩
theorem ok__law_value {f : Addr} {fd : FuncData} (F : Fun K "_law_value" "_law_value" s__law_value f fd) {f__law_by : Addr} {d__law_by : FuncData} (C__law_by : Cal P w K mg base 2 "_law_by" f__law_by d__law_by ["r", "s"] [] p__law_by) {f__law_plus : Addr} {d__law_plus : FuncData} (C__law_plus : Cal P w K mg base 2 "_law_plus" f__law_plus d__law_plus ["r", "s"] [] p__law_plus) (z_len : mg "len" = none) (z_range : mg "range" = none) :
    FnF P w K mg base 3 f fd ["p", "point"] [] p__law_value :=
  fn_ok F sc__law_value fun cdv A outer s H E hr tk hp => by
  have hu := hr.units
  exact ⟨fs__law_value, (oks_consS (ok_set (i := 2) (io := []) sc__law_value.nd rfl (Or.inl rfl) (ok_tup (oks_cons ok_int (oks_cons ok_int oks_nil))))
  (oks_consS (ok_for hp rfl (oki_any (ok_var 0)) (okg_tup rfl (okg_cons (okg_name (i := 3) (io := []) sc__law_value.nd rfl (Or.inl rfl)) (okg_cons (okg_name (i := 4) (io := []) sc__law_value.nd rfl (Or.inl rfl)) okg_nil))) (oks_consS (ok_for hp rfl (oki_range1 (by rfl) z_range (ok_len (by rfl) z_len (okb_var 3))) (okg_name (i := 5) (io := []) sc__law_value.nd rfl (Or.inl rfl)) (oks_oneS (ok_for hp rfl (oki_range1 (by rfl) z_range (ok_ix (okb_var 3) (ok_var 5))) (okg_name (i := 6) (io := []) sc__law_value.nd rfl (Or.inl rfl)) (oks_oneS (ok_set (i := 4) (io := []) sc__law_value.nd rfl (Or.inl rfl) (OkO.toD (ok_cal C__law_by tk hr (by rfl) (oka_cons (okb_var 4) (oka_cons (OkD.toB (ok_ix (okb_var 1) (ok_var 5))) oka_nil)) (consA_len (consA_len nilA_len)))))))))
  (oks_oneS (ok_set (i := 2) (io := []) sc__law_value.nd rfl (Or.inl rfl) (OkO.toD (ok_cal C__law_plus tk hr (by rfl) (oka_cons (okb_var 2) (oka_cons (okb_var 4) oka_nil)) (consA_len (consA_len nilA_len))))))))
  (oks_oneS (ok_ret (ok_var 2))))), fun _ _ _ _ => rfl⟩
theorem ok__law_const {f : Addr} {fd : FuncData} (F : Fun K "_law_const" "_law_const" s__law_const f fd) {f__law_poly : Addr} {d__law_poly : FuncData} (C__law_poly : Cal P w K mg base 1 "_law_poly" f__law_poly d__law_poly ["table"] [] p__law_poly) (HW : w = FnTabs.w) :
    FnF P w K mg base 2 f fd ["m", "r"] [] p__law_const :=
  fn_ok F sc__law_const fun cdv A outer s H E hr tk hp => by
  have hu := hr.units
  exact ⟨fs__law_const, (oks_oneS (ok_ret (OkO.toD (ok_cal C__law_poly tk hr (by rfl) (oka_cons (OkD.toB (OkO.toD (ok_dispT HW hu (ok_timesT (ok_tup (oks_cons ok_int oks_nil)) (ok_var 0)) (ok_var 1)))) oka_nil) (consA_len nilA_len))))), fun _ _ _ _ => rfl⟩
theorem ok__law_ratio {f : Addr} {fd : FuncData} (F : Fun K "_law_ratio" "_law_ratio" s__law_ratio f fd) {f__law_low : Addr} {d__law_low : FuncData} (C__law_low : Cal P w K mg base 1 "_law_low" f__law_low d__law_low ["top", "bottom"] [] p__law_low) {f__law_take : Addr} {d__law_take : FuncData} (C__law_take : Cal P w K mg base 1 "_law_take" f__law_take d__law_take ["jug", "many"] [0] p__law_take) :
    FnF P w K mg base 2 f fd ["jug"] [0] p__law_ratio :=
  fn_ok F sc__law_ratio fun cdv A outer s H E hr tk hp => by
  have hu := hr.units
  exact ⟨fs__law_ratio, (oks_consS (ok_set (i := 1) (io := [0]) sc__law_ratio.nd rfl (Or.inl rfl) (OkO.toD (ok_cal C__law_take tk hr (by rfl) (oka_cons (okb_var 0) (oka_cons (OkD.toB ok_int) oka_nil)) (consA_len (consA_len nilA_len)))))
  (oks_consS (ok_ifS (okt_cmp op_lt v2_ib (ok_var 1) ok_int (nomark _)) (oks_oneS (ok_ret (ok_tup (oks_cons (ok_sub (OkO.toD (ok_cal C__law_take tk hr (by rfl) (oka_cons (okb_var 0) (oka_cons (OkD.toB ok_int) oka_nil)) (consA_len (consA_len nilA_len)))) ok_int) (oks_cons ok_int oks_nil))))) oks_nilS)
  (oks_oneS (ok_ret (OkO.toD (ok_cal C__law_low tk hr (by rfl) (oka_cons (OkD.toB (ok_sub (OkO.toD (ok_cal C__law_take tk hr (by rfl) (oka_cons (okb_var 0) (oka_cons (OkD.toB ok_int) oka_nil)) (consA_len (consA_len nilA_len)))) ok_int)) (oka_cons (OkD.toB (ok_plus ok_int (OkO.toD (ok_cal C__law_take tk hr (by rfl) (oka_cons (okb_var 0) (oka_cons (OkD.toB ok_int) oka_nil)) (consA_len (consA_len nilA_len)))))) oka_nil)) (consA_len (consA_len nilA_len)))))))), fun _ _ _ _ => rfl⟩
theorem ok__law_drawn {f : Addr} {fd : FuncData} (F : Fun K "_law_drawn" "_law_drawn" s__law_drawn f fd) {f__law_poly : Addr} {d__law_poly : FuncData} (C__law_poly : Cal P w K mg base 1 "_law_poly" f__law_poly d__law_poly ["table"] [] p__law_poly) {f__law_ratio : Addr} {d__law_ratio : FuncData} (C__law_ratio : Cal P w K mg base 2 "_law_ratio" f__law_ratio d__law_ratio ["jug"] [0] p__law_ratio) {f__law_take : Addr} {d__law_take : FuncData} (C__law_take : Cal P w K mg base 1 "_law_take" f__law_take d__law_take ["jug", "many"] [0] p__law_take) (HW : w = FnTabs.w) (z_range : mg "range" = none) (z_tuple : mg "tuple" = none) :
    FnF P w K mg base 3 f fd ["jug", "m", "many", "degree"] [0] p__law_drawn :=
  fn_ok F sc__law_drawn fun cdv A outer s H E hr tk hp => by
  have hu := hr.units
  exact ⟨fs__law_drawn, (oks_consS (ok_setO (i := 4) (io := [0]) sc__law_drawn.nd rfl (Or.inl rfl) (ok_newT HW))
  (oks_consS (ok_for hp rfl (oki_range1 (by rfl) z_range (ok_var 2)) (okg_name (i := 5) (io := [0]) sc__law_drawn.nd rfl (Or.inl rfl)) (oks_consS (ok_setO (i := 6) (io := [0]) sc__law_drawn.nd rfl (Or.inl rfl) (ok_repO (OkO.toD (ok_lst (oks_cons ok_int oks_nil))) (ok_var 1)))
  (oks_consS (ok_for hp rfl (oki_range1 (by rfl) z_range (OkO.toD (ok_cal C__law_take tk hr (by rfl) (oka_cons (okb_var 0) (oka_cons (OkD.toB (ok_plus (ok_var 3) ok_int)) oka_nil)) (consA_len (consA_len nilA_len))))) (okg_name (i := 7) (io := [0]) sc__law_drawn.nd rfl (Or.inl rfl)) (oks_oneS (ok_ifS (okt_cmp op_gt v2_ib (ok_var 1) ok_int (nomark _)) (oks_consS (ok_set (i := 8) (io := [0]) sc__law_drawn.nd rfl (Or.inl rfl) (OkO.toD (ok_cal C__law_take tk hr (by rfl) (oka_cons (okb_var 0) (oka_cons (okb_var 1) oka_nil)) (consA_len (consA_len nilA_len)))))
  (oks_oneS (ok_setIt (okb_var 6) (ok_var 8) (ok_plus (ok_ix (okb_var 6) (ok_var 8)) ok_int)))) oks_nilS)))
  (oks_oneS (ok_putT HW hu (okb_var 4) (ok_tuplec (by rfl) z_tuple (okb_var 6)) (OkO.toD (ok_cal C__law_ratio tk hr (by rfl) (oka_cons (okb_var 0) oka_nil) (consA_len nilA_len))))))))
  (oks_oneS (ok_ret (OkO.toD (ok_cal C__law_poly tk hr (by rfl) (oka_cons (OkD.toB (ok_varFz 4)) oka_nil) (consA_len nilA_len))))))), fun _ _ _ _ => rfl⟩
theorem ok__law_loop {f : Addr} {fd : FuncData} (F : Fun K "_law_loop" "_law_loop" s__law_loop f fd) {f__law_drawn : Addr} {d__law_drawn : FuncData} (C__law_drawn : Cal P w K mg base 3 "_law_drawn" f__law_drawn d__law_drawn ["jug", "m", "many", "degree"] [0] p__law_drawn) {f__law_ratio : Addr} {d__law_ratio : FuncData} (C__law_ratio : Cal P w K mg base 2 "_law_ratio" f__law_ratio d__law_ratio ["jug"] [0] p__law_ratio) {f__law_take : Addr} {d__law_take : FuncData} (C__law_take : Cal P w K mg base 1 "_law_take" f__law_take d__law_take ["jug", "many"] [0] p__law_take) (z_range : mg "range" = none) (z_tuple : mg "tuple" = none) :
    FnF P w K mg base 4 f fd ["jug", "n", "degree"] [0] p__law_loop :=
  fn_ok F sc__law_loop fun cdv A outer s H E hr tk hp => by
  have hu := hr.units
  exact ⟨fs__law_loop, (oks_consS (ok_set (i := 3) (io := [0]) sc__law_loop.nd rfl (Or.inl rfl) (ok_tuplec (by rfl) z_tuple (OkD.toB (OkO.toD (ok_lc (own := [("i", 4)]) (io := [0, 1, 2, 3]) rfl sc__law_loop.nd (oki_range1 (by rfl) z_range (ok_var 1)) (blkOk_by (own := [("i", 4)]) (N := ["jug", "n", "degree", "start", "i"]) (sc := defScope s__law_loop) (by decide +kernel)) (show ∀ i : Nat, i < 5 → i ∈ [4] ∨ i ∈ [0, 1, 2, 3] by decide +kernel) (fun _ _ _ _ _ => (okg_name (i := 4) (io := [0, 1, 2, 3]) sc__law_loop.nd rfl (Or.inl rfl))) (fun _ _ _ _ _ => okts_nil) (fun _ _ _ _ _ => (OkO.toD (ok_cal C__law_ratio takes0 hr (by rfl) (oka_cons (okb_var 0) oka_nil) (consA_len nilA_len)))))))))
  (oks_oneS (ok_ret (ok_tup (oks_cons (ok_var 3) (oks_cons (ok_tuplec (by rfl) z_tuple (OkD.toB (OkO.toD (ok_lc (own := [("i", 4)]) (io := [0, 1, 2, 3]) rfl sc__law_loop.nd (oki_range1 (by rfl) z_range (ok_var 1)) (blkOk_by (own := [("i", 4)]) (N := ["jug", "n", "degree", "start", "i"]) (sc := defScope s__law_loop) (by decide +kernel)) (show ∀ i : Nat, i < 5 → i ∈ [4] ∨ i ∈ [0, 1, 2, 3] by decide +kernel) (fun _ _ _ _ _ => (okg_name (i := 4) (io := [0, 1, 2, 3]) sc__law_loop.nd rfl (Or.inl rfl))) (fun _ _ _ _ _ => okts_nil) (fun _ _ _ _ _ => (OkO.toD (ok_cal C__law_drawn takes0 hr (by rfl) (oka_cons (okb_var 0) (oka_cons (okb_var 1) (oka_cons (OkD.toB (ok_plus ok_int (OkO.toD (ok_cal C__law_take takes0 hr (by rfl) (oka_cons (okb_var 0) (oka_cons (OkD.toB ok_int) oka_nil)) (consA_len (consA_len nilA_len)))))) (oka_cons (okb_var 2) oka_nil)))) (consA_len (consA_len (consA_len (consA_len nilA_len))))))))))) oks_nil)))))), fun _ _ _ _ => rfl⟩
theorem ok__law_after {f : Addr} {fd : FuncData} (F : Fun K "_law_after" "_law_after" s__law_after f fd) {f__law_value : Addr} {d__law_value : FuncData} (C__law_value : Cal P w K mg base 3 "_law_value" f__law_value d__law_value ["p", "point"] [] p__law_value) (z_range : mg "range" = none) (z_tuple : mg "tuple" = none) :
    FnF P w K mg base 4 f fd ["loop", "rounds"] [] p__law_after :=
  fn_ok F sc__law_after fun cdv A outer s H E hr tk hp => by
  have hu := hr.units
  exact ⟨fs__law_after, (oks_consS (ok_set (i := 2) (io := []) sc__law_after.nd rfl (Or.inr rfl) (ok_ix (okb_var 0) ok_int))
  (oks_consS (ok_for hp rfl (oki_range1 (by rfl) z_range (ok_var 1)) (okg_name (i := 3) (io := []) sc__law_after.nd rfl (Or.inl rfl)) (oks_oneS (ok_set (i := 2) (io := []) sc__law_after.nd rfl (Or.inr rfl) (ok_tuplec (by rfl) z_tuple (OkD.toB (OkO.toD (ok_lc (own := [("p", 4)]) (io := [0, 1, 2, 3]) rfl sc__law_after.nd (oki_any (ok_ix (okb_var 0) ok_int)) (blkOk_by (own := [("p", 4)]) (N := ["loop", "rounds", "point", "turn", "p"]) (sc := defScope s__law_after) (by decide +kernel)) (show ∀ i : Nat, i < 5 → i ∈ [4] ∨ i ∈ [0, 1, 2, 3] by decide +kernel) (fun _ _ _ _ _ => (okg_name (i := 4) (io := [0, 1, 2, 3]) sc__law_after.nd rfl (Or.inl rfl))) (fun _ _ _ _ _ => okts_nil) (fun _ _ _ _ _ => (OkO.toD (ok_cal C__law_value takes0 hr (by rfl) (oka_cons (okb_var 4) (oka_cons (okb_var 2) oka_nil)) (consA_len (consA_len nilA_len))))))))))))
  (oks_oneS (ok_ret (ok_var 2))))), fun _ _ _ _ => rfl⟩
theorem ok__law_told {f : Addr} {fd : FuncData} (F : Fun K "_law_told" "_law_told" s__law_told f fd) {x_BadLoop : Addr} {x_BadPolynomial : Addr} {x_BadRounds : Addr} {x_IdealError : Addr} {f_first_zero : Addr} {d_first_zero : FuncData} (C_first_zero : Cal P w K mg base 7 "first_zero" f_first_zero d_first_zero ["loop", "polynomial", "most"] [] p_first_zero) (H_BadLoop : ExH K mg "BadLoop" x_BadLoop) (H_BadPolynomial : ExH K mg "BadPolynomial" x_BadPolynomial) (H_BadRounds : ExH K mg "BadRounds" x_BadRounds) (H_IdealError : ExH K mg "IdealError" x_IdealError) (T_BadLoop : TblOk K mg x_BadLoop tbl_BadLoop) (T_BadPolynomial : TblOk K mg x_BadPolynomial tbl_BadPolynomial) (T_BadRounds : TblOk K mg x_BadRounds tbl_BadRounds) (T_IdealError : TblOk K mg x_IdealError tbl_IdealError) :
    FnF P w K mg base 8 f fd ["loop", "p", "most"] [] p__law_told :=
  fn_ok F sc__law_told fun cdv A outer s H E hr tk hp => by
  have hu := hr.units
  exact ⟨fs__law_told, (oks_consS (ok_set (i := 3) (io := []) sc__law_told.nd rfl (Or.inl rfl) ok_non)
  (oks_consS (ok_try rfl rfl tk (fun _ _ _ tk hp => (oks_oneS (ok_set (i := 3) (io := []) sc__law_told.nd rfl (Or.inl rfl) (OkO.toD (ok_cal C_first_zero tk hr (by rfl) (oka_cons (okb_var 0) (oka_cons (okb_var 1) (oka_cons (okb_var 2) oka_nil))) (consA_len (consA_len (consA_len nilA_len)))))))) (.cons (by rfl) H_BadLoop T_BadLoop (fun _ _ _ => (oks_oneS (ok_set (i := 3) (io := []) sc__law_told.nd rfl (Or.inl rfl) ok_str))) (.cons (by rfl) H_BadPolynomial T_BadPolynomial (fun _ _ _ => (oks_oneS (ok_set (i := 3) (io := []) sc__law_told.nd rfl (Or.inl rfl) ok_str))) (.cons (by rfl) H_BadRounds T_BadRounds (fun _ _ _ => (oks_oneS (ok_set (i := 3) (io := []) sc__law_told.nd rfl (Or.inl rfl) ok_str))) (.cons (by rfl) H_IdealError T_IdealError (fun _ _ _ => (oks_oneS (ok_set (i := 3) (io := []) sc__law_told.nd rfl (Or.inl rfl) ok_str))) .nil)))))
  (oks_oneS (ok_ret (ok_var 3))))), fun _ _ _ _ => rfl⟩
theorem ok_law {f : Addr} {fd : FuncData} (F : Fun K "law" "law" s_law f fd) {f__law_after : Addr} {d__law_after : FuncData} (C__law_after : Cal P w K mg base 4 "_law_after" f__law_after d__law_after ["loop", "rounds"] [] p__law_after) {f__law_const : Addr} {d__law_const : FuncData} (C__law_const : Cal P w K mg base 2 "_law_const" f__law_const d__law_const ["m", "r"] [] p__law_const) {f__law_drawn : Addr} {d__law_drawn : FuncData} (C__law_drawn : Cal P w K mg base 3 "_law_drawn" f__law_drawn d__law_drawn ["jug", "m", "many", "degree"] [0] p__law_drawn) {f__law_jug : Addr} {d__law_jug : FuncData} (C__law_jug : Cal P w K mg base 1 "_law_jug" f__law_jug d__law_jug ["script"] [] p__law_jug) {f__law_loop : Addr} {d__law_loop : FuncData} (C__law_loop : Cal P w K mg base 4 "_law_loop" f__law_loop d__law_loop ["jug", "n", "degree"] [0] p__law_loop) {f__law_same : Addr} {d__law_same : FuncData} (C__law_same : Cal P w K mg base 15 "_law_same" f__law_same d__law_same ["found", "due"] [] p__law_same) {f__law_sum : Addr} {d__law_sum : FuncData} (C__law_sum : Cal P w K mg base 3 "_law_sum" f__law_sum d__law_sum ["p", "q"] [] p__law_sum) {f__law_take : Addr} {d__law_take : FuncData} (C__law_take : Cal P w K mg base 1 "_law_take" f__law_take d__law_take ["jug", "many"] [0] p__law_take) {f__law_told : Addr} {d__law_told : FuncData} (C__law_told : Cal P w K mg base 8 "_law_told" f__law_told d__law_told ["loop", "p", "most"] [] p__law_told) {f__law_value : Addr} {d__law_value : FuncData} (C__law_value : Cal P w K mg base 3 "_law_value" f__law_value d__law_value ["p", "point"] [] p__law_value) {f_first_zero : Addr} {d_first_zero : FuncData} (C_first_zero : Cal P w K mg base 7 "first_zero" f_first_zero d_first_zero ["loop", "polynomial", "most"] [] p_first_zero) (z_len : mg "len" = none) (z_min : mg "min" = none) (z_range : mg "range" = none) (K_kp_first_zero_0_most_polynomial_loop : KPerm d_first_zero ["loop", "polynomial", "most"] ["most", "polynomial", "loop"] (fun {_} => pi_kp_first_zero_0_most_polynomial_loop)) :
    FnF P w K mg base 16 f fd ["script"] [] p_law :=
  fn_ok F sc_law fun cdv A outer s H E hr tk hp => by
  have hu := hr.units
  exact ⟨fs_law, (oks_consS (ok_setO (i := 1) (io := []) sc_law.nd rfl (Or.inl rfl) (ok_cal C__law_jug tk hr (by rfl) (oka_cons (okb_var 0) oka_nil) (consA_len nilA_len)))
  (oks_consS (ok_for hp rfl (oki_range1 (by rfl) z_range (ok_plus ok_int (ok_min2 rfl (by rfl) z_min (oks_cons (ok_len (by rfl) z_len (okb_var 0)) (oks_cons ok_int oks_nil))))) (okg_name (i := 2) (io := []) sc_law.nd rfl (Or.inl rfl)) (oks_consS (ok_set (i := 3) (io := []) sc_law.nd rfl (Or.inl rfl) (ok_plus ok_int (OkO.toD (ok_cal C__law_take tk hr (by rfl) (oka_cons (okb_var 1) (oka_cons (OkD.toB ok_int) oka_nil)) (consA_len (consA_len nilA_len))))))
  (oks_consS (ok_set (i := 4) (io := []) sc_law.nd rfl (Or.inr rfl) (OkO.toD (ok_cal C__law_loop tk hr (by rfl) (oka_cons (okb_var 1) (oka_cons (okb_var 3) (oka_cons (OkD.toB ok_int) oka_nil))) (consA_len (consA_len (consA_len nilA_len))))))
  (oks_consS (ok_set (i := 5) (io := []) sc_law.nd rfl (Or.inr rfl) (OkO.toD (ok_cal C__law_drawn tk hr (by rfl) (oka_cons (okb_var 1) (oka_cons (okb_var 3) (oka_cons (OkD.toB ok_int) (oka_cons (OkD.toB ok_int) oka_nil)))) (consA_len (consA_len (consA_len (consA_len nilA_len)))))))
  (oks_consS (ok_ifS (okt_cmp (op_eqD hu) v2_eq (OkO.toD (ok_cal C__law_take tk hr (by rfl) (oka_cons (okb_var 1) (oka_cons (OkD.toB ok_int) oka_nil)) (consA_len (consA_len nilA_len)))) ok_int (nomark _)) (oks_consS (ok_set (i := 6) (io := []) sc_law.nd rfl (Or.inl rfl) (OkO.toD (ok_cal C__law_value tk hr (by rfl) (oka_cons (okb_var 5) (oka_cons (OkD.toB (OkO.toD (ok_cal C__law_after tk hr (by rfl) (oka_cons (okb_var 4) (oka_cons (OkD.toB (OkO.toD (ok_cal C__law_take tk hr (by rfl) (oka_cons (okb_var 1) (oka_cons (OkD.toB ok_int) oka_nil)) (consA_len (consA_len nilA_len))))) oka_nil)) (consA_len (consA_len nilA_len))))) oka_nil)) (consA_len (consA_len nilA_len)))))
  (oks_oneS (ok_set (i := 5) (io := []) sc_law.nd rfl (Or.inr rfl) (OkO.toD (ok_cal C__law_sum tk hr (by rfl) (oka_cons (okb_var 5) (oka_cons (OkD.toB (OkO.toD (ok_cal C__law_const tk hr (by rfl) (oka_cons (okb_var 3) (oka_cons (OkD.toB (ok_tup (oks_cons (ok_neg (ok_ix (okb_var 6) ok_int)) (oks_cons (ok_ix (okb_var 6) ok_int) oks_nil)))) oka_nil)) (consA_len (consA_len nilA_len))))) oka_nil)) (consA_len (consA_len nilA_len))))))) oks_nilS)
  (oks_consS (ok_set (i := 7) (io := []) sc_law.nd rfl (Or.inl rfl) (OkO.toD (ok_cal C__law_take tk hr (by rfl) (oka_cons (okb_var 1) (oka_cons (OkD.toB ok_int) oka_nil)) (consA_len (consA_len nilA_len)))))
  (oks_consS (ok_setLc (own := [("k", 10)]) (i := 8) (io := [0, 1, 2, 3, 4, 5, 6, 7, 8, 9]) rfl sc_law.nd rfl rfl rfl (sw_true rfl rfl rfl (by decide +kernel)) (oki_range1 (by rfl) z_range (ok_plus (ok_var 7) ok_int)) (blkOk_by (own := [("k", 10)]) (N := ["script", "jug", "turn", "n", "loop", "p", "told", "most", "due", "odd", "k"]) (sc := defScope s_law) (by decide +kernel)) (show ∀ i : Nat, i < 11 → i ∈ [10] ∨ i ∈ [0, 1, 2, 3, 4, 5, 6, 7, 8, 9] by decide +kernel) (fun _ _ _ _ _ => (okg_name (i := 10) (io := [0, 1, 2, 3, 4, 5, 6, 7, 8, 9]) sc_law.nd rfl (Or.inl rfl))) (fun _ _ _ _ _ => (okts_one (okt_cmp (op_eqD hu) v2_eq (OkO.toD (ok_cal C__law_value takes0 hr (by rfl) (oka_cons (okb_var 5) (oka_cons (OkD.toB (OkO.toD (ok_cal C__law_after takes0 hr (by rfl) (oka_cons (okb_var 4) (oka_cons (okb_var 10) oka_nil)) (consA_len (consA_len nilA_len))))) oka_nil)) (consA_len (consA_len nilA_len)))) (ok_tup (oks_cons ok_int (oks_cons ok_int oks_nil))) (nomark _)))) (fun _ _ _ _ _ => (ok_var 10)))
  (oks_consS (ok_ifS (okt_not (okt_val (OkO.toD (ok_cal C__law_same tk hr (by rfl) (oka_cons (OkD.toB (OkO.toD (ok_cal C__law_told tk hr (by rfl) (oka_cons (okb_var 4) (oka_cons (okb_var 5) (oka_cons (okb_var 7) oka_nil))) (consA_len (consA_len (consA_len nilA_len)))))) (oka_cons (OkD.toB (ok_if (okt_cmp (op_neD hu) v2_ne (ok_varFz 8) (OkO.toD (ok_lst oks_nil)) (nomark _)) (ok_ix (okb_var 8) ok_int) ok_non)) oka_nil)) (consA_len (consA_len nilA_len)))))) (oks_oneS (ok_ret ok_bl)) oks_nilS)
  (oks_consS (ok_ifS (okt_not (okt_val (OkO.toD (ok_cal C__law_same tk hr (by rfl) (oka_cons (OkD.toB (OkO.toD (ok_calK0 C_first_zero K_kp_first_zero_0_most_polynomial_loop tk hr (by rfl) (okk_cons (okb_var 7) (okk_cons (okb_var 5) (okk_cons (okb_var 4) okk_nil)))))) (oka_cons (OkD.toB (ok_if (okt_cmp (op_neD hu) v2_ne (ok_varFz 8) (OkO.toD (ok_lst oks_nil)) (nomark _)) (ok_ix (okb_var 8) ok_int) ok_non)) oka_nil)) (consA_len (consA_len nilA_len)))))) (oks_oneS (ok_ret ok_bl)) oks_nilS)
  (oks_consS (ok_set (i := 9) (io := []) sc_law.nd rfl (Or.inl rfl) (ok_ix (OkD.toB (OkO.toD (ok_lst (oks_cons (ok_neg ok_int) (oks_cons ok_int (oks_cons ok_non (oks_cons ok_bl oks_nil))))))) (OkO.toD (ok_cal C__law_take tk hr (by rfl) (oka_cons (okb_var 1) (oka_cons (OkD.toB ok_int) oka_nil)) (consA_len (consA_len nilA_len))))))
  (oks_oneS (ok_ifS (okt_w (okw_or (okt_cmp (op_neD hu) v2_ne (OkO.toD (ok_cal C__law_told tk hr (by rfl) (oka_cons (okb_var 4) (oka_cons (okb_var 5) (oka_cons (okb_var 9) oka_nil))) (consA_len (consA_len (consA_len nilA_len))))) ok_str (nomark _)) (okw_or (okt_cmp (op_neD hu) v2_ne (OkO.toD (ok_cal C__law_told tk hr (by rfl) (oka_cons (okb_var 4) (oka_cons (OkD.toB ok_non) (oka_cons (okb_var 9) oka_nil))) (consA_len (consA_len (consA_len nilA_len))))) ok_str (nomark _)) (okw_or1 (okt_cmp (op_neD hu) v2_ne (OkO.toD (ok_cal C__law_told tk hr (by rfl) (oka_cons (OkD.toB (ok_tup oks_nil)) (oka_cons (OkD.toB ok_non) (oka_cons (okb_var 9) oka_nil))) (consA_len (consA_len (consA_len nilA_len))))) ok_str (nomark _)))))) (oks_oneS (ok_ret ok_bl)) oks_nilS))))))))))))
  (oks_oneS (ok_ret ok_bl)))), fun _ _ _ _ => rfl⟩
end
section
variable {P : Program} {w : World} {K : PySem.W.Frag} {mg : Str → Option Value}
theorem all_mk {h : Heap} {fa : Addr} (X : K.In h) (Gn : h.Ns mainGlobals mg) (hfa : mg "law" = some (.ref fa)) {a_Course : Addr} (gI_Course : PySem.W.nsIn K mainGlobals "Course" = some (some (.ref a_Course))) (pg_Course : PySem.W.plainGet K a_Course Str.empty = true) (hd_Course : PySem.W.hasDictIn K a_Course = true) (po_Course : PySem.W.plainOver K a_Course = true) (sa_Course : PySem.W.findIn K (.ref a_Course) "__setattr__" = some (some (.builtin "object.__setattr__")))
    (mk_Course : PySem.W.makesIn K a_Course = true) (kc_Course : PySem.W.keepIn K (.ref a_Course) = true)
    (N_Course_sets : PySem.W.findIn K (.ref a_Course) "sets" = some none)
    (N_Course_values_now : PySem.W.findIn K (.ref a_Course) "values_now" = some none)
    {f_terms_of : Addr} {d_terms_of : FuncData} (F_terms_of : Fun K "terms_of" "terms_of" s_terms_of f_terms_of d_terms_of) (g_terms_of : PySem.W.nsIn K mainGlobals "terms_of" = some (some (.ref f_terms_of)))
    {f_lowest : Addr} {d_lowest : FuncData} (F_lowest : Fun K "lowest" "lowest" s_lowest f_lowest d_lowest) (g_lowest : PySem.W.nsIn K mainGlobals "lowest" = some (some (.ref f_lowest)))
    {f_added : Addr} {d_added : FuncData} (F_added : Fun K "added" "added" s_added f_added d_added) (g_added : PySem.W.nsIn K mainGlobals "added" = some (some (.ref f_added)))
    {f_multiplied : Addr} {d_multiplied : FuncData} (F_multiplied : Fun K "multiplied" "multiplied" s_multiplied f_multiplied d_multiplied) (g_multiplied : PySem.W.nsIn K mainGlobals "multiplied" = some (some (.ref f_multiplied)))
    {f_raised : Addr} {d_raised : FuncData} (F_raised : Fun K "raised" "raised" s_raised f_raised d_raised) (g_raised : PySem.W.nsIn K mainGlobals "raised" = some (some (.ref f_raised)))
    {f_value_at : Addr} {d_value_at : FuncData} (F_value_at : Fun K "value_at" "value_at" s_value_at f_value_at d_value_at) (g_value_at : PySem.W.nsIn K mainGlobals "value_at" = some (some (.ref f_value_at)))
    {f_is_row : Addr} {d_is_row : FuncData} (F_is_row : Fun K "is_row" "is_row" s_is_row f_is_row d_is_row) (g_is_row : PySem.W.nsIn K mainGlobals "is_row" = some (some (.ref f_is_row)))
    {f_is_int : Addr} {d_is_int : FuncData} (F_is_int : Fun K "is_int" "is_int" s_is_int f_is_int d_is_int) (g_is_int : PySem.W.nsIn K mainGlobals "is_int" = some (some (.ref f_is_int)))
    {f_is_ratio : Addr} {d_is_ratio : FuncData} (F_is_ratio : Fun K "is_ratio" "is_ratio" s_is_ratio f_is_ratio d_is_ratio) (g_is_ratio : PySem.W.nsIn K mainGlobals "is_ratio" = some (some (.ref f_is_ratio)))
    {f_are_numbers : Addr} {d_are_numbers : FuncData} (F_are_numbers : Fun K "are_numbers" "are_numbers" s_are_numbers f_are_numbers d_are_numbers) (g_are_numbers : PySem.W.nsIn K mainGlobals "are_numbers" = some (some (.ref f_are_numbers)))
    {f_is_pair_in : Addr} {d_is_pair_in : FuncData} (F_is_pair_in : Fun K "is_pair_in" "is_pair_in" s_is_pair_in f_is_pair_in d_is_pair_in) (g_is_pair_in : PySem.W.nsIn K mainGlobals "is_pair_in" = some (some (.ref f_is_pair_in)))
    {f_is_polynomial_in : Addr} {d_is_polynomial_in : FuncData} (F_is_polynomial_in : Fun K "is_polynomial_in" "is_polynomial_in" s_is_polynomial_in f_is_polynomial_in d_is_polynomial_in) (g_is_polynomial_in : PySem.W.nsIn K mainGlobals "is_polynomial_in" = some (some (.ref f_is_polynomial_in)))
    {f_is_loop : Addr} {d_is_loop : FuncData} (F_is_loop : Fun K "is_loop" "is_loop" s_is_loop f_is_loop d_is_loop) (g_is_loop : PySem.W.nsIn K mainGlobals "is_loop" = some (some (.ref f_is_loop)))
    {f_need_loop : Addr} {d_need_loop : FuncData} (F_need_loop : Fun K "need_loop" "need_loop" s_need_loop f_need_loop d_need_loop) (g_need_loop : PySem.W.nsIn K mainGlobals "need_loop" = some (some (.ref f_need_loop)))
    {f_need_loop_polynomial : Addr} {d_need_loop_polynomial : FuncData} (F_need_loop_polynomial : Fun K "need_loop_polynomial" "need_loop_polynomial" s_need_loop_polynomial f_need_loop_polynomial d_need_loop_polynomial) (g_need_loop_polynomial : PySem.W.nsIn K mainGlobals "need_loop_polynomial" = some (some (.ref f_need_loop_polynomial)))
    {f_within : Addr} {d_within : FuncData} (F_within : Fun K "within" "within" s_within f_within d_within) (g_within : PySem.W.nsIn K mainGlobals "within" = some (some (.ref f_within)))
    {f_need_rounds : Addr} {d_need_rounds : FuncData} (F_need_rounds : Fun K "need_rounds" "need_rounds" s_need_rounds f_need_rounds d_need_rounds) (g_need_rounds : PySem.W.nsIn K mainGlobals "need_rounds" = some (some (.ref f_need_rounds)))
    {f_Course__init : Addr} {d_Course__init : FuncData} (F_Course__init : Fun K "__init__" "Course.__init__" s_Course__init f_Course__init d_Course__init) (at_Course__init : PySem.W.findIn K (.ref a_Course) "__init__" = some (some (.ref f_Course__init))) (fn_Course__init : PySem.W.isFn K (.ref f_Course__init) = true)
    {f_Course__go : Addr} {d_Course__go : FuncData} (F_Course__go : Fun K "go" "Course.go" s_Course__go f_Course__go d_Course__go) (at_Course__go : PySem.W.findIn K (.ref a_Course) "go" = some (some (.ref f_Course__go))) (fn_Course__go : PySem.W.isFn K (.ref f_Course__go) = true)
    {f_first_zero : Addr} {d_first_zero : FuncData} (F_first_zero : Fun K "first_zero" "first_zero" s_first_zero f_first_zero d_first_zero) (g_first_zero : PySem.W.nsIn K mainGlobals "first_zero" = some (some (.ref f_first_zero)))
    {f__law_jug : Addr} {d__law_jug : FuncData} (F__law_jug : Fun K "_law_jug" "_law_jug" s__law_jug f__law_jug d__law_jug) (g__law_jug : PySem.W.nsIn K mainGlobals "_law_jug" = some (some (.ref f__law_jug)))
    {f__law_take : Addr} {d__law_take : FuncData} (F__law_take : Fun K "_law_take" "_law_take" s__law_take f__law_take d__law_take) (g__law_take : PySem.W.nsIn K mainGlobals "_law_take" = some (some (.ref f__law_take)))
    {f__law_same : Addr} {d__law_same : FuncData} (F__law_same : Fun K "_law_same" "_law_same" s__law_same f__law_same d__law_same) (g__law_same : PySem.W.nsIn K mainGlobals "_law_same" = some (some (.ref f__law_same)))
    {f__law_low : Addr} {d__law_low : FuncData} (F__law_low : Fun K "_law_low" "_law_low" s__law_low f__law_low d__law_low) (g__law_low : PySem.W.nsIn K mainGlobals "_law_low" = some (some (.ref f__law_low)))
    {f__law_plus : Addr} {d__law_plus : FuncData} (F__law_plus : Fun K "_law_plus" "_law_plus" s__law_plus f__law_plus d__law_plus) (g__law_plus : PySem.W.nsIn K mainGlobals "_law_plus" = some (some (.ref f__law_plus)))
    {f__law_poly : Addr} {d__law_poly : FuncData} (F__law_poly : Fun K "_law_poly" "_law_poly" s__law_poly f__law_poly d__law_poly) (g__law_poly : PySem.W.nsIn K mainGlobals "_law_poly" = some (some (.ref f__law_poly)))
    {f__law_sum : Addr} {d__law_sum : FuncData} (F__law_sum : Fun K "_law_sum" "_law_sum" s__law_sum f__law_sum d__law_sum) (g__law_sum : PySem.W.nsIn K mainGlobals "_law_sum" = some (some (.ref f__law_sum)))
    {f__law_by : Addr} {d__law_by : FuncData} (F__law_by : Fun K "_law_by" "_law_by" s__law_by f__law_by d__law_by) (g__law_by : PySem.W.nsIn K mainGlobals "_law_by" = some (some (.ref f__law_by)))
    {f__law_value : Addr} {d__law_value : FuncData} (F__law_value : Fun K "_law_value" "_law_value" s__law_value f__law_value d__law_value) (g__law_value : PySem.W.nsIn K mainGlobals "_law_value" = some (some (.ref f__law_value)))
    {f__law_const : Addr} {d__law_const : FuncData} (F__law_const : Fun K "_law_const" "_law_const" s__law_const f__law_const d__law_const) (g__law_const : PySem.W.nsIn K mainGlobals "_law_const" = some (some (.ref f__law_const)))
    {f__law_ratio : Addr} {d__law_ratio : FuncData} (F__law_ratio : Fun K "_law_ratio" "_law_ratio" s__law_ratio f__law_ratio d__law_ratio) (g__law_ratio : PySem.W.nsIn K mainGlobals "_law_ratio" = some (some (.ref f__law_ratio)))
    {f__law_drawn : Addr} {d__law_drawn : FuncData} (F__law_drawn : Fun K "_law_drawn" "_law_drawn" s__law_drawn f__law_drawn d__law_drawn) (g__law_drawn : PySem.W.nsIn K mainGlobals "_law_drawn" = some (some (.ref f__law_drawn)))
    {f__law_loop : Addr} {d__law_loop : FuncData} (F__law_loop : Fun K "_law_loop" "_law_loop" s__law_loop f__law_loop d__law_loop) (g__law_loop : PySem.W.nsIn K mainGlobals "_law_loop" = some (some (.ref f__law_loop)))
    {f__law_after : Addr} {d__law_after : FuncData} (F__law_after : Fun K "_law_after" "_law_after" s__law_after f__law_after d__law_after) (g__law_after : PySem.W.nsIn K mainGlobals "_law_after" = some (some (.ref f__law_after)))
    {f__law_told : Addr} {d__law_told : FuncData} (F__law_told : Fun K "_law_told" "_law_told" s__law_told f__law_told d__law_told) (g__law_told : PySem.W.nsIn K mainGlobals "_law_told" = some (some (.ref f__law_told)))
    {f_law : Addr} {d_law : FuncData} (F_law : Fun K "law" "law" s_law f_law d_law) (g_law : PySem.W.nsIn K mainGlobals "law" = some (some (.ref f_law)))
    (z_abs : PySem.W.nsIn K mainGlobals "abs" = some none)
    (z_all : PySem.W.nsIn K mainGlobals "all" = some none)
    (z_bool : PySem.W.nsIn K mainGlobals "bool" = some none)
    (z_dict : PySem.W.nsIn K mainGlobals "dict" = some none)
    (z_enumerate : PySem.W.nsIn K mainGlobals "enumerate" = some none)
    (z_int : PySem.W.nsIn K mainGlobals "int" = some none)
    (z_isinstance : PySem.W.nsIn K mainGlobals "isinstance" = some none)
    (z_len : PySem.W.nsIn K mainGlobals "len" = some none)
    (z_list : PySem.W.nsIn K mainGlobals "list" = some none)
    (z_min : PySem.W.nsIn K mainGlobals "min" = some none)
    (z_range : PySem.W.nsIn K mainGlobals "range" = some none)
    (z_sorted : PySem.W.nsIn K mainGlobals "sorted" = some none)
    (z_str : PySem.W.nsIn K mainGlobals "str" = some none)
    (z_sum : PySem.W.nsIn K mainGlobals "sum" = some none)
    (z_tuple : PySem.W.nsIn K mainGlobals "tuple" = some none)
    (gg_gcd : PySem.W.nsIn K mainGlobals "gcd" = some (some (.builtin "math.gcd")))
    {a_ZERO : V} {u_ZERO : Value} (gc_ZERO : PySem.W.nsIn K mainGlobals "ZERO" = some (some u_ZERO)) (rv_ZERO : RelV a_ZERO u_ZERO) (rc_ZERO : ∀ [FnSem] (G : Hp), Rp K G a_ZERO c_ZERO)
    {a_ONE : V} {u_ONE : Value} (gc_ONE : PySem.W.nsIn K mainGlobals "ONE" = some (some u_ONE)) (rv_ONE : RelV a_ONE u_ONE) (rc_ONE : ∀ [FnSem] (G : Hp), Rp K G a_ONE c_ONE)
    {a_MOST_VARIABLES : V} {u_MOST_VARIABLES : Value} (gc_MOST_VARIABLES : PySem.W.nsIn K mainGlobals "MOST_VARIABLES" = some (some u_MOST_VARIABLES)) (rv_MOST_VARIABLES : RelV a_MOST_VARIABLES u_MOST_VARIABLES) (rc_MOST_VARIABLES : ∀ [FnSem] (G : Hp), Rp K G a_MOST_VARIABLES c_MOST_VARIABLES)
    {a_MOST_ROUNDS : V} {u_MOST_ROUNDS : Value} (gc_MOST_ROUNDS : PySem.W.nsIn K mainGlobals "MOST_ROUNDS" = some (some u_MOST_ROUNDS)) (rv_MOST_ROUNDS : RelV a_MOST_ROUNDS u_MOST_ROUNDS) (rc_MOST_ROUNDS : ∀ [FnSem] (G : Hp), Rp K G a_MOST_ROUNDS c_MOST_ROUNDS)
    {a_GREATEST : V} {u_GREATEST : Value} (gc_GREATEST : PySem.W.nsIn K mainGlobals "GREATEST" = some (some u_GREATEST)) (rv_GREATEST : RelV a_GREATEST u_GREATEST) (rc_GREATEST : ∀ [FnSem] (G : Hp), Rp K G a_GREATEST c_GREATEST)
    {x_BadLoop : Addr} (gx_BadLoop : PySem.W.nsIn K mainGlobals "BadLoop" = some (some (.ref x_BadLoop))) (xb_BadLoop : PySem.W.subIn K (.ref x_BadLoop) (.type "BaseException") = some true) (xt_BadLoop : PySem.W.typeIn K (.ref x_BadLoop) = some (.type "type")) (xd_BadLoop : PySem.W.isClsIn K x_BadLoop = true)
    {x_BadPolynomial : Addr} (gx_BadPolynomial : PySem.W.nsIn K mainGlobals "BadPolynomial" = some (some (.ref x_BadPolynomial))) (xb_BadPolynomial : PySem.W.subIn K (.ref x_BadPolynomial) (.type "BaseException") = some true) (xt_BadPolynomial : PySem.W.typeIn K (.ref x_BadPolynomial) = some (.type "type")) (xd_BadPolynomial : PySem.W.isClsIn K x_BadPolynomial = true)
    {x_BadRounds : Addr} (gx_BadRounds : PySem.W.nsIn K mainGlobals "BadRounds" = some (some (.ref x_BadRounds))) (xb_BadRounds : PySem.W.subIn K (.ref x_BadRounds) (.type "BaseException") = some true) (xt_BadRounds : PySem.W.typeIn K (.ref x_BadRounds) = some (.type "type")) (xd_BadRounds : PySem.W.isClsIn K x_BadRounds = true)
    {x_IdealError : Addr} (gx_IdealError : PySem.W.nsIn K mainGlobals "IdealError" = some (some (.ref x_IdealError))) (xb_IdealError : PySem.W.subIn K (.ref x_IdealError) (.type "BaseException") = some true) (xt_IdealError : PySem.W.typeIn K (.ref x_IdealError) = some (.type "type")) (xd_IdealError : PySem.W.isClsIn K x_IdealError = true)
    {x_TooGreat : Addr} (gx_TooGreat : PySem.W.nsIn K mainGlobals "TooGreat" = some (some (.ref x_TooGreat))) (xb_TooGreat : PySem.W.subIn K (.ref x_TooGreat) (.type "BaseException") = some true) (xt_TooGreat : PySem.W.typeIn K (.ref x_TooGreat) = some (.type "type")) (xd_TooGreat : PySem.W.isClsIn K x_TooGreat = true)
    (xe_BadLoop : PySem.W.excIn K x_BadLoop [.type "ValueError", .type "Exception", .type "BaseException", .type "object"] "ValueError.__new__" = true) (xk_BadLoop : PySem.W.keepIn K (.ref x_BadLoop) = true)
    (xe_BadPolynomial : PySem.W.excIn K x_BadPolynomial [.type "ValueError", .type "Exception", .type "BaseException", .type "object"] "ValueError.__new__" = true) (xk_BadPolynomial : PySem.W.keepIn K (.ref x_BadPolynomial) = true)
    (xe_BadRounds : PySem.W.excIn K x_BadRounds [.type "ValueError", .type "Exception", .type "BaseException", .type "object"] "ValueError.__new__" = true) (xk_BadRounds : PySem.W.keepIn K (.ref x_BadRounds) = true)
    (xe_TooGreat : PySem.W.excIn K x_TooGreat [.type "ValueError", .type "Exception", .type "BaseException", .type "object"] "ValueError.__new__" = true) (xk_TooGreat : PySem.W.keepIn K (.ref x_TooGreat) = true)
    (xs_BadLoop_BadLoop : PySem.W.subIn K (.ref x_BadLoop) (.ref x_BadLoop) = some true)
    (xs_BadPolynomial_BadLoop : PySem.W.subIn K (.ref x_BadPolynomial) (.ref x_BadLoop) = some false)
    (xs_BadRounds_BadLoop : PySem.W.subIn K (.ref x_BadRounds) (.ref x_BadLoop) = some false)
    (xs_TooGreat_BadLoop : PySem.W.subIn K (.ref x_TooGreat) (.ref x_BadLoop) = some false)
    (xs_BadLoop_BadPolynomial : PySem.W.subIn K (.ref x_BadLoop) (.ref x_BadPolynomial) = some false)
    (xs_BadPolynomial_BadPolynomial : PySem.W.subIn K (.ref x_BadPolynomial) (.ref x_BadPolynomial) = some true)
    (xs_BadRounds_BadPolynomial : PySem.W.subIn K (.ref x_BadRounds) (.ref x_BadPolynomial) = some false)
    (xs_TooGreat_BadPolynomial : PySem.W.subIn K (.ref x_TooGreat) (.ref x_BadPolynomial) = some false)
    (xs_BadLoop_BadRounds : PySem.W.subIn K (.ref x_BadLoop) (.ref x_BadRounds) = some false)
    (xs_BadPolynomial_BadRounds : PySem.W.subIn K (.ref x_BadPolynomial) (.ref x_BadRounds) = some false)
    (xs_BadRounds_BadRounds : PySem.W.subIn K (.ref x_BadRounds) (.ref x_BadRounds) = some true)
    (xs_TooGreat_BadRounds : PySem.W.subIn K (.ref x_TooGreat) (.ref x_BadRounds) = some false)
    (xs_BadLoop_IdealError : PySem.W.subIn K (.ref x_BadLoop) (.ref x_IdealError) = some true)
    (xs_BadPolynomial_IdealError : PySem.W.subIn K (.ref x_BadPolynomial) (.ref x_IdealError) = some true)
    (xs_BadRounds_IdealError : PySem.W.subIn K (.ref x_BadRounds) (.ref x_IdealError) = some true)
    (xs_TooGreat_IdealError : PySem.W.subIn K (.ref x_TooGreat) (.ref x_IdealError) = some true)
    (hl : ∀ ns : List Int, ns.length ≤ 63 → ∃ os', p_law [.v (.lst (ns.map .int))] = .ok (.v (.bl true)) os') :
    ∃ (fd : FuncData) (cs : List (Addr × Addr)) (sp : Sp), (∀ p ∈ cs, h.get? p.2 = some { cls := .none, data := .fields #[] }) ∧ (∀ p ∈ cs, K.lookup p.2 = none) ∧ (∀ p ∈ cs, PySem.W.CodeHd h p.1 p.2) ∧ (∀ (s : Shared) (v : Value), BindsTo s fd ⟨[v], []⟩ [("script", v)]) ∧
      (∀ (H : Hp) (a : Addr) (ns : List Int), ns.length ≤ 63 → (∀ z ∈ ns, Builtin.Int.intBits z ≤ 1048576) → (∀ p ∈ cs, H p.2 = some (.tbl #[])) → SqL K H a (ns.map V.int) → sp [.ref a] H (fun v _ => v = .bl true) fun _ _ _ => False) ∧
      ∀ base : Heap, K.In base → base.Ns mainGlobals mg → (∀ p ∈ cs, LamX.TabB base mg p.1 p.2) → FnOk P w K mg base (L2.CX P w) 16 fa fd ["script"] sp := by
  have e := hfa.symm.trans (PySem.W.mg_of X Gn g_law)
  cases e
  refine ⟨d_law, [], (letI : FnSem := { tabs := [], w := w, fn := fun _ _ _ => False, mono := fun _ h => h.elim }; spLawT K), fun p hp => ?_, fun p hp => ?_, fun p hp => ?_, fun s v => ?_, fun H a ns hlen _ hT hS => ?_, fun base _ _ hTB => ?_⟩
  · exact nomatch hp
  · exact nomatch hp
  · exact nomatch hp
  · obtain ⟨oc, od, kV, doc, pm, an, cdv, ct, osl, rfl, _, _⟩ := F_law.ex
    exact .of_eq rfl
  · exact ⟨(fun p hp => nomatch hp), a, ns, rfl, hS, hlen, fun _ => rfl⟩
  letI : FnSem := fnSem [] (clsOf [("Course", a_Course)]) P w K mg base 0
  have SEM1 : ∀ a G ψ, FnSem.fn a G ψ → CallAt P w K mg base 0 a G ψ := fun _ _ _ h => h
  have SEM2 : ∀ a G ψ, CallAt P w K mg base 0 a G ψ → FnSem.fn a G ψ := fun _ _ _ h => h
  have z_abs := PySem.W.mg_none_of X Gn z_abs
  have z_all := PySem.W.mg_none_of X Gn z_all
  have z_bool := PySem.W.mg_none_of X Gn z_bool
  have z_dict := PySem.W.mg_none_of X Gn z_dict
  have z_enumerate := PySem.W.mg_none_of X Gn z_enumerate
  have z_int := PySem.W.mg_none_of X Gn z_int
  have z_isinstance := PySem.W.mg_none_of X Gn z_isinstance
  have z_len := PySem.W.mg_none_of X Gn z_len
  have z_list := PySem.W.mg_none_of X Gn z_list
  have z_min := PySem.W.mg_none_of X Gn z_min
  have z_range := PySem.W.mg_none_of X Gn z_range
  have z_sorted := PySem.W.mg_none_of X Gn z_sorted
  have z_str := PySem.W.mg_none_of X Gn z_str
  have z_sum := PySem.W.mg_none_of X Gn z_sum
  have z_tuple := PySem.W.mg_none_of X Gn z_tuple
  have gg_gcd := PySem.W.mg_of X Gn gg_gcd
  have gc_ZERO := PySem.W.mg_of X Gn gc_ZERO
  have gc_ONE := PySem.W.mg_of X Gn gc_ONE
  have gc_MOST_VARIABLES := PySem.W.mg_of X Gn gc_MOST_VARIABLES
  have gc_MOST_ROUNDS := PySem.W.mg_of X Gn gc_MOST_ROUNDS
  have gc_GREATEST := PySem.W.mg_of X Gn gc_GREATEST
  have X_BadLoop : ExC K mg "BadLoop" x_BadLoop := ⟨PySem.W.mg_of X Gn gx_BadLoop, xe_BadLoop, xk_BadLoop, xb_BadLoop, xt_BadLoop, xd_BadLoop⟩
  have X_BadPolynomial : ExC K mg "BadPolynomial" x_BadPolynomial := ⟨PySem.W.mg_of X Gn gx_BadPolynomial, xe_BadPolynomial, xk_BadPolynomial, xb_BadPolynomial, xt_BadPolynomial, xd_BadPolynomial⟩
  have X_BadRounds : ExC K mg "BadRounds" x_BadRounds := ⟨PySem.W.mg_of X Gn gx_BadRounds, xe_BadRounds, xk_BadRounds, xb_BadRounds, xt_BadRounds, xd_BadRounds⟩
  have X_TooGreat : ExC K mg "TooGreat" x_TooGreat := ⟨PySem.W.mg_of X Gn gx_TooGreat, xe_TooGreat, xk_TooGreat, xb_TooGreat, xt_TooGreat, xd_TooGreat⟩
  have H_BadLoop : ExH K mg "BadLoop" x_BadLoop := ⟨PySem.W.mg_of X Gn gx_BadLoop, xb_BadLoop, xt_BadLoop, xd_BadLoop⟩
  have H_BadPolynomial : ExH K mg "BadPolynomial" x_BadPolynomial := ⟨PySem.W.mg_of X Gn gx_BadPolynomial, xb_BadPolynomial, xt_BadPolynomial, xd_BadPolynomial⟩
  have H_BadRounds : ExH K mg "BadRounds" x_BadRounds := ⟨PySem.W.mg_of X Gn gx_BadRounds, xb_BadRounds, xt_BadRounds, xd_BadRounds⟩
  have H_IdealError : ExH K mg "IdealError" x_IdealError := ⟨PySem.W.mg_of X Gn gx_IdealError, xb_IdealError, xt_IdealError, xd_IdealError⟩
  have T_BadLoop : TblOk K mg x_BadLoop tbl_BadLoop := (.cons (PySem.W.mg_of X Gn gx_BadLoop) xs_BadLoop_BadLoop (.cons (PySem.W.mg_of X Gn gx_BadPolynomial) xs_BadPolynomial_BadLoop (.cons (PySem.W.mg_of X Gn gx_BadRounds) xs_BadRounds_BadLoop (.cons (PySem.W.mg_of X Gn gx_TooGreat) xs_TooGreat_BadLoop .nil))))
  have T_BadPolynomial : TblOk K mg x_BadPolynomial tbl_BadPolynomial := (.cons (PySem.W.mg_of X Gn gx_BadLoop) xs_BadLoop_BadPolynomial (.cons (PySem.W.mg_of X Gn gx_BadPolynomial) xs_BadPolynomial_BadPolynomial (.cons (PySem.W.mg_of X Gn gx_BadRounds) xs_BadRounds_BadPolynomial (.cons (PySem.W.mg_of X Gn gx_TooGreat) xs_TooGreat_BadPolynomial .nil))))
  have T_BadRounds : TblOk K mg x_BadRounds tbl_BadRounds := (.cons (PySem.W.mg_of X Gn gx_BadLoop) xs_BadLoop_BadRounds (.cons (PySem.W.mg_of X Gn gx_BadPolynomial) xs_BadPolynomial_BadRounds (.cons (PySem.W.mg_of X Gn gx_BadRounds) xs_BadRounds_BadRounds (.cons (PySem.W.mg_of X Gn gx_TooGreat) xs_TooGreat_BadRounds .nil))))
  have T_IdealError : TblOk K mg x_IdealError tbl_IdealError := (.cons (PySem.W.mg_of X Gn gx_BadLoop) xs_BadLoop_IdealError (.cons (PySem.W.mg_of X Gn gx_BadPolynomial) xs_BadPolynomial_IdealError (.cons (PySem.W.mg_of X Gn gx_BadRounds) xs_BadRounds_IdealError (.cons (PySem.W.mg_of X Gn gx_TooGreat) xs_TooGreat_IdealError .nil))))
  have I_Course : InsC K mg "Course" a_Course := ⟨PySem.W.mg_of X Gn gI_Course, ⟨pg_Course, hd_Course, po_Course, sa_Course⟩, clsOf_hd⟩
  have O_terms_of : FnF P w K mg base 1 f_terms_of d_terms_of ["p"] [] p_terms_of := ok_terms_of F_terms_of (HW := rfl) (z_dict := z_dict)
  have C_terms_of : Cal P w K mg base 1 "terms_of" f_terms_of d_terms_of ["p"] [] p_terms_of := ⟨O_terms_of, F_terms_of.binds (ps := ["p"]) fun _ _ _ _ _ _ us hl => (match us, hl with | [_], _ => rfl), PySem.W.mg_of X Gn g_terms_of, F_terms_of.kp⟩
  have O_lowest : FnF P w K mg base 1 f_lowest d_lowest ["top", "bottom"] [] p_lowest := ok_lowest F_lowest (gg_gcd := gg_gcd)
  have C_lowest : Cal P w K mg base 1 "lowest" f_lowest d_lowest ["top", "bottom"] [] p_lowest := ⟨O_lowest, F_lowest.binds (ps := ["top", "bottom"]) fun _ _ _ _ _ _ us hl => (match us, hl with | [_, _], _ => rfl), PySem.W.mg_of X Gn g_lowest, F_lowest.kp⟩
  have O_added : FnF P w K mg base 2 f_added d_added ["r", "s"] [] p_added := ok_added F_added (C_lowest := C_lowest)
  have C_added : Cal P w K mg base 2 "added" f_added d_added ["r", "s"] [] p_added := ⟨O_added, F_added.binds (ps := ["r", "s"]) fun _ _ _ _ _ _ us hl => (match us, hl with | [_, _], _ => rfl), PySem.W.mg_of X Gn g_added, F_added.kp⟩
  have O_multiplied : FnF P w K mg base 2 f_multiplied d_multiplied ["r", "s"] [] p_multiplied := ok_multiplied F_multiplied (C_lowest := C_lowest)
  have C_multiplied : Cal P w K mg base 2 "multiplied" f_multiplied d_multiplied ["r", "s"] [] p_multiplied := ⟨O_multiplied, F_multiplied.binds (ps := ["r", "s"]) fun _ _ _ _ _ _ us hl => (match us, hl with | [_, _], _ => rfl), PySem.W.mg_of X Gn g_multiplied, F_multiplied.kp⟩
  have O_raised : FnF P w K mg base 1 f_raised d_raised ["r", "k"] [] p_raised := ok_raised F_raised (gc_ONE := gc_ONE) (rc_ONE := fun G => rc_ONE G) (rv_ONE := rv_ONE)
  have C_raised : Cal P w K mg base 1 "raised" f_raised d_raised ["r", "k"] [] p_raised := ⟨O_raised, F_raised.binds (ps := ["r", "k"]) fun _ _ _ _ _ _ us hl => (match us, hl with | [_, _], _ => rfl), PySem.W.mg_of X Gn g_raised, F_raised.kp⟩
  have O_value_at : FnF P w K mg base 3 f_value_at d_value_at ["p", "point"] [] p_value_at := ok_value_at F_value_at (C_added := C_added) (C_multiplied := C_multiplied) (C_raised := C_raised) (HW := rfl) (gc_ZERO := gc_ZERO) (rc_ZERO := fun G => rc_ZERO G) (rv_ZERO := rv_ZERO) (z_enumerate := z_enumerate)
  have C_value_at : Cal P w K mg base 3 "value_at" f_value_at d_value_at ["p", "point"] [] p_value_at := ⟨O_value_at, F_value_at.binds (ps := ["p", "point"]) fun _ _ _ _ _ _ us hl => (match us, hl with | [_, _], _ => rfl), PySem.W.mg_of X Gn g_value_at, F_value_at.kp⟩
  have O_is_row : FnF P w K mg base 1 f_is_row d_is_row ["thing", "least", "most"] [] p_is_row := ok_is_row F_is_row (z_isinstance := z_isinstance) (z_len := z_len) (z_tuple := z_tuple)
  have C_is_row : Cal P w K mg base 1 "is_row" f_is_row d_is_row ["thing", "least", "most"] [] p_is_row := ⟨O_is_row, F_is_row.binds (ps := ["thing", "least", "most"]) fun _ _ _ _ _ _ us hl => (match us, hl with | [_, _, _], _ => rfl), PySem.W.mg_of X Gn g_is_row, F_is_row.kp⟩
  have O_is_int : FnF P w K mg base 1 f_is_int d_is_int ["thing"] [] p_is_int := ok_is_int F_is_int (z_bool := z_bool) (z_int := z_int) (z_isinstance := z_isinstance)
  have C_is_int : Cal P w K mg base 1 "is_int" f_is_int d_is_int ["thing"] [] p_is_int := ⟨O_is_int, F_is_int.binds (ps := ["thing"]) fun _ _ _ _ _ _ us hl => (match us, hl with | [_], _ => rfl), PySem.W.mg_of X Gn g_is_int, F_is_int.kp⟩
  have O_is_ratio : FnF P w K mg base 2 f_is_ratio d_is_ratio ["thing"] [] p_is_ratio := ok_is_ratio F_is_ratio (C_is_int := C_is_int) (C_is_row := C_is_row) (gg_gcd := gg_gcd)
  have C_is_ratio : Cal P w K mg base 2 "is_ratio" f_is_ratio d_is_ratio ["thing"] [] p_is_ratio := ⟨O_is_ratio, F_is_ratio.binds (ps := ["thing"]) fun _ _ _ _ _ _ us hl => (match us, hl with | [_], _ => rfl), PySem.W.mg_of X Gn g_is_ratio, F_is_ratio.kp⟩
  have O_are_numbers : FnF P w K mg base 2 f_are_numbers d_are_numbers ["thing", "many"] [] p_are_numbers := ok_are_numbers F_are_numbers (C_is_int := C_is_int) (C_is_row := C_is_row) (z_all := z_all)
  have C_are_numbers : Cal P w K mg base 2 "are_numbers" f_are_numbers d_are_numbers ["thing", "many"] [] p_are_numbers := ⟨O_are_numbers, F_are_numbers.binds (ps := ["thing", "many"]) fun _ _ _ _ _ _ us hl => (match us, hl with | [_, _], _ => rfl), PySem.W.mg_of X Gn g_are_numbers, F_are_numbers.kp⟩
  have O_is_pair_in : FnF P w K mg base 3 f_is_pair_in d_is_pair_in ["n", "thing"] [] p_is_pair_in := ok_is_pair_in F_is_pair_in (C_are_numbers := C_are_numbers) (C_is_ratio := C_is_ratio) (C_is_row := C_is_row)
  have C_is_pair_in : Cal P w K mg base 3 "is_pair_in" f_is_pair_in d_is_pair_in ["n", "thing"] [] p_is_pair_in := ⟨O_is_pair_in, F_is_pair_in.binds (ps := ["n", "thing"]) fun _ _ _ _ _ _ us hl => (match us, hl with | [_, _], _ => rfl), PySem.W.mg_of X Gn g_is_pair_in, F_is_pair_in.kp⟩
  have O_is_polynomial_in : FnF P w K mg base 4 f_is_polynomial_in d_is_polynomial_in ["n", "thing"] [] p_is_polynomial_in := ok_is_polynomial_in F_is_polynomial_in (C_is_pair_in := C_is_pair_in) (gc_ZERO := gc_ZERO) (rc_ZERO := fun G => rc_ZERO G) (rv_ZERO := rv_ZERO) (z_all := z_all) (z_isinstance := z_isinstance) (z_len := z_len) (z_range := z_range) (z_sum := z_sum) (z_tuple := z_tuple)
  have C_is_polynomial_in : Cal P w K mg base 4 "is_polynomial_in" f_is_polynomial_in d_is_polynomial_in ["n", "thing"] [] p_is_polynomial_in := ⟨O_is_polynomial_in, F_is_polynomial_in.binds (ps := ["n", "thing"]) fun _ _ _ _ _ _ us hl => (match us, hl with | [_, _], _ => rfl), PySem.W.mg_of X Gn g_is_polynomial_in, F_is_polynomial_in.kp⟩
  have O_is_loop : FnF P w K mg base 5 f_is_loop d_is_loop ["thing"] [] p_is_loop := ok_is_loop F_is_loop (C_is_polynomial_in := C_is_polynomial_in) (C_is_ratio := C_is_ratio) (C_is_row := C_is_row) (gc_MOST_VARIABLES := gc_MOST_VARIABLES) (rc_MOST_VARIABLES := fun G => rc_MOST_VARIABLES G) (rv_MOST_VARIABLES := rv_MOST_VARIABLES) (z_all := z_all) (z_len := z_len)
  have C_is_loop : Cal P w K mg base 5 "is_loop" f_is_loop d_is_loop ["thing"] [] p_is_loop := ⟨O_is_loop, F_is_loop.binds (ps := ["thing"]) fun _ _ _ _ _ _ us hl => (match us, hl with | [_], _ => rfl), PySem.W.mg_of X Gn g_is_loop, F_is_loop.kp⟩
  have O_need_loop : FnF P w K mg base 6 f_need_loop d_need_loop ["loop"] [] p_need_loop := ok_need_loop F_need_loop (C_is_loop := C_is_loop) (X_BadLoop := X_BadLoop)
  have C_need_loop : Cal P w K mg base 6 "need_loop" f_need_loop d_need_loop ["loop"] [] p_need_loop := ⟨O_need_loop, F_need_loop.binds (ps := ["loop"]) fun _ _ _ _ _ _ us hl => (match us, hl with | [_], _ => rfl), PySem.W.mg_of X Gn g_need_loop, F_need_loop.kp⟩
  have O_need_loop_polynomial : FnF P w K mg base 5 f_need_loop_polynomial d_need_loop_polynomial ["loop", "polynomial"] [] p_need_loop_polynomial := ok_need_loop_polynomial F_need_loop_polynomial (C_is_polynomial_in := C_is_polynomial_in) (X_BadPolynomial := X_BadPolynomial) (z_len := z_len)
  have C_need_loop_polynomial : Cal P w K mg base 5 "need_loop_polynomial" f_need_loop_polynomial d_need_loop_polynomial ["loop", "polynomial"] [] p_need_loop_polynomial := ⟨O_need_loop_polynomial, F_need_loop_polynomial.binds (ps := ["loop", "polynomial"]) fun _ _ _ _ _ _ us hl => (match us, hl with | [_, _], _ => rfl), PySem.W.mg_of X Gn g_need_loop_polynomial, F_need_loop_polynomial.kp⟩
  have O_within : FnF P w K mg base 2 f_within d_within ["thing", "least", "most"] [] p_within := ok_within F_within (C_is_int := C_is_int)
  have C_within : Cal P w K mg base 2 "within" f_within d_within ["thing", "least", "most"] [] p_within := ⟨O_within, F_within.binds (ps := ["thing", "least", "most"]) fun _ _ _ _ _ _ us hl => (match us, hl with | [_, _, _], _ => rfl), PySem.W.mg_of X Gn g_within, F_within.kp⟩
  have O_need_rounds : FnF P w K mg base 3 f_need_rounds d_need_rounds ["rounds"] [] p_need_rounds := ok_need_rounds F_need_rounds (C_within := C_within) (X_BadRounds := X_BadRounds) (gc_MOST_ROUNDS := gc_MOST_ROUNDS) (rc_MOST_ROUNDS := fun G => rc_MOST_ROUNDS G) (rv_MOST_ROUNDS := rv_MOST_ROUNDS)
  have C_need_rounds : Cal P w K mg base 3 "need_rounds" f_need_rounds d_need_rounds ["rounds"] [] p_need_rounds := ⟨O_need_rounds, F_need_rounds.binds (ps := ["rounds"]) fun _ _ _ _ _ _ us hl => (match us, hl with | [_], _ => rfl), PySem.W.mg_of X Gn g_need_rounds, F_need_rounds.kp⟩
  have O_Course__init : FnF P w K mg base 2 f_Course__init d_Course__init ["self", "loop"] [0] p_Course__init := ok_Course__init F_Course__init (C_terms_of := C_terms_of) (I_Course := I_Course) (N_Course_sets := N_Course_sets) (N_Course_values_now := N_Course_values_now)
  have B_Course__init : MakC P w K mg base 2 a_Course f_Course__init d_Course__init ["self", "loop"] p_Course__init := ⟨O_Course__init, F_Course__init.binds (ps := ["self", "loop"]) fun _ _ _ _ _ _ us hl => (match us, hl with | [_, _], _ => rfl), ⟨mk_Course, at_Course__init, fn_Course__init, kc_Course⟩⟩
  have O_Course__go : FnF P w K mg base 4 f_Course__go d_Course__go ["self"] [0] p_Course__go := ok_Course__go F_Course__go (C_value_at := C_value_at) (I_Course := I_Course) (N_Course_sets := N_Course_sets) (N_Course_values_now := N_Course_values_now) (X_TooGreat := X_TooGreat) (gc_GREATEST := gc_GREATEST) (rc_GREATEST := fun G => rc_GREATEST G) (rv_GREATEST := rv_GREATEST) (z_tuple := z_tuple)
  have M_Course__go : CalM P w K mg base 4 a_Course "go" f_Course__go d_Course__go ["self"] [0] p_Course__go := ⟨O_Course__go, F_Course__go.binds (ps := ["self"]) fun _ _ _ _ _ _ us hl => (match us, hl with | [_], _ => rfl), ⟨at_Course__go, fn_Course__go, F_Course__go.kp⟩⟩
  have O_first_zero : FnF P w K mg base 7 f_first_zero d_first_zero ["loop", "polynomial", "most"] [] p_first_zero := ok_first_zero F_first_zero (B_Course__init := B_Course__init) (C_need_loop := C_need_loop) (C_need_loop_polynomial := C_need_loop_polynomial) (C_need_rounds := C_need_rounds) (C_terms_of := C_terms_of) (C_value_at := C_value_at) (I_Course := I_Course) (M_Course__go := M_Course__go) (N_Course_values_now := N_Course_values_now) (z_range := z_range)
  have C_first_zero : Cal P w K mg base 7 "first_zero" f_first_zero d_first_zero ["loop", "polynomial", "most"] [] p_first_zero := ⟨O_first_zero, F_first_zero.binds (ps := ["loop", "polynomial", "most"]) fun _ _ _ _ _ _ us hl => (match us, hl with | [_, _, _], _ => rfl), PySem.W.mg_of X Gn g_first_zero, F_first_zero.kp⟩
  have O__law_jug : FnF P w K mg base 1 f__law_jug d__law_jug ["script"] [] p__law_jug := ok__law_jug F__law_jug (z_list := z_list)
  have C__law_jug : Cal P w K mg base 1 "_law_jug" f__law_jug d__law_jug ["script"] [] p__law_jug := ⟨O__law_jug, F__law_jug.binds (ps := ["script"]) fun _ _ _ _ _ _ us hl => (match us, hl with | [_], _ => rfl), PySem.W.mg_of X Gn g__law_jug, F__law_jug.kp⟩
  have O__law_take : FnF P w K mg base 1 f__law_take d__law_take ["jug", "many"] [0] p__law_take := ok__law_take F__law_take (z_abs := z_abs) (z_int := z_int) (z_len := z_len)
  have C__law_take : Cal P w K mg base 1 "_law_take" f__law_take d__law_take ["jug", "many"] [0] p__law_take := ⟨O__law_take, F__law_take.binds (ps := ["jug", "many"]) fun _ _ _ _ _ _ us hl => (match us, hl with | [_, _], _ => rfl), PySem.W.mg_of X Gn g__law_take, F__law_take.kp⟩
  have C__law_same : Cal P w K mg base 15 "_law_same" f__law_same d__law_same ["found", "due"] [] p__law_same := by
    have R : ∀ n : Nat, Cal P w K mg base (1 + n) "_law_same" f__law_same d__law_same ["found", "due"] [] (pr__law_same n) := fun n => by
      induction n with
      | zero => exact ⟨fnF_stuck (fun _ => rfl), F__law_same.binds (ps := ["found", "due"]) fun _ _ _ _ _ _ us hl => (match us, hl with | [_, _], _ => rfl), PySem.W.mg_of X Gn g__law_same, F__law_same.kp⟩
      | succ n ih => exact ⟨ok__law_same F__law_same (z_bool := z_bool) (z_int := z_int) (z_isinstance := z_isinstance) (z_len := z_len) (z_range := z_range) (z_str := z_str) (z_tuple := z_tuple) (C__law_same := ih), F__law_same.binds (ps := ["found", "due"]) fun _ _ _ _ _ _ us hl => (match us, hl with | [_, _], _ => rfl), PySem.W.mg_of X Gn g__law_same, F__law_same.kp⟩
    exact R 14
  have O__law_low : FnF P w K mg base 1 f__law_low d__law_low ["top", "bottom"] [] p__law_low := ok__law_low F__law_low (z_abs := z_abs) (z_int := z_int)
  have C__law_low : Cal P w K mg base 1 "_law_low" f__law_low d__law_low ["top", "bottom"] [] p__law_low := ⟨O__law_low, F__law_low.binds (ps := ["top", "bottom"]) fun _ _ _ _ _ _ us hl => (match us, hl with | [_, _], _ => rfl), PySem.W.mg_of X Gn g__law_low, F__law_low.kp⟩
  have O__law_plus : FnF P w K mg base 2 f__law_plus d__law_plus ["r", "s"] [] p__law_plus := ok__law_plus F__law_plus (C__law_low := C__law_low)
  have C__law_plus : Cal P w K mg base 2 "_law_plus" f__law_plus d__law_plus ["r", "s"] [] p__law_plus := ⟨O__law_plus, F__law_plus.binds (ps := ["r", "s"]) fun _ _ _ _ _ _ us hl => (match us, hl with | [_, _], _ => rfl), PySem.W.mg_of X Gn g__law_plus, F__law_plus.kp⟩
  have O__law_poly : FnF P w K mg base 1 f__law_poly d__law_poly ["table"] [] p__law_poly := ok__law_poly F__law_poly (HW := rfl) (z_sorted := z_sorted) (z_sum := z_sum) (z_tuple := z_tuple)
  have C__law_poly : Cal P w K mg base 1 "_law_poly" f__law_poly d__law_poly ["table"] [] p__law_poly := ⟨O__law_poly, F__law_poly.binds (ps := ["table"]) fun _ _ _ _ _ _ us hl => (match us, hl with | [_], _ => rfl), PySem.W.mg_of X Gn g__law_poly, F__law_poly.kp⟩
  have O__law_sum : FnF P w K mg base 3 f__law_sum d__law_sum ["p", "q"] [] p__law_sum := ok__law_sum F__law_sum (C__law_plus := C__law_plus) (C__law_poly := C__law_poly) (HW := rfl) (z_dict := z_dict)
  have C__law_sum : Cal P w K mg base 3 "_law_sum" f__law_sum d__law_sum ["p", "q"] [] p__law_sum := ⟨O__law_sum, F__law_sum.binds (ps := ["p", "q"]) fun _ _ _ _ _ _ us hl => (match us, hl with | [_, _], _ => rfl), PySem.W.mg_of X Gn g__law_sum, F__law_sum.kp⟩
  have O__law_by : FnF P w K mg base 2 f__law_by d__law_by ["r", "s"] [] p__law_by := ok__law_by F__law_by (C__law_low := C__law_low)
  have C__law_by : Cal P w K mg base 2 "_law_by" f__law_by d__law_by ["r", "s"] [] p__law_by := ⟨O__law_by, F__law_by.binds (ps := ["r", "s"]) fun _ _ _ _ _ _ us hl => (match us, hl with | [_, _], _ => rfl), PySem.W.mg_of X Gn g__law_by, F__law_by.kp⟩
  have O__law_value : FnF P w K mg base 3 f__law_value d__law_value ["p", "point"] [] p__law_value := ok__law_value F__law_value (C__law_by := C__law_by) (C__law_plus := C__law_plus) (z_len := z_len) (z_range := z_range)
  have C__law_value : Cal P w K mg base 3 "_law_value" f__law_value d__law_value ["p", "point"] [] p__law_value := ⟨O__law_value, F__law_value.binds (ps := ["p", "point"]) fun _ _ _ _ _ _ us hl => (match us, hl with | [_, _], _ => rfl), PySem.W.mg_of X Gn g__law_value, F__law_value.kp⟩
  have O__law_const : FnF P w K mg base 2 f__law_const d__law_const ["m", "r"] [] p__law_const := ok__law_const F__law_const (C__law_poly := C__law_poly) (HW := rfl)
  have C__law_const : Cal P w K mg base 2 "_law_const" f__law_const d__law_const ["m", "r"] [] p__law_const := ⟨O__law_const, F__law_const.binds (ps := ["m", "r"]) fun _ _ _ _ _ _ us hl => (match us, hl with | [_, _], _ => rfl), PySem.W.mg_of X Gn g__law_const, F__law_const.kp⟩
  have O__law_ratio : FnF P w K mg base 2 f__law_ratio d__law_ratio ["jug"] [0] p__law_ratio := ok__law_ratio F__law_ratio (C__law_low := C__law_low) (C__law_take := C__law_take)
  have C__law_ratio : Cal P w K mg base 2 "_law_ratio" f__law_ratio d__law_ratio ["jug"] [0] p__law_ratio := ⟨O__law_ratio, F__law_ratio.binds (ps := ["jug"]) fun _ _ _ _ _ _ us hl => (match us, hl with | [_], _ => rfl), PySem.W.mg_of X Gn g__law_ratio, F__law_ratio.kp⟩
  have O__law_drawn : FnF P w K mg base 3 f__law_drawn d__law_drawn ["jug", "m", "many", "degree"] [0] p__law_drawn := ok__law_drawn F__law_drawn (C__law_poly := C__law_poly) (C__law_ratio := C__law_ratio) (C__law_take := C__law_take) (HW := rfl) (z_range := z_range) (z_tuple := z_tuple)
  have C__law_drawn : Cal P w K mg base 3 "_law_drawn" f__law_drawn d__law_drawn ["jug", "m", "many", "degree"] [0] p__law_drawn := ⟨O__law_drawn, F__law_drawn.binds (ps := ["jug", "m", "many", "degree"]) fun _ _ _ _ _ _ us hl => (match us, hl with | [_, _, _, _], _ => rfl), PySem.W.mg_of X Gn g__law_drawn, F__law_drawn.kp⟩
  have O__law_loop : FnF P w K mg base 4 f__law_loop d__law_loop ["jug", "n", "degree"] [0] p__law_loop := ok__law_loop F__law_loop (C__law_drawn := C__law_drawn) (C__law_ratio := C__law_ratio) (C__law_take := C__law_take) (z_range := z_range) (z_tuple := z_tuple)
  have C__law_loop : Cal P w K mg base 4 "_law_loop" f__law_loop d__law_loop ["jug", "n", "degree"] [0] p__law_loop := ⟨O__law_loop, F__law_loop.binds (ps := ["jug", "n", "degree"]) fun _ _ _ _ _ _ us hl => (match us, hl with | [_, _, _], _ => rfl), PySem.W.mg_of X Gn g__law_loop, F__law_loop.kp⟩
  have O__law_after : FnF P w K mg base 4 f__law_after d__law_after ["loop", "rounds"] [] p__law_after := ok__law_after F__law_after (C__law_value := C__law_value) (z_range := z_range) (z_tuple := z_tuple)
  have C__law_after : Cal P w K mg base 4 "_law_after" f__law_after d__law_after ["loop", "rounds"] [] p__law_after := ⟨O__law_after, F__law_after.binds (ps := ["loop", "rounds"]) fun _ _ _ _ _ _ us hl => (match us, hl with | [_, _], _ => rfl), PySem.W.mg_of X Gn g__law_after, F__law_after.kp⟩
  have O__law_told : FnF P w K mg base 8 f__law_told d__law_told ["loop", "p", "most"] [] p__law_told := ok__law_told F__law_told (C_first_zero := C_first_zero) (H_BadLoop := H_BadLoop) (H_BadPolynomial := H_BadPolynomial) (H_BadRounds := H_BadRounds) (H_IdealError := H_IdealError) (T_BadLoop := T_BadLoop) (T_BadPolynomial := T_BadPolynomial) (T_BadRounds := T_BadRounds) (T_IdealError := T_IdealError)
  have C__law_told : Cal P w K mg base 8 "_law_told" f__law_told d__law_told ["loop", "p", "most"] [] p__law_told := ⟨O__law_told, F__law_told.binds (ps := ["loop", "p", "most"]) fun _ _ _ _ _ _ us hl => (match us, hl with | [_, _, _], _ => rfl), PySem.W.mg_of X Gn g__law_told, F__law_told.kp⟩
  have O_law := ok_law (P := P) (w := w) (base := base) F_law (C__law_after := C__law_after) (C__law_const := C__law_const) (C__law_drawn := C__law_drawn) (C__law_jug := C__law_jug) (C__law_loop := C__law_loop) (C__law_same := C__law_same) (C__law_sum := C__law_sum) (C__law_take := C__law_take) (C__law_told := C__law_told) (C__law_value := C__law_value) (C_first_zero := C_first_zero) (K_kp_first_zero_0_most_polynomial_loop := K_kp_first_zero_0_most_polynomial_loop F_first_zero) (z_len := z_len) (z_min := z_min) (z_range := z_range)
  exact O_law.imp (law_spT hl)
end
end K74

set_option Elab.async false
set_option linter.all false
namespace Rt
def lowP (a b : Int) : Int × Int := let g : Int := (Nat.gcd a.natAbs b.natAbs : Nat); if b < 0 then (a.fdiv (-g), b.fdiv (-g)) else (a.fdiv g, b.fdiv g)
structure IsR (p : Int × Int) : Prop where
  pos : 0 < p.2
  cop : Nat.gcd p.1.natAbs p.2.natAbs = 1
theorem lowP_eq {a b : Int} (hb : b ≠ 0) : ∃ g x y : Int, 0 < g ∧ a = g * x ∧ b = g * y ∧ lowP a b = (x, y) ∧ IsR (x, y) ∨ (0 < g ∧ a = g * (-x) ∧ b = g * (-y) ∧ lowP a b = (x, y) ∧ IsR (x, y)) := by
  have hg : 0 < Nat.gcd a.natAbs b.natAbs := Nat.gcd_pos_of_pos_right _ (by omega)
  have hc := Nat.coprime_div_gcd_div_gcd hg
  generalize hG : Nat.gcd a.natAbs b.natAbs = G at *
  have d1 : (G : Int) ∣ a := by rw [← hG]; exact Int.ofNat_dvd_left.mpr (Nat.gcd_dvd_left _ _)
  have d2 : (G : Int) ∣ b := by rw [← hG]; exact Int.ofNat_dvd_left.mpr (Nat.gcd_dvd_right _ _)
  obtain ⟨x, ex⟩ := d1
  obtain ⟨y, ey⟩ := d2
  have gpos : (0 : Int) < G := by omega
  have gne : (G : Int) ≠ 0 := by omega
  have c2 : Nat.gcd x.natAbs y.natAbs = 1 := by
    have h1 : a.natAbs = G * x.natAbs := by rw [ex, Int.natAbs_mul]; rfl
    have h2 : b.natAbs = G * y.natAbs := by rw [ey, Int.natAbs_mul]; rfl
    rw [h1, h2, Nat.mul_div_cancel_left _ hg, Nat.mul_div_cancel_left _ hg] at hc
    exact hc
  have hL : lowP a b = if b < 0 then (a.fdiv (-(G : Int)), b.fdiv (-(G : Int))) else (a.fdiv (G : Int), b.fdiv (G : Int)) := by
    unfold lowP
    rw [hG]
  by_cases h : b < 0
  · refine ⟨G, -x, -y, .inr ⟨gpos, by rw [Int.neg_neg]; exact ex, by rw [Int.neg_neg]; exact ey, ?_, ⟨?_, ?_⟩⟩⟩
    · rw [hL, if_pos h]
      have e1 : a = -(G : Int) * -x := by rw [ex, Int.neg_mul_neg]
      have e2 : b = -(G : Int) * -y := by rw [ey, Int.neg_mul_neg]
      have n : -(G : Int) ≠ 0 := by omega
      rw [show a.fdiv (-(G : Int)) = -x by rw [e1]; exact Int.mul_fdiv_cancel_left _ n, show b.fdiv (-(G : Int)) = -y by rw [e2]; exact Int.mul_fdiv_cancel_left _ n]
    · show 0 < -y
      rw [ey] at h
      have : y < 0 := by
        refine Classical.byContradiction fun hy => ?_
        have := Int.mul_nonneg (Int.le_of_lt gpos) (show 0 ≤ y by omega)
        omega
      omega
    · show Nat.gcd (-x).natAbs (-y).natAbs = 1
      rw [Int.natAbs_neg, Int.natAbs_neg]
      exact c2
  · refine ⟨G, x, y, .inl ⟨gpos, ex, ey, ?_, ⟨?_, c2⟩⟩⟩
    · rw [hL, if_neg h, show a.fdiv (G : Int) = x by rw [ex]; exact Int.mul_fdiv_cancel_left _ gne, show b.fdiv (G : Int) = y by rw [ey]; exact Int.mul_fdiv_cancel_left _ gne]
    · show 0 < y
      refine Classical.byContradiction fun hy => ?_
      have h3 : y ≤ 0 := by omega
      have h4 : (G : Int) * y ≤ 0 := Int.mul_nonpos_of_nonneg_of_nonpos (Int.le_of_lt gpos) h3
      omega
theorem low_isR {a b : Int} (hb : b ≠ 0) : IsR (lowP a b) := by
  obtain ⟨g, x, y, h | h⟩ := lowP_eq (a := a) hb
  · rw [h.2.2.2.1]; exact h.2.2.2.2
  · rw [h.2.2.2.1]; exact h.2.2.2.2
theorem low_cross {a b : Int} (hb : b ≠ 0) : (lowP a b).1 * b = a * (lowP a b).2 := by
  obtain ⟨g, x, y, ⟨_, h1, h2, h3, _⟩ | ⟨_, h1, h2, h3, _⟩⟩ := lowP_eq (a := a) hb
  · rw [h3]; grind
  · rw [h3]; grind
theorem uniq {p q : Int × Int} (hp : IsR p) (hq : IsR q) (h : p.1 * q.2 = q.1 * p.2) : p = q := by
  obtain ⟨a, b⟩ := p
  obtain ⟨c, d⟩ := q
  have hp1 : 0 < b := hp.pos
  have hq1 : 0 < d := hq.pos
  have hp2 : Nat.Coprime a.natAbs b.natAbs := hp.cop
  have hq2 : Nat.Coprime c.natAbs d.natAbs := hq.cop
  simp only at h
  have h1 : a.natAbs * d.natAbs = c.natAbs * b.natAbs := by rw [← Int.natAbs_mul, ← Int.natAbs_mul, h]
  have bd : b.natAbs ∣ d.natAbs := hp2.symm.dvd_of_dvd_mul_left ⟨c.natAbs, by rw [h1, Nat.mul_comm]⟩
  have db : d.natAbs ∣ b.natAbs := hq2.symm.dvd_of_dvd_mul_left ⟨a.natAbs, by rw [← h1, Nat.mul_comm]⟩
  have e : b.natAbs = d.natAbs := Nat.dvd_antisymm bd db
  have e2 : b = d := by omega
  subst e2
  have e3 : a = c := Int.eq_of_mul_eq_mul_right (by omega) h
  rw [e3]
theorem low_of {p : Int × Int} (hp : IsR p) {a b : Int} (hb : b ≠ 0) (h : p.1 * b = a * p.2) : lowP a b = p := by
  refine uniq (low_isR hb) hp ?_
  have h1 := low_cross (a := a) hb
  have : ((lowP a b).1 * p.2) * b = (p.1 * (lowP a b).2) * b := by grind
  exact Int.eq_of_mul_eq_mul_right hb this
theorem low_one (a : Int) : lowP a 1 = (a, 1) := low_of (p := (a, 1)) ⟨by show (0 : Int) < 1; decide, by show Nat.gcd a.natAbs 1 = 1; simp⟩ (by decide) (by simp)
def addP (r s : Int × Int) : Int × Int := lowP (r.1 * s.2 + s.1 * r.2) (r.2 * s.2)
def mulP (r s : Int × Int) : Int × Int := lowP (r.1 * s.1) (r.2 * s.2)
theorem bot_ne {r s : Int × Int} (hr : IsR r) (hs : IsR s) : r.2 * s.2 ≠ 0 := by
  have h1 := hr.pos
  have h2 := hs.pos
  exact Int.mul_ne_zero (by omega) (by omega)
theorem add_isR {r s : Int × Int} (hr : IsR r) (hs : IsR s) : IsR (addP r s) := low_isR (bot_ne hr hs)
theorem mul_isR {r s : Int × Int} (hr : IsR r) (hs : IsR s) : IsR (mulP r s) := low_isR (bot_ne hr hs)
theorem add_cross {r s : Int × Int} (hr : IsR r) (hs : IsR s) : (addP r s).1 * (r.2 * s.2) = (r.1 * s.2 + s.1 * r.2) * (addP r s).2 := low_cross (bot_ne hr hs)
theorem mul_cross {r s : Int × Int} (hr : IsR r) (hs : IsR s) : (mulP r s).1 * (r.2 * s.2) = (r.1 * s.1) * (mulP r s).2 := low_cross (bot_ne hr hs)
theorem add_one {a b : Int} : addP (a, 1) (b, 1) = (a + b, 1) := by
  show lowP (a * 1 + b * 1) (1 * 1) = _
  rw [Int.mul_one, Int.mul_one, Int.mul_one]
  exact low_one _
theorem mul_one {a b : Int} : mulP (a, 1) (b, 1) = (a * b, 1) := by
  show lowP (a * b) (1 * 1) = _
  rw [Int.mul_one]
  exact low_one _
theorem mul_of {r s p : Int × Int} (hr : IsR r) (hs : IsR s) (hp : IsR p) (h : p.1 * (r.2 * s.2) = (r.1 * s.1) * p.2) : mulP r s = p := low_of hp (bot_ne hr hs) h
theorem pow_isR {r : Int × Int} (hr : IsR r) (k : Nat) : IsR (r.1 ^ k, r.2 ^ k) := by
  refine ⟨Int.pow_pos hr.pos, ?_⟩
  show Nat.gcd (r.1 ^ k).natAbs (r.2 ^ k).natAbs = 1
  rw [Int.natAbs_pow, Int.natAbs_pow]
  exact Nat.Coprime.pow k k hr.cop
theorem pow_mul {r : Int × Int} (hr : IsR r) (k : Nat) : mulP (r.1 ^ k, r.2 ^ k) r = (r.1 ^ (k + 1), r.2 ^ (k + 1)) := by
  refine mul_of (pow_isR hr k) hr (pow_isR hr (k + 1)) ?_
  show r.1 ^ (k + 1) * (r.2 ^ k * r.2) = r.1 ^ k * r.1 * r.2 ^ (k + 1)
  rw [Int.pow_succ, Int.pow_succ]
end Rt

set_option Elab.async false
set_option linter.all false
set_option maxRecDepth 100000
set_option maxHeartbeats 4000000
namespace Pg
open PySem Fx Rt
abbrev rD (p : Int × Int) : D := .tup [.int p.1, .int p.2]
def Sz (n : Nat) (i : Int) : Prop := i.natAbs < 2 ^ n
theorem Sz.log {n : Nat} {i : Int} (h : Sz n i) (hn : 0 < n) : i.natAbs.log2 < n := by
  by_cases h0 : i.natAbs = 0
  · rw [h0]; exact hn
  · exact (Nat.log2_lt h0).mpr h
theorem Sz.mono {n m : Nat} {i : Int} (h : Sz n i) (hm : n ≤ m) : Sz m i := Nat.lt_of_lt_of_le h (Nat.pow_le_pow_right (by decide) hm)
theorem Sz.mul {n m : Nat} {i j : Int} (h : Sz n i) (h2 : Sz m j) : Sz (n + m) (i * j) := by
  unfold Sz at *
  rw [Int.natAbs_mul, Nat.pow_add]
  exact Nat.mul_lt_mul'' h h2
theorem mulC_sz {n m : Nat} {i j : Int} (h : Sz n i) (h2 : Sz m j) (hs : n + m ≤ 100000000) (hn : 0 < n := by decide) (hm : 0 < m := by decide) : MulC i j := by
  have a := h.log hn
  have b := h2.log hm
  exact .inl (by omega)
structure RSz (n : Nat) (p : Int × Int) : Prop where
  top : Sz n p.1
  bot : Sz n p.2
theorem RSz.mono {n m : Nat} {p : Int × Int} (h : RSz n p) (hm : n ≤ m) : RSz m p := ⟨h.top.mono hm, h.bot.mono hm⟩
@[simp] theorem v_tyob {c : Str} {fs : List (Str × D)} : tyN (.val (.ob c fs)) = none := rfl
theorem is_int_v (d : D) : p_is_int [.v d] = match tyN (.val d) with | some t => .ok (.v (.bl (decide (t = "int")))) [.v d] | none => .stuck := by
  cases d <;> simp [p_is_int, fs_is_int]
@[simp] theorem is_int_int (i : Int) : p_is_int [.v (.int i)] = .ok (.v (.bl true)) [.v (.int i)] := by rw [is_int_v]; rfl
@[simp] theorem lowest_v {a b : Int} (hb : b ≠ 0) (hl : b.natAbs.log2 < 9000) : p_lowest [.v (.int a), .v (.int b)] = .ok (.v (rD (lowP a b))) [.v (.int a), .v (.int b)] := by
  have hg : Nat.gcd a.natAbs b.natAbs ≠ 0 := Nat.pos_iff_ne_zero.mp (Nat.gcd_pos_of_pos_right _ (by omega))
  have hle : Nat.gcd a.natAbs b.natAbs ≤ b.natAbs := Nat.gcd_le_right _ (by omega)
  have hlog : (Nat.gcd a.natAbs b.natAbs).log2 < 9000 := by
    rw [Nat.log2_lt hg]
    rw [Nat.log2_lt (by omega)] at hl
    omega
  have hd1 : DivC a ((Nat.gcd a.natAbs b.natAbs : Nat) : Int) := ⟨by omega, by simpa using hlog⟩
  have hd2 : DivC b ((Nat.gcd a.natAbs b.natAbs : Nat) : Int) := ⟨by omega, by simpa using hlog⟩
  have hd3 : DivC a (-((Nat.gcd a.natAbs b.natAbs : Nat) : Int)) := ⟨by omega, by simpa using hlog⟩
  have hd4 : DivC b (-((Nat.gcd a.natAbs b.natAbs : Nat) : Int)) := ⟨by omega, by simpa using hlog⟩
  by_cases h : b < 0
  · simp [p_lowest, fs_lowest, h, hd3, hd4, line_le, lowP]
  · simp [p_lowest, fs_lowest, h, hd1, hd2, line_le, lowP]

theorem log_of {n : Nat} {i : Int} (h : Sz n i) (hn : 0 < n) (h9 : n ≤ 9000) : i.natAbs.log2 < 9000 := Nat.lt_of_lt_of_le (h.log hn) h9
@[simp] theorem is_ratio_r {p : Int × Int} (hp : IsR p) : p_is_ratio [.v (rD p)] = .ok (.v (.bl true)) [.v (rD p)] := by
  have h1 := hp.pos
  have h2 := hp.cop
  simp [p_is_ratio, fs_is_ratio, p_is_row, fs_is_row, h1, h2]
@[simp] theorem need_ratio_r {p : Int × Int} (hp : IsR p) : p_need_ratio [.v (rD p)] = .ok (.v .non) [.v (rD p)] := by
  simp [p_need_ratio, fs_need_ratio, hp]
theorem added_r {r s : Int × Int} (hr : IsR r) (hs : IsR s) (h1 : RSz 4000 r) (h2 : RSz 4000 s) : p_added [.v (rD r), .v (rD s)] = .ok (.v (rD (addP r s))) [.v (rD r), .v (rD s)] := by
  have m1 : MulC r.1 s.2 := mulC_sz h1.top h2.bot (by decide)
  have m2 : MulC s.1 r.2 := mulC_sz h2.top h1.bot (by decide)
  have m3 : MulC r.2 s.2 := mulC_sz h1.bot h2.bot (by decide)
  have hb := bot_ne hr hs
  have hl : (r.2 * s.2).natAbs.log2 < 9000 := log_of (h1.bot.mul h2.bot) (by decide) (by decide)
  obtain ⟨a, b⟩ := r
  obtain ⟨c, d⟩ := s
  by_cases e1 : b = 1
  · by_cases e2 : d = 1
    · subst e1; subst e2
      simp [p_added, fs_added, line_le, add_one]
    · subst e1
      simp only at m1 m2 m3 hb hl
      simp [p_added, fs_added, e2, m1, m2, m3] 
      simp at hb hl
      simp [hb, hl, addP]
  · simp only at m1 m2 m3 hb hl
    simp [p_added, fs_added, e1, m1, m2, m3, hb, hl, addP]

theorem half_lt {k : Nat} (h : 0 < k) : k / 2 < k := Nat.div_lt_self h (by decide)
theorem pow_half (x : Int) (k : Nat) : x ^ k = (if k % 2 = 1 then x else 1) * (x * x) ^ (k / 2) := by
  have e : x * x = x ^ 2 := by rw [Int.pow_succ, Int.pow_succ, Int.pow_zero, Int.one_mul]
  rw [e, ← Int.pow_mul]
  split
  · rw [Int.mul_comm, ← Int.pow_succ]
    congr 1
    omega
  · rw [Int.one_mul]
    congr 1
    omega
theorem raised_loop (N : Nat) (hN : N ≤ 100000000) (r : D) : ∀ (k a m : Nat) (f s : Int × Int), RSz a f → RSz m s → 0 < a → 0 < m → a + m * k ≤ N →
    ∃ s', whileF k_raised_0t k_raised_0b [some (.v r), some (.v (.int k)), some (.v (rD f)), some (.v (rD s))] = .nx [some (.v r), some (.v (.int 0)), some (.v (rD (f.1 * s.1 ^ k, f.2 * s.2 ^ k))), some (.v s')] := by
  intro k
  induction k using Nat.strongRecOn with
  | ind k ih =>
    intro a m f s hf hs ha hm hk
    by_cases h0 : k = 0
    · subst h0
      refine ⟨rD s, ?_⟩
      rw [while_done (ρ1 := [some (.v r), some (.v (.int 0)), some (.v (rD f)), some (.v (rD s))]) (by simp [k_raised_0t])]
      simp
    · have hpos : 0 < k := Nat.pos_of_ne_zero h0
      have hmk : m ≤ m * k := Nat.le_mul_of_pos_right _ hpos
      have mf1 : MulC f.1 s.1 := mulC_sz hf.top hs.top (by omega) ha hm
      have mf2 : MulC f.2 s.2 := mulC_sz hf.bot hs.bot (by omega) ha hm
      have hdiv : ((k : Int).fdiv 2) = ((k / 2 : Nat) : Int) := by rw [Int.fdiv_eq_ediv_of_nonneg _ (by decide)]; omega
      have hmod : ((k : Int).fmod 2) = ((k % 2 : Nat) : Int) := by rw [Int.fmod_eq_emod_of_nonneg _ (by decide)]; omega
      have hDiv : DivC (k : Int) 2 := ⟨by decide, by decide⟩
      have hMod : ModC (k : Int) 2 := by show (2 : Int) ≠ 0; decide
      have ht : k_raised_0t [some (.v r), some (.v (.int k)), some (.v (rD f)), some (.v (rD s))] = .ok true [some (.v r), some (.v (.int k)), some (.v (rD f)), some (.v (rD s))] := by
        simp [k_raised_0t, hpos]
      -- what is found behind the turn
      obtain ⟨f', a', hf', ha', hb1, hpw, hle⟩ : ∃ (f' : Int × Int) (a' : Nat), RSz a' f' ∧ 0 < a' ∧ (∀ (t : FS), (ifSF (testF (op2F (eqD false) (op2F fmodD (varF 1) (cF (.int 2))) (cF (.int 1)))) (setF 2 (tupF (consF (op2F mulD (b2F ixD (bS 2) (cF (.int 0))) (b2F ixD (bS 3) (cF (.int 0)))) (consF (op2F mulD (b2F ixD (bS 2) (cF (.int 1))) (b2F ixD (bS 3) (cF (.int 1)))) nilF)))) nextF) [some (.v r), some (.v (.int k)), some (.v (rD f)), some (.v (rD s))] = .nx [some (.v r), some (.v (.int k)), some (.v (rD f')), some (.v (rD s))])
          ∧ (f'.1 * (s.1 * s.1) ^ (k / 2), f'.2 * (s.2 * s.2) ^ (k / 2)) = (f.1 * s.1 ^ k, f.2 * s.2 ^ k) ∧ a' + (m + m) * (k / 2) ≤ N := by
        have hmm : (m + m) * (k / 2) = m * (2 * (k / 2)) := by rw [← Nat.two_mul, Nat.mul_assoc, Nat.mul_left_comm]
        by_cases ho : k % 2 = 1
        · refine ⟨(f.1 * s.1, f.2 * s.2), a + m, ⟨hf.top.mul hs.top, hf.bot.mul hs.bot⟩, by omega, fun _ => ?_, ?_, ?_⟩
          · simp [hMod, hmod, ho, mf1, mf2, line_le, -Int.natCast_emod]
          · rw [pow_half s.1 k, pow_half s.2 k, if_pos ho, if_pos ho, Int.mul_assoc, Int.mul_assoc]
          · have hk2 : 2 * (k / 2) + 1 = k := by omega
            have : m * k = m * (2 * (k / 2)) + m := by rw [← Nat.mul_succ, Nat.succ_eq_add_one, hk2]
            omega
        · have ho0 : k % 2 = 0 := by omega
          refine ⟨f, a, hf, ha, fun _ => ?_, ?_, ?_⟩
          · simp [hMod, hmod, ho0, -Int.natCast_emod]
          · rw [pow_half s.1 k, pow_half s.2 k, if_neg ho, if_neg ho, Int.one_mul, Int.one_mul]
          · have hk2 : 2 * (k / 2) = k := by omega
            rw [hmm, hk2]
            exact hk
      by_cases hz : 2 ≤ k
      · have hm2 : m * 2 ≤ m * k := Nat.mul_le_mul_left _ hz
        have ms1 : MulC s.1 s.1 := mulC_sz hs.top hs.top (by omega) hm hm
        have ms2 : MulC s.2 s.2 := mulC_sz hs.bot hs.bot (by omega) hm hm
        have hb : k_raised_0b [some (.v r), some (.v (.int k)), some (.v (rD f)), some (.v (rD s))] = .nx [some (.v r), some (.v (.int (k / 2 : Nat))), some (.v (rD f')), some (.v (rD (s.1 * s.1, s.2 * s.2)))] := by
          unfold k_raised_0b
          rw [e_seq, hb1 nextF]
          have h2 : (2 : Nat) ≤ k := hz
          simp [hDiv, hdiv, ms1, ms2, line_le, h2, -Int.natCast_ediv]
        rw [while_step ht hb]
        obtain ⟨s', h⟩ := ih (k / 2) (half_lt hpos) a' (m + m) f' (s.1 * s.1, s.2 * s.2) hf' ⟨hs.top.mul hs.top, hs.bot.mul hs.bot⟩ ha' (by omega) hle
        exact ⟨s', by rw [h, ← hpw]⟩
      · have hz0 : k / 2 = 0 := by omega
        have hb : k_raised_0b [some (.v r), some (.v (.int k)), some (.v (rD f)), some (.v (rD s))] = .nx [some (.v r), some (.v (.int 0)), some (.v (rD f')), some (.v (rD s))] := by
          unfold k_raised_0b
          rw [e_seq, hb1 nextF]
          simp [hDiv, hdiv, hz0, -Int.natCast_ediv]
        rw [while_step ht hb, while_done (ρ1 := [some (.v r), some (.v (.int 0)), some (.v (rD f')), some (.v (rD s))]) (by simp [k_raised_0t])]
        rw [hz0] at hpw
        simp only [Int.pow_zero, Int.mul_one] at hpw
        exact ⟨rD s, by rw [← hpw]⟩
theorem raised_r {r : Int × Int} {n k : Nat} (h : RSz n r) (hn : 0 < n) (hk : 1 + n * k ≤ 100000000) : p_raised [.v (rD r), .v (.int k)] = .ok (.v (rD (r.1 ^ k, r.2 ^ k))) [.v (rD r), .v (.int k)] := by
  obtain ⟨s', e⟩ := raised_loop 100000000 (Nat.le_refl _) (rD r) k 1 n (1, 1) r ⟨by unfold Sz; decide, by unfold Sz; decide⟩ h (by decide) hn hk
  simp only [Int.one_mul] at e
  simp only [rD] at e
  simp [p_raised, fs_raised, c_ONE, e]
section
variable {r s : Int × Int} (hr : IsR r) (hs : IsR s) (h1 : RSz 4000 r) (h2 : RSz 4000 s)
include hr hs h1 h2
theorem ratio_plus_r : p_ratio_plus [.v (rD r), .v (rD s)] = .ok (.v (rD (addP r s))) [.v (rD r), .v (rD s)] := by
  have e := added_r hr hs h1 h2
  simp only [rD] at e
  simp [p_ratio_plus, fs_ratio_plus, hr, hs, e]
end
end Pg

set_option Elab.async false
set_option linter.all false
set_option maxRecDepth 100000
set_option maxHeartbeats 1000000
namespace Pg
open PySem Fx Rt
theorem dvd_of_cross {p : Int × Int} (hp : IsR p) {a M : Int} (h : p.1 * M = a * p.2) : p.2 ∣ M := by
  have h1 : p.2 ∣ p.1 * M := ⟨a, by rw [h, Int.mul_comm]⟩
  have hc : Nat.Coprime p.2.natAbs p.1.natAbs := by have := hp.cop; rw [Nat.gcd_comm] at this; exact this
  have h2 : p.2.natAbs ∣ p.1.natAbs * M.natAbs := by rw [← Int.natAbs_mul]; exact Int.natAbs_dvd_natAbs.mpr h1
  exact Int.natAbs_dvd_natAbs.mp (hc.dvd_of_dvd_mul_left h2)
theorem low_den {a b : Int} (hb : b ≠ 0) : (lowP a b).2 ∣ b := dvd_of_cross (low_isR hb) (low_cross hb)
theorem add_den {r s : Int × Int} (hr : IsR r) (hs : IsR s) {M : Int} (h1 : r.2 ∣ M) (h2 : s.2 ∣ M) : (addP r s).2 ∣ M := by
  obtain ⟨x, hx⟩ := h1
  obtain ⟨y, hy⟩ := h2
  have hc := add_cross hr hs
  have hp1 := hr.pos
  have hp2 := hs.pos
  refine dvd_of_cross (add_isR hr hs) (a := r.1 * x + s.1 * y) ?_
  have hne : r.2 * s.2 ≠ 0 := bot_ne hr hs
  refine Int.eq_of_mul_eq_mul_right hne ?_
  have e1 : (addP r s).1 * M * (r.2 * s.2) = (addP r s).1 * (r.2 * s.2) * M := by grind
  rw [e1, hc]
  have e2 : (r.1 * s.2 + s.1 * r.2) * M = r.1 * s.2 * (r.2 * x) + s.1 * r.2 * (s.2 * y) := by
    rw [Int.add_mul, ← hx, ← hy]
  have e3 : (r.1 * s.2 + s.1 * r.2) * (addP r s).2 * M = (r.1 * s.2 + s.1 * r.2) * M * (addP r s).2 := by grind
  rw [e3, e2]
  grind
theorem mul_den {r s : Int × Int} (hr : IsR r) (hs : IsR s) : (mulP r s).2 ∣ r.2 * s.2 := low_den (bot_ne hr hs)
structure Dz (N : Nat) (r : Int × Int) : Prop where
  sz : RSz N r
  dn : r.2 ∣ 2
theorem Dz.mono {n m : Nat} {p : Int × Int} (h : Dz n p) (hm : n ≤ m) : Dz m p := ⟨h.sz.mono hm, h.dn⟩
structure Dy (d v : Nat) (r : Int × Int) : Prop where
  isr : IsR r
  dn : ∃ k : Nat, 12 * k ≤ d ∧ r.2 ∣ 2520 ^ k
  le : (r.1.natAbs : Int) ≤ 2 ^ v * r.2
theorem b_pow {j k : Nat} (h : j ≤ k) {a : Int} (ha : a ∣ 2520 ^ j) : a ∣ 2520 ^ k := by
  obtain ⟨i, rfl⟩ := Nat.exists_eq_add_of_le h
  rw [Int.pow_add]
  exact Int.dvd_trans ha ⟨_, rfl⟩
theorem b_le {k d : Nat} (h : 12 * k ≤ d) : (2520 : Int) ^ k ≤ 2 ^ d := by
  have h1 : 2520 ^ k ≤ (2 ^ 12) ^ k := Nat.pow_le_pow_left (by decide) k
  rw [← Nat.pow_mul] at h1
  have h2 : 2 ^ (12 * k) ≤ 2 ^ d := Nat.pow_le_pow_right (by decide) h
  have h3 : ((2520 ^ k : Nat) : Int) ≤ ((2 ^ d : Nat) : Int) := Int.ofNat_le.mpr (Nat.le_trans h1 h2)
  simpa using h3
theorem Dy.mono {d d' v v' : Nat} {r : Int × Int} (h : Dy d v r) (h1 : d ≤ d') (h2 : v ≤ v') : Dy d' v' r := by
  refine ⟨h.isr, ?_, ?_⟩
  · obtain ⟨k, hk, hd⟩ := h.dn
    exact ⟨k, Nat.le_trans hk h1, hd⟩
  · have := h.isr.pos
    refine Int.le_trans h.le (Int.mul_le_mul_of_nonneg_right ?_ (by omega))
    obtain ⟨k, rfl⟩ := Nat.exists_eq_add_of_le h2
    rw [Int.pow_add]
    have h3 : (1 : Int) ≤ 2 ^ k := Int.pow_pos (by decide)
    have h4 : (0 : Int) ≤ 2 ^ v := Int.le_of_lt (Int.pow_pos (by decide))
    calc (2 : Int) ^ v = 2 ^ v * 1 := (Int.mul_one _).symm
      _ ≤ 2 ^ v * 2 ^ k := Int.mul_le_mul_of_nonneg_left h3 h4
theorem abs_cross {x y z w : Int} (h : x * y = z * w) (hy : 0 ≤ y) (hw : 0 ≤ w) : (x.natAbs : Int) * y = (z.natAbs : Int) * w := by
  obtain ⟨y', rfl⟩ := Int.eq_ofNat_of_zero_le hy
  obtain ⟨w', rfl⟩ := Int.eq_ofNat_of_zero_le hw
  have := congrArg Int.natAbs h
  rw [Int.natAbs_mul, Int.natAbs_mul, Int.natAbs_natCast, Int.natAbs_natCast] at this
  exact_mod_cast this
theorem dy_add {d v : Nat} {r s : Int × Int} (h1 : Dy d v r) (h2 : Dy d v s) : Dy d (v + 1) (addP r s) := by
  refine ⟨add_isR h1.isr h2.isr, ?_, ?_⟩
  · obtain ⟨j, hj, dj⟩ := h1.dn
    obtain ⟨k, hk, dk⟩ := h2.dn
    exact ⟨max j k, by omega, add_den h1.isr h2.isr (b_pow (by omega) dj) (b_pow (by omega) dk)⟩
  have hc := add_cross h1.isr h2.isr
  have p1 := h1.isr.pos
  have p2 := h2.isr.pos
  have p3 := (add_isR h1.isr h2.isr).pos
  have l1 := h1.le
  have l2 := h2.le
  have hb : 0 < r.2 * s.2 := Int.mul_pos p1 p2
  have e := abs_cross hc (by omega) (by omega)
  have hle : ((r.1 * s.2 + s.1 * r.2).natAbs : Int) ≤ 2 ^ (v + 1) * (r.2 * s.2) := by
    have t := Int.natAbs_add_le (r.1 * s.2) (s.1 * r.2)
    rw [Int.natAbs_mul, Int.natAbs_mul] at t
    have h3 : (s.2.natAbs : Int) = s.2 := Int.natAbs_of_nonneg (by omega)
    have h4 : (r.2.natAbs : Int) = r.2 := Int.natAbs_of_nonneg (by omega)
    have t' : ((r.1 * s.2 + s.1 * r.2).natAbs : Int) ≤ (r.1.natAbs : Int) * s.2 + (s.1.natAbs : Int) * r.2 := by
      have : ((r.1 * s.2 + s.1 * r.2).natAbs : Int) ≤ ((r.1.natAbs * s.2.natAbs + s.1.natAbs * r.2.natAbs : Nat) : Int) := Int.ofNat_le.mpr t
      simp only [Int.natCast_add, Int.natCast_mul, h3, h4] at this
      exact this
    have a1 : (r.1.natAbs : Int) * s.2 ≤ 2 ^ v * r.2 * s.2 := Int.mul_le_mul_of_nonneg_right l1 (by omega)
    have a2 : (s.1.natAbs : Int) * r.2 ≤ 2 ^ v * s.2 * r.2 := Int.mul_le_mul_of_nonneg_right l2 (by omega)
    have e5 : (2 : Int) ^ (v + 1) * (r.2 * s.2) = 2 ^ v * r.2 * s.2 + 2 ^ v * s.2 * r.2 := by rw [Int.pow_succ]; grind
    omega
  refine Int.le_of_mul_le_mul_right ?_ hb
  rw [e]
  calc _ ≤ 2 ^ (v + 1) * (r.2 * s.2) * (addP r s).2 := Int.mul_le_mul_of_nonneg_right hle (by omega)
    _ = 2 ^ (v + 1) * (addP r s).2 * (r.2 * s.2) := by grind
theorem dy_mul {d d' v v' : Nat} {r s : Int × Int} (h1 : Dy d v r) (h2 : Dy d' v' s) : Dy (d + d') (v + v') (mulP r s) := by
  have p1 := h1.isr.pos
  have p2 := h2.isr.pos
  have p3 := (mul_isR h1.isr h2.isr).pos
  have hb : 0 < r.2 * s.2 := Int.mul_pos p1 p2
  refine ⟨mul_isR h1.isr h2.isr, ?_, ?_⟩
  · obtain ⟨j, hj, dj⟩ := h1.dn
    obtain ⟨k, hk, dk⟩ := h2.dn
    exact ⟨j + k, by omega, by rw [Int.pow_add]; exact Int.dvd_trans (mul_den h1.isr h2.isr) (Int.mul_dvd_mul dj dk)⟩
  · have hc := mul_cross h1.isr h2.isr
    have e := abs_cross hc (by omega) (by omega)
    rw [Int.natAbs_mul, Int.natCast_mul] at e
    refine Int.le_of_mul_le_mul_right ?_ hb
    rw [e]
    have l1 := h1.le
    have l2 := h2.le
    have hle : (r.1.natAbs : Int) * (s.1.natAbs : Int) ≤ 2 ^ v * r.2 * (2 ^ v' * s.2) := Int.mul_le_mul l1 l2 (by omega) (Int.mul_nonneg (Int.le_of_lt (Int.pow_pos (by decide))) (by omega))
    calc _ ≤ 2 ^ v * r.2 * (2 ^ v' * s.2) * (mulP r s).2 := Int.mul_le_mul_of_nonneg_right hle (by omega)
      _ = 2 ^ (v + v') * (mulP r s).2 * (r.2 * s.2) := by rw [Int.pow_add]; grind
theorem Dy.bot {d v : Nat} {r : Int × Int} (h : Dy d v r) : Sz (d + 1) r.2 := by
  have h1 : r.2 ≤ 2 ^ d := by
    obtain ⟨k, hk, hd⟩ := h.dn
    exact Int.le_trans (Int.le_of_dvd (Int.pow_pos (by decide)) hd) (b_le hk)
  have h2 := h.isr.pos
  unfold Sz
  have e : ((r.2.natAbs : Nat) : Int) = r.2 := Int.natAbs_of_nonneg (by omega)
  have h3 : ((2 ^ d : Nat) : Int) = 2 ^ d := by simp
  have h4 : (2 : Nat) ^ (d + 1) = 2 ^ d * 2 := Nat.pow_succ ..
  have h5 : 0 < (2 : Nat) ^ d := Nat.pow_pos (by decide)
  omega
theorem Dy.top {d v : Nat} {r : Int × Int} (h : Dy d v r) : Sz (d + v + 1) r.1 := by
  have h1 : r.2 ≤ 2 ^ d := by
    obtain ⟨k, hk, hd⟩ := h.dn
    exact Int.le_trans (Int.le_of_dvd (Int.pow_pos (by decide)) hd) (b_le hk)
  have h2 := h.isr.pos
  have hl := h.le
  have h4 : (2 : Int) ^ v * r.2 ≤ 2 ^ v * 2 ^ d := Int.mul_le_mul_of_nonneg_left h1 (Int.le_of_lt (Int.pow_pos (by decide)))
  rw [← Int.pow_add] at h4
  unfold Sz
  have h3 : ((2 ^ (v + d) : Nat) : Int) = 2 ^ (v + d) := by simp
  have h5 : (2 : Nat) ^ (d + v + 1) = 2 ^ (v + d) * 2 := by rw [Nat.pow_succ, Nat.add_comm]
  have h6 : 0 < (2 : Nat) ^ (v + d) := Nat.pow_pos (by decide)
  omega
theorem Dz.dy {N : Nat} {r : Int × Int} (h : Dz N r) (hr : IsR r) : Dy 12 N r := by
  refine ⟨hr, ⟨1, by decide, Int.dvd_trans h.dn (by decide)⟩, ?_⟩
  have h1 := h.sz.top
  have h2 := hr.pos
  unfold Sz at h1
  have h3 : ((2 ^ N : Nat) : Int) = 2 ^ N := by simp
  have h5 : (0 : Int) < 2 ^ N := Int.pow_pos (by decide)
  calc (r.1.natAbs : Int) ≤ 2 ^ N := by omega
    _ = 2 ^ N * 1 := (Int.mul_one _).symm
    _ ≤ 2 ^ N * r.2 := Int.mul_le_mul_of_nonneg_left (by omega) (by omega)
section
variable {r s : Int × Int} {d d' v v' : Nat}
theorem added_y (h1 : Dy d v r) (h2 : Dy d' v' s) (hd : d + d' + 2 ≤ 9000) (hv : v + v' ≤ 90000000) : p_added [.v (rD r), .v (rD s)] = .ok (.v (rD (addP r s))) [.v (rD r), .v (rD s)] := by
  have m1 : MulC r.1 s.2 := mulC_sz h1.top h2.bot (by omega) (by omega) (by omega)
  have m2 : MulC s.1 r.2 := mulC_sz h2.top h1.bot (by omega) (by omega) (by omega)
  have m3 : MulC r.2 s.2 := mulC_sz h1.bot h2.bot (by omega) (by omega) (by omega)
  have hb := bot_ne h1.isr h2.isr
  have hl : (r.2 * s.2).natAbs.log2 < 9000 := log_of (h1.bot.mul h2.bot) (by omega) (by omega)
  obtain ⟨a, b⟩ := r
  obtain ⟨c, d⟩ := s
  simp only at m1 m2 m3 hb hl
  by_cases e1 : b = 1
  · by_cases e2 : d = 1
    · subst e1; subst e2
      simp [p_added, fs_added, line_le, add_one]
    · subst e1
      simp [p_added, fs_added, e2, m1, m2, m3]
      simp at hb hl
      simp [hb, hl, addP]
  · simp [p_added, fs_added, e1, m1, m2, m3, hb, hl, addP]
theorem multiplied_y (h1 : Dy d v r) (h2 : Dy d' v' s) (hd : d + d' + 2 ≤ 9000) (hv : v + v' ≤ 90000000) : p_multiplied [.v (rD r), .v (rD s)] = .ok (.v (rD (mulP r s))) [.v (rD r), .v (rD s)] := by
  have m1 : MulC r.1 s.1 := mulC_sz h1.top h2.top (by omega) (by omega) (by omega)
  have m3 : MulC r.2 s.2 := mulC_sz h1.bot h2.bot (by omega) (by omega) (by omega)
  have hb := bot_ne h1.isr h2.isr
  have hl : (r.2 * s.2).natAbs.log2 < 9000 := log_of (h1.bot.mul h2.bot) (by omega) (by omega)
  obtain ⟨a, b⟩ := r
  obtain ⟨c, d⟩ := s
  simp only at m1 m3 hb hl
  by_cases e1 : b = 1
  · by_cases e2 : d = 1
    · subst e1; subst e2
      simp [p_multiplied, fs_multiplied, line_le, Rt.mul_one, m1]
    · subst e1
      simp [p_multiplied, fs_multiplied, e2, m1, m3]
      simp at hb hl
      simp [hb, hl, mulP]
  · simp [p_multiplied, fs_multiplied, e1, m1, m3, hb, hl, mulP]
end
end Pg

set_option Elab.async false
set_option linter.all false
set_option maxRecDepth 100000
namespace Pq
open Rt PySem
abbrev Ex := List Int
abbrev Ra := Int × Int
abbrev Row := Ex × Ra
def toQ (p : Ra) : Rat := Rat.divInt p.1 p.2
theorem toQ_inj {p q : Ra} (hp : IsR p) (hq : IsR q) (h : toQ p = toQ q) : p = q := by
  have h1 := hp.pos
  have h2 := hq.pos
  unfold toQ at h
  rw [Rat.divInt_eq_divInt_iff (by omega) (by omega)] at h
  exact uniq hp hq h
theorem isR_0 : IsR (0, 1) := ⟨by decide, by decide⟩
theorem isR_1 : IsR (1, 1) := ⟨by decide, by decide⟩
theorem toQ_0 : toQ (0, 1) = 0 := by unfold toQ; simp
theorem toQ_zero {p : Ra} (hp : IsR p) : toQ p = 0 ↔ p.1 = 0 := by
  constructor
  · intro h
    have := toQ_inj hp isR_0 (by rw [h, toQ_0])
    rw [this]
  · intro h
    unfold toQ
    rw [h]; simp
theorem zero_eq {p : Ra} (hp : IsR p) (h : p.1 = 0) : p = (0, 1) := toQ_inj hp isR_0 (by rw [(toQ_zero hp).mpr h, toQ_0])
def get (P : List Row) (e : Ex) : Option Ra := (P.find? fun p => decide (p.1 = e)).map (·.2)
def put (P : List Row) (e : Ex) (r : Ra) : List Row := if (get P e).isSome then P.map (fun p => if p.1 = e then (p.1, r) else p) else P ++ [(e, r)]
def del (P : List Row) (e : Ex) : List Row := P.filter fun p => decide (p.1 ≠ e)
theorem get_cons (p : Row) (P : List Row) (e : Ex) : get (p :: P) e = if p.1 = e then some p.2 else get P e := by
  unfold get
  rw [List.find?_cons]
  by_cases h : p.1 = e <;> simp [h]
theorem get_nil (e : Ex) : get [] e = none := rfl
theorem get_map (P : List Row) (e f : Ex) (r : Ra) : get (P.map (fun p => if p.1 = e then (p.1, r) else p)) f = (get P f).map fun x => if f = e then r else x := by
  induction P with
  | nil => rfl
  | cons p P ih =>
    rw [List.map_cons, get_cons, get_cons, ih]
    by_cases h1 : p.1 = e
    · rw [if_pos h1]
      by_cases h2 : p.1 = f
      · rw [if_pos h2, if_pos (show (p.1, r).1 = f from h2)]
        have : f = e := h2.symm.trans h1
        simp [this]
      · rw [if_neg h2, if_neg (show ¬ (p.1, r).1 = f from h2)]
    · rw [if_neg h1]
      by_cases h2 : p.1 = f
      · rw [if_pos h2, if_pos h2]
        have : ¬ f = e := fun z => h1 (h2.trans z)
        simp [this]
      · rw [if_neg h2, if_neg h2]
theorem get_app (P Q : List Row) (e : Ex) : get (P ++ Q) e = (get P e).or (get Q e) := by
  induction P with
  | nil => rfl
  | cons p P ih => rw [List.cons_append, get_cons, get_cons, ih]; split <;> rfl
theorem get_put (P : List Row) (e f : Ex) (r : Ra) : get (put P e r) f = if f = e then some r else get P f := by
  unfold put
  cases h : get P e with
  | some x =>
    simp only [Option.isSome_some, if_true]
    rw [get_map]
    by_cases hf : f = e
    · subst hf; rw [h]; simp
    · rw [if_neg hf]
      cases get P f <;> simp [hf]
  | none =>
    rw [if_neg (by simp), get_app, get_cons, get_nil]
    by_cases hf : f = e
    · subst hf; rw [h]; simp
    · rw [if_neg hf, if_neg (fun z => hf z.symm)]
      cases get P f <;> rfl
theorem keys_map (P : List Row) (e : Ex) (r : Ra) : (P.map (fun p => if p.1 = e then (p.1, r) else p)).map (·.1) = P.map (·.1) := by
  rw [List.map_map]
  refine List.map_congr_left fun p _ => ?_
  show (if p.1 = e then (p.1, r) else p).1 = p.1
  split <;> rfl
theorem get_none {P : List Row} {e : Ex} : get P e = none ↔ e ∉ P.map (·.1) := by
  induction P with
  | nil => simp [get]
  | cons p P ih =>
    rw [get_cons, List.map_cons, List.mem_cons]
    by_cases h : p.1 = e
    · simp [h]
    · rw [if_neg h, ih]
      have : ¬ e = p.1 := fun z => h z.symm
      simp [this]
theorem nodup_put {P : List Row} (h : (P.map (·.1)).Nodup) (e : Ex) (r : Ra) : ((put P e r).map (·.1)).Nodup := by
  unfold put
  cases hg : get P e with
  | some x =>
    simp only [Option.isSome_some, if_true]
    rw [keys_map]; exact h
  | none =>
    rw [if_neg (by simp), List.map_append, List.nodup_append]
    refine ⟨h, by simp, fun a ha b hb => ?_⟩
    simp at hb
    subst hb
    exact fun z => get_none.mp hg (by rw [← z]; exact ha)
theorem mem_get {P : List Row} (h : (P.map (·.1)).Nodup) {p : Row} : p ∈ P ↔ get P p.1 = some p.2 := by
  induction P with
  | nil => simp [get]
  | cons q P ih =>
    rw [List.map_cons, List.nodup_cons] at h
    rw [get_cons, List.mem_cons]
    by_cases hq : q.1 = p.1
    · rw [if_pos hq]
      constructor
      · rintro (z | z)
        · rw [z]
        · exact absurd (show q.1 ∈ P.map (·.1) by rw [hq]; exact List.mem_map.mpr ⟨p, z, rfl⟩) h.1
      · intro z
        exact .inl (Prod.ext hq.symm (Option.some.inj z).symm)
    · rw [if_neg hq, ← ih h.2]
      constructor
      · rintro (z | z)
        · exact absurd (by rw [z]) hq
        · exact z
      · exact .inr
def val (P : List Row) (e : Ex) : Rat := match get P e with
  | some r => toQ r
  | none => 0
structure Rep (P : List Row) (f : Ex → Rat) : Prop where
  nd : (P.map (·.1)).Nodup
  ok : ∀ p ∈ P, IsR p.2 ∧ p.2.1 ≠ 0
  eq : ∀ e, val P e = f e
open PySem.W in
def keyP (e : Ex) : PyData := .tuple [.int e.sum, .tuple (e.map .int)]
def ltE (e f : Ex) : Bool := decide (e.sum < f.sum ∨ (e.sum = f.sum ∧ e < f))
theorem ltE_trans {a b c : Ex} (h1 : ltE a b = true) (h2 : ltE b c = true) : ltE a c = true := by
  unfold ltE at *
  simp only [decide_eq_true_eq] at *
  rcases h1 with h1 | ⟨h1, h1'⟩
  · rcases h2 with h2 | ⟨h2, h2'⟩
    · left; omega
    · left; omega
  · rcases h2 with h2 | ⟨h2, h2'⟩
    · left; omega
    · right; exact ⟨by omega, List.lt_trans h1' h2'⟩
theorem ltE_irrefl (a : Ex) : ltE a a = false := by
  unfold ltE
  simp [List.lt_irrefl]
theorem ltE_asymm {a b : Ex} (h : ltE a b = true) : ltE b a = false := by
  cases h2 : ltE b a with
  | false => rfl
  | true => have := ltE_trans h h2; rw [ltE_irrefl] at this; cases this
theorem ltE_total {a b : Ex} (h : a ≠ b) : ltE a b = true ∨ ltE b a = true := by
  unfold ltE
  simp only [decide_eq_true_eq]
  by_cases h1 : a.sum < b.sum
  · exact .inl (.inl h1)
  · by_cases h2 : b.sum < a.sum
    · exact .inr (.inl h2)
    · have e : a.sum = b.sum := by omega
      by_cases h3 : a < b
      · exact .inl (.inr ⟨e, h3⟩)
      · by_cases h4 : b < a
        · exact .inr (.inr ⟨e.symm, h4⟩)
        · exact absurd (List.le_antisymm (List.not_lt.mp h4) (List.not_lt.mp h3)) h
theorem geE_trans {a b c : Ex} (h1 : ltE a b = false) (h2 : ltE b c = false) : ltE a c = false := by
  cases h : ltE a c with
  | false => rfl
  | true =>
    by_cases e : b = c
    · subst e; rw [h] at h1; cases h1
    · rcases ltE_total e with z | z
      · rw [z] at h2; cases h2
      · have := ltE_trans h z
        rw [this] at h1; cases h1
def Canon (P : List Row) : Prop := P.Pairwise fun p q => ltE q.1 p.1 = true
def sortA (P : List Row) : List Row := P.mergeSort fun p q => !ltE q.1 p.1
theorem sortA_perm (P : List Row) : (sortA P).Perm P := List.mergeSort_perm _ _
theorem pw_strict {R : Row → Row → Prop} {P : List Row} (hn : (P.map (·.1)).Nodup) (h : P.Pairwise R) : P.Pairwise fun p q => R p q ∧ p.1 ≠ q.1 := by
  have := List.pairwise_map.mp hn
  exact h.and this
theorem sortA_canon {P : List Row} (hn : (P.map (·.1)).Nodup) : Canon (sortA P).reverse := by
  have h := List.pairwise_mergeSort (le := fun p q : Row => !ltE q.1 p.1) (fun a b c h1 h2 => by
    simp only [Bool.not_eq_true'] at *
    exact geE_trans h2 h1) (fun a b => by
    cases h : ltE b.1 a.1 with
    | false => rfl
    | true => rw [ltE_asymm h]; rfl) P
  have hn2 : ((sortA P).map (·.1)).Nodup := ((sortA_perm P).map _).nodup_iff.mpr hn
  unfold Canon
  rw [List.pairwise_reverse]
  refine (pw_strict hn2 h).imp fun {p q} ⟨h1, h2⟩ => ?_
  simp only [Bool.not_eq_true'] at h1
  rcases ltE_total h2 with z | z
  · exact z
  · rw [z] at h1; cases h1
def newR (P : List Row) (e : Ex) (r : Ra) : Ra := match get P e with
  | some x => addP x r
  | none => r
def stepP (P : List Row) (e : Ex) (r : Ra) : List Row := if (newR P e r).1 = 0 then del P e else put P e (newR P e r)
structure RepZ (P : List Row) (f : Ex → Rat) : Prop where
  nd : (P.map (·.1)).Nodup
  ok : ∀ p ∈ P, IsR p.2
  eq : ∀ e, val P e = f e
def nz (P : List Row) : List Row := P.filter fun p => decide (p.2.1 ≠ 0)
end Pq

set_option Elab.async false
set_option linter.all false
set_option maxRecDepth 100000
set_option maxHeartbeats 1000000
namespace Pg
open PySem Fx Rt Pq
theorem toQ_mul {r s : Ra} (hr : IsR r) (hs : IsR s) : toQ (mulP r s) = toQ r * toQ s := by
  have h1 := hr.pos
  have h2 := hs.pos
  have h3 := (mul_isR hr hs).pos
  unfold toQ
  rw [Rat.divInt_mul_divInt, Rat.divInt_eq_divInt_iff (by omega) (bot_ne hr hs)]
  exact mul_cross hr hs
theorem mul_assocR {r s t : Ra} (hr : IsR r) (hs : IsR s) (ht : IsR t) : mulP (mulP r s) t = mulP r (mulP s t) := by
  refine toQ_inj (mul_isR (mul_isR hr hs) ht) (mul_isR hr (mul_isR hs ht)) ?_
  rw [toQ_mul (mul_isR hr hs) ht, toQ_mul hr hs, toQ_mul hr (mul_isR hs ht), toQ_mul hs ht, Rat.mul_assoc]
theorem mul_r1 {r : Ra} (hr : IsR r) : mulP r (1, 1) = r := mul_of hr isR_1 hr (by simp)
def powP (x : Ra) (k : Nat) : Ra := (x.1 ^ k, x.2 ^ k)
def itP (x : Ra) : Nat → Ra → Ra
  | 0, r => r
  | k + 1, r => mulP (itP x k r) x
theorem powP_isR {x : Ra} (hx : IsR x) (k : Nat) : IsR (powP x k) := pow_isR hx k
theorem itP_eq {x r : Ra} (hx : IsR x) (hr : IsR r) : ∀ k, itP x k r = mulP r (powP x k)
  | 0 => by
    have : powP x 0 = (1, 1) := by unfold powP; rw [Int.pow_zero, Int.pow_zero]
    rw [this, mul_r1 hr]; rfl
  | k + 1 => by
    unfold itP
    rw [itP_eq hx hr k, mul_assocR hr (powP_isR hx k) hx]
    exact congrArg _ (pow_mul hx k)
theorem dy_1 : Dy 0 0 (1, 1) := ⟨isR_1, ⟨0, by decide, by decide⟩, by decide⟩
theorem dy_0 : Dy 0 0 (0, 1) := ⟨isR_0, ⟨0, by decide, by decide⟩, by decide⟩
theorem itP_dy {x r : Ra} {d v D V : Nat} (hr : Dy d v r) (hx : Dy D V x) : ∀ k, Dy (d + k * D) (v + k * V) (itP x k r)
  | 0 => by simpa [itP] using hr
  | k + 1 => by
    have := dy_mul (itP_dy hr hx k) hx
    unfold itP
    rw [Nat.succ_mul, Nat.succ_mul, ← Nat.add_assoc, ← Nat.add_assoc]
    exact this
theorem powP_dy {x : Ra} {D V : Nat} (hx : Dy D V x) : ∀ k, Dy (k * D) (k * V) (powP x k)
  | 0 => by
    have : powP x 0 = (1, 1) := by unfold powP; rw [Int.pow_zero, Int.pow_zero]
    rw [this, Nat.zero_mul, Nat.zero_mul]; exact dy_1
  | k + 1 => by
    have := dy_mul (powP_dy hx k) hx
    rw [show mulP (powP x k) x = powP x (k + 1) from pow_mul hx.isr k] at this
    rw [Nat.succ_mul, Nat.succ_mul]; exact this
def deg (e : Ex) : Nat := (e.map Int.toNat).sum
def monP : Ex → List Ra → Ra → Ra
  | k :: e, x :: xs, r => monP e xs (itP x k.toNat r)
  | _, _, r => r
theorem monP_dy {D V : Nat} : ∀ {e : Ex} {xs : List Ra} {r : Ra} {d v : Nat}, (∀ x ∈ xs, Dy D V x) → Dy d v r → Dy (d + deg e * D) (v + deg e * V) (monP e xs r)
  | [], xs, r, d, v, _, hr => by simpa [monP, deg] using hr
  | k :: e, [], r, d, v, _, hr => by
    show Dy _ _ r
    exact hr.mono (Nat.le_add_right _ _) (Nat.le_add_right _ _)
  | k :: e, x :: xs, r, d, v, hx, hr => by
    have hxs : ∀ y ∈ xs, Dy D V y := fun y hy => hx y (List.mem_cons_of_mem _ hy)
    have h := monP_dy (e := e) (xs := xs) hxs (itP_dy hr (hx x List.mem_cons_self) k.toNat)
    have hd : deg (k :: e) = k.toNat + deg e := by unfold deg; rw [List.map_cons, List.sum_cons]
    rw [hd, Nat.add_mul, Nat.add_mul, ← Nat.add_assoc, ← Nat.add_assoc]
    exact h
theorem monP_take : ∀ (e : Ex) (xs : List Ra) (r : Ra) (i : Nat) (k : Int) (x : Ra), e[i]? = some k → xs[i]? = some x → monP (e.take (i + 1)) (xs.take (i + 1)) r = itP x k.toNat (monP (e.take i) (xs.take i) r)
  | [], _, _, _, _, _, h, _ => by cases h
  | _ :: _, [], _, _, _, _, _, h => by cases h
  | a :: e, y :: xs, r, 0, k, x, h1, h2 => by
    cases h1; cases h2
    cases e <;> cases xs <;> rfl
  | a :: e, y :: xs, r, i + 1, k, x, h1, h2 => monP_take e xs (itP y a.toNat r) i k x h1 h2
def sumP (acc : Ra) (P : List Row) (xs : List Ra) : Ra := P.foldl (fun acc p => addP acc (monP p.1 xs p.2)) acc
abbrev valP (P : List Row) (xs : List Ra) : Ra := sumP (0, 1) P xs
theorem sumP_dy {D V d v G : Nat} {xs : List Ra} (hx : ∀ x ∈ xs, Dy D V x) : ∀ {P : List Row} {acc : Ra} {m : Nat}, (∀ p ∈ P, Dy d v p.2 ∧ deg p.1 ≤ G) → Dy (d + G * D) (v + G * V + m) acc → Dy (d + G * D) (v + G * V + (m + P.length)) (sumP acc P xs)
  | [], acc, m, _, ha => ha
  | p :: P, acc, m, hP, ha => by
    obtain ⟨h1, h2⟩ := hP p List.mem_cons_self
    have hm := monP_dy (e := p.1) hx h1
    have hm' := hm.mono (d' := d + G * D) (v' := v + G * V + m) (by have := Nat.mul_le_mul_right D h2; omega) (by have := Nat.mul_le_mul_right V h2; omega)
    have := sumP_dy hx (P := P) (m := m + 1) (fun q hq => hP q (List.mem_cons_of_mem _ hq)) (dy_add ha hm')
    rw [List.length_cons, show m + (P.length + 1) = m + 1 + P.length by omega]
    exact this
theorem valP_dy {D V d v G : Nat} {xs : List Ra} (hx : ∀ x ∈ xs, Dy D V x) {P : List Row} (hP : ∀ p ∈ P, Dy d v p.2 ∧ deg p.1 ≤ G) : Dy (d + G * D) (v + G * V + P.length) (valP P xs) := by
  have := sumP_dy hx (P := P) (acc := (0, 1)) (m := 0) hP (dy_0.mono (Nat.zero_le _) (Nat.zero_le _))
  rw [Nat.zero_add] at this
  exact this
end Pg

set_option Elab.async false
set_option linter.all false
set_option maxRecDepth 100000
set_option maxHeartbeats 4000000

namespace K25
open PySem Fx Pg
noncomputable section
def c_MOST_REGISTERS : D := (.int 12)
def c_MOST_STATES : D := (.int 60)
def k_is_low_name_0e : FE D :=
  (op2F (inD false) (varF 1) (op2F plusD (cF c_SMALL) (cF (.str "0123456789"))))
def fs_is_low_name : FS :=
  (seqF (ifSF (orF (notF (testF (b1F (isiD "str") (bS 0)))) (orF (notF (testF (chainF (ibD fun i j => decide (i ≤ j)) (ibD fun i j => decide (i ≤ j)) (cF (.int 1)) (b1F lenD (bS 0)) (cF c_MOST_NAME)))) (testF (op2F (inD true) (b2F ixD (bS 0) (cF (.int 0))) (cF c_SMALL))))) (retF (cF (.bl false))) nextF)
  (retF (b1F allD (bD (frzF (lcF (itA (varF 0)) [1] (nameG 1) yesF k_is_low_name_0e))))))
def p_is_low_name (os : List O) : RF := bodyF [] os (fs_is_low_name (startE ["thing", "sign"] os))
def k_are_low_names_0e : FE D :=
  (frzF (callF [] p_is_low_name (consA (bS 3) nilA)))
def fs_are_low_names : FS :=
  (retF (andVF (frzF (callF [] p_is_row (consA (bS 0) (consA (bS 1) (consA (bS 2) nilA))))) (andVF (b1F allD (bD (frzF (lcF (itA (varF 0)) [3] (nameG 3) yesF k_are_low_names_0e)))) (op2F (eqD false) (op1F lenSetZD (varF 0)) (b1F lenD (bS 0))))))
def p_are_low_names (os : List O) : RF := bodyF [] os (fs_are_low_names (startE ["thing", "least", "most", "name"] os))
def k_is_word_machine_0e : FE D :=
  (frzF (callF [] p_is_state (consA (bS 1) (consA (bD (b1F lenD (bS 2))) (consA (bD (b1F lenD (bS 4))) (consA (bS 5) nilA))))))
def fs_is_word_machine : FS :=
  (seqF (ifSF (orF (notF (testF (frzF (callF [] p_is_row (consA (bS 0) (consA (bD (cF (.int 4))) (consA (bD (cF (.int 4))) nilA))))))) (notF (testF (frzF (callF [] p_within (consA (bD (b2F ixD (bS 0) (cF (.int 0)))) (consA (bD (cF (.int 1))) (consA (bD (cF c_MOST_REGISTERS)) nilA)))))))) (retF (cF (.bl false))) nextF)
  (seqF (asgF (varF 0) (tupG 4 (consG (nameG 1) (consG (nameG 2) (consG (nameG 3) (consG (nameG 4) nilG))))))
  (seqF (ifSF (orF (notF (testF (frzF (callF [] p_are_low_names (consA (bS 2) (consA (bD (cF (.int 1))) (consA (bD (cF c_MOST_LETTERS)) nilA))))))) (notF (testF (frzF (callF [] p_is_row (consA (bS 4) (consA (bD (cF (.int 1))) (consA (bD (cF c_MOST_STATES)) nilA)))))))) (retF (cF (.bl false))) nextF)
  (seqF (ifSF (orF (notF (testF (frzF (callF [] p_is_row (consA (bS 3) (consA (bD (cF (.int 2))) (consA (bD (cF (.int 2))) nilA))))))) (orF (notF (testF (frzF (callF [] p_within (consA (bD (b2F ixD (bS 3) (cF (.int 0)))) (consA (bD (cF (.int 0))) (consA (bD (op2F subD (b1F lenD (bS 4)) (cF (.int 1)))) nilA))))))) (notF (testF (frzF (callF [] p_is_point_in (consA (bS 1) (consA (bD (b2F ixD (bS 3) (cF (.int 1)))) nilA)))))))) (retF (cF (.bl false))) nextF)
  (retF (b1F allD (bD (frzF (lcF (itA (varF 4)) [5] (nameG 5) yesF k_is_word_machine_0e)))))))))
def p_is_word_machine (os : List O) : RF := bodyF [] os (fs_is_word_machine (startE ["thing", "registers", "letters", "start", "states", "state"] os))
end
end K25

set_option Elab.async false
set_option linter.all false
set_option maxRecDepth 100000
set_option maxHeartbeats 4000000
namespace Pg
open PySem Fx Rt
def wt (c : Int) : Int := 2 * (if c < 0 then -c else c) + (if c < 0 then 1 else 0)
theorem fmod_range {x m : Int} (h : 0 < m) : 0 ≤ x.fmod m ∧ x.fmod m < m := ⟨Int.fmod_nonneg_of_pos _ h, Int.fmod_lt_of_pos _ h⟩
theorem gcd_loop : ∀ (b a : Nat), whileF k__law_gcd_0t k__law_gcd_0b [some (.v (.int a)), some (.v (.int b))] = .nx [some (.v (.int (Nat.gcd a b : Nat))), some (.v (.int 0))] := by
  intro b
  induction b using Nat.strongRecOn with
  | ind b ih =>
    intro a
    by_cases h0 : b = 0
    · subst h0
      rw [while_done (ρ1 := [some (.v (.int a)), some (.v (.int 0))]) (by simp [k__law_gcd_0t])]
      simp
    · have hm : ((a : Int).fmod b) = ((a % b : Nat) : Int) := by rw [Int.fmod_eq_emod_of_nonneg _ (by omega)]; omega
      have ht : k__law_gcd_0t [some (.v (.int a)), some (.v (.int b))] = .ok true [some (.v (.int a)), some (.v (.int b))] := by simp [k__law_gcd_0t, h0]
      have hb : k__law_gcd_0b [some (.v (.int a)), some (.v (.int b))] = .nx [some (.v (.int b)), some (.v (.int (a % b : Nat)))] := by
        simp [k__law_gcd_0b, h0, hm, -Int.natCast_emod]
      rw [while_step ht hb, ih (a % b) (Nat.mod_lt _ (Nat.pos_of_ne_zero h0)) b, Nat.gcd_comm b, ← Nat.gcd_rec, Nat.gcd_comm]
theorem abs_if (a : Int) : (if a < 0 then -a else a) = (a.natAbs : Int) := by
  split <;> omega
@[simp] theorem law_gcd_v {a b : Int} : p__law_gcd [.v (.int a), .v (.int b)] = .ok (.v (.int (Nat.gcd a.natAbs b.natAbs : Nat))) [.v (.int a), .v (.int b)] := by
  have e := gcd_loop b.natAbs a.natAbs
  simp [p__law_gcd, fs__law_gcd, abs_if, e]
theorem low_neg {a b : Int} (hb : b ≠ 0) : lowP (-a) (-b) = lowP a b := by
  refine low_of (low_isR hb) (by omega) ?_
  have := low_cross (a := a) hb
  rw [Int.mul_neg, Int.neg_mul, this]
theorem low_pos {a b : Int} (hb : 0 < b) : lowP a b = (a.fdiv (Nat.gcd a.natAbs b.natAbs : Nat), b.fdiv (Nat.gcd a.natAbs b.natAbs : Nat)) := by
  unfold lowP
  rw [if_neg (by omega)]
theorem law_ratio_v {a b : Int} (hb : b ≠ 0) (hl : b.natAbs.log2 < 9000) : p__law_ratio [.v (.int a), .v (.int b)] = .ok (.v (rD (lowP a b))) [.v (.int a), .v (.int b)] := by
  have hg : Nat.gcd a.natAbs b.natAbs ≠ 0 := Nat.pos_iff_ne_zero.mp (Nat.gcd_pos_of_pos_right _ (by omega))
  have hle : Nat.gcd a.natAbs b.natAbs ≤ b.natAbs := Nat.gcd_le_right _ (by omega)
  have hlog : (Nat.gcd a.natAbs b.natAbs).log2 < 9000 := by
    rw [Nat.log2_lt hg]
    rw [Nat.log2_lt (by omega)] at hl
    omega
  have hd : ∀ y, DivC y ((Nat.gcd a.natAbs b.natAbs : Nat) : Int) := fun y => ⟨by omega, by simpa using hlog⟩
  by_cases h : b < 0
  · have e := low_pos (a := -a) (b := -b) (by omega)
    rw [low_neg hb, Int.natAbs_neg, Int.natAbs_neg] at e
    simp [p__law_ratio, fs__law_ratio, h, hd, line_le, e]
  · have e := low_pos (a := a) (b := b) (by omega)
    simp [p__law_ratio, fs__law_ratio, h, hd, line_le, e]
section
variable {r s : Int × Int} (hr : IsR r) (hs : IsR s)
include hr hs
theorem law_plus_r (h1 : RSz 4000 r) (h2 : RSz 4000 s) : p__law_plus [.v (rD r), .v (rD s)] = .ok (.v (rD (addP r s))) [.v (rD r), .v (rD s)] := by
  have m1 : MulC r.1 s.2 := mulC_sz h1.top h2.bot (by decide)
  have m2 : MulC s.1 r.2 := mulC_sz h2.top h1.bot (by decide)
  have m3 : MulC r.2 s.2 := mulC_sz h1.bot h2.bot (by decide)
  have e := law_ratio_v (a := r.1 * s.2 + s.1 * r.2) (bot_ne hr hs) (log_of (h1.bot.mul h2.bot) (by decide) (by decide))
  simp [p__law_plus, fs__law_plus, m1, m2, m3, e, addP]
end
end Pg

set_option Elab.async false
set_option linter.all false
set_option maxRecDepth 100000
set_option maxHeartbeats 4000000
namespace Pg
open PySem Fx Rt Pq
section
variable {ρ : Fx.Env} {f : FE Pl} {fa fb fk fv fi fe fx : FE D} {i : Nat}
@[simp] theorem e_newT : newTF ρ = .ok (.c (.tb [])) ρ := rfl
@[simp] theorem e_inT {n : Bool} : inTF n fa f ρ = (fa ρ).bind fun x ρ => (f ρ).bind fun p ρ => match p.get ρ with | some c => optR (hasTb n c x) ρ | none => .stuck := id rfl
@[simp] theorem e_get2T : get2TF f fk fx ρ = (f ρ).bind fun p ρ => match (p.get ρ).bind C1.tb? with
  | some _ => (fk ρ).bind fun k ρ => (fx ρ).bind fun x ρ => (match p.get ρ with
    | some c => optR (getOrTb c k x) ρ
    | none => .stuck)
  | none => .stuck := id rfl
@[simp] theorem e_putT : putTF f fi fe ρ = bindS (fe ρ) fun d ρ => bindS (f ρ) fun pl ρ => bindS (fi ρ) fun k ρ => match ownT pl ρ, keyT k with
  | some (i, ds), some nk => if ds.length < sizeLine then .nx (ρ.set i (some (.c (.tb (putB ds k nk d))))) else .stuck
  | _, _ => .stuck := id rfl
@[simp] theorem e_delT : delTF f fi ρ = bindS (f ρ) fun pl ρ => bindS (fi ρ) fun k ρ => match ownT pl ρ, keyT k with
  | some (i, ds), some nk => if (lookB ds nk).isSome then .nx (ρ.set i (some (.c (.tb (dropB ds nk))))) else .stuck
  | _, _ => .stuck := id rfl
@[simp] theorem e_ownT : ownT (.sl i) ρ = match ρ[i]? with | some (some (.c (.tb xs))) => some (i, xs) | _ => none := rfl
@[simp] theorem e_keysT : keysTF fa ρ = (fa ρ).bind fun d ρ => match d with | .tb ds => .ok (ds.map (·.1)) ρ | _ => .stuck := id rfl
@[simp] theorem e_itemsT : itemsTF fa ρ = (fa ρ).bind fun d ρ => match d with | .tb ds => .ok (ds.map fun p => .wt [p.1, p.2]) ρ | _ => .stuck := id rfl
@[simp] theorem e_dispT : dispTF fk fv ρ = (fk ρ).bind fun k ρ => (fv ρ).bind fun v ρ => if (keyT k).isSome then .ok (.c (.tb [(k, v)])) ρ else .stuck := id rfl
@[simp] theorem e_forNil {g : FG} {b : FS} : forF g b [] ρ = .nx ρ := rfl
@[simp] theorem v_tb1 {ds : List (D × D)} : C1.tb? (.val (.tb ds)) = some ds := rfl
@[simp] theorem v_tb2 {ds : List (D × D)} : C1.tb? (.tb ds) = some ds := rfl
end
abbrev eD (e : Ex) : D := .tup (e.map .int)
def kN (e : Ex) : NestedKey := .tup (e.map .num)
abbrev rowD (p : Row) : D := .tup [eD p.1, rD p.2]
abbrev polyD (P : List Row) : D := .tup (P.map rowD)
def dictD (P : List Row) : List (D × D) := P.map fun p => (eD p.1, rD p.2)
theorem keyNs_ints : ∀ e : Ex, keyNs (e.map .int) = some (e.map .num)
  | [] => by simp [keyNs]
  | i :: e => by rw [List.map_cons, List.map_cons, keyNs, keyNs_ints e]; simp [keyN]
theorem depth_nums : ∀ e : Ex, NestedKey.depthAll (e.map .num) = 0
  | [] => by simp [NestedKey.depthAll]
  | i :: e => by rw [List.map_cons, NestedKey.depthAll, depth_nums e]; simp [NestedKey.depth]
@[simp] theorem keyT_e (e : Ex) : keyT (.tup (e.map .int)) = some (kN e) := by
  unfold keyT
  simp only [keyNs_ints e, depth_nums e]
  rfl
theorem kN_inj {e f : Ex} (h : kN e = kN f) : e = f := by
  unfold kN at h
  injection h with h
  have inj : ∀ (a b : Ex), a.map NestedKey.num = b.map NestedKey.num → a = b := by
    intro a
    induction a with
    | nil => intro b h; cases b with | nil => rfl | cons _ _ => simp at h
    | cons x a ih =>
      intro b h
      cases b with
      | nil => simp at h
      | cons y b => simp at h; rw [h.1, ih b (by simpa using h.2)]
  exact inj e f h
theorem lookB_d (P : List Row) (e : Ex) : lookB (dictD P) (kN e) = (get P e).map rD := by
  induction P with
  | nil => rfl
  | cons p P ih =>
    rw [get_cons]
    unfold dictD lookB at *
    rw [List.map_cons, List.find?_cons]
    by_cases h : p.1 = e
    · rw [if_pos h]
      simp [h]
    · rw [if_neg h]
      have h2 : ¬ kN p.1 = kN e := fun z => h (kN_inj z)
      simp only [keyT_e, Option.some.injEq, h2, decide_false]
      exact ih
theorem putB_d (P : List Row) (e : Ex) (r : Ra) : putB (dictD P) (.tup (e.map .int)) (kN e) (rD r) = dictD (put P e r) := by
  unfold putB put
  rw [lookB_d]
  cases get P e with
  | none => simp [dictD]
  | some x =>
    simp only [Option.map_some, Option.isSome_some, if_true]
    unfold dictD
    rw [List.map_map, List.map_map]
    refine List.map_congr_left fun p _ => ?_
    simp only [Function.comp, keyT_e, Option.some.injEq]
    by_cases h : p.1 = e
    · rw [if_pos h, if_pos (by rw [h])]
    · rw [if_neg h, if_neg (fun z => h (kN_inj z))]
@[simp] theorem dictD_len (P : List Row) : (dictD P).length = P.length := by unfold dictD; rw [List.length_map]
@[simp] theorem getTb_v {P : List Row} {e : Ex} : getTb (.val (.tb (dictD P))) (.tup (e.map .int)) = (get P e).map rD := by
  unfold getTb; simp [lookB_d]
@[simp] theorem getTb_o {P : List Row} {e : Ex} : getTb (.tb (dictD P)) (.tup (e.map .int)) = (get P e).map rD := by
  unfold getTb; simp [lookB_d]
@[simp] theorem hasTb_o {P : List Row} {e : Ex} : hasTb false (.tb (dictD P)) (.tup (e.map .int)) = some (.bl (get P e).isSome) := by
  unfold hasTb; simp [lookB_d]
@[simp] theorem getOr_o {P : List Row} {e : Ex} {r : Ra} : getOrTb (.tb (dictD P)) (.tup (e.map .int)) (rD r) = some (rD ((get P e).getD r)) := by
  unfold getOrTb
  simp only [v_tb2, keyT_e, lookB_d]
  cases get P e <;> rfl
theorem isR_top {r : Ra} (hr : IsR r) (h0 : r ≠ (0, 1)) : r.1 ≠ 0 := fun h => h0 (zero_eq hr h)
theorem v_eqI {a b : Int} : eqD false (.int a) (.int b) = some (.bl (decide (a = b))) := by
  rw [v_eq rfl rfl]
  simp [eqB, toPy, PyData.eqv, Bool.beq_eq_decide_eq]
theorem sum_ints : ∀ e : Ex, (e.map D.int).mapM unint = some e
  | [] => rfl
  | i :: e => by rw [List.map_cons, List.mapM_cons, sum_ints e]; rfl
theorem sum_ints2 : ∀ e : Ex, e.mapM (unint ∘ D.int) = some e
  | [] => rfl
  | i :: e => by rw [List.mapM_cons, sum_ints2 e]; rfl
abbrev kD (e : Ex) : D := .tup [.int e.sum, eD e]
theorem toPyL_ints : ∀ e : Ex, toPyL (e.map .int) = e.map PyData.int
  | [] => rfl
  | i :: e => by rw [List.map_cons, toPyL, toPyL_ints e]; rfl
theorem toPy_kD (e : Ex) : toPy (kD e) = .tuple [.int e.sum, .tuple (e.map .int)] := by
  simp [toPy, toPyL, toPyL_ints]
theorem alike_tups (e f : Ex) : PySem.W.alike (.tuple (e.map .int)) (.tuple (f.map .int)) = true := by
  unfold PySem.W.alike; exact PySem.W.alike_ints e f
theorem eqvAll_ints : ∀ e f : Ex, PyData.eqvAll (e.map .int) (f.map .int) = decide (e = f)
  | [], [] => by simp [PyData.eqvAll]
  | [], _ :: _ => by simp [PyData.eqvAll]
  | _ :: _, [] => by simp [PyData.eqvAll]
  | i :: e, j :: f => by
    rw [List.map_cons, List.map_cons, PyData.eqvAll, eqvAll_ints e f]
    simp [PyData.eqv, Bool.beq_eq_decide_eq]
theorem dataLt_k (e f : Ex) : PySem.W.dataLt (toPy (kD e)) (toPy (kD f)) = ltE e f := by
  rw [toPy_kD, toPy_kD, PySem.W.dataLt_pair (by rfl) (alike_tups e f)]
  have h1 : PyData.eqv (.int e.sum) (.int f.sum) = decide (e.sum = f.sum) := by simp [PyData.eqv, Bool.beq_eq_decide_eq]
  have h2 : PyData.eqv (.tuple (e.map .int)) (.tuple (f.map .int)) = decide (e = f) := by rw [PyData.eqv]; exact eqvAll_ints e f
  have h3 : PySem.W.dataLt (.tuple (e.map .int)) (.tuple (f.map .int)) = decide (e < f) := by
    rw [PySem.W.dataLt_tuple, ← PySem.W.dataLt_list]; exact PySem.W.dataLt_ints e f
  rw [h1, h2, h3, PySem.W.dataLt_int]
  unfold ltE
  by_cases hs : e.sum = f.sum
  · by_cases he : e = f
    · subst he; simp [List.lt_irrefl]
    · simp [hs, he]
  · simp [hs]
theorem keysOk_k (P : List Row) : KeysOk (P.map fun p => kD p.1) := by
  have h1 : ∀ k ∈ P.map (fun p => kD p.1), ∃ e, k = kD e := fun k hk => by
    obtain ⟨p, _, rfl⟩ := List.mem_map.mp hk; exact ⟨_, rfl⟩
  refine ⟨fun k hk => ?_, ?_, ?_, fun k hk => ?_⟩
  · obtain ⟨e, rfl⟩ := h1 k hk
    rw [toPy_kD]
    have : ∀ e : Ex, PyData.canLayAll0 (e.map .int) = true := fun e => by
      induction e with
      | nil => rfl
      | cons i e ih => rw [List.map_cons, PyData.canLayAll0, ih]; rfl
    simp [PyData.canLay0, PyData.canLayAll0, this]
  · rw [List.map_map]
    refine PySem.W.AllAlike.of fun p q => ?_
    simp only [Function.comp, toPy_kD]
    have := alike_tups p.1 q.1
    simp [PySem.W.alike, PySem.W.alikeAll] at this ⊢
    exact this
  · rw [List.map_map]
    exact PySem.W.Sortable.tuples fun p => ⟨_, _, toPy_kD p.1⟩
  · obtain ⟨e, rfl⟩ := h1 k hk
    rw [toPy_kD]
    simp [PyData.depth, PyData.depthAll, PySem.W.depth_ints]
end Pg

set_option Elab.async false
set_option linter.all false
set_option maxRecDepth 100000
set_option maxHeartbeats 4000000
namespace Pg
open PySem Fx Rt Pq
theorem comp_bl {vs : List Nat} {i : Nat} {fe : FE D} {ρ : Fx.Env} {xs : List D} (f : D → Bool) (h : ∀ x ∈ xs, ∃ ρ2, fe ((wipeE ρ vs).set i (some (.v x))) = .ok (.bl (f x)) ρ2 ∧ restE ρ ρ2 vs = ρ) :
    compGo vs (nameG i) (noEx yesF) (noEx fe) xs ρ = .ok (xs.map fun x => .bl (f x)) ρ := by
  have hc := comp_of (vs := vs) (g := nameG i) (ft := yesF) (fe := fe) (fun x : D => x) (fun x => .bl (f x)) (ρ := ρ) xs fun x hx => by
    obtain ⟨ρ2, h1, h2⟩ := h x hx
    exact ⟨_, ρ2, rfl, rfl, h1, h2⟩
  rwa [List.map_id'] at hc
theorem all_b (f : D → Bool) (xs : List D) : (xs.map f).all id = xs.all f := by rw [List.all_map]; rfl
inductive Gd : D → Prop
  | non : Gd .non
  | bl (b : Bool) : Gd (.bl b)
  | int (i : Int) : Gd (.int i)
  | str {z : Str} (h : z.cps.size ≤ 1000 ∧ PyData.strOk z = true) : Gd (.str z)
  | tup {xs : List D} (h : xs.length ≤ 2000) (g : ∀ x ∈ xs, Gd x) : Gd (.tup xs)
  | lst {xs : List D} (h : xs.length ≤ 2000) (g : ∀ x ∈ xs, Gd x) : Gd (.lst xs)
def inB (a b : Int) : D → Bool
  | .int i => decide (a ≤ i ∧ i ≤ b)
  | _ => false
def rowLen (a b : Int) : D → Bool
  | .tup xs => decide (a ≤ (xs.length : Int) ∧ (xs.length : Int) ≤ b)
  | _ => false
theorem within_v {d : D} (g : Gd d) (a b : Int) : p_within [.v d, .v (.int a), .v (.int b)] = .ok (.v (.bl (inB a b d))) [.v d, .v (.int a), .v (.int b)] := by
  have e := is_int_v d
  cases g with
  | int i =>
    have e1 : p_is_int [.v (.int i)] = .ok (.v (.bl true)) [.v (.int i)] := is_int_int i
    by_cases h1 : a ≤ i <;> simp [p_within, fs_within, e1, inB, h1]
  | _ => simp [tyN] at e; simp [p_within, fs_within, e, inB]
theorem is_row_v {d : D} (g : Gd d) (a b : Int) : p_is_row [.v d, .v (.int a), .v (.int b)] = .ok (.v (.bl (rowLen a b d))) [.v d, .v (.int a), .v (.int b)] := by
  cases g with
  | @tup xs h g =>
    by_cases h1 : a ≤ (xs.length : Int) <;> simp [p_is_row, fs_is_row, rowLen, h1]
  | _ => simp [p_is_row, fs_is_row, rowLen]
def intB : D → Bool
  | .int _ => true
  | _ => false
theorem is_int_g {d : D} (g : Gd d) : p_is_int [.v d] = .ok (.v (.bl (intB d))) [.v d] := by
  rw [is_int_v]
  cases g <;> simp [intB]
def natB : D → Bool
  | .int i => decide (0 ≤ i)
  | _ => false
def numsB (n : Int) : D → Bool
  | .tup xs => decide ((xs.length : Int) = n) && xs.all natB
  | _ => false
theorem are_numbers_v {d : D} (g : Gd d) (n : Int) : p_are_numbers [.v d, .v (.int n)] = .ok (.v (.bl (numsB n d))) [.v d, .v (.int n)] := by
  have e1 := is_row_v g n n
  cases g with
  | @tup xs h g =>
    by_cases hn : (xs.length : Int) = n
    · have e2 : rowLen n n (.tup xs) = true := by simp [rowLen, hn]
      rw [e2] at e1
      have h1 := comp_bl (vs := [2]) (i := 2) (fe := k_are_numbers_0e) (ρ := [some (.v (.tup xs)), some (.v (.int n)), none]) (xs := xs) natB fun x hx => ⟨[some (.v (.tup xs)), some (.v (.int n)), some (.v x)], by
        have e3 := is_int_g (g x hx)
        have gx := g x hx
        cases gx <;> simp [intB] at e3 <;> simp [k_are_numbers_0e, wipeE, e3, natB], rfl⟩
      have hm := mapM_bl natB xs
      have ha := all_b natB xs
      have hsl : xs.length < sizeLine := line_lt (by omega)
      simp [p_are_numbers, fs_are_numbers, e1, h1, hm, ha, hsl, plainVs, numsB, hn]
    · have e2 : rowLen n n (.tup xs) = false := by simp [rowLen]; omega
      rw [e2] at e1
      simp [p_are_numbers, fs_are_numbers, e1, numsB, hn]
  | _ => simp [rowLen] at e1; simp [p_are_numbers, fs_are_numbers, e1, numsB]
def ratB : D → Bool
  | .tup [.int x, .int y] => decide (0 < y) && decide (Nat.gcd x.natAbs y.natAbs = 1)
  | _ => false
theorem is_ratio_g {d : D} (g : Gd d) : p_is_ratio [.v d] = .ok (.v (.bl (ratB d))) [.v d] := by
  have e1 := is_row_v g 2 2
  cases g with
  | @tup xs h g =>
    match xs, g, e1 with
    | [], g, e1 => simp [rowLen] at e1; simp [p_is_ratio, fs_is_ratio, e1, ratB]
    | [a], g, e1 => simp [rowLen] at e1; simp [p_is_ratio, fs_is_ratio, e1, ratB]
    | [a, b], g, e1 =>
      have ga := g a (by simp)
      have gb := g b (by simp)
      have ea := is_int_g ga
      have eb := is_int_g gb
      simp [rowLen] at e1
      cases ga with
      | int x =>
        cases gb with
        | int y =>
          simp [intB] at ea eb
          by_cases hy : 0 < y
          · simp [p_is_ratio, fs_is_ratio, e1, ea, eb, ratB, hy, v_eqI]
            by_cases hg : Nat.gcd x.natAbs y.natAbs = 1
            · simp [hg]
            · have : ¬ ((Nat.gcd x.natAbs y.natAbs : Nat) : Int) = 1 := by omega
              simp [hg, this]
          · simp [p_is_ratio, fs_is_ratio, e1, ea, eb, ratB, hy]
        | _ => simp [intB] at ea eb; simp [p_is_ratio, fs_is_ratio, e1, ea, eb, ratB]
      | _ => simp [intB] at ea; simp [p_is_ratio, fs_is_ratio, e1, ea, ratB]
    | a :: b :: c :: xs, g, e1 =>
      have e2 : rowLen 2 2 (.tup (a :: b :: c :: xs)) = false := by simp [rowLen]; omega
      rw [e2] at e1
      simp [p_is_ratio, fs_is_ratio, e1, ratB]
  | _ => simp [rowLen] at e1; simp [p_is_ratio, fs_is_ratio, e1, ratB]
def pairB (n : Int) : D → Bool
  | .tup [a, b] => numsB n a && ratB b
  | _ => false
theorem is_pair_in_v {d : D} (g : Gd d) (n : Int) : p_is_pair_in [.v (.int n), .v d] = .ok (.v (.bl (pairB n d))) [.v (.int n), .v d] := by
  have e1 := is_row_v g 2 2
  cases g with
  | @tup xs h g =>
    match xs, g, e1 with
    | [], g, e1 => simp [rowLen] at e1; simp [p_is_pair_in, fs_is_pair_in, e1, pairB]
    | [a], g, e1 => simp [rowLen] at e1; simp [p_is_pair_in, fs_is_pair_in, e1, pairB]
    | [a, b], g, e1 =>
      have ea := are_numbers_v (g a (by simp)) n
      have eb := is_ratio_g (g b (by simp))
      simp [rowLen] at e1
      cases hn : numsB n a <;> rw [hn] at ea <;> simp [p_is_pair_in, fs_is_pair_in, e1, ea, eb, pairB, hn]
    | a :: b :: c :: xs, g, e1 =>
      have e2 : rowLen 2 2 (.tup (a :: b :: c :: xs)) = false := by simp [rowLen]; omega
      rw [e2] at e1
      simp [p_is_pair_in, fs_is_pair_in, e1, pairB]
  | _ => simp [rowLen] at e1; simp [p_is_pair_in, fs_is_pair_in, e1, pairB]
def zerB : D → Bool
  | .tup [_, .tup [.int x, .int y]] => decide (x = 0 ∧ y = 1)
  | _ => false
def termB (n : Int) (d : D) : Bool := pairB n d && !zerB d
theorem natB_ints : ∀ {xs : List D}, xs.all natB = true → ∃ e : Ex, xs = e.map .int ∧ ∀ i ∈ e, 0 ≤ i
  | [], _ => ⟨[], rfl, fun _ h => nomatch h⟩
  | x :: xs, h => by
    rw [List.all_cons, Bool.and_eq_true] at h
    obtain ⟨e, h1, h2⟩ := natB_ints h.2
    cases x with
    | int i =>
      refine ⟨i :: e, by rw [h1]; rfl, fun j hj => ?_⟩
      rcases List.mem_cons.mp hj with z | hj
      · rw [z]; simpa [natB] using h.1
      · exact h2 j hj
    | _ => simp [natB] at h
theorem pairB_row {n : Int} {d : D} (h : pairB n d = true) : ∃ p : Row, d = rowD p ∧ (p.1.length : Int) = n ∧ (∀ i ∈ p.1, 0 ≤ i) ∧ IsR p.2 := by
  unfold pairB at h
  split at h
  · rename_i a b
    rw [Bool.and_eq_true] at h
    obtain ⟨h1, h2⟩ := h
    unfold numsB at h1
    split at h1
    · rename_i xs
      rw [Bool.and_eq_true, decide_eq_true_eq] at h1
      obtain ⟨e, he, hn⟩ := natB_ints h1.2
      unfold ratB at h2
      split at h2
      · rename_i x y
        rw [Bool.and_eq_true, decide_eq_true_eq, decide_eq_true_eq] at h2
        refine ⟨(e, (x, y)), by rw [he], ?_, hn, ⟨h2.1, h2.2⟩⟩
        rw [← h1.1, he, List.length_map]
      · cases h2
    · cases h1
  · cases h
structure RowOk (n : Int) (p : Row) : Prop where
  len : (p.1.length : Int) = n
  nn : ∀ i ∈ p.1, 0 ≤ i
  rat : IsR p.2
theorem all_natB {e : Ex} (h : ∀ i ∈ e, 0 ≤ i) : (e.map D.int).all natB = true := by
  rw [List.all_map, List.all_eq_true]
  intro i hi
  exact decide_eq_true (h i hi)
theorem pairB_ok {n : Int} {p : Row} (h : RowOk n p) : pairB n (rowD p) = true := by
  have h1 := h.rat.pos
  have h2 := h.rat.cop
  have h3 := h.len
  have h4 := all_natB h.nn
  simp only [rowD, pairB, numsB, List.length_map, h3, decide_true, Bool.true_and, h4, rD, ratB, h1, h2]
theorem zerB_r {p : Row} : zerB (rowD p) = decide (p.2 = (0, 1)) := by
  obtain ⟨e, x, y⟩ := p
  simp [zerB]
theorem termB_row {n : Int} {d : D} (h : termB n d = true) : ∃ p : Row, d = rowD p ∧ RowOk n p ∧ p.2.1 ≠ 0 := by
  unfold termB at h
  rw [Bool.and_eq_true] at h
  obtain ⟨p, rfl, h1, h2, h3⟩ := pairB_row h.1
  refine ⟨p, rfl, ⟨h1, h2, h3⟩, fun h0 => ?_⟩
  have := h.2
  rw [zerB_r, zero_eq h3 h0] at this
  simp at this
theorem termB_ok {n : Int} {p : Row} (h : RowOk n p) (h0 : p.2.1 ≠ 0) : termB n (rowD p) = true := by
  unfold termB
  rw [pairB_ok h, zerB_r]
  have : p.2 ≠ (0, 1) := fun z => h0 (by rw [z])
  simp [this]
theorem terms_rows {n : Int} : ∀ {ts : List D}, ts.all (termB n) = true → ∃ P : List Row, ts = P.map rowD ∧ ∀ p ∈ P, RowOk n p ∧ p.2.1 ≠ 0
  | [], _ => ⟨[], rfl, fun _ h => nomatch h⟩
  | t :: ts, h => by
    rw [List.all_cons, Bool.and_eq_true] at h
    obtain ⟨p, h1, h2⟩ := termB_row h.1
    obtain ⟨P, h3, h4⟩ := terms_rows h.2
    refine ⟨p :: P, by rw [h1, h3]; rfl, fun q hq => ?_⟩
    rcases List.mem_cons.mp hq with z | hq
    · rw [z]; exact h2
    · exact h4 q hq
theorem terms_ok {n : Int} {P : List Row} (h : ∀ p ∈ P, RowOk n p ∧ p.2.1 ≠ 0) : (P.map rowD).all (termB n) = true := by
  rw [List.all_map, List.all_eq_true]
  intro p hp
  exact termB_ok (h p hp).1 (h p hp).2
def chainB (P : List Row) : Bool := (List.range (P.length - 1)).all fun k => ltE (P.getD (k + 1) ([], (0, 1))).1 (P.getD k ([], (0, 1))).1
open Classical in
noncomputable def polyB (n : Int) : D → Bool
  | .tup ts => if h : ∃ P : List Row, ts = P.map rowD ∧ ∀ p ∈ P, RowOk n p ∧ p.2.1 ≠ 0 then chainB h.choose else false
  | _ => false
theorem rowD_inj {p q : Row} (h : rowD p = rowD q) : p = q := by
  obtain ⟨e, x, y⟩ := p
  obtain ⟨f, z, w⟩ := q
  simp [rowD] at h
  obtain ⟨h1, h2, h3⟩ := h
  have : e = f := by
    have inj : ∀ a b : Ex, a.map D.int = b.map D.int → a = b := by
      intro a
      induction a with
      | nil => intro b h; cases b with | nil => rfl | cons _ _ => simp at h
      | cons i a ih =>
        intro b h
        cases b with
        | nil => simp at h
        | cons j b => simp at h; rw [h.1, ih b (by simpa using h.2)]
    exact inj e f h1
  rw [this, h2, h3]
theorem rows_inj : ∀ {P Q : List Row}, P.map rowD = Q.map rowD → P = Q
  | [], [], _ => rfl
  | [], _ :: _, h => by simp at h
  | _ :: _, [], h => by simp at h
  | p :: P, q :: Q, h => by
    rw [List.map_cons, List.map_cons] at h
    injection h with h1 h2
    rw [rowD_inj h1, rows_inj h2]
theorem polyB_p {n : Int} {P : List Row} (h : ∀ p ∈ P, RowOk n p ∧ p.2.1 ≠ 0) : polyB n (polyD P) = chainB P := by
  have hx : ∃ Q : List Row, P.map rowD = Q.map rowD ∧ ∀ p ∈ Q, RowOk n p ∧ p.2.1 ≠ 0 := ⟨P, rfl, h⟩
  show (open Classical in if h : ∃ Q : List Row, P.map rowD = Q.map rowD ∧ ∀ p ∈ Q, RowOk n p ∧ p.2.1 ≠ 0 then chainB h.choose else false) = _
  rw [dif_pos hx, rows_inj hx.choose_spec.1.symm]
theorem polyB_no {n : Int} {ts : List D} (h : ts.all (termB n) = false) : polyB n (.tup ts) = false := by
  show (open Classical in if h : ∃ Q : List Row, ts = Q.map rowD ∧ ∀ p ∈ Q, RowOk n p ∧ p.2.1 ≠ 0 then chainB h.choose else false) = _
  rw [dif_neg]
  rintro ⟨P, rfl, hP⟩
  rw [terms_ok hP] at h
  cases h
theorem keys_cmp (e f : Ex) : gtD (kD e) (kD f) = some (.bl (ltE f e)) := by
  have h1 := keysOk_k [(e, (0, 1)), (f, (0, 1))]
  have hc : CmpOk (kD e) (kD f) := ⟨h1.like _ (by simp) _ (by simp), by rw [toPy_kD]; exact (fun z => nomatch z), h1.lay _ (by simp), h1.lay _ (by simp), h1.deep _ (by simp)⟩
  show cmpD (fun a b => PySem.W.dataLt b a) (kD e) (kD f) = _
  unfold cmpD
  rw [if_pos hc]
  exact congrArg (fun b => some (D.bl b)) (dataLt_k f e)
theorem keys_at {P : List Row} {k : Nat} (h : k < P.length) : L2.atI (P.map fun p => kD p.1) (0 + (k : Int)) = some (kD (P.getD k ([], (0, 1))).1) := by
  rw [v_atI (n := k) (by omega) (by rw [List.length_map]; omega), List.getElem?_map, List.getD_eq_getElem?_getD, List.getElem?_eq_getElem h]
  rfl
theorem chain_comp {vs : List Nat} {i : Nat} {fe : FE D} {ρ : Fx.Env} {P : List Row} (h : ∀ k : Nat, k + 1 < P.length → ∀ e f : Ex, L2.atI (P.map fun p => kD p.1) (0 + (k : Int)) = some (kD e) → L2.atI (P.map fun p => kD p.1) (0 + (k : Int) + 1) = some (kD f) →
    ∃ ρ2, fe ((wipeE ρ vs).set i (some (.v (.int (0 + (k : Int)))))) = .ok (.bl (ltE f e)) ρ2 ∧ restE ρ ρ2 vs = ρ) :
    compGo vs (nameG i) (noEx yesF) (noEx fe) (rangeL 0 (P.length - 1)) ρ = .ok ((List.range (P.length - 1)).map fun k => .bl (ltE (P.getD (k + 1) ([], (0, 1))).1 (P.getD k ([], (0, 1))).1)) ρ := by
  unfold rangeL
  refine comp_of (vs := vs) (g := nameG i) (ft := yesF) (fe := fe) (fun k : Nat => .int (0 + (k : Int))) (fun k => .bl (ltE (P.getD (k + 1) ([], (0, 1))).1 (P.getD k ([], (0, 1))).1)) (ρ := ρ) (List.range (P.length - 1)) fun k hk => ?_
  have hk' : k + 1 < P.length := by have := List.mem_range.mp hk; omega
  have a2 := keys_at hk'
  rw [show (0 + ((k + 1 : Nat) : Int)) = 0 + (k : Int) + 1 by omega] at a2
  obtain ⟨ρ2, h1, h2⟩ := h k hk' _ _ (keys_at (show k < P.length by omega)) a2
  exact ⟨_, ρ2, rfl, rfl, h1, h2⟩
theorem chain_bl (P : List Row) : ((List.range (P.length - 1)).map fun k => D.bl (ltE (P.getD (k + 1) ([], (0, 1))).1 (P.getD k ([], (0, 1))).1)).mapM unbl = some ((List.range (P.length - 1)).map fun k => ltE (P.getD (k + 1) ([], (0, 1))).1 (P.getD k ([], (0, 1))).1) := mapM_bl (fun k : Nat => ltE (P.getD (k + 1) ([], (0, 1))).1 (P.getD k ([], (0, 1))).1) _
theorem chain_all (P : List Row) : ((List.range (P.length - 1)).map fun k => ltE (P.getD (k + 1) ([], (0, 1))).1 (P.getD k ([], (0, 1))).1).all id = chainB P := by
  unfold chainB; rw [List.all_map]; rfl
theorem is_polynomial_in_v {d : D} (g : Gd d) (n : Int) : p_is_polynomial_in [.v (.int n), .v d] = .ok (.v (.bl (polyB n d))) [.v (.int n), .v d] := by
  cases g with
  | @tup ts h g =>
    have h1 := comp_bl (vs := [6]) (i := 6) (fe := k_is_polynomial_in_2e) (ρ := [some (.v (.int n)), some (.v (.tup ts)), none, none, none, none, none]) (xs := ts) (termB n) fun x hx => ⟨[some (.v (.int n)), some (.v (.tup ts)), none, none, none, none, some (.v x)], by
      have e1 := is_pair_in_v (g x hx) n
      cases hp : pairB n x with
      | false => rw [hp] at e1; simp [k_is_polynomial_in_2e, wipeE, e1, termB, hp]
      | true =>
        rw [hp] at e1
        obtain ⟨p, rfl, _⟩ := pairB_row hp
        obtain ⟨e, x, y⟩ := p
        have e2 : eqD true (.tup [.int x, .int y]) c_ZERO = some (.bl (!decide (x = 0 ∧ y = 1))) := by
          unfold c_ZERO
          rw [v_eq rfl rfl]
          simp [eqB, toPy, toPyL, PyData.eqv, PyData.eqvAll, Bool.beq_eq_decide_eq]
        have e3 : termB n (rowD (e, x, y)) = !decide (x = 0 ∧ y = 1) := by
          unfold termB; rw [hp, Bool.true_and, zerB_r]; simp
        rw [e3]
        simp only [rowD, rD] at e1
        simp [k_is_polynomial_in_2e, wipeE, e1, e2, rowD, rD], rfl⟩
    have hm := mapM_bl (termB n) ts
    have ha := all_b (termB n) ts
    have hsl : ts.length < sizeLine := line_lt (by omega)
    cases hc : ts.all (termB n) with
    | false =>
      rw [hc] at ha
      rw [polyB_no hc]
      simp [p_is_polynomial_in, fs_is_polynomial_in, h1, hm, ha, hsl, plainVs]
    | true =>
      rw [hc] at ha
      obtain ⟨P, rfl, hP⟩ := terms_rows hc
      rw [polyB_p hP]
      rw [List.length_map] at h hsl
      have h2 := comp_of (vs := [3, 4]) (g := tupG 2 (consG (nameG 3) (consG (nameG 4) nilG))) (ft := yesF) (fe := k_is_polynomial_in_1e) (fun p : Row => rowD p) (fun p : Row => kD p.1)
        (ρ := [some (.v (.int n)), some (.v (polyD P)), none, none, none, none, none]) P fun p hp => ⟨[some (.v (.int n)), some (.v (polyD P)), none, some (.v (eD p.1)), some (.v (rD p.2)), none, none], [some (.v (.int n)), some (.v (polyD P)), none, some (.v (eD p.1)), some (.v (rD p.2)), none, none], rfl, rfl, by
          simp [k_is_polynomial_in_1e, sumSD, C1.seq?, sum_ints, sum_ints2, line_le], rfl⟩
      have h3 := chain_comp (vs := [5]) (i := 5) (fe := k_is_polynomial_in_0e) (P := P) (ρ := [some (.v (.int n)), some (.v (polyD P)), some (.v (.lst (P.map fun p => kD p.1))), none, none, none, none]) fun k hk e f a1 a2 =>
        ⟨[some (.v (.int n)), some (.v (polyD P)), some (.v (.lst (P.map fun p => kD p.1))), none, none, some (.v (.int (0 + (k : Int)))), none], by
          generalize (0 + (k : Int)) = kk at *
          generalize (P.map fun p => kD p.1) = ks at *
          simp [k_is_polynomial_in_0e, wipeE, a1, a2, keys_cmp], rfl⟩
      have h4 := chain_bl P
      have h5 := chain_all P
      have hr : rgo1 (.int ((P.length : Int) - 1)) [some (.v (.int n)), some (.v (polyD P)), some (.v (.lst (P.map fun p => kD p.1))), none, none, none, none] = .ok (rangeL 0 (P.length - 1)) [some (.v (.int n)), some (.v (polyD P)), some (.v (.lst (P.map fun p => kD p.1))), none, none, none, none] := by
        rw [e_rgo1 (by omega), show ((P.length : Int) - 1).toNat = P.length - 1 by omega]
      have hrl : (rangeL 0 (P.length - 1)).length < sizeLine := line_lt (by unfold rangeL; rw [List.length_map, List.length_range]; omega)
      have hkl : (P.map fun p => kD p.1).length = P.length := List.length_map _
      generalize (P.map fun p => kD p.1) = ks at *
      generalize (List.range (P.length - 1)).map (fun k => D.bl (ltE (P.getD (k + 1) ([], (0, 1))).1 (P.getD k ([], (0, 1))).1)) = bs at *
      generalize (List.range (P.length - 1)).map (fun k => ltE (P.getD (k + 1) ([], (0, 1))).1 (P.getD k ([], (0, 1))).1) = bbs at *
      generalize rangeL 0 (P.length - 1) = rs at *
      generalize hmr : P.map rowD = ms at *
      simp only [polyD, hmr] at h2 h3 hr
      have hml : ms.length = P.length := by rw [← hmr, List.length_map]
      simp [p_is_polynomial_in, fs_is_polynomial_in, h1, hm, ha, hsl, plainVs, h2, h3, h4, h5, hr, hrl, hkl, hml]
  | _ => simp [p_is_polynomial_in, fs_is_polynomial_in, polyB]
end Pg

set_option Elab.async false
set_option linter.all false
set_option maxRecDepth 100000
set_option maxHeartbeats 4000000

namespace K59
open PySem Fx Pg
noncomputable section
end
end K59

set_option Elab.async false
set_option linter.all false
set_option maxRecDepth 100000
set_option maxHeartbeats 4000000
namespace Pg
open PySem Fx
def smalls : List Nat := (List.range 26).map (97 + ·)
theorem small_cps : (Str.ofString "abcdefghijklmnopqrstuvwxyz").cps.toList = smalls := by decide +kernel
structure IsOut (os : List Nat) : Prop where
  len1 : 1 ≤ os.length
  len8 : os.length ≤ 8
  nd : os.Nodup
  sm : ∀ c ∈ os, c ∈ smalls
instance (os : List Nat) : Decidable (IsOut os) := decidable_of_iff (1 ≤ os.length ∧ os.length ≤ 8 ∧ os.Nodup ∧ ∀ c ∈ os, c ∈ smalls) ⟨fun ⟨a, b, c, d⟩ => ⟨a, b, c, d⟩, fun ⟨a, b, c, d⟩ => ⟨a, b, c, d⟩⟩
abbrev SD (cs : List Nat) : D := .str ⟨cs.toArray⟩
theorem len_SD (cs : List Nat) : (⟨cs.toArray⟩ : Str).length = cs.length := rfl
theorem signs_SD (cs : List Nat) : signsD ⟨cs.toArray⟩ = cs.map fun c => .str (oneStr c) := by simp [signsD]
def digs (B n : Nat) : List Nat := if h : n = 0 ∨ B ≤ 1 then [] else n % B :: digs B (n / B)
termination_by n
decreasing_by exact Nat.div_lt_self (by omega) (by omega)
def HasT (os : List Nat) (n : Nat) : Prop := 0 ∉ digs (os.length + 1) n ∧ (digs (os.length + 1) n).length ≤ 10000
instance (os : List Nat) (n : Nat) : Decidable (HasT os n) := inferInstanceAs (Decidable (_ ∧ _))
end Pg

set_option Elab.async false
set_option linter.all false
set_option maxRecDepth 100000
set_option maxHeartbeats 4000000
namespace K59
open PySem Fx Pg

@[simp] theorem v_any {xs : List D} : anyD (.val (.lst xs)) = (xs.mapM unbl).map fun bs => .bl (bs.any id) := rfl
@[simp] theorem v_anyL {xs : List D} : anyD (.lst xs) = (xs.mapM unbl).map fun bs => .bl (bs.any id) := rfl
theorem comp_bl {vs : List Nat} {i : Nat} {fe : FE D} {ρ : Fx.Env} {xs : List D} (f : D → Bool) (h : ∀ x ∈ xs, ∃ ρ2, fe ((wipeE ρ vs).set i (some (.v x))) = .ok (.bl (f x)) ρ2 ∧ restE ρ ρ2 vs = ρ) :
    compGo vs (nameG i) (noEx yesF) (noEx fe) xs ρ = .ok (xs.map fun x => .bl (f x)) ρ := by
  have hc := comp_of (vs := vs) (g := nameG i) (ft := yesF) (fe := fe) (fun x : D => x) (fun x => .bl (f x)) (ρ := ρ) xs fun x hx => by
    obtain ⟨ρ2, h1, h2⟩ := h x hx
    exact ⟨_, ρ2, rfl, rfl, h1, h2⟩
  rwa [List.map_id'] at hc
theorem all_b (f : D → Bool) (xs : List D) : (xs.map f).all id = xs.all f := by rw [List.all_map]; rfl
def StrG (z : Str) : Prop := z.length ≤ 1000 ∧ PyData.strOk z = true
inductive Gd : D → Prop
  | non : Gd .non
  | bl (b : Bool) : Gd (.bl b)
  | int (i : Int) : Gd (.int i)
  | str {z : Str} (h : StrG z) : Gd (.str z)
  | tup {xs : List D} (h : xs.length ≤ 2000) (g : ∀ x ∈ xs, Gd x) : Gd (.tup xs)
  | lst {xs : List D} (h : xs.length ≤ 2000) (g : ∀ x ∈ xs, Gd x) : Gd (.lst xs)
def rowLen (a b : Int) : D → Bool
  | .tup xs => decide (a ≤ (xs.length : Int) ∧ (xs.length : Int) ≤ b)
  | _ => false
theorem is_row_v {d : D} (g : Gd d) (a b : Int) : p_is_row [.v d, .v (.int a), .v (.int b)] = .ok (.v (.bl (rowLen a b d))) [.v d, .v (.int a), .v (.int b)] := by
  cases g with
  | @tup xs h g =>
    by_cases h1 : a ≤ (xs.length : Int) <;> simp [p_is_row, fs_is_row, rowLen, h1]
  | _ => simp [p_is_row, fs_is_row, rowLen]
@[simp] theorem nm0 : (Str.ofString "registers" = Str.ofString "letters") = False := eq_false (by decide +kernel)
@[simp] theorem nm1 : (Str.ofString "registers" = Str.ofString "out") = False := eq_false (by decide +kernel)
@[simp] theorem nm2 : (Str.ofString "registers" = Str.ofString "states") = False := eq_false (by decide +kernel)
@[simp] theorem nm3 : (Str.ofString "registers" = Str.ofString "is_step") = False := eq_false (by decide +kernel)
@[simp] theorem nm4 : (Str.ofString "registers" = Str.ofString "is_state") = False := eq_false (by decide +kernel)
@[simp] theorem nm5 : (Str.ofString "registers" = Str.ofString "is_start") = False := eq_false (by decide +kernel)
@[simp] theorem nm6 : (Str.ofString "letters" = Str.ofString "registers") = False := eq_false (by decide +kernel)
@[simp] theorem nm7 : (Str.ofString "letters" = Str.ofString "out") = False := eq_false (by decide +kernel)
@[simp] theorem nm8 : (Str.ofString "letters" = Str.ofString "states") = False := eq_false (by decide +kernel)
@[simp] theorem nm9 : (Str.ofString "letters" = Str.ofString "is_step") = False := eq_false (by decide +kernel)
@[simp] theorem nm10 : (Str.ofString "letters" = Str.ofString "is_state") = False := eq_false (by decide +kernel)
@[simp] theorem nm11 : (Str.ofString "letters" = Str.ofString "is_start") = False := eq_false (by decide +kernel)
@[simp] theorem nm12 : (Str.ofString "out" = Str.ofString "registers") = False := eq_false (by decide +kernel)
@[simp] theorem nm13 : (Str.ofString "out" = Str.ofString "letters") = False := eq_false (by decide +kernel)
@[simp] theorem nm14 : (Str.ofString "out" = Str.ofString "states") = False := eq_false (by decide +kernel)
@[simp] theorem nm15 : (Str.ofString "out" = Str.ofString "is_step") = False := eq_false (by decide +kernel)
@[simp] theorem nm16 : (Str.ofString "out" = Str.ofString "is_state") = False := eq_false (by decide +kernel)
@[simp] theorem nm17 : (Str.ofString "out" = Str.ofString "is_start") = False := eq_false (by decide +kernel)
@[simp] theorem nm18 : (Str.ofString "states" = Str.ofString "registers") = False := eq_false (by decide +kernel)
@[simp] theorem nm19 : (Str.ofString "states" = Str.ofString "letters") = False := eq_false (by decide +kernel)
@[simp] theorem nm20 : (Str.ofString "states" = Str.ofString "out") = False := eq_false (by decide +kernel)
@[simp] theorem nm21 : (Str.ofString "states" = Str.ofString "is_step") = False := eq_false (by decide +kernel)
@[simp] theorem nm22 : (Str.ofString "states" = Str.ofString "is_state") = False := eq_false (by decide +kernel)
@[simp] theorem nm23 : (Str.ofString "states" = Str.ofString "is_start") = False := eq_false (by decide +kernel)
@[simp] theorem nm24 : (Str.ofString "is_step" = Str.ofString "registers") = False := eq_false (by decide +kernel)
@[simp] theorem nm25 : (Str.ofString "is_step" = Str.ofString "letters") = False := eq_false (by decide +kernel)
@[simp] theorem nm26 : (Str.ofString "is_step" = Str.ofString "out") = False := eq_false (by decide +kernel)
@[simp] theorem nm27 : (Str.ofString "is_step" = Str.ofString "states") = False := eq_false (by decide +kernel)
@[simp] theorem nm28 : (Str.ofString "is_step" = Str.ofString "is_state") = False := eq_false (by decide +kernel)
@[simp] theorem nm29 : (Str.ofString "is_step" = Str.ofString "is_start") = False := eq_false (by decide +kernel)
@[simp] theorem nm30 : (Str.ofString "is_state" = Str.ofString "registers") = False := eq_false (by decide +kernel)
@[simp] theorem nm31 : (Str.ofString "is_state" = Str.ofString "letters") = False := eq_false (by decide +kernel)
@[simp] theorem nm32 : (Str.ofString "is_state" = Str.ofString "out") = False := eq_false (by decide +kernel)
@[simp] theorem nm33 : (Str.ofString "is_state" = Str.ofString "states") = False := eq_false (by decide +kernel)
@[simp] theorem nm34 : (Str.ofString "is_state" = Str.ofString "is_step") = False := eq_false (by decide +kernel)
@[simp] theorem nm35 : (Str.ofString "is_state" = Str.ofString "is_start") = False := eq_false (by decide +kernel)
@[simp] theorem nm36 : (Str.ofString "is_start" = Str.ofString "registers") = False := eq_false (by decide +kernel)
@[simp] theorem nm37 : (Str.ofString "is_start" = Str.ofString "letters") = False := eq_false (by decide +kernel)
@[simp] theorem nm38 : (Str.ofString "is_start" = Str.ofString "out") = False := eq_false (by decide +kernel)
@[simp] theorem nm39 : (Str.ofString "is_start" = Str.ofString "states") = False := eq_false (by decide +kernel)
@[simp] theorem nm40 : (Str.ofString "is_start" = Str.ofString "is_step") = False := eq_false (by decide +kernel)
@[simp] theorem nm41 : (Str.ofString "is_start" = Str.ofString "is_state") = False := eq_false (by decide +kernel)
abbrev ShO (n l : Int) (o : Str) (s : Int) : O := .ins "Shape" [("registers", .val (.int n)), ("letters", .val (.int l)), ("out", .val (.str o)), ("states", .val (.int s))]
def digs10 : List Nat := (List.range 10).map (48 + ·)
def alnum : Str := ⟨(smalls ++ digs10).toArray⟩
theorem plus_alnum : plusD c_SMALL_names (.str (Str.ofString "0123456789")) = some (.str alnum) := by
  have h : (Str.ofString "abcdefghijklmnopqrstuvwxyz") ++ (Str.ofString "0123456789") = alnum := by decide +kernel
  have h2 : (Str.ofString "abcdefghijklmnopqrstuvwxyz").length + (Str.ofString "0123456789").length ≤ sizeLine := by decide +kernel
  show (if (Str.ofString "abcdefghijklmnopqrstuvwxyz").length + (Str.ofString "0123456789").length ≤ sizeLine then some (D.str ((Str.ofString "abcdefghijklmnopqrstuvwxyz") ++ (Str.ofString "0123456789"))) else none) = _
  rw [if_pos h2, h]
theorem alnum_cps : alnum.cps.toList = smalls ++ digs10 := rfl
def alB (c : Nat) : Bool := decide (c ∈ smalls) || decide (c ∈ digs10)
def nameB : D → Bool
  | .str z => match z.cps.toList with
    | [] => false
    | c :: r => decide (z.length ≤ 10) && (decide (c ∈ smalls) && (c :: r).all alB)
  | _ => false
theorem is_low_name_v {d : D} (g : Gd d) : p_is_low_name [.v d] = .ok (.v (.bl (nameB d))) [.v d] := by
  cases g with
  | @str z hz =>
    obtain ⟨cs⟩ := z
    obtain ⟨cs⟩ := cs
    have hl : cs.length ≤ 1000 := hz.1
    have e1 := v_lenS (z := ⟨cs.toArray⟩) (by show cs.length ≤ 1000000; omega)
    rw [len_SD] at e1
    cases cs with
    | nil => simp [p_is_low_name, fs_is_low_name, c_MOST_NAME, e1, nameB]
    | cons c r =>
      have e2 := v_ixS (z := ⟨(c :: r).toArray⟩) (i := 0) (by show (c :: r).length ≤ 1000000; omega)
      have hc := comp_of (vs := [1]) (g := nameG 1) (ft := yesF) (fe := k_is_low_name_0e) (fun c => .str (oneStr c)) (fun c => .bl (alB c)) (ρ := [some (.v (SD (c :: r))), none]) (c :: r) fun x _ =>
        ⟨[some (.v (SD (c :: r))), some (.v (.str (oneStr x)))], [some (.v (SD (c :: r))), some (.v (.str (oneStr x)))], rfl, rfl, by
          have hp := plus_alnum
          simp [k_is_low_name_0e, hp, alnum_cps, alB], rfl⟩
      have hm := mapM_bl alB (c :: r)
      have ha : ((c :: r).map alB).all id = (c :: r).all alB := by rw [List.all_map]; rfl
      have hsl : (c :: r).length < sizeLine := line_lt (by omega)
      have hs := signs_SD (c :: r)
      have hb : nameB (SD (c :: r)) = (decide (((c :: r).length) ≤ 10) && (decide (c ∈ smalls) && (c :: r).all alB)) := rfl
      have e3 : (1 : Int) ≤ ((c :: r).length : Int) := by rw [List.length_cons]; omega
      rw [hb]
      generalize (c :: r).all (alB) = bb at *
      have e2' : ixD (.val (SD (c :: r))) (.int 0) = some (.str (oneStr c)) := by rw [e2]; simp
      generalize hcs : c :: r = cs at *
      by_cases h1 : cs.length ≤ 10
      · have h1' : (cs.length : Int) ≤ 10 := by omega
        by_cases h2 : c ∈ smalls
        · simp [p_is_low_name, fs_is_low_name, c_MOST_NAME, c_SMALL_names, small_cps, e1, e2', e3, h1, h1', h2, hc, hm, ha, hsl, hs, plainVs]
        · simp [p_is_low_name, fs_is_low_name, c_MOST_NAME, c_SMALL_names, small_cps, e1, e2', e3, h1, h1', h2]
      · have h1' : ¬ (cs.length : Int) ≤ 10 := by omega
        simp [p_is_low_name, fs_is_low_name, c_MOST_NAME, e1, e3, h1, h1']
  | _ => simp [p_is_low_name, fs_is_low_name, nameB]
def strsZ (xs : List D) : List Str := (strsOf xs).getD []
theorem names_strs : ∀ {xs : List D}, xs.all nameB = true → strsOf xs = some (strsZ xs) ∧ (strsZ xs).length = xs.length
  | [], _ => ⟨rfl, rfl⟩
  | .str z :: r, h => by
    have h2 : r.all nameB = true := by
      rw [List.all_cons, Bool.and_eq_true] at h; exact h.2
    obtain ⟨e1, e2⟩ := names_strs h2
    have e3 : strsOf (.str z :: r) = some (z :: strsZ r) := by
      show (match strsOf r with | some zs => some (z :: zs) | none => none) = _
      rw [e1]
    refine ⟨by unfold strsZ; rw [e3]; rfl, ?_⟩
    unfold strsZ
    rw [e3]
    exact congrArg (· + 1) e2
  | .non :: _, h | .bl _ :: _, h | .int _ :: _, h | .tup _ :: _, h | .lst _ :: _, h | .dk _ :: _, h | .dt _ :: _, h => by simp [nameB] at h
def namesB : D → Bool
  | .tup xs => decide (1 ≤ (xs.length : Int) ∧ (xs.length : Int) ≤ 8) && (xs.all nameB && decide ((onceZ [] (strsZ xs)).length = xs.length))
  | _ => false
theorem are_low_names_v {d : D} (g : Gd d) : p_are_low_names [.v d, .v (.int 1), .v (.int 8)] = .ok (.v (.bl (namesB d))) [.v d, .v (.int 1), .v (.int 8)] := by
  have h0 := is_row_v g 1 8
  cases g with
  | @tup xs hl g =>
    have h1 := comp_bl (vs := [3]) (i := 3) (fe := k_are_low_names_0e) (ρ := [some (.v (.tup xs)), some (.v (.int 1)), some (.v (.int 8)), none]) (xs := xs) nameB fun x hx => ⟨[some (.v (.tup xs)), some (.v (.int 1)), some (.v (.int 8)), some (.v x)], by
        have e := is_low_name_v (g x hx)
        simp [k_are_low_names_0e, wipeE, e], rfl⟩
    have hm := mapM_bl nameB xs
    have ha := all_b nameB xs
    have hsl : xs.length < sizeLine := line_lt (by omega)
    cases c1 : rowLen 1 8 (.tup xs) with
    | false =>
      have hb : namesB (.tup xs) = false := by
        show (decide (1 ≤ (xs.length : Int) ∧ (xs.length : Int) ≤ 8) && _) = _
        rw [show decide (1 ≤ (xs.length : Int) ∧ (xs.length : Int) ≤ 8) = false from c1, Bool.false_and]
      rw [c1] at h0
      rw [hb]
      simp [p_are_low_names, fs_are_low_names, h0]
    | true =>
      rw [c1] at h0
      have hb : namesB (.tup xs) = (xs.all nameB && decide ((onceZ [] (strsZ xs)).length = xs.length)) := by
        show (decide (1 ≤ (xs.length : Int) ∧ (xs.length : Int) ≤ 8) && _) = _
        rw [show decide (1 ≤ (xs.length : Int) ∧ (xs.length : Int) ≤ 8) = true from c1, Bool.true_and]
      rw [hb]
      cases c2 : xs.all nameB with
      | false =>
        rw [c2] at ha
        simp [p_are_low_names, fs_are_low_names, h0, h1, hm, ha, hsl, plainVs]
      | true =>
        obtain ⟨e1, e2⟩ := names_strs c2
        rw [c2] at ha
        have e3 : lenSetZD (.tup xs) = some (.int ((onceZ [] (strsZ xs)).length : Nat)) := by
          show (match strsOf xs with
            | some zs => if zs.length ≤ 4000 then some (D.int ((onceZ [] zs).length : Nat)) else none
            | none => none) = _
          rw [e1]
          exact if_pos (by omega)
        simp [p_are_low_names, fs_are_low_names, h0, h1, hm, ha, hsl, plainVs, e3]
        omega
  | _ => simp [p_are_low_names, fs_are_low_names, h0, rowLen, namesB]

end K59

set_option Elab.async false
set_option linter.all false
set_option maxRecDepth 100000
set_option maxHeartbeats 4000000
namespace K25
open PySem Fx Rt Pq Pg
theorem lows_eq : K25.p_are_low_names = Pg.p_are_low_names := rfl
theorem gd59 {d : D} (g : Gd d) : K59.Gd d := by
  induction g with
  | non => exact .non
  | bl b => exact .bl b
  | int i => exact .int i
  | str h => exact .str h
  | tup h _ ih => exact .tup h ih
  | lst h _ ih => exact .lst h ih
theorem are_low_names_v {d : D} (g : Gd d) : p_are_low_names [.v d, .v (.int 1), .v (.int 8)] = .ok (.v (.bl (K59.namesB d))) [.v d, .v (.int 1), .v (.int 8)] := by
  rw [lows_eq]
  exact K59.are_low_names_v (gd59 g)
def allB (n : Int) (f : D → Bool) : D → Bool
  | .tup xs => decide ((xs.length : Int) = n) && xs.all f
  | _ => false
theorem rowLen_n {n : Int} {xs : List D} : rowLen n n (.tup xs) = decide ((xs.length : Int) = n) := decide_eq_decide.mpr (by omega)
theorem is_point_in_v {d : D} (g : Gd d) (n : Int) : p_is_point_in [.v (.int n), .v d] = .ok (.v (.bl (allB n ratB d))) [.v (.int n), .v d] := by
  have h0 := is_row_v g n n
  cases g with
  | @tup xs hl g =>
    rw [rowLen_n] at h0
    have h1 := comp_bl (vs := [2]) (i := 2) (fe := k_is_point_in_0e) (ρ := [some (.v (.int n)), some (.v (.tup xs)), none]) (xs := xs) ratB fun x hx => ⟨[some (.v (.int n)), some (.v (.tup xs)), some (.v x)], by
      have e := is_ratio_g (g x hx)
      simp [k_is_point_in_0e, wipeE, e], rfl⟩
    have hm := mapM_bl ratB xs
    have ha := all_b ratB xs
    have hsl : xs.length < sizeLine := line_lt (by omega)
    have hb : allB n ratB (.tup xs) = (decide ((xs.length : Int) = n) && xs.all ratB) := rfl
    rw [hb]
    by_cases hn : (xs.length : Int) = n
    · rw [decide_eq_true hn] at h0 ⊢
      rw [Bool.true_and]
      simp [p_is_point_in, fs_is_point_in, h0, h1, hm, ha, hsl, plainVs]
    · rw [decide_eq_false hn] at h0 ⊢
      rw [Bool.false_and]
      simp [p_is_point_in, fs_is_point_in, h0]
  | _ => simp [rowLen] at h0; simp [p_is_point_in, fs_is_point_in, h0, allB]
theorem is_sets_v {d : D} (g : Gd d) (n : Int) : p_is_sets [.v (.int n), .v d] = .ok (.v (.bl (allB n (polyB n) d))) [.v (.int n), .v d] := by
  have h0 := is_row_v g n n
  cases g with
  | @tup xs hl g =>
    rw [rowLen_n] at h0
    have h1 := comp_bl (vs := [2]) (i := 2) (fe := k_is_sets_0e) (ρ := [some (.v (.int n)), some (.v (.tup xs)), none]) (xs := xs) (polyB n) fun x hx => ⟨[some (.v (.int n)), some (.v (.tup xs)), some (.v x)], by
      have e := is_polynomial_in_v (g x hx) n
      generalize polyB n x = pb at *
      simp [k_is_sets_0e, wipeE, e], rfl⟩
    have hm := mapM_bl (polyB n) xs
    have ha := all_b (polyB n) xs
    have hsl : xs.length < sizeLine := line_lt (by omega)
    have hb : allB n (polyB n) (.tup xs) = (decide ((xs.length : Int) = n) && xs.all (polyB n)) := rfl
    rw [hb]
    by_cases hn : (xs.length : Int) = n
    · rw [decide_eq_true hn] at h0 ⊢
      rw [Bool.true_and]
      simp [p_is_sets, fs_is_sets, h0, h1, hm, ha, hsl, plainVs]
    · rw [decide_eq_false hn] at h0 ⊢
      rw [Bool.false_and]
      simp [p_is_sets, fs_is_sets, h0]
  | _ => simp [rowLen] at h0; simp [p_is_sets, fs_is_sets, h0, allB]
noncomputable def stepB (n s : Int) : D → Bool
  | .non => true
  | .tup [a, b] => inB 0 (s - 1) a && allB n (polyB n) b
  | _ => false
theorem is_step_v {d : D} (g : Gd d) (n s : Int) : p_is_step [.v (.int n), .v (.int s), .v d] = .ok (.v (.bl (stepB n s d))) [.v (.int n), .v (.int s), .v d] := by
  have h0 := is_row_v g 2 2
  cases g with
  | non => simp [p_is_step, fs_is_step, stepB]
  | @tup xs hl g =>
    match xs, hl, g, h0 with
    | [], hl, g, h0 => simp [rowLen] at h0; simp [p_is_step, fs_is_step, h0, stepB]
    | [a], hl, g, h0 => simp [rowLen] at h0; simp [p_is_step, fs_is_step, h0, stepB]
    | [a, b], hl, g, h0 =>
      simp [rowLen] at h0
      have e1 := within_v (g a (by simp)) 0 (s - 1)
      have e2 := is_sets_v (g b (by simp)) n
      have hb : stepB n s (.tup [a, b]) = (inB 0 (s - 1) a && allB n (polyB n) b) := rfl
      rw [hb]
      generalize allB n (polyB n) b = pb at *
      cases hi : inB 0 (s - 1) a <;> rw [hi] at e1 <;> simp [p_is_step, fs_is_step, h0, e1, e2]
    | a :: b :: c :: xs, hl, g, h0 =>
      have e2 : rowLen 2 2 (.tup (a :: b :: c :: xs)) = false := by simp [rowLen]; omega
      rw [e2] at h0
      simp [p_is_step, fs_is_step, h0, stepB]
  | _ => simp [rowLen] at h0; simp [p_is_step, fs_is_step, h0, stepB]
noncomputable def stateB (n l s : Int) : D → Bool
  | .tup [a, b] => polyB n a && allB l (stepB n s) b
  | _ => false
theorem is_state_v {d : D} (g : Gd d) (n l s : Int) : p_is_state [.v (.int n), .v (.int l), .v (.int s), .v d] = .ok (.v (.bl (stateB n l s d))) [.v (.int n), .v (.int l), .v (.int s), .v d] := by
  have h0 := is_row_v g 2 2
  cases g with
  | @tup xs hl g =>
    match xs, hl, g, h0 with
    | [], hl, g, h0 => simp [rowLen] at h0; simp [p_is_state, fs_is_state, h0, stateB]
    | [a], hl, g, h0 => simp [rowLen] at h0; simp [p_is_state, fs_is_state, h0, stateB]
    | [a, b], hl, g, h0 =>
      simp [rowLen] at h0
      have ga := g a (by simp)
      have gb := g b (by simp)
      have e1 := is_polynomial_in_v ga n
      have e2 := is_row_v gb l l
      have hb : stateB n l s (.tup [a, b]) = (polyB n a && allB l (stepB n s) b) := rfl
      rw [hb]
      cases hp : polyB n a with
      | false => rw [hp] at e1; simp [p_is_state, fs_is_state, h0, e1]
      | true =>
        rw [hp] at e1
        rw [Bool.true_and]
        cases gb with
        | @tup xs hl2 gb =>
          rw [rowLen_n] at e2
          have h1 := comp_bl (vs := [4]) (i := 4) (fe := k_is_state_0e) (ρ := [some (.v (.int n)), some (.v (.int l)), some (.v (.int s)), some (.v (.tup [a, .tup xs])), none]) (xs := xs) (stepB n s) fun x hx => ⟨[some (.v (.int n)), some (.v (.int l)), some (.v (.int s)), some (.v (.tup [a, .tup xs])), some (.v x)], by
            have e := is_step_v (gb x hx) n s
            generalize stepB n s x = pb at *
            simp [k_is_state_0e, wipeE, e], rfl⟩
          have hm := mapM_bl (stepB n s) xs
          have ha := all_b (stepB n s) xs
          have hsl : xs.length < sizeLine := line_lt (by omega)
          have hb : allB l (stepB n s) (.tup xs) = (decide ((xs.length : Int) = l) && xs.all (stepB n s)) := rfl
          rw [hb]
          by_cases hn : (xs.length : Int) = l
          · rw [decide_eq_true hn] at e2 ⊢
            rw [Bool.true_and]
            simp [p_is_state, fs_is_state, h0, e1, e2, h1, hm, ha, hsl, plainVs]
          · rw [decide_eq_false hn] at e2 ⊢
            rw [Bool.false_and]
            simp [p_is_state, fs_is_state, h0, e1, e2]
        | _ => simp [rowLen] at e2; simp [p_is_state, fs_is_state, h0, e1, e2, allB]
    | a :: b :: c :: xs, hl, g, h0 =>
      have e2 : rowLen 2 2 (.tup (a :: b :: c :: xs)) = false := by simp [rowLen]; omega
      rw [e2] at h0
      simp [p_is_state, fs_is_state, h0, stateB]
  | _ => simp [rowLen] at h0; simp [p_is_state, fs_is_state, h0, stateB]
end K25

set_option Elab.async false
set_option linter.all false
set_option maxRecDepth 100000
set_option maxHeartbeats 4000000
namespace K25
open PySem Fx Rt Pq Pg
noncomputable def machB : D → Bool
  | .tup [.int r, .tup ls, .tup [q, v], .tup ss] => decide (1 ≤ r ∧ r ≤ 12) && (K59.namesB (.tup ls) && (decide (1 ≤ (ss.length : Int) ∧ (ss.length : Int) ≤ 60) && (inB 0 ((ss.length : Int) - 1) q && (allB r ratB v && ss.all (stateB r ls.length ss.length)))))
  | _ => false
theorem is_word_machine_v {d : D} (g : Gd d) : p_is_word_machine [.v d] = .ok (.v (.bl (machB d))) [.v d] := by
  have h0 := is_row_v g 4 4
  have c1 : c_MOST_REGISTERS = .int 12 := rfl
  have c2 : c_MOST_LETTERS = .int 8 := rfl
  have c3 : c_MOST_STATES = .int 60 := rfl
  cases g with
  | @tup xs hl g =>
    match xs, hl, g, h0 with
    | [], hl, g, h0 => simp [rowLen] at h0; simp [p_is_word_machine, fs_is_word_machine, h0, machB]
    | [_], hl, g, h0 => simp [rowLen] at h0; simp [p_is_word_machine, fs_is_word_machine, h0, machB]
    | [_, _], hl, g, h0 => simp [rowLen] at h0; simp [p_is_word_machine, fs_is_word_machine, h0, machB]
    | [_, _, _], hl, g, h0 => simp [rowLen] at h0; simp [p_is_word_machine, fs_is_word_machine, h0, machB]
    | _ :: _ :: _ :: _ :: _ :: xs, hl, g, h0 =>
      simp only [rowLen, List.length_cons] at h0
      rw [decide_eq_false (by omega)] at h0
      simp [p_is_word_machine, fs_is_word_machine, h0, machB]
    | [a, b, c, e], hl, g, h0 =>
      simp [rowLen] at h0
      have ga := g a (by simp)
      have gb := g b (by simp)
      have gc := g c (by simp)
      have ge := g e (by simp)
      have e1 := within_v ga 1 12
      have e2 := are_low_names_v gb
      have e3 := is_row_v ge 1 60
      have e4 := is_row_v gc 2 2
      cases ga with
      | int r =>
        simp only [inB] at e1
        by_cases hr : 1 ≤ r ∧ r ≤ 12
        · rw [decide_eq_true hr] at e1
          cases gb with
          | @tup ls hls gls =>
            cases hn : K59.namesB (.tup ls) with
            | false =>
              rw [hn] at e2
              have : machB (.tup [.int r, .tup ls, c, e]) = false := by
                unfold machB
                split
                · rename_i h; cases h; rw [hn]; simp
                · rfl
              rw [this]
              simp [p_is_word_machine, fs_is_word_machine, h0, e1, c1, c2, c3, e2]
            | true =>
              rw [hn] at e2
              cases ge with
              | @tup ss hss gss =>
                simp only [rowLen] at e3
                by_cases hs : 1 ≤ (ss.length : Int) ∧ (ss.length : Int) ≤ 60
                · rw [decide_eq_true hs] at e3
                  cases gc with
                  | @tup st hst gst =>
                    match st, hst, gst, e4 with
                    | [q, v], hst, gst, e4 =>
                      simp [rowLen] at e4
                      have gq := gst q (by simp)
                      have gv := gst v (by simp)
                      have e5 := within_v gq 0 ((ss.length : Int) - 1)
                      have e6 := is_point_in_v gv r
                      have hb : machB (.tup [.int r, .tup ls, .tup [q, v], .tup ss]) = (inB 0 ((ss.length : Int) - 1) q && (allB r ratB v && ss.all (stateB r ls.length ss.length))) := by
                        simp only [machB, hn, decide_eq_true hr, decide_eq_true hs, Bool.true_and]
                      rw [hb]
                      have h1 := comp_bl (vs := [5]) (i := 5) (fe := k_is_word_machine_0e) (ρ := [some (.v (.tup [.int r, .tup ls, .tup [q, v], .tup ss])), some (.v (.int r)), some (.v (.tup ls)), some (.v (.tup [q, v])), some (.v (.tup ss)), none]) (xs := ss) (stateB r ls.length ss.length) fun x hx =>
                        ⟨[some (.v (.tup [.int r, .tup ls, .tup [q, v], .tup ss])), some (.v (.int r)), some (.v (.tup ls)), some (.v (.tup [q, v])), some (.v (.tup ss)), some (.v x)], by
                        have e := is_state_v (gss x hx) r ls.length ss.length
                        generalize stateB r ls.length ss.length x = pb at *
                        simp [k_is_word_machine_0e, wipeE, e], rfl⟩
                      have hm := mapM_bl (stateB r ls.length ss.length) ss
                      have ha := all_b (stateB r ls.length ss.length) ss
                      have hsl : ss.length < sizeLine := line_lt (by omega)
                      generalize ss.map (fun x => D.bl (stateB r ls.length ss.length x)) = ds at *
                      generalize ss.map (stateB r ls.length ss.length) = bs at *
                      rw [← ha]
                      cases i1 : inB 0 ((ss.length : Int) - 1) q with
                      | false => rw [i1] at e5; simp [p_is_word_machine, fs_is_word_machine, h0, e1, c1, c2, c3, e2, e3, e4, e5]
                      | true =>
                        rw [i1] at e5
                        cases i2 : allB r ratB v with
                        | false => rw [i2] at e6; simp [p_is_word_machine, fs_is_word_machine, h0, e1, c1, c2, c3, e2, e3, e4, e5, e6]
                        | true => rw [i2] at e6; simp [p_is_word_machine, fs_is_word_machine, h0, e1, c1, c2, c3, e2, e3, e4, e5, e6, h1, hm, hsl, plainVs]
                    | [], hst, gst, e4 => simp [rowLen] at e4; simp [p_is_word_machine, fs_is_word_machine, h0, e1, c1, c2, c3, e2, e3, e4, machB]
                    | [_], hst, gst, e4 => simp [rowLen] at e4; simp [p_is_word_machine, fs_is_word_machine, h0, e1, c1, c2, c3, e2, e3, e4, machB]
                    | _ :: _ :: _ :: st, hst, gst, e4 =>
                      simp only [rowLen, List.length_cons] at e4
                      rw [decide_eq_false (by omega)] at e4
                      simp [p_is_word_machine, fs_is_word_machine, h0, e1, c1, c2, c3, e2, e3, e4, machB]
                  | _ => simp [rowLen] at e4; simp [p_is_word_machine, fs_is_word_machine, h0, e1, c1, c2, c3, e2, e3, e4, machB]
                · rw [decide_eq_false hs] at e3
                  have : machB (.tup [.int r, .tup ls, c, .tup ss]) = false := by
                    unfold machB
                    split
                    · rename_i h; cases h; rw [decide_eq_false hs]; simp
                    · rfl
                  rw [this]
                  simp [p_is_word_machine, fs_is_word_machine, h0, e1, c1, c2, c3, e2, e3]
              | _ => simp [rowLen] at e3; simp [p_is_word_machine, fs_is_word_machine, h0, e1, c1, c2, c3, e2, e3, machB]
          | _ => simp [K59.namesB] at e2; simp [p_is_word_machine, fs_is_word_machine, h0, e1, c1, c2, c3, e2, machB]
        · rw [decide_eq_false hr] at e1
          have : machB (.tup [.int r, b, c, e]) = false := by
            unfold machB
            split
            · rename_i h; cases h; rw [decide_eq_false hr]; simp
            · rfl
          rw [this]
          simp [p_is_word_machine, fs_is_word_machine, h0, e1, c1]
      | _ => simp [inB] at e1; simp [p_is_word_machine, fs_is_word_machine, h0, e1, c1, machB]
  | _ => simp [rowLen] at h0; simp [p_is_word_machine, fs_is_word_machine, h0, machB]
end K25

set_option Elab.async false
set_option linter.all false
set_option maxRecDepth 100000
set_option maxHeartbeats 4000000

namespace K03
open PySem Fx Pg
noncomputable section
end
end K03

set_option Elab.async false
set_option linter.all false
set_option maxRecDepth 100000
set_option maxHeartbeats 4000000
namespace Pg
open PySem Fx Rt Pq
theorem comp_if {α : Type} {vs : List Nat} {g : FG} {ft : FE Bool} {fe : FE D} (c : α → Bool) (dd f : α → D) {ρ : Fx.Env} : ∀ xs : List α, (∀ x ∈ xs, ∃ ρ1, g (dd x) (wipeE ρ vs) = some ρ1 ∧ ft ρ1 = .ok (c x) ρ1 ∧ (c x = true → fe ρ1 = .ok (f x) ρ1) ∧ restE ρ ρ1 vs = ρ) →
    compGo vs g (noEx ft) (noEx fe) (xs.map dd) ρ = .ok ((xs.filter c).map f) ρ
  | [], _ => rfl
  | x :: xs, h => by
    obtain ⟨ρ1, h1, h2, h3, h4⟩ := h x List.mem_cons_self
    have ih := comp_if c dd f xs fun y hy => h y (List.mem_cons_of_mem _ hy)
    rw [List.map_cons]
    unfold compGo
    rw [h1]
    cases hc : c x with
    | true =>
      rw [List.filter_cons_of_pos hc, List.map_cons]
      rw [hc] at h2
      simp only [e_noEx, h2, e_bind_ok, if_true, h3 hc, h4, ih]
    | false =>
      rw [List.filter_cons_of_neg (by rw [hc]; exact Bool.false_ne_true)]
      rw [hc] at h2
      simp only [e_noEx, h2, e_bind_ok, Bool.false_eq_true, if_false, h4, ih]
theorem v_eqIt {a b : Int} : eqD true (.int a) (.int b) = some (.bl (!decide (a = b))) := by
  rw [v_eq rfl rfl]
  simp [eqB, toPy, PyData.eqv, Bool.beq_eq_decide_eq]
theorem dictD_keys (P : List Row) : (dictD P).map (·.1) = P.map fun p => eD p.1 := by
  unfold dictD; rw [List.map_map]; rfl
end Pg

set_option Elab.async false
set_option linter.all false
set_option maxRecDepth 100000
set_option maxHeartbeats 4000000
namespace Pg
open PySem Fx Rt Pq
theorem put_len (P : List Row) (e : Ex) (r : Ra) : (put P e r).length ≤ P.length + 1 := by
  unfold put
  split <;> simp
structure RowZ (n : Int) (m : Nat) (p : Row) : Prop where
  ok : RowOk n p
  sz : RSz m p.2
abbrev ins (P : List Row) (p : Row) : List Row := if p.2 = (0, 1) then P else stepP P p.1 p.2
theorem gd_e (e : Ex) (h : e.length ≤ 2000) : Gd (eD e) := .tup (by rw [List.length_map]; exact h) fun x hx => by
  obtain ⟨i, _, rfl⟩ := List.mem_map.mp hx; exact .int i
theorem gd_r (r : Ra) : Gd (rD r) := .tup (by show 2 ≤ 2000; decide) fun x hx => by
  rcases List.mem_cons.mp hx with z | hx
  · rw [z]; exact .int _
  · rw [List.mem_singleton.mp hx]; exact .int _
theorem gd_row {p : Row} (h : p.1.length ≤ 2000) : Gd (rowD p) := .tup (by show 2 ≤ 2000; decide) fun x hx => by
  rcases List.mem_cons.mp hx with z | hx
  · rw [z]; exact gd_e _ h
  · rw [List.mem_singleton.mp hx]; exact gd_r _
theorem gd_poly {P : List Row} (hl : P.length ≤ 2000) (h : ∀ p ∈ P, p.1.length ≤ 2000) : Gd (polyD P) := .tup (by rw [List.length_map]; exact hl) fun x hx => by
  obtain ⟨p, hp, rfl⟩ := List.mem_map.mp hx; exact gd_row (h p hp)
theorem times_zero (n : Nat) (h : n ≤ 24) : timesT (.tup [.int 0]) (.int n) = some (eD (List.replicate n 0)) := by
  have e : repL (n : Int) [D.int 0] = (List.replicate n (0 : Int)).map .int := by
    unfold repL
    simp
  have h1 : mulD (.tup [.int 0]) (.int n) = none := rfl
  have h2 : mulSD (.tup [.int 0]) (.int n) = none := rfl
  have h3 : mulTD (.tup [.int 0]) (.int n) = some (.tup (repL n [D.int 0])) := by
    exact if_pos ⟨by show 1 ≤ 1000; decide, by omega, by omega⟩
  unfold timesT orD
  simp only [h1, h2, h3, e]
end Pg

set_option Elab.async false
set_option linter.all false
set_option maxRecDepth 100000
set_option maxHeartbeats 4000000
namespace Pg
open PySem Fx Rt Pq
theorem chain_canon {P : List Row} (c : Canon P) : chainB P = true := by
  unfold chainB
  rw [List.all_eq_true]
  intro k hk
  have hk' := List.mem_range.mp hk
  rw [List.getD_eq_getElem?_getD, List.getD_eq_getElem?_getD, List.getElem?_eq_getElem (show k + 1 < P.length by omega), List.getElem?_eq_getElem (show k < P.length by omega)]
  exact List.pairwise_iff_getElem.mp c k (k + 1) (by omega) (by omega) (by omega)
end Pg

set_option Elab.async false
set_option linter.all false
set_option maxRecDepth 100000
set_option maxHeartbeats 4000000
namespace Pg
open PySem Fx Rt Pq
end Pg

set_option Elab.async false
set_option linter.all false
set_option maxRecDepth 100000
set_option maxHeartbeats 4000000
namespace Pg
open PySem Fx Rt Pq
end Pg
namespace K03
open PySem Fx Rt Pq Pg
def GdL (xs : List D) : Prop := ∀ x ∈ xs, Gd x
theorem gdl_nil : GdL [] := fun _ h => nomatch h
theorem gdl_cons {x : D} {xs : List D} (h : Gd x) (t : GdL xs) : GdL (x :: xs) := fun y hy => by
  rcases List.mem_cons.mp hy with rfl | hy
  · exact h
  · exact t y hy
theorem gd_sm {ys : List D} (h : ys.length ≤ 200) (g : GdL ys) : Gd (.tup ys) := .tup (by omega) g
theorem gd_2 {x y : D} (h : Gd x) (h2 : Gd y) : Gd (.tup [x, y]) := gd_sm (by show 2 ≤ 200; decide) (gdl_cons h (gdl_cons h2 gdl_nil))
end K03

set_option Elab.async false
set_option linter.all false
set_option maxRecDepth 100000
set_option maxHeartbeats 4000000
namespace Pg
open PySem Fx Rt Pq
theorem low_loop {o0 o1 : Option O} : ∀ (b a : Nat), whileF k__law_low_0t k__law_low_0b [o0, o1, some (.v (.int a)), some (.v (.int b))] = .nx [o0, o1, some (.v (.int (Nat.gcd a b : Nat))), some (.v (.int 0))] := by
  intro b
  induction b using Nat.strongRecOn with
  | ind b ih =>
    intro a
    by_cases h0 : b = 0
    · subst h0
      rw [while_done (ρ1 := [o0, o1, some (.v (.int a)), some (.v (.int 0))]) (by simp [k__law_low_0t])]
      simp
    · have hm : ((a : Int).fmod b) = ((a % b : Nat) : Int) := by rw [Int.fmod_eq_emod_of_nonneg _ (by omega)]; omega
      have ht : k__law_low_0t [o0, o1, some (.v (.int a)), some (.v (.int b))] = .ok true [o0, o1, some (.v (.int a)), some (.v (.int b))] := by simp [k__law_low_0t, h0]
      have hb : k__law_low_0b [o0, o1, some (.v (.int a)), some (.v (.int b))] = .nx [o0, o1, some (.v (.int b)), some (.v (.int (a % b : Nat)))] := by
        simp [k__law_low_0b, h0, hm, -Int.natCast_emod]
      rw [while_step ht hb, ih (a % b) (Nat.mod_lt _ (Nat.pos_of_ne_zero h0)) b, Nat.gcd_comm b, ← Nat.gcd_rec, Nat.gcd_comm]
theorem law_low_v {a b : Int} (hb : b ≠ 0) (hl : b.natAbs.log2 < 9000) : p__law_low [.v (.int a), .v (.int b)] = .ok (.v (rD (lowP a b))) [.v (.int a), .v (.int b)] := by
  have hg : Nat.gcd a.natAbs b.natAbs ≠ 0 := Nat.pos_iff_ne_zero.mp (Nat.gcd_pos_of_pos_right _ (by omega))
  have hle : Nat.gcd a.natAbs b.natAbs ≤ b.natAbs := Nat.gcd_le_right _ (by omega)
  have hlog : (Nat.gcd a.natAbs b.natAbs).log2 < 9000 := by
    rw [Nat.log2_lt hg]
    rw [Nat.log2_lt (by omega)] at hl
    omega
  have hd : ∀ y, DivC y ((Nat.gcd a.natAbs b.natAbs : Nat) : Int) := fun y => ⟨by omega, by simpa using hlog⟩
  have hd2 : ∀ y, DivC y (-((Nat.gcd a.natAbs b.natAbs : Nat) : Int)) := fun y => ⟨by omega, by simpa using hlog⟩
  have el := low_loop (o0 := some (.v (.int a))) (o1 := some (.v (.int b))) b.natAbs a.natAbs
  by_cases h : b < 0
  · have e : lowP a b = (a.fdiv (-(Nat.gcd a.natAbs b.natAbs : Nat)), b.fdiv (-(Nat.gcd a.natAbs b.natAbs : Nat))) := if_pos h
    rw [show ((b.natAbs : Nat) : Int) = -b by omega] at el
    simp [p__law_low, fs__law_low, abs_if, el, h, hd2, line_le, e]
  · have e : lowP a b = (a.fdiv (Nat.gcd a.natAbs b.natAbs : Nat), b.fdiv (Nat.gcd a.natAbs b.natAbs : Nat)) := if_neg h
    rw [show ((b.natAbs : Nat) : Int) = b by omega] at el
    simp [p__law_low, fs__law_low, abs_if, el, h, hd, line_le, e]
section
variable {r s : Int × Int} (hr : IsR r) (hs : IsR s)
include hr hs
theorem law_add_v (h1 : RSz 4000 r) (h2 : RSz 4000 s) : p__law_add [.v (rD r), .v (rD s)] = .ok (.v (rD (addP r s))) [.v (rD r), .v (rD s)] := by
  have m1 : MulC r.1 s.2 := mulC_sz h1.top h2.bot (by decide)
  have m2 : MulC s.1 r.2 := mulC_sz h2.top h1.bot (by decide)
  have m3 : MulC r.2 s.2 := mulC_sz h1.bot h2.bot (by decide)
  have e := law_low_v (a := r.1 * s.2 + s.1 * r.2) (bot_ne hr hs) (log_of (h1.bot.mul h2.bot) (by decide) (by decide))
  simp [p__law_add, fs__law_add, m1, m2, m3, e, addP]
end
end Pg

set_option Elab.async false
set_option linter.all false
set_option maxRecDepth 100000
set_option maxHeartbeats 4000000
namespace Pg
open PySem Fx Rt Pq
def incE (e : Ex) (j : Nat) : Ex := e.set j (e.getD j 0 + 1)
def zeE (n : Nat) : Ex := List.replicate n 0
def exps (n : Nat) : List Ex := zeE n :: ((List.range n).map fun j => incE (zeE n) j) ++ (List.range n).flatMap fun j => (List.range (j + 1)).map fun k => incE (incE (zeE n) j) k
theorem inc_len (e : Ex) (j : Nat) : (incE e j).length = e.length := by unfold incE; rw [List.length_set]
theorem inc_nn {e : Ex} (h : ∀ i ∈ e, 0 ≤ i) (j : Nat) : ∀ i ∈ incE e j, 0 ≤ i := fun i hi => by
  unfold incE at hi
  rcases List.mem_or_eq_of_mem_set hi with hi | hi
  · exact h i hi
  · rw [hi]
    have : 0 ≤ e.getD j 0 := by
      rw [List.getD_eq_getElem?_getD]
      cases hj : e[j]? with
      | none => exact Int.le_refl 0
      | some x => exact h x (List.mem_of_getElem? hj)
    omega
theorem ze_nn (n : Nat) : ∀ i ∈ zeE n, (0 : Int) ≤ i := fun i hi => by rw [(List.mem_replicate.mp hi).2]; exact Int.le_refl 0
theorem exps_ok {n : Nat} {e : Ex} (h : e ∈ exps n) : e.length = n ∧ ∀ i ∈ e, 0 ≤ i := by
  unfold exps at h
  rcases List.mem_append.mp h with h | h
  · rcases List.mem_cons.mp h with h | h
    · rw [h]; exact ⟨List.length_replicate, ze_nn n⟩
    · obtain ⟨j, _, rfl⟩ := List.mem_map.mp h
      exact ⟨by rw [inc_len]; exact List.length_replicate, inc_nn (ze_nn n) j⟩
  · obtain ⟨j, _, h⟩ := List.mem_flatMap.mp h
    obtain ⟨k, _, rfl⟩ := List.mem_map.mp h
    exact ⟨by rw [inc_len, inc_len]; exact List.length_replicate, inc_nn (inc_nn (ze_nn n) j) k⟩
structure Tm (n N : Nat) (P : List Row) : Prop where
  nd : (P.map (·.1)).Nodup
  ex : ∀ p ∈ P, p.1 ∈ exps n
  ok : ∀ p ∈ P, IsR p.2 ∧ p.2.1 ≠ 0 ∧ Dz N p.2
  len : P.length ≤ N
theorem Tm.mono {n N M : Nat} {P : List Row} (h : Tm n N P) (hm : N ≤ M) : Tm n M P := ⟨h.nd, h.ex, fun p hp => ⟨(h.ok p hp).1, (h.ok p hp).2.1, (h.ok p hp).2.2.mono hm⟩, by have := h.len; omega⟩
end Pg

set_option Elab.async false
set_option linter.all false
set_option maxRecDepth 100000
set_option maxHeartbeats 4000000
namespace Pg
open PySem Fx Rt Pq
abbrev polyT (P : List Row) : List Row := (sortA P).reverse
theorem sort_k (P : List Row) : sortD (P.map fun p => kD p.1) = (sortA P).map fun p => kD p.1 := by
  unfold sortD sortA
  refine (List.map_mergeSort (r := fun p q : Row => !ltE q.1 p.1) fun a ha b hb => ?_).symm
  rw [PySem.W.dataLe_eq]
  show _ = !PySem.W.dataLt (toPy (kD b.1)) (toPy (kD a.1))
  rw [dataLt_k]
theorem polyT_ok {n N : Nat} {P : List Row} (h : Tm n N P) : ∀ p ∈ polyT P, RowOk n p ∧ p.2.1 ≠ 0 := fun p hp => by
  have hm := (sortA_perm P).mem_iff.mp (List.mem_reverse.mp hp)
  obtain ⟨h1, h2⟩ := exps_ok (h.ex p hm)
  exact ⟨⟨by rw [h1], h2, (h.ok p hm).1⟩, (h.ok p hm).2.1⟩
theorem polyT_true {n N : Nat} {P : List Row} (h : Tm n N P) : polyB n (polyD (polyT P)) = true := by
  rw [polyB_p (polyT_ok h)]
  exact chain_canon (sortA_canon h.nd)
theorem polyT_gd {n N : Nat} (hn : n ≤ 24) (hN : N ≤ 1000) {P : List Row} (h : Tm n N P) : Gd (polyD (polyT P)) := gd_poly (by
  have := h.len
  rw [List.length_reverse, (sortA_perm P).length_eq]; omega) fun p hp => by
  have := (polyT_ok h p hp).1.len; omega
end Pg

set_option Elab.async false
set_option linter.all false
set_option maxRecDepth 100000
set_option maxHeartbeats 4000000
namespace K25
open PySem Fx Rt Pq Pg
theorem set_inc (e : Ex) {j : Nat} (h : j < e.length) : ∃ x, L2.atI (e.map D.int) (j : Int) = some (.int x) ∧ (e.map D.int).set j (.int (x + 1)) = (incE e j).map .int := by
  refine ⟨e[j], by rw [v_atI (n := j) rfl (by rw [List.length_map]; exact h), List.getElem?_map, List.getElem?_eq_getElem h]; rfl, ?_⟩
  unfold incE
  rw [List.map_set, List.getD_eq_getElem?_getD, List.getElem?_eq_getElem h]; rfl
theorem ixN_nat {n j : Nat} (h : j < n) : L2.ixN n (j : Int) = some j := by
  unfold L2.ixN
  simp
  omega
theorem rep0 {n : Nat} (hn : n ≤ 24) : repL (n : Int) [D.int 0] = (zeE n).map .int := by unfold repL zeE; simp
theorem n_le {n : Nat} (h : n ∈ [1, 2, 3, 12]) : 0 < n ∧ n ≤ 12 := by
  simp at h; omega
theorem rg_le {m : Nat} (hm : m ≤ 1000) (ρ : Fx.Env) : rgo1 (.int (m : Int)) ρ = .ok (rangeL 0 m) ρ := by
  rw [e_rgo1 (by omega), show ((m : Int)).toNat = m by omega]
end K25

set_option Elab.async false
set_option linter.all false
set_option maxRecDepth 100000
set_option maxHeartbeats 4000000
namespace K25
open PySem Fx Rt Pq Pg
abbrev tbD (P : List Row) : D := .tb (dictD P)
end K25

set_option Elab.async false
set_option linter.all false
set_option maxRecDepth 100000
set_option maxHeartbeats 4000000
namespace K25
open PySem Fx Rt Pq Pg
theorem strOk_SD {cs : List Nat} (h : ∀ c ∈ cs, c < 200) : PyData.strOk ⟨cs.toArray⟩ = true := by
  unfold PyData.strOk
  simp
  intro c hc
  have := h c hc
  omega
def NameW (w : List Nat) : Prop := ∃ c r, w = c :: r ∧ c ∈ smalls ∧ (c :: r).all K59.alB = true ∧ w.length ≤ 10
theorem alB_lt {c : Nat} (h : K59.alB c = true) : c < 200 := by
  unfold K59.alB at h
  rcases Bool.or_eq_true_iff.mp h with h | h
  · have := of_decide_eq_true h
    unfold smalls at this
    obtain ⟨i, hi, rfl⟩ := List.mem_map.mp this
    have := List.mem_range.mp hi
    omega
  · have := of_decide_eq_true h
    unfold K59.digs10 at this
    obtain ⟨i, hi, rfl⟩ := List.mem_map.mp this
    have := List.mem_range.mp hi
    omega
theorem NameW.lt {w : List Nat} (h : NameW w) : ∀ x ∈ w, x < 200 := by
  obtain ⟨c, r, rfl, _, ha, _⟩ := h
  intro x hx
  exact alB_lt (List.all_eq_true.mp ha x hx)
theorem NameW.nameB {w : List Nat} (h : NameW w) : K59.nameB (SD w) = true := by
  obtain ⟨c, r, rfl, hc, ha, hl⟩ := h
  show (decide ((c :: r).length ≤ 10) && (decide (c ∈ smalls) && (c :: r).all K59.alB)) = true
  rw [decide_eq_true hl, decide_eq_true hc, ha]; rfl
theorem NameW.gd {w : List Nat} (h : NameW w) : Gd (SD w) := .str ⟨by
  obtain ⟨c, r, rfl, _, _, hl⟩ := h
  show (c :: r).length ≤ 1000
  omega, strOk_SD h.lt⟩
theorem once_len : ∀ (zs acc : List Str), zs.Nodup → (∀ z ∈ zs, z ∉ acc) → (onceZ acc zs).length = acc.length + zs.length
  | [], acc, _, _ => rfl
  | z :: zs, acc, hn, hd => by
    rw [List.nodup_cons] at hn
    rw [onceZ, if_neg (hd z List.mem_cons_self), once_len zs (z :: acc) hn.2 fun x hx hm => ?_, List.length_cons, List.length_cons]
    · omega
    · rcases List.mem_cons.mp hm with e | hm
      · rw [e] at hx; exact hn.1 hx
      · exact hd x (List.mem_cons_of_mem _ hx) hm
theorem strs_SD : ∀ W : List (List Nat), strsOf (W.map SD) = some (W.map fun w => (⟨w.toArray⟩ : Str))
  | [] => rfl
  | w :: W => by
    rw [List.map_cons, List.map_cons]
    show (match strsOf (W.map SD) with | some zs => some ((⟨w.toArray⟩ : Str) :: zs) | none => none) = _
    rw [strs_SD W]
structure Lets (W : List (List Nat)) : Prop where
  nd : W.Nodup
  ok : ∀ w ∈ W, NameW w
theorem Lets.once {W : List (List Nat)} (h : Lets W) : (onceZ [] (K59.strsZ (W.map SD))).length = W.length := by
  unfold K59.strsZ
  rw [strs_SD, Option.getD_some, once_len _ _ ?_ (fun _ _ => List.not_mem_nil)]
  · simp
  · rw [List.nodup_iff_pairwise_ne, List.pairwise_map]
    refine (List.nodup_iff_pairwise_ne.mp h.nd).imp fun {a b} hab e => hab ?_
    injection e with e
    exact congrArg Array.toList e
theorem Lets.all {W : List (List Nat)} (h : Lets W) : (W.map SD).all K59.nameB = true := by
  rw [List.all_map, List.all_eq_true]
  exact fun w hw => (h.ok w hw).nameB
theorem Lets.names {W : List (List Nat)} (h : Lets W) (h1 : 1 ≤ W.length) (h8 : W.length ≤ 8) : K59.namesB (.tup (W.map SD)) = true := by
  show (decide (1 ≤ ((W.map SD).length : Int) ∧ ((W.map SD).length : Int) ≤ 8) && ((W.map SD).all K59.nameB && decide ((onceZ [] (K59.strsZ (W.map SD))).length = (W.map SD).length))) = true
  rw [h.all, h.once, List.length_map, decide_eq_true (by omega)]
  simp
end K25

set_option Elab.async false
set_option linter.all false
set_option maxRecDepth 100000
set_option maxHeartbeats 4000000
namespace K25
open PySem Fx Rt Pq Pg
structure LetK (k : Nat) (W : List (List Nat)) : Prop extends Lets W where
  len : W.length = k
  las : ∀ w ∈ W, w.length ≤ 6 ∧ ∃ x, w.getLast? = some x ∧ (97 ≤ x ∨ ∃ j, j < k ∧ x = 48 + j)
end K25

set_option Elab.async false
set_option linter.all false
set_option maxRecDepth 100000
set_option maxHeartbeats 4000000
namespace K25
open PySem Fx Rt Pq Pg
def RatV (d : D) : Prop := ∃ r : Ra, d = rD r ∧ IsR r ∧ Dz 10 r
end K25

set_option Elab.async false
set_option linter.all false
set_option maxRecDepth 100000
set_option maxHeartbeats 4000000
namespace K25
open PySem Fx Rt Pq Pg
def PolyG (n : Nat) (Q : D) : Prop := polyB n Q = true ∧ Gd Q
def StepS (n s : Nat) (d : D) : Prop := d = .non ∨ ∃ (q : Nat) (Qs : List D), d = .tup [.int q, .tup Qs] ∧ q < s ∧ Qs.length = n ∧ ∀ Q ∈ Qs, PolyG n Q
def RowS (n l s : Nat) (d : D) : Prop := ∃ Q steps, d = .tup [Q, .tup steps] ∧ PolyG n Q ∧ steps.length = l ∧ ∀ x ∈ steps, StepS n s x
theorem poly_of_tm {n N : Nat} (hn : n ≤ 12) (hN : N ≤ 1000) {P : List Row} (h : Tm n N P) : PolyG n (polyD (polyT P)) := ⟨polyT_true h, polyT_gd (by omega) hN h⟩
structure Mach (n l s : Nat) (W : List (List Nat)) (q : Nat) (vs ss : List D) : Prop where
  hn : n ∈ [1, 2, 3, 12]
  l1 : 1 ≤ l
  l3 : l ≤ 3
  s1 : 1 ≤ s
  s4 : s ≤ 10
  lets : LetK l W
  q : q < s
  vl : vs.length = n
  vr : ∀ v ∈ vs, RatV v
  sl : ss.length = s
  sr : ∀ y ∈ ss, RowS n l s y
abbrev machD (n : Nat) (W : List (List Nat)) (q : Nat) (vs ss : List D) : D := .tup [.int n, .tup (W.map SD), .tup [.int q, .tup vs], .tup ss]
theorem ratB_v {v : D} (h : RatV v) : ratB v = true ∧ Gd v := by
  obtain ⟨r, rfl, hr, _⟩ := h
  refine ⟨?_, gd_r r⟩
  have h1 := hr.pos
  have h2 := hr.cop
  simp only [ratB, rD, h1, h2, decide_true, Bool.and_self]
theorem stepB_s {n s : Nat} {x : D} (h : StepS n s x) : stepB n s x = true := by
  rcases h with rfl | ⟨q, Qs, rfl, hq, hl, hQ⟩
  · rfl
  · have h1 : inB 0 ((s : Int) - 1) (.int (q : Int)) = true := by simp [inB]; omega
    have h2 : allB n (polyB n) (.tup Qs) = true := by
      show (decide ((Qs.length : Int) = n) && Qs.all (polyB n)) = true
      rw [decide_eq_true (by omega), List.all_eq_true.mpr fun Q hq => (hQ Q hq).1]; rfl
    show (inB 0 ((s : Int) - 1) (.int (q : Int)) && allB n (polyB n) (.tup Qs)) = true
    rw [h1, h2]; rfl
theorem stateB_s {n l s : Nat} {x : D} (h : RowS n l s x) : stateB n l s x = true := by
  obtain ⟨Q, steps, rfl, hQ, hl, hs⟩ := h
  have h2 : allB l (stepB n s) (.tup steps) = true := by
    show (decide ((steps.length : Int) = l) && steps.all (stepB n s)) = true
    rw [decide_eq_true (by omega), List.all_eq_true.mpr fun x hx => stepB_s (hs x hx)]; rfl
  show (polyB n Q && allB l (stepB n s) (.tup steps)) = true
  rw [hQ.1, h2]; rfl
theorem StepS.gd {n s : Nat} (hn : n ≤ 12) {x : D} (h : StepS n s x) : Gd x := by
  rcases h with rfl | ⟨q, Qs, rfl, hq, hl, hQ⟩
  · exact .non
  · exact K03.gd_2 (.int _) (.tup (by omega) fun Q hq => (hQ Q hq).2)
theorem RowS.gd {n l s : Nat} (hn : n ≤ 12) (hl2 : l ≤ 10) {x : D} (h : RowS n l s x) : Gd x := by
  obtain ⟨Q, steps, rfl, hQ, hl, hs⟩ := h
  exact K03.gd_2 hQ.2 (.tup (by omega) fun x hx => (hs x hx).gd hn)
section
variable {n l s : Nat} {W : List (List Nat)} {q : Nat} {vs ss : List D} (h : Mach n l s W q vs ss)
include h
theorem Mach.n12 : 1 ≤ n ∧ n ≤ 12 := by have := n_le h.hn; omega
theorem Mach.gls : ∀ x ∈ W.map SD, Gd x := fun x hx => by obtain ⟨w, hw, rfl⟩ := List.mem_map.mp hx; exact (h.lets.ok w hw).gd
theorem Mach.gvs : ∀ x ∈ vs, Gd x := fun x hx => (ratB_v (h.vr x hx)).2
theorem Mach.gss : ∀ x ∈ ss, Gd x := fun x hx => (h.sr x hx).gd h.n12.2 (by have := h.l3; omega)
theorem Mach.wl : (W.map SD).length = l := by rw [List.length_map, h.lets.len]
theorem Mach.val : allB n ratB (.tup vs) = true := by
  show (decide ((vs.length : Int) = n) && vs.all ratB) = true
  rw [decide_eq_true (by rw [h.vl]), List.all_eq_true.mpr fun v hv => (ratB_v (h.vr v hv)).1]; rfl
theorem Mach.sta : ss.all (stateB n l s) = true := List.all_eq_true.mpr fun x hx => stateB_s (h.sr x hx)
theorem Mach.good : machB (machD n W q vs ss) = true := by
  have h1 := h.lets.names (by rw [h.lets.len]; exact h.l1) (by rw [h.lets.len]; have := h.l3; omega)
  have h2 : inB 0 ((ss.length : Int) - 1) (.int (q : Int)) = true := by have := h.q; have := h.sl; simp [inB]; omega
  have h3 := h.n12
  have h4 := h.s1
  have h5 := h.s4
  show (decide (1 ≤ (n : Int) ∧ (n : Int) ≤ 12) && (K59.namesB (.tup (W.map SD)) && (decide (1 ≤ (ss.length : Int) ∧ (ss.length : Int) ≤ 60) && (inB 0 ((ss.length : Int) - 1) (.int (q : Int)) && (allB n ratB (.tup vs) && ss.all (stateB n (W.map SD).length ss.length)))))) = true
  rw [h1, h2, h.val, h.wl, h.sl, h.sta, decide_eq_true (by omega), decide_eq_true (by omega)]; rfl
theorem Mach.gd : Gd (machD n W q vs ss) := by
  refine .tup (by show 4 ≤ 2000; decide) fun x hx => ?_
  have := h.l3
  have := h.s4
  have := h.n12
  rcases List.mem_cons.mp hx with e | hx
  · rw [e]; exact .int _
  rcases List.mem_cons.mp hx with e | hx
  · rw [e]; exact .tup (by rw [h.wl]; omega) h.gls
  rcases List.mem_cons.mp hx with e | hx
  · rw [e]; exact K03.gd_2 (.int _) (.tup (by rw [h.vl]; omega) h.gvs)
  · rw [List.mem_singleton.mp hx]; exact .tup (by rw [h.sl]; omega) h.gss
end
end K25

set_option Elab.async false
set_option linter.all false
set_option maxRecDepth 100000
set_option maxHeartbeats 4000000
namespace K25
open PySem Fx Rt Pq Pg
theorem comp_fil {α : Type} {vs : List Nat} {g : FG} {ft : FE Bool} {fe : FE D} (dd f : α → D) (p : α → Bool) {ρ : Fx.Env} : ∀ xs : List α, (∀ x ∈ xs, ∃ ρ1, g (dd x) (wipeE ρ vs) = some ρ1 ∧ ∃ ρ2, ft ρ1 = .ok (p x) ρ2 ∧ (p x = true → ∃ ρ3, fe ρ2 = .ok (f x) ρ3 ∧ restE ρ ρ3 vs = ρ) ∧ (p x = false → restE ρ ρ2 vs = ρ)) →
    compGo vs g (noEx ft) (noEx fe) (xs.map dd) ρ = .ok ((xs.filter p).map f) ρ
  | [], _ => rfl
  | x :: xs, h => by
    obtain ⟨ρ1, h1, ρ2, h2, h3, h4⟩ := h x List.mem_cons_self
    have ih := comp_fil dd f p (ρ := ρ) xs fun z hz => h z (List.mem_cons_of_mem _ hz)
    rw [List.map_cons]
    unfold compGo
    rw [h1]
    simp only [e_noEx, h2, e_bind_ok]
    cases hp : p x with
    | true =>
      obtain ⟨ρ3, h5, h6⟩ := h3 hp
      rw [if_pos rfl, List.filter_cons_of_pos hp, List.map_cons]
      simp only [h5, e_bind_ok, h6, ih]
    | false =>
      rw [if_neg Bool.false_ne_true, List.filter_cons_of_neg (by rw [hp]; exact Bool.false_ne_true)]
      simp only [h4 hp, ih]
abbrev AStep := Option (Nat × List (List Row))
abbrev ARow := List Row × List AStep
abbrev plD (P : List Row) : D := polyD (polyT P)
def stS : AStep → D
  | none => .non
  | some (q, Ps) => .tup [.int q, .tup (Ps.map plD)]
def arS (r : ARow) : D := .tup [plD r.1, .tup (r.2.map stS)]
structure AOk (n l s : Nat) (r : ARow) : Prop where
  told : Tm n 60 r.1
  len : r.2.length = l
  st : ∀ q Ps, some (q, Ps) ∈ r.2 → q < s ∧ Ps.length = n ∧ ∀ P ∈ Ps, Tm n 60 P
theorem pairs_of (T : List Row) : (T.map rowD).mapM pairOfD = some (dictD T) := by
  induction T with
  | nil => rfl
  | cons p T ih =>
    have h : pairOfD (rowD p) = some (eD p.1, rD p.2) := by
      show (if (keyT (eD p.1)).isSome then some (eD p.1, rD p.2) else none) = _
      rw [keyT_e]; rfl
    rw [List.map_cons, List.mapM_cons, h, ih]; rfl
theorem putAll_d : ∀ (T S : List Row), ((S ++ T).map (·.1)).Nodup → putAllB (dictD S) (dictD T) = dictD (S ++ T)
  | [], S, _ => by rw [List.append_nil]; rfl
  | p :: T, S, h => by
    have hS : ∀ x ∈ S, x.1 ≠ p.1 := fun x hx e => by
      rw [List.map_append, List.map_cons] at h
      have := (List.nodup_append.mp h).2.2 x.1 (List.mem_map_of_mem hx) p.1 List.mem_cons_self
      exact this e
    have g : get S p.1 = none := by
      cases q : get S p.1 with
      | none => rfl
      | some r =>
        have : ∀ {P : List Row}, get P p.1 = some r → ∃ x ∈ P, x.1 = p.1 := by
          intro P
          induction P with
          | nil => intro e; cases e
          | cons y P ih =>
            intro e
            rw [get_cons] at e
            by_cases hy : y.1 = p.1
            · exact ⟨y, List.mem_cons_self, hy⟩
            · rw [if_neg hy] at e
              obtain ⟨x, hx, hxe⟩ := ih e
              exact ⟨x, List.mem_cons_of_mem _ hx, hxe⟩
        obtain ⟨x, hx, e⟩ := this q
        exact absurd e (hS x hx)
    have e1 : putAllB (dictD S) (dictD (p :: T)) = putAllB (putB (dictD S) (eD p.1) (kN p.1) (rD p.2)) (dictD T) := by
      unfold putAllB
      show List.foldl _ (match keyT (eD p.1) with | some nk => putB (dictD S) (eD p.1) nk (rD p.2) | none => dictD S) (dictD T) = _
      rw [keyT_e]
    have e2 : Pq.put S p.1 p.2 = S ++ [p] := by
      unfold Pq.put
      rw [g]; rfl
    rw [e1, putB_d, e2, putAll_d T (S ++ [p]) (by rw [List.append_assoc]; exact h), List.append_assoc]
    rfl
theorem terms_of_v {T : List Row} (h : (T.map (·.1)).Nodup) (hl : T.length ≤ 1000) : p_terms_of [.v (polyD T)] = .ok (.v (.tb (dictD T))) [.v (polyD T)] := by
  have e1 := pairs_of T
  have e2 := putAll_d T [] (by simpa using h)
  have e3 : dictPF (bS 0) [some (.v (polyD T))] = .ok (.c (.tb (dictD T))) [some (.v (polyD T))] := by
    show (match (T.map rowD).mapM pairOfD with
      | some ps => if ps.length ≤ sizeLine then R.ok (O.c (.tb (putAllB [] ps))) [some (.v (polyD T))] else .stuck
      | none => .stuck) = _
    rw [e1]
    show (if (dictD T).length ≤ sizeLine then _ else _) = _
    rw [if_pos (line_le (by rw [dictD_len]; omega))]
    have : putAllB [] (dictD T) = dictD T := e2
    rw [this]
  simp [p_terms_of, fs_terms_of, e3]
theorem polyT_nd {n N : Nat} {P : List Row} (h : Tm n N P) : ((polyT P).map (·.1)).Nodup := by
  have := (sortA_perm P).map (fun x : Row => x.1)
  unfold polyT
  rw [List.map_reverse]
  exact (List.reverse_perm _).nodup_iff.mpr (this.nodup_iff.mpr h.nd)
theorem polyT_len (P : List Row) : (polyT P).length = P.length := by unfold polyT; rw [List.length_reverse, (sortA_perm P).length_eq]
theorem terms_tm {n N : Nat} (hN : N ≤ 1000) {P : List Row} (h : Tm n N P) : p_terms_of [.v (plD P)] = .ok (.v (tbD (polyT P))) [.v (plD P)] := terms_of_v (polyT_nd h) (by rw [polyT_len]; have := h.len; omega)
def stO : AStep → D
  | none => .non
  | some (q, Ps) => .tup [.int q, .lst (Ps.map fun P => tbD (polyT P))]
def wordsF (n : Int) (ls vs : List D) (q : Int) (rows : List ARow) : List (Str × D) :=
  [("registers", .int n), ("letters", .tup ls), ("start", .int q), ("begin", .tup vs), ("told", .lst (rows.map fun r => tbD (polyT r.1))), ("steps", .lst (rows.map fun r => .lst (r.2.map stO)))]
abbrev wordsD (n : Int) (ls vs : List D) (q : Int) (rows : List ARow) : D := .ob "Words" (wordsF n ls vs q rows)
section
variable {n q : Int} {ls vs : List D} {rows : List ARow}
@[simp] theorem words_reg : (wordsF n ls vs q rows).lookup ("registers" : Str) = some (.int n) := rfl
@[simp] theorem words_let : (wordsF n ls vs q rows).lookup ("letters" : Str) = some (.tup ls) := rfl
@[simp] theorem words_start : (wordsF n ls vs q rows).lookup ("start" : Str) = some (.int q) := rfl
@[simp] theorem words_begin : (wordsF n ls vs q rows).lookup ("begin" : Str) = some (.tup vs) := rfl
@[simp] theorem words_told : (wordsF n ls vs q rows).lookup ("told" : Str) = some (.lst (rows.map fun r => tbD (polyT r.1))) := rfl
@[simp] theorem words_steps : (wordsF n ls vs q rows).lookup ("steps" : Str) = some (.lst (rows.map fun r => .lst (r.2.map stO))) := rfl
@[simp] theorem words_states : (wordsF n ls vs q rows).lookup ("states" : Str) = none := rfl
@[simp] theorem words_shut : (wordsF n ls vs q rows).lookup ("shut" : Str) = none := rfl
end
theorem words_init {a b c d e f : D} : p_Words__init [.ins "Words" [], .v a, .v b, .v c, .v d, .v e, .v f] = .ok (.v .non) [.ins "Words" [("registers", .val a), ("letters", .val b), ("start", .val c), ("begin", .val d), ("told", .val e), ("steps", .val f)], .v a, .v b, .v c, .v d, .v e, .v f] := by
  rfl
end K25

set_option Elab.async false
set_option linter.all false
set_option maxRecDepth 100000
set_option maxHeartbeats 4000000
namespace K25
open PySem Fx Rt Pq Pg
section
variable {r s : Int × Int} {d d' v v' : Nat}
theorem law_mul_y (h1 : Dy d v r) (h2 : Dy d' v' s) (hd : d + d' + 2 ≤ 9000) (hv : v + v' ≤ 90000000) : p__law_mul [.v (rD r), .v (rD s)] = .ok (.v (rD (mulP r s))) [.v (rD r), .v (rD s)] := by
  have m1 : MulC r.1 s.1 := mulC_sz h1.top h2.top (by omega) (by omega) (by omega)
  have m3 : MulC r.2 s.2 := mulC_sz h1.bot h2.bot (by omega) (by omega) (by omega)
  have e := law_low_v (a := r.1 * s.1) (bot_ne h1.isr h2.isr) (log_of (h1.bot.mul h2.bot) (by omega) (by omega))
  simp [p__law_mul, fs__law_mul, m1, m3, e, mulP]
end
theorem deg_set : ∀ (e : Ex) (j : Nat) (x : Int), deg (e.set j (e.getD j 0 + 1)) ≤ deg e + 1
  | [], _, _ => by rw [List.set_nil]; exact Nat.le_succ _
  | k :: e, 0, x => by
    unfold deg
    rw [List.set_cons_zero, List.map_cons, List.map_cons, List.sum_cons, List.sum_cons, List.getD_cons_zero]
    omega
  | k :: e, j + 1, x => by
    have := deg_set e j x
    unfold deg at *
    rw [List.set_cons_succ, List.map_cons, List.map_cons, List.sum_cons, List.sum_cons, List.getD_cons_succ]
    omega
theorem deg_inc (e : Ex) (j : Nat) : deg (incE e j) ≤ deg e + 1 := deg_set e j 0
theorem deg_ze (n : Nat) : deg (zeE n) = 0 := by
  unfold deg zeE
  rw [List.map_replicate]
  induction n with
  | zero => rfl
  | succ n ih => rw [List.replicate_succ, List.sum_cons, ih]; rfl
theorem exps_deg {n : Nat} {e : Ex} (h : e ∈ exps n) : deg e ≤ 2 := by
  unfold exps at h
  rcases List.mem_append.mp h with h | h
  · rcases List.mem_cons.mp h with h | h
    · rw [h, deg_ze]; exact Nat.zero_le _
    · obtain ⟨j, _, rfl⟩ := List.mem_map.mp h
      have := deg_inc (zeE n) j
      rw [deg_ze] at this; omega
  · obtain ⟨j, _, h⟩ := List.mem_flatMap.mp h
    obtain ⟨k, _, rfl⟩ := List.mem_map.mp h
    have h1 := deg_inc (zeE n) j
    have h2 := deg_inc (incE (zeE n) j) k
    rw [deg_ze] at h1; omega
structure VT (n : Nat) (T : List Row) : Prop where
  nd : (T.map (·.1)).Nodup
  ok : ∀ p ∈ T, Dy 12 60 p.2 ∧ deg p.1 ≤ 2 ∧ p.1.length = n ∧ ∀ k ∈ p.1, 0 ≤ k
  len : T.length ≤ 60
theorem vt_tm {n : Nat} {P : List Row} (h : Tm n 60 P) : VT n P := ⟨h.nd, fun p hp => ⟨(h.ok p hp).2.2.dy (h.ok p hp).1, exps_deg (h.ex p hp), (exps_ok (h.ex p hp)).1, (exps_ok (h.ex p hp)).2⟩, h.len⟩
theorem polyT_mem {P : List Row} {p : Row} : p ∈ polyT P ↔ p ∈ P := by
  unfold polyT
  rw [List.mem_reverse, (sortA_perm P).mem_iff]
theorem polyT_perm (P : List Row) : (polyT P).Perm P := (List.reverse_perm _).trans (sortA_perm P)
theorem deg_at {e : Ex} {i : Nat} {k : Int} (h : e[i]? = some k) : deg (e.take i) + k.toNat ≤ deg e := by
  induction e generalizing i with
  | nil => cases h
  | cons a e ih =>
    cases i with
    | zero =>
      cases h
      unfold deg
      rw [List.take_zero, List.map_nil, List.sum_nil, List.map_cons, List.sum_cons]
      omega
    | succ i =>
      have := ih (i := i) h
      unfold deg at *
      rw [List.take_succ_cons, List.map_cons, List.map_cons, List.sum_cons, List.sum_cons]
      omega
section
variable {B V n : Nat} {xs : List Ra} (hx : ∀ x ∈ xs, Dy B V x) (hl : xs.length = n) (hn : n ≤ 12) (hD : B ≤ 1900) (hV : V ≤ 10000000)
abbrev ptD (xs : List Ra) : D := .tup (xs.map rD)
include hx hl hn hD hV
theorem pt_at {i : Nat} {x : Ra} (h : xs[i]? = some x) : L2.atI (xs.map rD) (i : Int) = some (rD x) := by
  rw [v_atI (n := i) rfl (by rw [List.length_map]; exact (List.getElem?_eq_some_iff.mp h).1), List.getElem?_map, h]; rfl
theorem val_dy {P : List Row} (h : Tm n 60 P) : Dy (12 + 2 * B) (120 + 2 * V) (valP P xs) := by
  have := valP_dy hx (P := P) (G := 2) (d := 12) (v := 60) fun p hp => ⟨((vt_tm h).ok p hp).1, ((vt_tm h).ok p hp).2.1⟩
  exact this.mono (Nat.le_refl _) (by have := h.len; omega)
end
end K25

set_option Elab.async false
set_option linter.all false
set_option maxRecDepth 100000
set_option maxHeartbeats 4000000
namespace K25
open PySem Fx Rt Pq Pg
theorem words_rec {a b c d e f : D} : recOf [("registers", .val a), ("letters", .val b), ("start", .val c), ("begin", .val d), ("told", .val e), ("steps", .val f)] = some ([("registers", a), ("letters", b), ("start", c), ("begin", d), ("told", e), ("steps", f)] : List (Str × D)) := by rfl
theorem words_make {ρ : Fx.Env} {g : FE (List D)} {a b c d e f : D} {ρ' : Fx.Env} (h : g ρ = .ok [a, b, c, d, e, f] ρ') : frzF (makeF "Words" p_Words__init g) ρ = .ok (.ob "Words" [("registers", a), ("letters", b), ("start", c), ("begin", d), ("told", e), ("steps", f)]) ρ' := by
  have hi := words_init (a := a) (b := b) (c := c) (d := d) (e := e) (f := f)
  have e1 : makeF "Words" p_Words__init g ρ = .ok (.ins "Words" [("registers", .val a), ("letters", .val b), ("start", .val c), ("begin", .val d), ("told", .val e), ("steps", .val f)]) ρ' := by
    unfold makeF
    rw [h]
    show (match p_Words__init [.ins "Words" [], .v a, .v b, .v c, .v d, .v e, .v f] with
      | .ok (.c (.val .non)) (o :: _) => R.ok o ρ'
      | _ => .stuck) = _
    rw [hi]
  unfold frzF
  rw [e1]
  show optR ((recOf [("registers", .val a), ("letters", .val b), ("start", .val c), ("begin", .val d), ("told", .val e), ("steps", .val f)]).map (D.ob "Words")) ρ' = _
  rw [words_rec]; rfl
section
variable {o0 o1 o2 o3 o4 o5 o6 o7 o8 o9 : Option O}
theorem opened_step {n s : Nat} (hn : n ≤ 12) {st : AStep} (h : ∀ q Ps, st = some (q, Ps) → q < s ∧ Ps.length = n ∧ ∀ P ∈ Ps, Tm n 60 P) :
    ∃ ρ2, k_opened_1e [o0, o1, o2, o3, o4, o5, o6, o7, o8, some (.v (stS st)), none] = .ok (stO st) ρ2 ∧ restE [o0, o1, o2, o3, o4, o5, o6, o7, o8, o9, none] ρ2 [9] = [o0, o1, o2, o3, o4, o5, o6, o7, o8, o9, none] := by
  cases st with
  | none => exact ⟨[o0, o1, o2, o3, o4, o5, o6, o7, o8, some (.v .non), none], by simp [k_opened_1e, stS, stO], rfl⟩
  | some qp =>
    obtain ⟨q, Ps⟩ := qp
    obtain ⟨hq, hl, hP⟩ := h q Ps rfl
    have hc := comp_of (vs := [10]) (g := nameG 10) (ft := yesF) (fe := k_opened_2e) plD (fun P => tbD (polyT P)) (ρ := [o0, o1, o2, o3, o4, o5, o6, o7, o8, some (.v (.tup [.int q, .tup (Ps.map plD)])), none]) Ps fun P hPm =>
      ⟨[o0, o1, o2, o3, o4, o5, o6, o7, o8, some (.v (.tup [.int q, .tup (Ps.map plD)])), some (.v (plD P))], [o0, o1, o2, o3, o4, o5, o6, o7, o8, some (.v (.tup [.int q, .tup (Ps.map plD)])), some (.v (plD P))], rfl, rfl, by
        have e := terms_tm (by decide) (hP P hPm)
        generalize Ps.map plD = ds at *
        generalize plD P = pp at *
        simp only [tbD] at e ⊢
        generalize dictD (polyT P) = dd at *
        simp [k_opened_2e, e], rfl⟩
    have hsl : (Ps.map plD).length < sizeLine := line_lt (by rw [List.length_map]; omega)
    refine ⟨[o0, o1, o2, o3, o4, o5, o6, o7, o8, some (.v (.tup [.int q, .tup (Ps.map plD)])), none], ?_, rfl⟩
    simp only [stS, stO]
    generalize Ps.map plD = ds at *
    generalize (Ps.map fun P => tbD (polyT P)) = qs at *
    simp [k_opened_1e, hc, hsl, plainVs, line_le]
theorem opened_row {n l s : Nat} (hn : n ≤ 12) (hl : l ≤ 10) {r : ARow} (h : AOk n l s r) {outs : List D} (ho : outs.length ≤ 100) :
    k_opened_0b [o0, o1, o2, o3, o4, o5, o6, some (.c (.lst outs)), some (.v (arS r)), none, none] = .nx [o0, o1, o2, o3, o4, o5, o6, some (.c (.lst (outs ++ [.lst (r.2.map stO)]))), some (.v (arS r)), none, none] := by
  have hc := comp_of (vs := [9]) (g := nameG 9) (ft := yesF) (fe := k_opened_1e) stS stO (ρ := [o0, o1, o2, o3, o4, o5, o6, some (.c (.lst outs)), some (.v (arS r)), none, none]) r.2 fun st hst => by
    obtain ⟨ρ2, e1, e3⟩ := opened_step hn (s := s) (st := st) (fun q Ps e => h.st q Ps (by rw [← e]; exact hst)) (o0 := o0) (o1 := o1) (o2 := o2) (o3 := o3) (o4 := o4) (o5 := o5) (o6 := o6) (o7 := some (.c (.lst outs))) (o8 := some (.v (arS r))) (o9 := none)
    exact ⟨_, ρ2, rfl, rfl, e1, e3⟩
  have hl1 : (r.2.map stS).length < sizeLine := line_lt (by rw [List.length_map, h.len]; omega)
  have hl2 : outs.length < sizeLine := line_lt (by omega)
  simp only [arS] at hc ⊢
  generalize plD r.1 = pp at *
  generalize r.2.map stS = ds at *
  generalize r.2.map stO = qs at *
  simp [k_opened_0b, hc, hl1, hl2, plainVs, line_le]
theorem opened_loop {n l s : Nat} (hn : n ≤ 12) (hl : l ≤ 10) : ∀ (rows : List ARow) (outs : List D) (o8 : Option O), (∀ r ∈ rows, AOk n l s r) → outs.length + rows.length ≤ 100 →
    ∃ o8', forF (nameG 8) k_opened_0b (rows.map arS) [o0, o1, o2, o3, o4, o5, o6, some (.c (.lst outs)), o8, none, none] = .nx [o0, o1, o2, o3, o4, o5, o6, some (.c (.lst (outs ++ rows.map fun r => .lst (r.2.map stO)))), o8', none, none]
  | [], outs, o8, _, _ => ⟨o8, by rw [List.map_nil, List.map_nil, List.append_nil]; rfl⟩
  | r :: rows, outs, o8, hx, hz => by
    rw [List.length_cons] at hz
    have e := opened_row hn hl (hx r List.mem_cons_self) (outs := outs) (by omega) (o0 := o0) (o1 := o1) (o2 := o2) (o3 := o3) (o4 := o4) (o5 := o5) (o6 := o6)
    obtain ⟨q8, h3⟩ := opened_loop hn hl rows (outs ++ [.lst (r.2.map stO)]) (some (.v (arS r))) (fun z hz => hx z (List.mem_cons_of_mem _ hz)) (by rw [List.length_append, List.length_singleton]; omega)
    refine ⟨q8, ?_⟩
    rw [List.map_cons, for_step (ρ1 := [o0, o1, o2, o3, o4, o5, o6, some (.c (.lst outs)), some (.v (arS r)), none, none]) rfl e, h3, List.append_assoc, List.map_cons]
    rfl
end
abbrev machA (n : Int) (ls vs : List D) (q : Int) (rows : List ARow) : D := .tup [.int n, .tup ls, .tup [.int q, .tup vs], .tup (rows.map arS)]
end K25

set_option Elab.async false
set_option linter.all false
namespace Gr
abbrev Fo := List (Option (List Nat))
abbrev Gp := List (List (Option Nat))
def visit (w : List Nat) : Nat → List (Option Nat) → Fo → Fo × List (List Nat × Nat)
  | _, [], f => (f, [])
  | i, none :: r, f => visit w (i + 1) r f
  | i, some t :: r, f => if f[t]? = some none then ((visit w (i + 1) r (f.set t (some (w ++ [i])))).1, (w ++ [i], t) :: (visit w (i + 1) r (f.set t (some (w ++ [i])))).2) else visit w (i + 1) r f
def level (g : Gp) : List (List Nat × Nat) → Fo → Fo × List (List Nat × Nat)
  | [], f => (f, [])
  | (w, q) :: ps, f => ((level g ps (visit w 0 (g.getD q []) f).1).1, (visit w 0 (g.getD q []) f).2 ++ (level g ps (visit w 0 (g.getD q []) f).1).2)
def levels (g : Gp) : Nat → Fo → List (List Nat × Nat) → Fo × List (List Nat × Nat)
  | 0, f, ps => (f, ps)
  | k + 1, f, ps => levels g k (level g ps f).1 (level g ps f).2
theorem levels_succ (g : Gp) : ∀ (k : Nat) (f : Fo) (ps), levels g (k + 1) f ps = ((level g (levels g k f ps).2 (levels g k f ps).1).1, (level g (levels g k f ps).2 (levels g k f ps).1).2)
  | 0, _, _ => rfl
  | k + 1, f, ps => by
    rw [levels, levels_succ g k]
    rfl
theorem visit_len (w : List Nat) : ∀ (r : List (Option Nat)) (i : Nat) (f : Fo), (visit w i r f).1.length = f.length
  | [], _, _ => rfl
  | none :: r, i, f => visit_len w r (i + 1) f
  | some t :: r, i, f => by
    unfold visit
    split
    · exact (visit_len w r (i + 1) _).trans List.length_set
    · exact visit_len w r (i + 1) f
theorem visit_keep (w : List Nat) {q : Nat} {v : List Nat} : ∀ (r : List (Option Nat)) (i : Nat) (f : Fo), f[q]? = some (some v) → (visit w i r f).1[q]? = some (some v)
  | [], _, _, h => h
  | none :: r, i, f, h => visit_keep w r (i + 1) f h
  | some t :: r, i, f, h => by
    unfold visit
    split
    · rename_i ht
      refine visit_keep w r (i + 1) _ ?_
      have ne : t ≠ q := fun e => by rw [e, h] at ht; cases ht
      rw [List.getElem?_set_ne ne]; exact h
    · exact visit_keep w r (i + 1) f h
theorem level_keep (g : Gp) {q : Nat} {v : List Nat} : ∀ (ps) (f : Fo), f[q]? = some (some v) → (level g ps f).1[q]? = some (some v)
  | [], _, h => h
  | (w, p) :: ps, f, h => level_keep g ps _ (visit_keep w _ 0 f h)
theorem visit_new (w : List Nat) : ∀ (r : List (Option Nat)) (i : Nat) (f : Fo), ∀ p ∈ (visit w i r f).2, (visit w i r f).1[p.2]? = some (some p.1)
  | [], _, _, p, h => nomatch h
  | none :: r, i, f, p, h => visit_new w r (i + 1) f p h
  | some t :: r, i, f, p, h => by
    unfold visit at h ⊢
    split
    · rename_i ht
      rw [if_pos ht] at h
      rcases List.mem_cons.mp h with e | h
      · rw [e]
        refine visit_keep w r (i + 1) _ ?_
        have hl : t < f.length := (List.getElem?_eq_some_iff.mp ht).1
        rw [List.getElem?_set_self hl]
      · exact visit_new w r (i + 1) _ p h
    · rename_i ht
      rw [if_neg ht] at h
      exact visit_new w r (i + 1) f p h
theorem level_new (g : Gp) : ∀ (ps) (f : Fo), ∀ p ∈ (level g ps f).2, (level g ps f).1[p.2]? = some (some p.1)
  | [], _, p, h => nomatch h
  | (w, q) :: ps, f, p, h => by
    rcases List.mem_append.mp h with h | h
    · exact level_keep g ps _ (visit_new w _ 0 f p h)
    · exact level_new g ps _ p h
def unf (f : Fo) : Nat := f.countP (·.isNone)
theorem unf_set {x : List Nat} : ∀ {f : Fo} {t : Nat}, f[t]? = some none → unf (f.set t (some x)) + 1 = unf f
  | [], _, h => by cases h
  | a :: f, 0, h => by
    cases h
    simp [unf]
  | a :: f, t + 1, h => by
    have ih := unf_set (x := x) (f := f) (t := t) h
    unfold unf at *
    rw [List.set_cons_succ, List.countP_cons, List.countP_cons]
    omega
theorem visit_unf (w : List Nat) : ∀ (r : List (Option Nat)) (i : Nat) (f : Fo), unf (visit w i r f).1 + (visit w i r f).2.length = unf f
  | [], _, _ => rfl
  | none :: r, i, f => visit_unf w r (i + 1) f
  | some t :: r, i, f => by
    unfold visit
    split
    · rename_i ht
      have h1 := visit_unf w r (i + 1) (f.set t (some (w ++ [i])))
      have h2 := unf_set (x := w ++ [i]) ht
      dsimp only
      rw [List.length_cons]; omega
    · exact visit_unf w r (i + 1) f
theorem level_unf (g : Gp) : ∀ (ps) (f : Fo), unf (level g ps f).1 + (level g ps f).2.length = unf f
  | [], _ => rfl
  | (w, q) :: ps, f => by
    have h1 := visit_unf w (g.getD q []) 0 f
    have h2 := level_unf g ps (visit w 0 (g.getD q []) f).1
    unfold level
    dsimp only
    rw [List.length_append]
    omega
theorem levels_unf (g : Gp) (f : Fo) (ps) : ∀ (k : Nat), (levels g k f ps).2 = [] ∨ unf (levels g k f ps).1 + k ≤ unf f
  | 0 => .inr (Nat.le_refl _)
  | k + 1 => by
    rw [levels_succ]
    rcases levels_unf g f ps k with h | h
    · rw [h]; exact .inl rfl
    · have h2 := level_unf g (levels g k f ps).2 (levels g k f ps).1
      cases hp : (level g (levels g k f ps).2 (levels g k f ps).1).2 with
      | nil => exact .inl rfl
      | cons p r =>
        rw [hp, List.length_cons] at h2
        exact .inr (by show unf (level g (levels g k f ps).2 (levels g k f ps).1).1 + (k + 1) ≤ unf f; omega)
theorem levels_end (g : Gp) {f : Fo} {ps} {k : Nat} (h : unf f < k) : (levels g k f ps).2 = [] := (levels_unf g f ps k).resolve_right (by omega)
def bad (g : Gp) (fb : List Bool) (q : Nat) : Bool := (g.getD q []).any fun st => match st with
  | some t => !(fb.getD t false)
  | none => false
def Closed (g : Gp) (C : Nat → Prop) : Prop := ∀ q, C q → ∀ t, some t ∈ g.getD q [] → C t
abbrev Inb (fb : List Bool) (q : Nat) : Prop := fb.getD q false = true
end Gr

set_option Elab.async false
set_option linter.all false
set_option maxRecDepth 100000
set_option maxHeartbeats 4000000

namespace K36
open PySem Fx Pg
noncomputable section
def fs_need_machine : FS :=
  (seqF (ifSF (notF (testF (frzF (callF [] K25.p_is_word_machine (consA (bS 0) nilA))))) (raiseF "BadMachine") nextF)
  (retF (frzF (callF [] p_opened (consA (bS 0) nilA)))))
def p_need_machine (os : List O) : RF := bodyF [] os (fs_need_machine (startE ["machine"] os))
def fs_first_word : FS :=
  (seqF (setF 2 (frzF (callF [] p_need_machine (consA (bS 0) nilA))))
  (seqF (dropF (frzF (callF [] p_need_state (consA (bS 2) (consA (bS 1) nilA)))))
  (retF (b2F ixD (bD (frzF (callF [] p_first_words (consA (bS 2) nilA)))) (varF 1)))))
def p_first_word (os : List O) : RF := bodyF [] os (fs_first_word (startE ["machine", "state", "words"] os))
end
end K36

set_option Elab.async false
set_option linter.all false
set_option maxRecDepth 100000
set_option maxHeartbeats 4000000
namespace K25
open PySem Fx Rt Pq Pg Gr
abbrev gph (rows : List ARow) : Gp := rows.map fun r => r.2.map fun st : AStep => st.map (·.1)
def wdD (w : List Nat) : D := .tup (w.map fun i : Nat => .int i)
def foD : Option (List Nat) → D
  | none => .non
  | some w => wdD w
abbrev foL (f : Fo) : List D := f.map foD
theorem at_nat {xs : List D} {n : Nat} (h : n < xs.length) : L2.atI xs (n : Int) = xs[n]? := v_atI rfl h
theorem fo_at {f : Fo} {n : Nat} : (foL f)[n]? = (f[n]?).map foD := by rw [List.getElem?_map]
theorem isN_fo {o : Option (List Nat)} : isNoneD false (.val (foD o)) = some (.bl o.isNone) := by cases o <;> rfl
theorem wd_snoc {w : List Nat} {i : Nat} (h : w.length ≤ 1000) : plusD (wdD w) (.tup [.int (i : Int)]) = some (wdD (w ++ [i])) := by
  have : plusD (wdD w) (.tup [.int (i : Int)]) = if (w.map fun i : Nat => D.int i).length + 1 ≤ sizeLine then some (.tup ((w.map fun i : Nat => D.int i) ++ [.int i])) else none := rfl
  rw [this, if_pos (line_le (by rw [List.length_map]; omega))]
  unfold wdD
  rw [List.map_append]; rfl
section
variable {rows : List ARow} {n : Nat} {ls vs : List D} {q0 : Nat}
abbrev WO (n : Nat) (ls vs : List D) (q0 : Nat) (rows : List ARow) : O := .v (wordsD n ls vs q0 rows)
theorem fw_body {f : Fo} {due : List Nat} {q at_ : Nat} {w : List Nat} {i : Nat} {st : AStep} (hq : f[q]? = some (some w)) (hw : w.length ≤ 1000) (ht : ∀ t Ps, st = some (t, Ps) → t < f.length) (hd : due.length ≤ 1000) {o0 : Option O} :
    k_first_words_1b [o0, some (.c (.lst (foL f))), some (.c (.lst (due.map fun d : Nat => .int d))), some (.v (.int at_)), some (.v (.int q)), some (.v (.int i)), some (.v (stO st))] =
      .nx [o0, some (.c (.lst (foL (visit w i [st.map (·.1)] f).1))), some (.c (.lst ((due ++ (visit w i [st.map (·.1)] f).2.map (·.2)).map fun d : Nat => .int d))), some (.v (.int at_)), some (.v (.int q)), some (.v (.int i)), some (.v (stO st))] := by
  cases st with
  | none => simp [k_first_words_1b, stO, visit, isNoneD]
  | some tp =>
    obtain ⟨t, Ps⟩ := tp
    have hl := ht t Ps rfl
    obtain ⟨o, ho⟩ : ∃ o, f[t]? = some o := ⟨_, List.getElem?_eq_getElem hl⟩
    have e1 : L2.atI (foL f) (t : Int) = some (foD o) := by rw [at_nat (by rw [List.length_map]; exact hl), fo_at, ho]; rfl
    have e2 : L2.atI (foL f) (q : Int) = some (wdD w) := by rw [at_nat (by rw [List.length_map]; exact (List.getElem?_eq_some_iff.mp hq).1), fo_at, hq]; rfl
    have e3 := isN_fo (o := o)
    have e4 := wd_snoc (i := i) hw
    have e5 : L2.ixN (foL f).length (t : Int) = some t := ixN_nat (by rw [List.length_map]; exact hl)
    have e6 : (due.map fun d : Nat => D.int d).length < sizeLine := line_lt (by rw [List.length_map]; omega)
    cases o with
    | some v =>
      have ev : visit w i [(some (t, Ps) : AStep).map (·.1)] f = (f, []) := by
        show visit w i [some t] f = _
        unfold visit
        rw [if_neg (by rw [ho]; exact fun e => nomatch e)]; rfl
      rw [ev]
      simp only [stO]
      generalize (Ps.map fun P => tbD (polyT P)) = ps at *
      generalize foL f = fl at *
      generalize wdD w = wl at *
      have e3' : isNoneD false (.val (foD (some v))) = some (.bl false) := e3
      generalize foD (some v) = fv at *
      simp [k_first_words_1b, isNoneD, e1] at e3' ⊢
      simp [e3', -isNoneD]
    | none =>
      have ev : visit w i [(some (t, Ps) : AStep).map (·.1)] f = (f.set t (some (w ++ [i])), [(w ++ [i], t)]) := by
        show visit w i [some t] f = _
        unfold visit
        rw [if_pos ho]; rfl
      rw [ev]
      have e7 : foL (f.set t (some (w ++ [i]))) = (foL f).set t (wdD (w ++ [i])) := by
        unfold foL; rw [List.map_set]; rfl
      rw [e7]
      simp only [stO, List.map_append, List.map_cons, List.map_nil]
      generalize (Ps.map fun P => tbD (polyT P)) = ps at *
      generalize foL f = fl at *
      generalize wdD (w ++ [i]) = wl2 at *
      generalize wdD w = wl at *
      generalize (due.map fun d : Nat => D.int d) = dl at *
      have e1' : L2.atI fl (t : Int) = some .non := e1
      simp [k_first_words_1b, isNoneD, e1', e2, e4, e5, e6, line_le]
theorem visit_cons (w : List Nat) (i : Nat) (x : Option Nat) (r : List (Option Nat)) (f : Fo) : visit w i (x :: r) f = ((visit w (i + 1) r (visit w i [x] f).1).1, (visit w i [x] f).2 ++ (visit w (i + 1) r (visit w i [x] f).1).2) := by
  cases x with
  | none => rfl
  | some t =>
    by_cases h : f[t]? = some none
    · have e : visit w i [some t] f = (f.set t (some (w ++ [i])), [(w ++ [i], t)]) := by unfold visit; rw [if_pos h]; rfl
      rw [e]
      conv => lhs; unfold visit
      rw [if_pos h]; rfl
    · have e : visit w i [some t] f = (f, []) := by unfold visit; rw [if_neg h]; rfl
      rw [e]
      conv => lhs; unfold visit
      rw [if_neg h]; rfl
abbrev dueD (due : List Nat) : List D := due.map fun d : Nat => .int d
theorem fw_inner {q at_ : Nat} {w : List Nat} {o0 : Option O} (hw : w.length ≤ 1000) : ∀ (steps : List AStep) (i : Nat) (f : Fo) (due : List Nat) (o5 o6 : Option O), f[q]? = some (some w) → (∀ t Ps, some (t, Ps) ∈ steps → t < f.length) → due.length + unf f ≤ 1000 →
    ∃ o5' o6', forF (tupG 2 (consG (nameG 5) (consG (nameG 6) nilG))) k_first_words_1b (numbD i (steps.map stO)) [o0, some (.c (.lst (foL f))), some (.c (.lst (dueD due))), some (.v (.int at_)), some (.v (.int q)), o5, o6] =
      .nx [o0, some (.c (.lst (foL (visit w i (steps.map fun st : AStep => st.map (·.1)) f).1))), some (.c (.lst (dueD (due ++ (visit w i (steps.map fun st : AStep => st.map (·.1)) f).2.map (·.2))))), some (.v (.int at_)), some (.v (.int q)), o5', o6']
  | [], i, f, due, o5, o6, _, _, _ => ⟨o5, o6, by simp [numbD, visit]⟩
  | st :: steps, i, f, due, o5, o6, hq, ht, hd => by
    have e := fw_body (q := q) (at_ := at_) (w := w) (i := i) (st := st) (f := f) (due := due) hq hw (fun t Ps e => ht t Ps (by rw [e]; exact List.mem_cons_self)) (by omega) (o0 := o0)
    have hu := visit_unf w [st.map (·.1)] i f
    obtain ⟨o5', o6', h⟩ := fw_inner (at_ := at_) (o0 := o0) hw steps (i + 1) (visit w i [st.map (·.1)] f).1 (due ++ (visit w i [st.map (·.1)] f).2.map (·.2)) (some (.v (.int i))) (some (.v (stO st))) (visit_keep w _ i f hq)
      (fun t Ps hm => by rw [visit_len]; exact ht t Ps (List.mem_cons_of_mem _ hm)) (by rw [List.length_append, List.length_map]; omega)
    refine ⟨o5', o6', ?_⟩
    rw [List.map_cons, List.map_cons, visit_cons, numbD, for_step (ρ1 := [o0, some (.c (.lst (foL f))), some (.c (.lst (dueD due))), some (.v (.int at_)), some (.v (.int q)), some (.v (.int i)), some (.v (stO st))]) rfl e, h]
    simp only [List.map_append, List.append_assoc]
theorem gph_at {r : ARow} {q : Nat} (h : rows[q]? = some r) : (gph rows).getD q [] = r.2.map fun st : AStep => st.map (·.1) := by
  rw [List.getD_eq_getElem?_getD, List.getElem?_map, h]; rfl
structure FwI (rows : List ARow) (f : Fo) (B : Nat) : Prop where
  len : f.length = rows.length
  wl : ∀ (q : Nat) (w : List Nat), f[q]? = some (some w) → w.length + unf f ≤ B
theorem fwi_visit {B : Nat} {q : Nat} {w : List Nat} : ∀ (r : List (Option Nat)) (i : Nat) (f : Fo), FwI rows f B → f[q]? = some (some w) → FwI rows (visit w i r f).1 B
  | [], _, _, h, _ => h
  | none :: r, i, f, h, hq => fwi_visit r (i + 1) f h hq
  | some t :: r, i, f, h, hq => by
    unfold visit
    split
    · rename_i ht
      have hu := unf_set (x := w ++ [i]) ht
      have hl : t < f.length := (List.getElem?_eq_some_iff.mp ht).1
      have ne : t ≠ q := fun e => by rw [e, hq] at ht; cases ht
      refine fwi_visit r (i + 1) _ ⟨by rw [List.length_set]; exact h.len, fun p v hp => ?_⟩ (by rw [List.getElem?_set_ne ne]; exact hq)
      by_cases e : t = p
      · subst e
        rw [List.getElem?_set_self hl] at hp
        cases hp
        have := h.wl q w hq
        rw [List.length_append]
        show w.length + 1 + _ ≤ B
        omega
      · rw [List.getElem?_set_ne e] at hp
        have := h.wl p v hp
        omega
    · exact fwi_visit r (i + 1) f h hq
theorem fw_iter {l : Nat} (hr : ∀ r ∈ rows, AOk n l rows.length r) (hs : rows.length ≤ 100) {f : Fo} (hf : FwI rows f 1000) {pre post : List Nat} {q : Nat} {w : List Nat} (hq : f[q]? = some (some w)) (hd : (pre ++ q :: post).length + unf f ≤ 1000) {o4 o5 o6 : Option O} :
    ∃ o4' o5' o6', whileF k_first_words_0t k_first_words_0b [some (WO n ls vs q0 rows), some (.c (.lst (foL f))), some (.c (.lst (dueD (pre ++ q :: post)))), some (.v (.int (pre.length : Nat))), o4, o5, o6] =
      whileF k_first_words_0t k_first_words_0b [some (WO n ls vs q0 rows), some (.c (.lst (foL (visit w 0 ((gph rows).getD q []) f).1))), some (.c (.lst (dueD (pre ++ q :: post ++ (visit w 0 ((gph rows).getD q []) f).2.map (·.2))))), some (.v (.int ((pre.length + 1 : Nat) : Int))), o4', o5', o6'] := by
  have hql : q < rows.length := by rw [← hf.len]; exact (List.getElem?_eq_some_iff.mp hq).1
  obtain ⟨r, hrq⟩ : ∃ r, rows[q]? = some r := ⟨_, List.getElem?_eq_getElem hql⟩
  have hrm := hr r (List.mem_of_getElem? hrq)
  have hw := hf.wl q w hq
  obtain ⟨o5', o6', h⟩ := fw_inner (q := q) (at_ := pre.length + 1) (w := w) (o0 := some (WO n ls vs q0 rows)) (by omega) r.2 0 f (pre ++ q :: post) o5 o6 hq (fun t Ps hm => by rw [hf.len]; exact (hrm.st t Ps hm).1) hd
  rw [gph_at hrq]
  refine ⟨some (.v (.int q)), o5', o6', ?_⟩
  have hlen : (dueD (pre ++ q :: post)).length = pre.length + (post.length + 1) := by rw [List.length_map, List.length_append, List.length_cons]
  have ht : k_first_words_0t [some (WO n ls vs q0 rows), some (.c (.lst (foL f))), some (.c (.lst (dueD (pre ++ q :: post)))), some (.v (.int (pre.length : Nat))), o4, o5, o6] = .ok true [some (WO n ls vs q0 rows), some (.c (.lst (foL f))), some (.c (.lst (dueD (pre ++ q :: post)))), some (.v (.int (pre.length : Nat))), o4, o5, o6] := by
    generalize dueD (pre ++ q :: post) = dl at *
    generalize foL f = fl at *
    simp [k_first_words_0t]
    omega
  refine while_step ht ?_
  have e1 : L2.atI (dueD (pre ++ q :: post)) (pre.length : Int) = some (.int (q : Nat)) := by
    rw [at_nat (by rw [hlen]; omega), List.getElem?_map, List.getElem?_append_right (Nat.le_refl _)]; simp
  have e2 : L2.atI (rows.map fun r => D.lst (r.2.map stO)) (q : Int) = some (.lst (r.2.map stO)) := by
    rw [at_nat (by rw [List.length_map]; exact hql), List.getElem?_map, hrq]; rfl
  generalize dueD (pre ++ q :: post) = dl at *
  generalize foL f = fl at *
  have ec : ((pre.length : Nat) : Int) + 1 = ((pre.length + 1 : Nat) : Int) := by omega
  generalize foL (visit w 0 (r.2.map fun st : AStep => st.map (·.1)) f).1 = fl2 at *
  generalize dueD (pre ++ q :: post ++ (visit w 0 (r.2.map fun st : AStep => st.map (·.1)) f).2.map (·.2)) = dl2 at *
  generalize r.2.map stO = sl at *
  generalize ((pre.length + 1 : Nat) : Int) = m2 at *
  generalize ((pre.length : Nat) : Int) = m at *
  generalize hN : numbD 0 sl = nl at *
  simp [k_first_words_0b, e1, e2, ec, hN, h]
theorem fwi_level {B : Nat} : ∀ (ps : List (List Nat × Nat)) (f : Fo), FwI rows f B → (∀ p ∈ ps, f[p.2]? = some (some p.1)) → FwI rows (level (gph rows) ps f).1 B
  | [], _, h, _ => h
  | (w, q) :: ps, f, h, hp => by
    have h1 := fwi_visit ((gph rows).getD q []) 0 f h (hp _ List.mem_cons_self)
    exact fwi_level ps _ h1 fun p hm => visit_keep w _ 0 f (hp p (List.mem_cons_of_mem _ hm))
theorem fw_level {l : Nat} (hr : ∀ r ∈ rows, AOk n l rows.length r) (hs : rows.length ≤ 100) : ∀ (ps : List (List Nat × Nat)) (f : Fo) (pre suf : List Nat) (o4 o5 o6 : Option O), FwI rows f 1000 → (∀ p ∈ ps, f[p.2]? = some (some p.1)) → (pre ++ (ps.map (·.2) ++ suf)).length + unf f ≤ 1000 →
    ∃ o4' o5' o6', whileF k_first_words_0t k_first_words_0b [some (WO n ls vs q0 rows), some (.c (.lst (foL f))), some (.c (.lst (dueD (pre ++ (ps.map (·.2) ++ suf))))), some (.v (.int (pre.length : Nat))), o4, o5, o6] =
      whileF k_first_words_0t k_first_words_0b [some (WO n ls vs q0 rows), some (.c (.lst (foL (level (gph rows) ps f).1))), some (.c (.lst (dueD (pre ++ (ps.map (·.2) ++ suf) ++ (level (gph rows) ps f).2.map (·.2))))), some (.v (.int ((pre.length + ps.length : Nat) : Int))), o4', o5', o6']
  | [], f, pre, suf, o4, o5, o6, _, _, _ => ⟨o4, o5, o6, by simp [level]⟩
  | (w, q) :: ps, f, pre, suf, o4, o5, o6, hf, hp, hd => by
    have hq := hp _ List.mem_cons_self
    have hd' : (pre ++ q :: (ps.map (·.2) ++ suf)).length + unf f ≤ 1000 := hd
    obtain ⟨a4, a5, a6, h1⟩ := fw_iter (n := n) (ls := ls) (vs := vs) (q0 := q0) hr hs hf hq hd' (o4 := o4) (o5 := o5) (o6 := o6)
    have hv := visit_unf w ((gph rows).getD q []) 0 f
    obtain ⟨b4, b5, b6, h2⟩ := fw_level hr hs ps (visit w 0 ((gph rows).getD q []) f).1 (pre ++ [q]) (suf ++ (visit w 0 ((gph rows).getD q []) f).2.map (·.2)) a4 a5 a6 (fwi_visit _ 0 f hf hq)
      (fun p hm => visit_keep w _ 0 f (hp p (List.mem_cons_of_mem _ hm))) (by simp only [List.length_append, List.length_cons, List.length_map, List.length_nil] at hd ⊢; omega)
    refine ⟨b4, b5, b6, ?_⟩
    have e1 : pre ++ q :: (ps.map (·.2) ++ suf) ++ (visit w 0 ((gph rows).getD q []) f).2.map (·.2) = pre ++ [q] ++ (ps.map (·.2) ++ (suf ++ (visit w 0 ((gph rows).getD q []) f).2.map (·.2))) := by simp
    have e2 : pre.length + 1 = (pre ++ [q]).length := by simp
    rw [e1, e2] at h1
    refine h1.trans (h2.trans ?_)
    have e3 : pre ++ [q] ++ (ps.map (·.2) ++ (suf ++ (visit w 0 ((gph rows).getD q []) f).2.map (·.2))) ++ (level (gph rows) ps (visit w 0 ((gph rows).getD q []) f).1).2.map (·.2) = pre ++ (((w, q) :: ps).map (·.2) ++ suf) ++ (level (gph rows) ((w, q) :: ps) f).2.map (·.2) := by
      simp [level]
    have e4 : (pre ++ [q]).length + ps.length = pre.length + ((w, q) :: ps).length := by simp; omega
    rw [e3, e4]
    rfl
theorem fw_levels {l : Nat} (hr : ∀ r ∈ rows, AOk n l rows.length r) (hs : rows.length ≤ 100) : ∀ (k : Nat) (ps : List (List Nat × Nat)) (f : Fo) (pre : List Nat) (o4 o5 o6 : Option O), FwI rows f 1000 → (∀ p ∈ ps, f[p.2]? = some (some p.1)) → (pre ++ ps.map (·.2)).length + unf f ≤ 1000 →
    ∃ (pre' : List Nat) (o4' o5' o6' : Option O), whileF k_first_words_0t k_first_words_0b [some (WO n ls vs q0 rows), some (.c (.lst (foL f))), some (.c (.lst (dueD (pre ++ ps.map (·.2))))), some (.v (.int (pre.length : Nat))), o4, o5, o6] =
      whileF k_first_words_0t k_first_words_0b [some (WO n ls vs q0 rows), some (.c (.lst (foL (levels (gph rows) k f ps).1))), some (.c (.lst (dueD (pre' ++ (levels (gph rows) k f ps).2.map (·.2))))), some (.v (.int (pre'.length : Nat))), o4', o5', o6']
  | 0, ps, f, pre, o4, o5, o6, _, _, _ => ⟨pre, o4, o5, o6, rfl⟩
  | k + 1, ps, f, pre, o4, o5, o6, hf, hp, hd => by
    obtain ⟨a4, a5, a6, h1⟩ := fw_level (n := n) (ls := ls) (vs := vs) (q0 := q0) hr hs ps f pre [] o4 o5 o6 hf hp (by rw [List.append_nil]; exact hd)
    rw [List.append_nil] at h1
    have e1 : pre.length + ps.length = (pre ++ ps.map (·.2)).length := by simp
    rw [e1] at h1
    have hv := level_unf (gph rows) ps f
    obtain ⟨pre', b4, b5, b6, h2⟩ := fw_levels hr hs k (level (gph rows) ps f).2 (level (gph rows) ps f).1 (pre ++ ps.map (·.2)) a4 a5 a6 (fwi_level ps f hf hp) (level_new _ ps f) (by rw [List.length_append, List.length_map]; omega)
    exact ⟨pre', b4, b5, b6, h1.trans h2⟩
def fo0 (s q : Nat) : Fo := (List.replicate s none).set q (some [])
theorem unf_rep : ∀ s : Nat, unf (List.replicate s none) = s
  | 0 => rfl
  | s + 1 => by
    have := unf_rep s
    unfold unf at *
    rw [List.replicate_succ, List.countP_cons, this]
    simp
theorem unf_0 {s q : Nat} (h : q < s) : unf (fo0 s q) + 1 = s := by
  have := unf_set (x := []) (f := List.replicate s none) (t := q) (by rw [List.getElem?_replicate, if_pos h])
  rw [unf_rep] at this
  exact this
theorem fo0_at {s q : Nat} (h : q < s) : (fo0 s q)[q]? = some (some []) := by
  unfold fo0; rw [List.getElem?_set_self (by rw [List.length_replicate]; exact h)]
def found (rows : List ARow) (q : Nat) : Fo := (levels (gph rows) rows.length (fo0 rows.length q) [([], q)]).1
theorem repL1 {s : Nat} {d : D} : repL (s : Int) [d] = List.replicate s d := by
  unfold repL
  rw [Int.toNat_natCast]
  induction s with
  | zero => rfl
  | succ s ih => rw [List.replicate_succ, List.flatten_cons, ih, List.replicate_succ]; rfl
theorem fw0 {s q : Nat} : (List.replicate s D.non).set q (.tup []) = foL (fo0 s q) := by
  unfold foL fo0
  rw [List.map_set, List.map_replicate]; rfl
theorem first_words_v {l : Nat} (hr : ∀ r ∈ rows, AOk n l rows.length r) (hs : rows.length ≤ 100) (hq : q0 < rows.length) :
    p_first_words [WO n ls vs q0 rows] = .ok (.v (.lst (foL (found rows q0)))) [WO n ls vs q0 rows] := by
  have hu := unf_0 hq
  have hf : FwI rows (fo0 rows.length q0) 1000 := by
    refine ⟨by unfold fo0; rw [List.length_set, List.length_replicate], fun q w h => ?_⟩
    by_cases e : q0 = q
    · subst e
      rw [fo0_at hq] at h
      cases h
      show 0 + _ ≤ 1000
      omega
    · unfold fo0 at h
      rw [List.getElem?_set_ne e, List.getElem?_replicate] at h
      split at h <;> cases h
  have hp : ∀ p ∈ [(([] : List Nat), q0)], (fo0 rows.length q0)[p.2]? = some (some p.1) := fun p h => by rw [List.mem_singleton.mp h]; exact fo0_at hq
  obtain ⟨pre', o4, o5, o6, h⟩ := fw_levels (n := n) (ls := ls) (vs := vs) (q0 := q0) hr hs rows.length [([], q0)] (fo0 rows.length q0) [] none none none hf hp (by show 1 + _ ≤ 1000; omega)
  rw [levels_end _ (show unf (fo0 rows.length q0) < rows.length by omega)] at h
  have he : whileF k_first_words_0t k_first_words_0b [some (WO n ls vs q0 rows), some (.c (.lst (foL (found rows q0)))), some (.c (.lst (dueD (pre' ++ ([] : List (List Nat × Nat)).map (·.2))))), some (.v (.int (pre'.length : Nat))), o4, o5, o6] =
      .nx [some (WO n ls vs q0 rows), some (.c (.lst (foL (found rows q0)))), some (.c (.lst (dueD (pre' ++ ([] : List (List Nat × Nat)).map (·.2))))), some (.v (.int (pre'.length : Nat))), o4, o5, o6] := by
    refine while_done ?_
    have hl : (dueD (pre' ++ ([] : List (List Nat × Nat)).map (·.2))).length = pre'.length := by simp
    generalize dueD (pre' ++ ([] : List (List Nat × Nat)).map (·.2)) = dl at *
    generalize foL (found rows q0) = fl at *
    simp [k_first_words_0t]
    omega
  have h1 := h.trans he
  have e0 : L2.ixN (List.replicate rows.length D.non).length (q0 : Int) = some q0 := ixN_nat (by rw [List.length_replicate]; exact hq)
  have e1 : repL (rows.length : Int) [D.non] = List.replicate rows.length D.non := repL1
  have e2 := fw0 (s := rows.length) (q := q0)
  have e3 : (rows.map fun r => tbD (polyT r.1)).length = rows.length := List.length_map _
  have l1 : (rows.length : Int) ≤ 1000 := by omega
  have l2 : (-1000 : Int) ≤ rows.length := by omega
  have h1' : whileF k_first_words_0t k_first_words_0b [some (WO n ls vs q0 rows), some (.c (.lst (foL (fo0 rows.length q0)))), some (.c (.lst [.int q0])), some (.v (.int 0)), none, none, none] = _ := h1
  generalize foL (fo0 rows.length q0) = f0 at *
  generalize foL (found rows q0) = fe at *
  generalize dueD (pre' ++ ([] : List (List Nat × Nat)).map (·.2)) = dl at *
  generalize (rows.map fun r => tbD (polyT r.1)) = tl at *
  generalize hrp : List.replicate rows.length D.non = rp at *
  simp [p_first_words, fs_first_words, e0, e1, e2, e3, l1, l2, hrp, h1', line_le]
end
end K25

set_option Elab.async false
set_option linter.all false
set_option maxRecDepth 100000
set_option maxHeartbeats 4000000
namespace K25
open PySem Fx Rt Pq Pg Gr
section
variable {rows : List ARow} {n : Nat} {ls vs : List D} {q0 : Nat}
structure DeadOk (g : Gp) (s : Nat) (fb0 fb : List Bool) : Prop where
  len : fb.length = s
  sub : ∀ r, Inb fb r → Inb fb0 r
  cl : ∀ q < s, Inb fb q → bad g fb q = false
  gr : ∀ C : Nat → Prop, Closed g C → (∀ q, C q → Inb fb0 q) → ∀ q, C q → Inb fb q
end
end K25

set_option Elab.async false
set_option linter.all false
set_option maxRecDepth 100000
set_option maxHeartbeats 4000000
namespace K25
open PySem Fx Rt Pq Pg Gr
section
variable {rows : List ARow} {n : Nat} {ls vs : List D} {q0 : Nat}
end
end K25

set_option Elab.async false
set_option linter.all false
set_option maxRecDepth 100000
set_option maxHeartbeats 4000000
namespace K25
open PySem Fx Rt Pq Pg Gr
section
variable {rows : List ARow} {n : Nat} {ls vs : List D} {q0 : Nat}
end
end K25

set_option Elab.async false
set_option linter.all false
set_option maxRecDepth 100000
set_option maxHeartbeats 4000000
namespace K25
open PySem Fx Rt Pq Pg
inductive SmD : Nat → D → Prop
  | int {k : Nat} (i : Int) : SmD k (.int i)
  | non {k : Nat} : SmD k .non
  | bl {k : Nat} (b : Bool) : SmD k (.bl b)
  | str {k : Nat} {z : Str} (h : PyData.strOk z = true) : SmD k (.str z)
  | tup {k : Nat} {xs : List D} (h : xs.length ≤ 100000) (g : ∀ x ∈ xs, SmD k x) : SmD (k + 1) (.tup xs)
theorem SmD.mono {k : Nat} {d : D} (h : SmD k d) : SmD (k + 1) d := by
  induction h with
  | int i => exact .int i
  | non => exact .non
  | bl b => exact .bl b
  | str h => exact .str h
  | tup h _ ih => exact .tup h ih
theorem v_eqBB {n a b : Bool} : eqD n (.bl a) (.bl b) = some (.bl (if n then !(a == b) else a == b)) := by
  cases a <;> cases b <;> (rw [v_eq (by rfl) (by rfl)]; cases n <;> rfl)
end K25

set_option Elab.async false
set_option linter.all false
set_option maxRecDepth 100000
set_option maxHeartbeats 4000000
namespace K36
open PySem Fx Rt Pq Pg K25 Gr
theorem rowS_a {n l s : Nat} (hn : n ≤ 12) {r : ARow} (h : AOk n l s r) : RowS n l s (arS r) := by
  refine ⟨plD r.1, r.2.map stS, rfl, poly_of_tm hn (by decide) h.told, by rw [List.length_map]; exact h.len, fun x hx => ?_⟩
  obtain ⟨st, hst, rfl⟩ := List.mem_map.mp hx
  cases st with
  | none => exact .inl rfl
  | some tp =>
    obtain ⟨t, Ps⟩ := tp
    obtain ⟨h1, h2, h3⟩ := h.st t Ps hst
    refine .inr ⟨t, Ps.map plD, rfl, h1, by rw [List.length_map]; exact h2, fun Q hQ => ?_⟩
    obtain ⟨P, hP, rfl⟩ := List.mem_map.mp hQ
    exact poly_of_tm hn (by decide) (h3 P hP)
structure AM (n l : Nat) (W : List (List Nat)) (q : Nat) (vs : List D) (rows : List ARow) : Prop where
  hn : n ∈ [1, 2, 3, 12]
  l1 : 1 ≤ l
  l3 : l ≤ 3
  s1 : 1 ≤ rows.length
  s10 : rows.length ≤ 10
  lets : LetK l W
  q : q < rows.length
  vl : vs.length = n
  vr : ∀ v ∈ vs, RatV v
  ok : ∀ r ∈ rows, AOk n l rows.length r
section
variable {n l : Nat} {W : List (List Nat)} {q : Nat} {vs : List D} {rows : List ARow} (M : AM n l W q vs rows)
abbrev mcD (n : Nat) (W : List (List Nat)) (q : Nat) (vs : List D) (rows : List ARow) : D := machA n (W.map SD) vs q rows
abbrev wkD (n : Nat) (W : List (List Nat)) (q : Nat) (vs : List D) (rows : List ARow) : O := WO n (W.map SD) vs q rows
include M
theorem AM.mach : Mach n l rows.length W q vs (rows.map arS) where
  hn := M.hn
  l1 := M.l1
  l3 := M.l3
  s1 := M.s1
  s4 := M.s10
  lets := M.lets
  q := M.q
  vl := M.vl
  vr := M.vr
  sl := List.length_map _
  sr := fun y hy => by
    obtain ⟨r, hr, rfl⟩ := List.mem_map.mp hy
    exact rowS_a (n_le M.hn).2 (M.ok r hr)
theorem AM.good : machB (mcD n W q vs rows) = true := M.mach.good
theorem AM.gd : Gd (mcD n W q vs rows) := M.mach.gd
theorem AM.n12 : n ≤ 12 := (n_le M.hn).2
omit M
theorem need_machine_no {d : D} (g : Gd d) (h : machB d = false) : p_need_machine [.v d] = .ex ⟨"BadMachine", []⟩ [.v d] := by
  have e1 := is_word_machine_v g
  rw [h] at e1
  simp [p_need_machine, fs_need_machine, e1]
include M
theorem first_words_m : p_first_words [wkD n W q vs rows] = .ok (.v (.lst (foL (found rows q)))) [wkD n W q vs rows] := first_words_v M.ok (by have := M.s10; omega) M.q
omit M
theorem first_word_bad {d x : D} (g : Gd d) (h : machB d = false) : p_first_word [.v d, .v x] = .ex ⟨"BadMachine", []⟩ [.v d, .v x] := by
  have e1 := need_machine_no g h
  simp [p_first_word, fs_first_word, e1]
end
end K36

set_option Elab.async false
set_option linter.all false
set_option maxRecDepth 100000
set_option maxHeartbeats 4000000
namespace K25
open PySem Fx Rt Pq Pg Gr
abbrev At := Option (Nat × List Ra)
def atD : At → D
  | none => .non
  | some (q, xs) => .tup [.int q, ptD xs]
def stepA (rows : List ARow) (at_ : At) (a : Nat) : At := match at_ with
  | none => none
  | some (q, xs) => match (rows[q]?.bind fun r => r.2[a]?) with
    | some (some (t, Ps)) => some (t, Ps.map fun P => valP P xs)
    | _ => none
def tellA (rows : List ARow) (at_ : At) : Ra := match at_ with
  | none => (0, 1)
  | some (q, xs) => match rows[q]? with
    | some r => valP r.1 xs
    | none => (0, 1)
def bB : Nat → Nat
  | 0 => 12
  | k + 1 => 12 + 2 * bB k
def bV : Nat → Nat
  | 0 => 10
  | k + 1 => 120 + 2 * bV k
theorem b_le : ∀ k ≤ 6, bB k ≤ 1900 ∧ bV k ≤ 10000000 := by decide
structure AtOk (n s k : Nat) (at_ : At) : Prop where
  ok : ∀ q xs, at_ = some (q, xs) → q < s ∧ xs.length = n ∧ ∀ x ∈ xs, Dy (bB k) (bV k) x
section
variable {rows : List ARow} {n l : Nat} {ls vs : List D} {q0 : Nat} (hn : n ≤ 12) (hr : ∀ r ∈ rows, AOk n l rows.length r) (hll : l ≤ 10)
include hn hr hll
theorem step_ok {k : Nat} (hk : k ≤ 6) {at_ : At} (h : AtOk n rows.length k at_) (a : Nat) : AtOk n rows.length (k + 1) (stepA rows at_ a) := by
  refine ⟨fun q xs e => ?_⟩
  cases at_ with
  | none => cases e
  | some p =>
    obtain ⟨p, ys⟩ := p
    obtain ⟨h1, h2, h3⟩ := h.ok p ys rfl
    unfold stepA at e
    simp only [] at e
    split at e
    · rename_i t Ps he
      cases e
      obtain ⟨r, hrp, hra⟩ := Option.bind_eq_some_iff.mp he
      obtain ⟨i1, i2, i3⟩ := (hr r (List.mem_of_getElem? hrp)).st q Ps (List.mem_of_getElem? hra)
      refine ⟨i1, by rw [List.length_map, i2], fun x hx => ?_⟩
      obtain ⟨P, hP, rfl⟩ := List.mem_map.mp hx
      exact val_dy h3 h2 hn (b_le k hk).1 (b_le k hk).2 (i3 P hP)
    · cases e
def runA (rows : List ARow) (at_ : At) (w : List Nat) : At := w.foldl (stepA rows) at_
omit hn hr hll in
theorem runA_none (w : List Nat) : runA rows none w = none := by
  induction w with
  | nil => rfl
  | cons a w ih => exact ih
theorem run_ok : ∀ (w : List Nat) {k : Nat} {at_ : At}, k + w.length ≤ 6 → AtOk n rows.length k at_ → AtOk n rows.length (k + w.length) (runA rows at_ w)
  | [], _, _, _, h => h
  | a :: w, k, at_, hk, h => by
    rw [List.length_cons] at hk ⊢
    rw [show k + (w.length + 1) = k + 1 + w.length by omega]
    exact run_ok w (by omega) (step_ok hn hr hll (by omega) h a)
end
end K25

set_option Elab.async false
set_option linter.all false
set_option maxRecDepth 100000
set_option maxHeartbeats 4000000
namespace WG
open PySem Fx Rt Pq Pg K25 Gr
structure AGk (TK : List Row → Prop) (n l s : Nat) (r : ARow) : Prop where
  told : TK r.1
  len : r.2.length = l
  st : ∀ q Ps, some (q, Ps) ∈ r.2 → q < s ∧ Ps.length = n ∧ ∀ P ∈ Ps, TK P
structure AtG (XK : Nat → Ra → Prop) (n s k : Nat) (at_ : At) : Prop where
  ok : ∀ q xs, at_ = some (q, xs) → q < s ∧ xs.length = n ∧ ∀ x ∈ xs, XK k x
section
variable {TK : List Row → Prop} (hT : ∀ P, TK P → ((polyT P).map (·.1)).Nodup ∧ (polyT P).length ≤ 1000)
section
include hT
theorem terms_p {P : List Row} (h : TK P) : p_terms_of [.v (plD P)] = .ok (.v (tbD (polyT P))) [.v (plD P)] := terms_of_v (hT P h).1 (hT P h).2
variable {o0 o1 o2 o3 o4 o5 o6 o7 o8 o9 : Option O}
theorem opened_step {n s : Nat} (hn : n ≤ 12) {st : AStep} (h : ∀ q Ps, st = some (q, Ps) → q < s ∧ Ps.length = n ∧ ∀ P ∈ Ps, TK P) :
    ∃ ρ2, k_opened_1e [o0, o1, o2, o3, o4, o5, o6, o7, o8, some (.v (stS st)), none] = .ok (stO st) ρ2 ∧ restE [o0, o1, o2, o3, o4, o5, o6, o7, o8, o9, none] ρ2 [9] = [o0, o1, o2, o3, o4, o5, o6, o7, o8, o9, none] := by
  cases st with
  | none => exact ⟨[o0, o1, o2, o3, o4, o5, o6, o7, o8, some (.v .non), none], by simp [k_opened_1e, stS, stO], rfl⟩
  | some qp =>
    obtain ⟨q, Ps⟩ := qp
    obtain ⟨hq, hl, hP⟩ := h q Ps rfl
    have hc := comp_of (vs := [10]) (g := nameG 10) (ft := yesF) (fe := k_opened_2e) plD (fun P => tbD (polyT P)) (ρ := [o0, o1, o2, o3, o4, o5, o6, o7, o8, some (.v (.tup [.int q, .tup (Ps.map plD)])), none]) Ps fun P hPm =>
      ⟨[o0, o1, o2, o3, o4, o5, o6, o7, o8, some (.v (.tup [.int q, .tup (Ps.map plD)])), some (.v (plD P))], [o0, o1, o2, o3, o4, o5, o6, o7, o8, some (.v (.tup [.int q, .tup (Ps.map plD)])), some (.v (plD P))], rfl, rfl, by
        have e := terms_p hT (hP P hPm)
        generalize Ps.map plD = ds at *
        generalize plD P = pp at *
        simp only [tbD] at e ⊢
        generalize dictD (polyT P) = dd at *
        simp [k_opened_2e, e], rfl⟩
    have hsl : (Ps.map plD).length < sizeLine := line_lt (by rw [List.length_map]; omega)
    refine ⟨[o0, o1, o2, o3, o4, o5, o6, o7, o8, some (.v (.tup [.int q, .tup (Ps.map plD)])), none], ?_, rfl⟩
    simp only [stS, stO]
    generalize Ps.map plD = ds at *
    generalize (Ps.map fun P => tbD (polyT P)) = qs at *
    simp [k_opened_1e, hc, hsl, plainVs, line_le]
theorem opened_row {n l s : Nat} (hn : n ≤ 12) (hl : l ≤ 10) {r : ARow} (h : AGk TK n l s r) {outs : List D} (ho : outs.length ≤ 100) :
    k_opened_0b [o0, o1, o2, o3, o4, o5, o6, some (.c (.lst outs)), some (.v (arS r)), none, none] = .nx [o0, o1, o2, o3, o4, o5, o6, some (.c (.lst (outs ++ [.lst (r.2.map stO)]))), some (.v (arS r)), none, none] := by
  have hc := comp_of (vs := [9]) (g := nameG 9) (ft := yesF) (fe := k_opened_1e) stS stO (ρ := [o0, o1, o2, o3, o4, o5, o6, some (.c (.lst outs)), some (.v (arS r)), none, none]) r.2 fun st hst => by
    obtain ⟨ρ2, e1, e3⟩ := opened_step hT hn (s := s) (st := st) (fun q Ps e => h.st q Ps (by rw [← e]; exact hst)) (o0 := o0) (o1 := o1) (o2 := o2) (o3 := o3) (o4 := o4) (o5 := o5) (o6 := o6) (o7 := some (.c (.lst outs))) (o8 := some (.v (arS r))) (o9 := none)
    exact ⟨_, ρ2, rfl, rfl, e1, e3⟩
  have hl1 : (r.2.map stS).length < sizeLine := line_lt (by rw [List.length_map, h.len]; omega)
  have hl2 : outs.length < sizeLine := line_lt (by omega)
  simp only [arS] at hc ⊢
  generalize plD r.1 = pp at *
  generalize r.2.map stS = ds at *
  generalize r.2.map stO = qs at *
  simp [k_opened_0b, hc, hl1, hl2, plainVs, line_le]
theorem opened_loop {n l s : Nat} (hn : n ≤ 12) (hl : l ≤ 10) : ∀ (rows : List ARow) (outs : List D) (o8 : Option O), (∀ r ∈ rows, AGk TK n l s r) → outs.length + rows.length ≤ 100 →
    ∃ o8', forF (nameG 8) k_opened_0b (rows.map arS) [o0, o1, o2, o3, o4, o5, o6, some (.c (.lst outs)), o8, none, none] = .nx [o0, o1, o2, o3, o4, o5, o6, some (.c (.lst (outs ++ rows.map fun r => .lst (r.2.map stO)))), o8', none, none]
  | [], outs, o8, _, _ => ⟨o8, by rw [List.map_nil, List.map_nil, List.append_nil]; rfl⟩
  | r :: rows, outs, o8, hx, hz => by
    rw [List.length_cons] at hz
    have e := opened_row hT hn hl (hx r List.mem_cons_self) (outs := outs) (by omega) (o0 := o0) (o1 := o1) (o2 := o2) (o3 := o3) (o4 := o4) (o5 := o5) (o6 := o6)
    obtain ⟨q8, h3⟩ := opened_loop hn hl rows (outs ++ [.lst (r.2.map stO)]) (some (.v (arS r))) (fun z hz => hx z (List.mem_cons_of_mem _ hz)) (by rw [List.length_append, List.length_singleton]; omega)
    refine ⟨q8, ?_⟩
    rw [List.map_cons, for_step (ρ1 := [o0, o1, o2, o3, o4, o5, o6, some (.c (.lst outs)), some (.v (arS r)), none, none]) rfl e, h3, List.append_assoc, List.map_cons]
    rfl
theorem opened_v {n l s : Nat} (hn : n ≤ 12) (hl : l ≤ 10) {ls vs : List D} {q : Int} {rows : List ARow} (hr : ∀ r ∈ rows, AGk TK n l s r) (hrl : rows.length ≤ 100) :
    p_opened [.v (machA n ls vs q rows)] = .ok (.v (wordsD n ls vs q rows)) [.v (machA n ls vs q rows)] := by
  have hc := comp_of (vs := [8]) (g := nameG 8) (ft := yesF) (fe := k_opened_3e) arS (fun r => tbD (polyT r.1)) (ρ := [some (.v (machA n ls vs q rows)), some (.v (.int n)), some (.v (.tup ls)), some (.v (.int q)), some (.v (.tup vs)), some (.v (.tup (rows.map arS))), none, none, none, none, none]) rows fun r hrm =>
    ⟨[some (.v (machA n ls vs q rows)), some (.v (.int n)), some (.v (.tup ls)), some (.v (.int q)), some (.v (.tup vs)), some (.v (.tup (rows.map arS))), none, none, some (.v (arS r)), none, none], [some (.v (machA n ls vs q rows)), some (.v (.int n)), some (.v (.tup ls)), some (.v (.int q)), some (.v (.tup vs)), some (.v (.tup (rows.map arS))), none, none, some (.v (arS r)), none, none], rfl, rfl, by
      have e := terms_p hT (hr r hrm).told
      generalize rows.map arS = ds at *
      simp only [arS, tbD] at e ⊢
      generalize plD r.1 = pp at *
      generalize dictD (polyT r.1) = dd at *
      generalize r.2.map stS = qs at *
      simp [k_opened_3e, e], rfl⟩
  obtain ⟨o8, h3⟩ := opened_loop hT hn hl (o0 := some (.v (machA n ls vs q rows))) (o1 := some (.v (.int n))) (o2 := some (.v (.tup ls))) (o3 := some (.v (.int q))) (o4 := some (.v (.tup vs))) (o5 := some (.v (.tup (rows.map arS)))) (o6 := some (.c (.lst (rows.map fun r => tbD (polyT r.1))))) rows [] none hr (by simp; omega)
  rw [List.nil_append] at h3
  have hl1 : (rows.map arS).length < sizeLine := line_lt (by rw [List.length_map]; omega)
  simp only [wordsD, wordsF, machA] at *
  generalize rows.map arS = ds at *
  generalize (rows.map fun r => tbD (polyT r.1)) = ts at *
  generalize (rows.map fun r => D.lst (r.2.map stO)) = ss at *
  have hm := words_make (ρ := [some (.v (.tup [.int n, .tup ls, .tup [.int q, .tup vs], .tup ds])), some (.v (.int n)), some (.v (.tup ls)), some (.v (.int q)), some (.v (.tup vs)), some (.v (.tup ds)), some (.c (.lst ts)), some (.c (.lst ss)), o8, none, none]) (g := (consF (varF 1) (consF (varF 2) (consF (varF 3) (consF (varF 4) (consF (varFzF 6) (consF (varFzF 7) nilF))))))) rfl
  simp [-e_frz, p_opened, fs_opened, hc, h3, hl1, hm, plainVs, line_le]
end
section
variable {rows : List ARow} {n l K : Nat} {XK : Nat → Ra → Prop} {ls vs : List D} {q0 : Nat} (hV : ∀ k ≤ K, ∀ (P : List Row) (xs : List Ra), TK P → xs.length = n → (∀ x ∈ xs, XK k x) → p_value_at [.v (tbD (polyT P)), .v (ptD xs)] = .ok (.v (rD (valP P xs))) [.v (tbD (polyT P)), .v (ptD xs)] ∧ XK (k + 1) (valP P xs)) (hn : n ≤ 12) (hr : ∀ r ∈ rows, AGk TK n l rows.length r) (hll : l ≤ 10)
include hV hn hr hll
theorem step_ok {k : Nat} (hk : k ≤ K) {at_ : At} (h : AtG XK n rows.length k at_) (a : Nat) : AtG XK n rows.length (k + 1) (stepA rows at_ a) := by
  refine ⟨fun q xs e => ?_⟩
  cases at_ with
  | none => cases e
  | some p =>
    obtain ⟨p, ys⟩ := p
    obtain ⟨h1, h2, h3⟩ := h.ok p ys rfl
    unfold stepA at e
    simp only [] at e
    split at e
    · rename_i t Ps he
      cases e
      obtain ⟨r, hrp, hra⟩ := Option.bind_eq_some_iff.mp he
      obtain ⟨i1, i2, i3⟩ := (hr r (List.mem_of_getElem? hrp)).st q Ps (List.mem_of_getElem? hra)
      refine ⟨i1, by rw [List.length_map, i2], fun x hx => ?_⟩
      obtain ⟨P, hP, rfl⟩ := List.mem_map.mp hx
      exact (hV k hk P ys (i3 P hP) h2 h3).2
    · cases e
theorem row_at {q : Nat} (h : q < rows.length) : ∃ r, rows[q]? = some r ∧ AGk TK n l rows.length r := ⟨_, List.getElem?_eq_getElem h, hr _ (List.getElem_mem h)⟩
theorem step_of_v {k : Nat} (hk : k ≤ K) {q : Nat} {xs : List Ra} (h : AtG XK n rows.length k (some (q, xs))) {a : Nat} (ha : a < l) :
    p_step_of [WO n ls vs q0 rows, .v (atD (some (q, xs))), .v (.int a)] = .ok (.v (atD (stepA rows (some (q, xs)) a))) [WO n ls vs q0 rows, .v (atD (some (q, xs))), .v (.int a)] := by
  obtain ⟨h1, h2, h3⟩ := h.ok q xs rfl
  obtain ⟨r, hrq, ho⟩ := row_at hV hn hr hll h1
  obtain ⟨st, hst⟩ : ∃ st, r.2[a]? = some st := ⟨_, List.getElem?_eq_getElem (by rw [ho.len]; exact ha)⟩
  have e2 : L2.atI (rows.map fun r => D.lst (r.2.map stO)) (q : Int) = some (.lst (r.2.map stO)) := by
    rw [at_nat (by rw [List.length_map]; exact h1), List.getElem?_map, hrq]; rfl
  have e3 : L2.atI (r.2.map stO) (a : Int) = some (stO st) := by
    rw [at_nat (by rw [List.length_map, ho.len]; exact ha), List.getElem?_map, hst]; rfl
  have es : stepA rows (some (q, xs)) a = match (some st : Option AStep) with
      | some (some (t, Ps)) => some (t, Ps.map fun P => valP P xs)
      | _ => none := by
    unfold stepA
    simp only [hrq, Option.bind_some, hst]
    all_goals (cases st <;> rfl)
  rw [es]
  cases st with
  | none =>
    simp only [atD, ptD]
    have e3' : L2.atI (r.2.map stO) (a : Int) = some .non := e3
    generalize xs.map rD = pt at *
    generalize r.2.map stO = sl at *
    simp [p_step_of, fs_step_of, e2, e3', isNoneD]
  | some tp =>
    obtain ⟨t, Ps⟩ := tp
    obtain ⟨i1, i2, i3⟩ := ho.st t Ps (List.mem_of_getElem? hst)
    have e3' : L2.atI (r.2.map stO) (a : Int) = some (.tup [.int t, .lst (Ps.map fun P => tbD (polyT P))]) := e3
    have hc := comp_of (vs := [6]) (g := nameG 6) (ft := yesF) (fe := k_step_of_0e) (fun P => tbD (polyT P)) (fun P => rD (valP P xs)) (ρ := [some (WO n ls vs q0 rows), some (.v (.tup [.int q, ptD xs])), some (.v (.int a)), some (.v (.int q)), some (.v (ptD xs)), some (.v (.tup [.int t, .lst (Ps.map fun P => tbD (polyT P))])), none]) Ps fun P hP =>
      ⟨[some (WO n ls vs q0 rows), some (.v (.tup [.int q, ptD xs])), some (.v (.int a)), some (.v (.int q)), some (.v (ptD xs)), some (.v (.tup [.int t, .lst (Ps.map fun P => tbD (polyT P))])), some (.v (tbD (polyT P)))], [some (WO n ls vs q0 rows), some (.v (.tup [.int q, ptD xs])), some (.v (.int a)), some (.v (.int q)), some (.v (ptD xs)), some (.v (.tup [.int t, .lst (Ps.map fun P => tbD (polyT P))])), some (.v (tbD (polyT P)))], rfl, rfl, by
        have e := (hV k hk P xs (i3 P hP) h2 h3).1
        generalize (Ps.map fun P => tbD (polyT P)) = ps at *
        simp only [tbD, ptD, rD] at e ⊢
        generalize dictD (polyT P) = dd at *
        generalize xs.map rD = pt at *
        generalize valP P xs = w at *
        simp [k_step_of_0e, e], rfl⟩
    have hsl : (Ps.map fun P => tbD (polyT P)).length < sizeLine := line_lt (by rw [List.length_map]; omega)
    have em : (Ps.map fun P => valP P xs).map rD = Ps.map fun P => rD (valP P xs) := by rw [List.map_map]; rfl
    simp only [atD, ptD, em] at hc ⊢
    generalize (Ps.map fun P => tbD (polyT P)) = ps at *
    generalize (Ps.map fun P => rD (valP P xs)) = qs at *
    generalize xs.map rD = pt at *
    generalize r.2.map stO = sl at *
    simp [p_step_of, fs_step_of, e2, e3', isNoneD, hc, hsl, plainVs, line_le]
theorem told_of_v {k : Nat} (hk : k ≤ K) {at_ : At} (h : AtG XK n rows.length k at_) : p_told_of [WO n ls vs q0 rows, .v (atD at_)] = .ok (.v (rD (tellA rows at_))) [WO n ls vs q0 rows, .v (atD at_)] := by
  cases at_ with
  | none =>
    have c0 : c_ZERO = rD (0, 1) := rfl
    simp [p_told_of, fs_told_of, atD, tellA, isNoneD, c0]
  | some p =>
    obtain ⟨q, xs⟩ := p
    obtain ⟨h1, h2, h3⟩ := h.ok q xs rfl
    obtain ⟨r, hrq, ho⟩ := row_at hV hn hr hll h1
    have e := (hV k hk r.1 xs ho.told h2 h3).1
    have e2 : L2.atI (rows.map fun r => tbD (polyT r.1)) (q : Int) = some (tbD (polyT r.1)) := by
      rw [at_nat (by rw [List.length_map]; exact h1), List.getElem?_map, hrq]; rfl
    have et : tellA rows (some (q, xs)) = valP r.1 xs := by unfold tellA; simp only [hrq]
    rw [et]
    simp only [tbD, ptD, rD, atD] at e e2 ⊢
    generalize dictD (polyT r.1) = dd at *
    generalize xs.map rD = pt at *
    generalize valP r.1 xs = w at *
    simp [p_told_of, fs_told_of, isNoneD, e, e2]
theorem run_ok : ∀ (w : List Nat) {k : Nat} {at_ : At}, k + w.length ≤ K → AtG XK n rows.length k at_ → AtG XK n rows.length (k + w.length) (runA rows at_ w)
  | [], _, _, _, h => h
  | a :: w, k, at_, hk, h => by
    rw [List.length_cons] at hk ⊢
    rw [show k + (w.length + 1) = k + 1 + w.length by omega]
    exact run_ok w (by omega) (step_ok hV hn hr hll (by omega) h a)
theorem run_of_v {w : List Nat} (hw : w.length ≤ K) (ha : ∀ a ∈ w, a < l) {xs : List Ra} (hv : vs = xs.map rD) (h : AtG XK n rows.length 0 (some (q0, xs))) :
    p_run_of [WO n ls vs q0 rows, .v (wdD w)] = .ok (.v (atD (runA rows (some (q0, xs)) w))) [WO n ls vs q0 rows, .v (wdD w)] := by
  have key : ∀ (w : List Nat) (k : Nat) (q : Nat) (xs : List Ra) (o1 o3 : Option O), k + w.length ≤ K → (∀ a ∈ w, a < l) → AtG XK n rows.length k (some (q, xs)) →
      (runA rows (some (q, xs)) w = none → ∃ o3', forF (nameG 3) k_run_of_0b (w.map fun i : Nat => .int i) [some (WO n ls vs q0 rows), o1, some (.v (atD (some (q, xs)))), o3] = .ret (.v .non) [some (WO n ls vs q0 rows), o1, some (.v .non), o3']) ∧
      (runA rows (some (q, xs)) w ≠ none → ∃ o3', forF (nameG 3) k_run_of_0b (w.map fun i : Nat => .int i) [some (WO n ls vs q0 rows), o1, some (.v (atD (some (q, xs)))), o3] = .nx [some (WO n ls vs q0 rows), o1, some (.v (atD (runA rows (some (q, xs)) w))), o3']) := by
    intro w
    induction w with
    | nil => exact fun k q xs o1 o3 _ _ _ => ⟨(fun e => by cases e), fun _ => ⟨o3, rfl⟩⟩
    | cons a w ih =>
      intro k q xs o1 o3 hk ha h
      rw [List.length_cons] at hk
      have e := step_of_v (ls := ls) (vs := vs) (q0 := q0) hV hn hr hll (show k ≤ K by omega) h (ha a List.mem_cons_self)
      have hs := step_ok hV hn hr hll (show k ≤ K by omega) h a
      show (runA rows (stepA rows (some (q, xs)) a) w = none → _) ∧ (runA rows (stepA rows (some (q, xs)) a) w ≠ none → _)
      cases hst : stepA rows (some (q, xs)) a with
      | none =>
        rw [hst] at e
        rw [runA_none]
        refine ⟨fun _ => ⟨some (.v (.int a)), ?_⟩, fun e => absurd rfl e⟩
        rw [List.map_cons, for_ret (ρ1 := [some (WO n ls vs q0 rows), o1, some (.v (atD (some (q, xs)))), some (.v (.int a))]) (ρ2 := [some (WO n ls vs q0 rows), o1, some (.v .non), some (.v (.int a))]) (o := .v .non) rfl ?_]
        have e' : p_step_of [WO n ls vs q0 rows, .v (atD (some (q, xs))), .v (.int a)] = .ok (.v .non) [WO n ls vs q0 rows, .v (atD (some (q, xs))), .v (.int a)] := e
        generalize atD (some (q, xs)) = d1 at *
        simp [k_run_of_0b, e', isNoneD]
      | some p =>
        obtain ⟨q2, ys⟩ := p
        rw [hst] at e hs
        have hb : k_run_of_0b [some (WO n ls vs q0 rows), o1, some (.v (atD (some (q, xs)))), some (.v (.int a))] = .nx [some (WO n ls vs q0 rows), o1, some (.v (atD (some (q2, ys)))), some (.v (.int a))] := by
          have e' : p_step_of [WO n ls vs q0 rows, .v (atD (some (q, xs))), .v (.int a)] = .ok (.v (.tup [.int q2, ptD ys])) [WO n ls vs q0 rows, .v (atD (some (q, xs))), .v (.int a)] := e
          show _ = RS.nx [some (WO n ls vs q0 rows), o1, some (.v (.tup [.int q2, ptD ys])), some (.v (.int a))]
          simp only [ptD] at e' ⊢
          generalize atD (some (q, xs)) = d1 at *
          generalize ys.map rD = pt at *
          simp [k_run_of_0b, e', isNoneD]
        obtain ⟨i1, i2⟩ := ih (k + 1) q2 ys o1 (some (.v (.int a))) (by omega) (fun b hb => ha b (List.mem_cons_of_mem _ hb)) hs
        refine ⟨fun hn => ?_, fun hn => ?_⟩
        · obtain ⟨o3', e2⟩ := i1 hn
          exact ⟨o3', by rw [List.map_cons, for_step (ρ1 := [some (WO n ls vs q0 rows), o1, some (.v (atD (some (q, xs)))), some (.v (.int a))]) rfl hb, e2]; try (show _ = RS.nx [_, _, some (.v (atD (runA rows (stepA rows (some (q, xs)) a) w))), _]; rw [hst])⟩
        · obtain ⟨o3', e2⟩ := i2 hn
          exact ⟨o3', by rw [List.map_cons, for_step (ρ1 := [some (WO n ls vs q0 rows), o1, some (.v (atD (some (q, xs)))), some (.v (.int a))]) rfl hb, e2]; try (show _ = RS.nx [_, _, some (.v (atD (runA rows (stepA rows (some (q, xs)) a) w))), _]; rw [hst])⟩
  obtain ⟨k1, k2⟩ := key w 0 q0 xs (some (.v (wdD w))) none (by omega) ha h
  subst hv
  cases hres : runA rows (some (q0, xs)) w with
  | none =>
    obtain ⟨o3, e⟩ := k1 hres
    have e' : forF (nameG 3) k_run_of_0b (w.map fun i : Nat => .int i) [some (WO n ls (xs.map rD) q0 rows), some (.v (wdD w)), some (.v (.tup [.int q0, .tup (xs.map rD)])), none] = _ := e
    unfold wdD at *
    show _ = RF.ok (.v .non) _
    generalize (w.map fun i : Nat => D.int i) = wl at *
    generalize xs.map rD = pt at *
    simp [p_run_of, fs_run_of, e', tupleD, line_le]
  | some p =>
    obtain ⟨o3, e⟩ := k2 (by rw [hres]; exact fun e => nomatch e)
    rw [hres] at e
    have e' : forF (nameG 3) k_run_of_0b (w.map fun i : Nat => .int i) [some (WO n ls (xs.map rD) q0 rows), some (.v (wdD w)), some (.v (.tup [.int q0, .tup (xs.map rD)])), none] = _ := e
    unfold wdD at *
    generalize (w.map fun i : Nat => D.int i) = wl at *
    generalize atD (some p) = d at *
    generalize xs.map rD = pt at *
    simp [p_run_of, fs_run_of, e', tupleD, line_le]
end
end
end WG

set_option Elab.async false
set_option linter.all false
set_option maxRecDepth 100000
set_option maxHeartbeats 1000000
namespace Pq
open Rt Pg
structure Nd (P : List Row) : Prop where
  nd : (P.map (·.1)).Nodup
  ok : ∀ p ∈ P, IsR p.2
theorem mem_put {P : List Row} (h : (P.map (·.1)).Nodup) {e : Ex} {r : Ra} {p : Row} (hp : p ∈ put P e r) : (p.1 = e ∧ p.2 = r) ∨ p ∈ P := by
  have := (mem_get (nodup_put h e r)).mp hp
  rw [get_put] at this
  by_cases hx : p.1 = e
  · rw [if_pos hx] at this; exact .inl ⟨hx, (Option.some.inj this).symm⟩
  · rw [if_neg hx] at this; exact .inr ((mem_get h).mpr this)
theorem Nd.put {P : List Row} (h : Nd P) (e : Ex) {r : Ra} (hr : IsR r) : Nd (put P e r) := ⟨nodup_put h.nd e r, fun p hp => by
  rcases mem_put h.nd hp with ⟨_, h2⟩ | hp
  · rw [h2]; exact hr
  · exact h.ok p hp⟩
structure Tg (n N G d v : Nat) (P : List Row) : Prop where
  nd : (P.map (·.1)).Nodup
  ex : ∀ p ∈ P, p.1.length = n ∧ (∀ i ∈ p.1, (0 : Int) ≤ i) ∧ deg p.1 ≤ G
  ok : ∀ p ∈ P, Dy d v p.2 ∧ p.2.1 ≠ 0
  len : P.length ≤ N
theorem Tg.mono {n N G d v N' G' d' v' : Nat} {P : List Row} (h : Tg n N G d v P) (h1 : N ≤ N') (h2 : G ≤ G') (h3 : d ≤ d') (h4 : v ≤ v') : Tg n N' G' d' v' P :=
  ⟨h.nd, fun p hp => ⟨(h.ex p hp).1, (h.ex p hp).2.1, Nat.le_trans (h.ex p hp).2.2 h2⟩, fun p hp => ⟨(h.ok p hp).1.mono h3 h4, (h.ok p hp).2⟩, Nat.le_trans h.len h1⟩
end Pq

set_option Elab.async false
set_option linter.all false
set_option maxRecDepth 100000
set_option maxHeartbeats 1000000
namespace Pq
open Rt Pg
end Pq

set_option Elab.async false
set_option linter.all false
set_option maxRecDepth 100000
set_option maxHeartbeats 4000000
namespace K25
open PySem Fx Rt Pq Pg
theorem pt_at2 {xs : List Ra} {i : Nat} {x : Ra} (h : xs[i]? = some x) : L2.atI (xs.map rD) (i : Int) = some (rD x) := by
  rw [v_atI (n := i) rfl (by rw [List.length_map]; exact (List.getElem?_eq_some_iff.mp h).1), List.getElem?_map, h]; rfl
section
variable {B V n N G d0 v0 : Nat} {xs : List Ra} (hx : ∀ x ∈ xs, Dy B V x) (hl : xs.length = n) (hn : n ≤ 12) (hd : 2 * (d0 + G * B) + 2 ≤ 9000) (hv : 2 * (v0 + G * V + N) ≤ 90000000) (hG : G ≤ 1000)
include hx hl hn hd hv hG
theorem lv_term_g {o0 o2 o3 o5 o6 : Option O} {e : Ex} {r : Ra} (he : deg e ≤ G ∧ e.length = n ∧ ∀ k ∈ e, 0 ≤ k) (hr : Dy d0 v0 r) (h3 : o3 = some (.v (eD e))) :
    ∃ o5' o6', forF (nameG 5) k__law_value_1b (rangeL 0 n) [o0, some (.v (ptD xs)), o2, o3, some (.v (rD r)), o5, o6] = .nx [o0, some (.v (ptD xs)), o2, o3, some (.v (rD (monP e xs r))), o5', o6'] := by
  subst h3
  have hxr : ∀ x ∈ xs, IsR x := fun x hx' => (hx x hx').isr
  obtain ⟨ρ', el, o5', o6', rfl⟩ := for_range_inv (g := nameG 5) (b := k__law_value_1b) (lo := 0) (n := n) (fun i ρ => ∃ o5 o6, ρ = [o0, some (.v (ptD xs)), o2, some (.v (eD e)), some (.v (rD (monP (e.take i) (xs.take i) r))), o5, o6]) (by
    rintro i ρ hi ⟨o5, o6, rfl⟩
    obtain ⟨k, hk⟩ : ∃ k, e[i]? = some k := ⟨_, List.getElem?_eq_getElem (by omega)⟩
    obtain ⟨x, hxi⟩ : ∃ x, xs[i]? = some x := ⟨_, List.getElem?_eq_getElem (by omega)⟩
    have hk0 : 0 ≤ k := he.2.2 k (List.mem_of_getElem? hk)
    obtain ⟨m, rfl⟩ := Int.eq_ofNat_of_zero_le hk0
    have hdg := deg_at hk
    rw [Int.toNat_natCast] at hdg
    have hxm := hx x (List.mem_of_getElem? hxi)
    have hp := monP_dy (e := e.take i) (xs := xs.take i) (D := B) (V := V) (fun y hy => hx y (List.mem_of_mem_take hy)) hr
    rw [monP_take e xs r i _ x hk hxi, Int.toNat_natCast]
    generalize monP (e.take i) (xs.take i) r = r0 at *
    have hix := pt_at2 hxi
    have hie : L2.atI (e.map D.int) (i : Int) = some (.int (m : Int)) := by
      rw [v_atI (n := i) rfl (by rw [List.length_map]; omega), List.getElem?_map, hk]; rfl
    have e0 : (0 : Int) + (i : Int) = (i : Int) := by omega
    obtain ⟨ρ2, el2, o6', rfl⟩ := for_range_inv (g := nameG 6) (b := k__law_value_2b) (lo := 0) (n := m) (fun j ρ => ∃ o6, ρ = [o0, some (.v (ptD xs)), o2, some (.v (eD e)), some (.v (rD (itP x j r0))), some (.v (.int (i : Int))), o6]) (by
      rintro j ρ hj ⟨o6, rfl⟩
      have h1 := itP_dy hp hxm j
      have hb : d0 + deg (e.take i) * B + j * B + B ≤ d0 + G * B := by
        have : (deg (e.take i) + j + 1) * B ≤ G * B := Nat.mul_le_mul_right B (by omega)
        rw [Nat.add_mul, Nat.add_mul] at this; omega
      have hvv : v0 + deg (e.take i) * V + j * V + V ≤ v0 + G * V := by
        have : (deg (e.take i) + j + 1) * V ≤ G * V := Nat.mul_le_mul_right V (by omega)
        rw [Nat.add_mul, Nat.add_mul] at this; omega
      have em := law_mul_y h1 hxm (by omega) (by omega)
      refine ⟨[o0, some (.v (ptD xs)), o2, some (.v (eD e)), some (.v (rD (itP x j r0))), some (.v (.int (i : Int))), some (.v (.int (0 + (j : Int))))], [o0, some (.v (ptD xs)), o2, some (.v (eD e)), some (.v (rD (itP x (j + 1) r0))), some (.v (.int (i : Int))), some (.v (.int (0 + (j : Int))))], rfl, ?_, _, rfl⟩
      have en : itP x (j + 1) r0 = mulP (itP x j r0) x := rfl
      rw [en]
      simp only [ptD, rD, eD] at em hix ⊢
      generalize (0 + (j : Int)) = jj
      generalize xs.map rD = pt at *
      simp [k__law_value_2b, em, hix]) (ρ := [o0, some (.v (ptD xs)), o2, some (.v (eD e)), some (.v (rD r0)), some (.v (.int (i : Int))), o6]) ⟨o6, rfl⟩
    have hrg := rg_le (m := m) (by omega)
    refine ⟨[o0, some (.v (ptD xs)), o2, some (.v (eD e)), some (.v (rD r0)), some (.v (.int (i : Int))), o6], [o0, some (.v (ptD xs)), o2, some (.v (eD e)), some (.v (rD (itP x m r0))), some (.v (.int (i : Int))), o6'], by rw [e0]; rfl, ?_, _, _, rfl⟩
    simp only [ptD, rD, eD] at el2 hie ⊢
    generalize xs.map rD = pt at *
    generalize e.map D.int = ee at *
    generalize rangeL 0 m = rl at *
    simp [k__law_value_1b, hie, hrg, el2]) (ρ := [o0, some (.v (ptD xs)), o2, some (.v (eD e)), some (.v (rD r)), o5, o6]) ⟨o5, o6, by cases e <;> cases xs <;> rfl⟩
  refine ⟨o5', o6', ?_⟩
  rw [List.take_of_length_le (by omega), List.take_of_length_le (by omega)] at el
  exact el
end
end K25

set_option Elab.async false
set_option linter.all false
set_option maxRecDepth 100000
set_option maxHeartbeats 4000000

namespace Pg
open PySem Fx
noncomputable section
def c_MOST_REGISTERS_wordforms : D := (.int 12)
def c_MOST_STATES_wordforms : D := (.int 60)
def k_is_word_machine_0e : FE D :=
  (frzF (callF [] p_is_state (consA (bS 1) (consA (bD (b1F lenD (bS 2))) (consA (bD (b1F lenD (bS 4))) (consA (bS 5) nilA))))))
def fs_is_word_machine : FS :=
  (seqF (ifSF (orF (notF (testF (frzF (callF [] p_is_row (consA (bS 0) (consA (bD (cF (.int 4))) (consA (bD (cF (.int 4))) nilA))))))) (notF (testF (frzF (callF [] p_within (consA (bD (b2F ixD (bS 0) (cF (.int 0)))) (consA (bD (cF (.int 1))) (consA (bD (cF c_MOST_REGISTERS_wordforms)) nilA)))))))) (retF (cF (.bl false))) nextF)
  (seqF (asgF (varF 0) (tupG 4 (consG (nameG 1) (consG (nameG 2) (consG (nameG 3) (consG (nameG 4) nilG))))))
  (seqF (ifSF (orF (notF (testF (frzF (callF [] p_are_low_names (consA (bS 2) (consA (bD (cF (.int 1))) (consA (bD (cF c_MOST_LETTERS)) nilA))))))) (notF (testF (frzF (callF [] p_is_row (consA (bS 4) (consA (bD (cF (.int 1))) (consA (bD (cF c_MOST_STATES_wordforms)) nilA)))))))) (retF (cF (.bl false))) nextF)
  (seqF (ifSF (orF (notF (testF (frzF (callF [] p_is_row (consA (bS 3) (consA (bD (cF (.int 2))) (consA (bD (cF (.int 2))) nilA))))))) (orF (notF (testF (frzF (callF [] p_within (consA (bD (b2F ixD (bS 3) (cF (.int 0)))) (consA (bD (cF (.int 0))) (consA (bD (op2F subD (b1F lenD (bS 4)) (cF (.int 1)))) nilA))))))) (notF (testF (frzF (callF [] p_is_point_in (consA (bS 1) (consA (bD (b2F ixD (bS 3) (cF (.int 1)))) nilA)))))))) (retF (cF (.bl false))) nextF)
  (retF (b1F allD (bD (frzF (lcF (itA (varF 4)) [5] (nameG 5) yesF k_is_word_machine_0e)))))))))
def p_is_word_machine (os : List O) : RF := bodyF [] os (fs_is_word_machine (startE ["thing", "registers", "letters", "start", "states", "state"] os))
def fs_need_machine : FS :=
  (seqF (ifSF (notF (testF (frzF (callF [] p_is_word_machine (consA (bS 0) nilA))))) (raiseF "BadMachine") nextF)
  (retF (frzF (callF [] p_opened (consA (bS 0) nilA)))))
def p_need_machine (os : List O) : RF := bodyF [] os (fs_need_machine (startE ["machine"] os))
def fs_tells : FS :=
  (seqF (setF 2 (frzF (callF [] p_need_machine (consA (bS 0) nilA))))
  (seqF (dropF (frzF (callF [] p_need_word (consA (bS 2) (consA (bS 1) nilA)))))
  (retF (frzF (callF [] p_told_of (consA (bS 2) (consA (bD (frzF (callF [] p_run_of (consA (bS 2) (consA (bS 1) nilA))))) nilA)))))))
def p_tells (os : List O) : RF := bodyF [] os (fs_tells (startE ["machine", "word", "words"] os))
end
end Pg

set_option Elab.async false
set_option linter.all false
set_option maxRecDepth 100000
set_option maxHeartbeats 4000000
namespace WG
open PySem Fx Rt Pq Pg K25
section
variable {B V n N G d0 v0 : Nat} {xs : List Ra} (hx : ∀ x ∈ xs, Dy B V x) (hl : xs.length = n) (hn : n ≤ 12) (hd0 : 2 * (d0 + G * B) + 2 ≤ 9000) (hv0 : 2 * (v0 + G * V + N) ≤ 40000000) (hG : (B + V + 1) * G ≤ 40000000)
include hx hl hn hd0 hv0 hG
theorem va_term_g {o0 o2 o3 : Option O} {r0 : Ra} : ∀ (e : Ex) (j : Nat) (ys : List Ra) (r : Ra) (d v : Nat) (o5 o6 : Option O), xs.drop j = ys → (∀ k ∈ e, 0 ≤ k) → e.length = ys.length → Dy d v r → d + deg e * B ≤ d0 + G * B → v + deg e * V ≤ v0 + G * V → deg e ≤ G →
    ∃ o5' o6', forF (tupG 2 (consG (nameG 5) (consG (nameG 6) nilG))) k_value_at_1b (numbD j (e.map .int)) [o0, some (.v (ptD xs)), o2, o3, some (.v (rD r)), o5, o6] = .nx [o0, some (.v (ptD xs)), o2, o3, some (.v (rD (monP e ys r))), o5', o6']
  | [], j, ys, r, d, v, o5, o6, _, _, _, _, _, _, _ => ⟨o5, o6, rfl⟩
  | k :: e, j, [], r, d, v, o5, o6, _, _, h, _, _, _, _ => by cases h
  | k :: e, j, x :: ys, r, d, v, o5, o6, hdr, hk, hle, hr, hd, hv, hdg => by
    have hk0 := hk k List.mem_cons_self
    obtain ⟨m, rfl⟩ := Int.eq_ofNat_of_zero_le hk0
    have hdc : deg ((m : Int) :: e) = m + deg e := by unfold deg; rw [List.map_cons, List.sum_cons, Int.toNat_natCast]
    rw [hdc] at hd hv hdg
    rw [Nat.add_mul] at hd hv
    have hjl : j < xs.length := by
      have := congrArg List.length hdr
      rw [List.length_drop, List.length_cons] at this; omega
    have hxj : xs[j]? = some x := by
      have := congrArg (fun l : List Ra => l[0]?) hdr
      simpa using this
    have hxm := hx x (List.mem_of_getElem? hxj)
    have hdr2 : xs.drop (j + 1) = ys := by
      have := congrArg (fun l : List Ra => l.drop 1) hdr
      simpa [List.drop_drop, Nat.add_comm] using this
    have hi := itP_dy hr hxm m
    obtain ⟨y5, y6, e2⟩ := va_term_g (o0 := o0) (o2 := o2) (o3 := o3) (r0 := r0) e (j + 1) ys (itP x m r) (d + m * B) (v + m * V) (some (.v (.int (j : Nat)))) (some (.v (.int (m : Int)))) hdr2 (fun k hk' => hk k (List.mem_cons_of_mem _ hk')) (by simpa using hle) hi (by omega) (by omega) (by omega)
    refine ⟨y5, y6, ?_⟩
    have hix := pt_at2 hxj
    rw [List.map_cons, numbD, for_step (ρ1 := [o0, some (.v (ptD xs)), o2, o3, some (.v (rD r)), some (.v (.int (j : Nat))), some (.v (.int (m : Int)))]) (ρ2 := [o0, some (.v (ptD xs)), o2, o3, some (.v (rD (itP x m r))), some (.v (.int (j : Nat))), some (.v (.int (m : Int)))]) rfl ?_, e2]
    · show _ = RS.nx [o0, some (.v (ptD xs)), o2, o3, some (.v (rD (monP e ys (itP x (m : Int).toNat r)))), y5, y6]
      rw [Int.toNat_natCast]
    · clear e2
      by_cases hm : m = 0
      · subst hm
        simp only [ptD, rD]
        generalize xs.map rD = pt at *
        simp [k_value_at_1b, itP]
      · have er := raised_r (r := x) (n := B + V + 1) (k := m) ⟨hxm.top, hxm.bot.mono (by omega)⟩ (by omega) (by
          have : (B + V + 1) * m ≤ (B + V + 1) * G := Nat.mul_le_mul_left _ (by omega)
          omega)
        have hmB : m * B ≤ d0 + G * B := by omega
        have hmV : m * V ≤ v0 + G * V := by omega
        have em := multiplied_y hr (powP_dy hxm m) (by omega) (by omega)
        rw [itP_eq hxm.isr hr.isr]
        have er' : p_raised [.v (rD x), .v (.int m)] = .ok (.v (rD (powP x m))) [.v (rD x), .v (.int m)] := er
        have hm1 : (0 : Int) < m := by omega
        have hm2 : 0 < m := by omega
        generalize powP x m = px at *
        simp only [ptD, rD] at hix er' em ⊢
        generalize xs.map rD = pt at *
        simp [k_value_at_1b, hm1, hm2, hix, er', em]
theorem value_at_g {T : List Row} (h : Tg n N G d0 v0 T) : p_value_at [.v (.tb (dictD T)), .v (ptD xs)] = .ok (.v (rD (valP T xs))) [.v (.tb (dictD T)), .v (ptD xs)] := by
  have key : ∀ (Q : List Row) (acc : Ra) (m : Nat) (o3 o4 o5 o6 : Option O), (∀ p ∈ Q, p ∈ T) → Dy (d0 + G * B) (v0 + G * V + m) acc → m + Q.length ≤ N →
      ∃ o3' o4' o5' o6', forF (tupG 2 (consG (nameG 3) (consG (nameG 4) nilG))) k_value_at_0b (Q.map fun p => .wt [eD p.1, rD p.2]) [some (.v (.tb (dictD T))), some (.v (ptD xs)), some (.v (rD acc)), o3, o4, o5, o6] = .nx [some (.v (.tb (dictD T))), some (.v (ptD xs)), some (.v (rD (sumP acc Q xs))), o3', o4', o5', o6'] := by
    intro Q
    induction Q with
    | nil => exact fun acc m o3 o4 o5 o6 _ _ _ => ⟨o3, o4, o5, o6, rfl⟩
    | cons p Q ih =>
      intro acc m o3 o4 o5 o6 hQ hacc hm
      rw [List.length_cons] at hm
      have hp := hQ p List.mem_cons_self
      obtain ⟨h1, _⟩ := h.ok p hp
      obtain ⟨h3, h4, h2⟩ := h.ex p hp
      obtain ⟨y5, y6, el⟩ := va_term_g hx hl hn hd0 hv0 hG (o0 := some (.v (.tb (dictD T)))) (o2 := some (.v (rD acc))) (o3 := some (.v (eD p.1))) (r0 := (0, 1)) p.1 0 xs p.2 d0 v0 o5 o6 rfl h4 (by omega) h1 (by have := Nat.mul_le_mul_right B h2; omega) (by have := Nat.mul_le_mul_right V h2; omega) h2
      have hm1 := (monP_dy (e := p.1) hx h1).mono (d' := d0 + G * B) (v' := v0 + G * V + m) (by have := Nat.mul_le_mul_right B h2; omega) (by have := Nat.mul_le_mul_right V h2; omega)
      have ea := added_y hacc hm1 (by omega) (by omega)
      obtain ⟨z3, z4, z5, z6, e2⟩ := ih (addP acc (monP p.1 xs p.2)) (m + 1) (some (.v (eD p.1))) (some (.v (rD (monP p.1 xs p.2)))) y5 y6 (fun q hq => hQ q (List.mem_cons_of_mem _ hq)) (dy_add hacc hm1) (by omega)
      refine ⟨z3, z4, z5, z6, ?_⟩
      rw [List.map_cons, for_step (ρ1 := [some (.v (.tb (dictD T))), some (.v (ptD xs)), some (.v (rD acc)), some (.v (eD p.1)), some (.v (rD p.2)), o5, o6]) (ρ2 := [some (.v (.tb (dictD T))), some (.v (ptD xs)), some (.v (rD (addP acc (monP p.1 xs p.2)))), some (.v (eD p.1)), some (.v (rD (monP p.1 xs p.2))), y5, y6]) rfl ?_, e2]
      · rfl
      · clear e2 ih
        simp only [ptD, rD, eD] at el ea ⊢
        generalize hnl : numbD 0 (p.1.map D.int) = nl at *
        generalize p.1.map D.int = ee at *
        generalize xs.map rD = pt at *
        generalize dictD T = dd at *
        simp [k_value_at_0b, hnl, el, ea]
  obtain ⟨z3, z4, z5, z6, e⟩ := key T (0, 1) 0 none none none none (fun _ h => h) (dy_0.mono (Nat.zero_le _) (Nat.zero_le _)) (by have := h.len; omega)
  have hk : (dictD T).map (fun p => D.wt [p.1, p.2]) = T.map fun p => .wt [eD p.1, rD p.2] := by unfold dictD; rw [List.map_map]; rfl
  have c0 : c_ZERO = rD (0, 1) := rfl
  simp only [ptD, rD] at e hk c0 ⊢
  generalize (T.map fun p => D.wt [eD p.1, .tup [.int p.2.1, .int p.2.2]]) = ks at *
  generalize xs.map rD = pt at *
  generalize dictD T = dd at *
  simp [p_value_at, fs_value_at, hk, e, c0]
theorem val_dy_g {P : List Row} (h : Tg n N G d0 v0 P) : Dy (d0 + G * B) (v0 + G * V + N) (valP P xs) :=
  (valP_dy hx (P := P) (G := G) (d := d0) (v := v0) fun p hp => ⟨(h.ok p hp).1, (h.ex p hp).2.2⟩).mono (Nat.le_refl _) (by have := h.len; omega)
end
theorem tg_rowok {n N G d v : Nat} {P : List Row} (h : Tg n N G d v P) : ∀ p ∈ polyT P, RowOk n p ∧ p.2.1 ≠ 0 := fun p hp => by
  have hm := polyT_mem.mp hp
  obtain ⟨h1, h2, _⟩ := h.ex p hm
  exact ⟨⟨by rw [h1], h2, (h.ok p hm).1.isr⟩, (h.ok p hm).2⟩
theorem polyG_tg {n N G d v : Nat} (hn : n ≤ 24) (hN : N ≤ 1000) {P : List Row} (h : Tg n N G d v P) : PolyG n (plD P) := by
  refine ⟨?_, gd_poly (by rw [polyT_len]; have := h.len; omega) fun p hp => by have := (tg_rowok h p hp).1.len; omega⟩
  show polyB n (polyD (polyT P)) = true
  rw [polyB_p (tg_rowok h)]
  exact chain_canon (sortA_canon h.nd)
theorem rowS_g {TK : List Row → Prop} {n l s : Nat} (hP : ∀ P, TK P → PolyG n (plD P)) {r : ARow} (h : AGk TK n l s r) : RowS n l s (arS r) := by
  refine ⟨plD r.1, r.2.map stS, rfl, hP _ h.told, by rw [List.length_map]; exact h.len, fun x hx => ?_⟩
  obtain ⟨st, hst, rfl⟩ := List.mem_map.mp hx
  cases st with
  | none => exact .inl rfl
  | some tp =>
    obtain ⟨t, Ps⟩ := tp
    obtain ⟨h1, h2, h3⟩ := h.st t Ps hst
    refine .inr ⟨t, Ps.map plD, rfl, h1, by rw [List.length_map]; exact h2, fun Q hQ => ?_⟩
    obtain ⟨P, hP', rfl⟩ := List.mem_map.mp hQ
    exact hP P (h3 P hP')
structure Mg (TK : List Row → Prop) (n l : Nat) (W : List (List Nat)) (q : Nat) (vs : List D) (rows : List ARow) : Prop where
  n1 : 1 ≤ n
  n12 : n ≤ 12
  wl : W.length = l
  l8 : l ≤ 8
  names : K59.namesB (.tup (W.map SD)) = true
  gls : ∀ x ∈ W.map SD, Gd x
  s1 : 1 ≤ rows.length
  s10 : rows.length ≤ 10
  hq : q < rows.length
  vl : vs.length = n
  vr : ∀ v ∈ vs, ∃ r : Ra, v = rD r ∧ IsR r
  ok : ∀ r ∈ rows, AGk TK n l rows.length r
  pg : ∀ P, TK P → PolyG n (plD P)
  tm : ∀ P, TK P → ((polyT P).map (·.1)).Nodup ∧ (polyT P).length ≤ 1000
section
variable {TK : List Row → Prop} {n l : Nat} {W : List (List Nat)} {q : Nat} {vs : List D} {rows : List ARow} (M : Mg TK n l W q vs rows)
abbrev mD (n : Nat) (W : List (List Nat)) (q : Nat) (vs : List D) (rows : List ARow) : D := machA n (W.map SD) vs q rows
abbrev wkO (n : Nat) (W : List (List Nat)) (q : Nat) (vs : List D) (rows : List ARow) : O := WO n (W.map SD) vs q rows
include M
theorem Mg.rws : ∀ y ∈ rows.map arS, RowS n l rows.length y := fun y hy => by
  obtain ⟨r, hr, rfl⟩ := List.mem_map.mp hy
  exact rowS_g M.pg (M.ok r hr)
omit M in
theorem ratB_r {v : D} (h : ∃ r : Ra, v = rD r ∧ IsR r) : ratB v = true ∧ Gd v := by
  obtain ⟨r, rfl, hr⟩ := h
  refine ⟨?_, gd_r r⟩
  have h1 := hr.pos
  have h2 := hr.cop
  simp only [ratB, rD, h1, h2, decide_true, Bool.and_self]
theorem Mg.good : machB (mD n W q vs rows) = true := by
  have h1 := M.names
  have h2 : inB 0 (((rows.map arS).length : Int) - 1) (.int (q : Int)) = true := by have := M.hq; rw [List.length_map]; simp [inB]; omega
  have h3 := M.n12
  have h4 := M.s1
  have h5 := M.s10
  have h6 := M.n1
  have hv : allB n ratB (.tup vs) = true := by
    show (decide ((vs.length : Int) = n) && vs.all ratB) = true
    rw [decide_eq_true (by rw [M.vl]), List.all_eq_true.mpr fun v hv => (ratB_r (M.vr v hv)).1]; rfl
  have hs : (rows.map arS).all (stateB n l rows.length) = true := List.all_eq_true.mpr fun x hx => stateB_s (M.rws x hx)
  have hwl : (W.map SD).length = l := by rw [List.length_map]; exact M.wl
  have hsl : (rows.map arS).length = rows.length := List.length_map _
  show (decide (1 ≤ (n : Int) ∧ (n : Int) ≤ 12) && (K59.namesB (.tup (W.map SD)) && (decide (1 ≤ ((rows.map arS).length : Int) ∧ ((rows.map arS).length : Int) ≤ 60) && (inB 0 (((rows.map arS).length : Int) - 1) (.int (q : Int)) && (allB n ratB (.tup vs) && (rows.map arS).all (stateB n (W.map SD).length (rows.map arS).length)))))) = true
  rw [h1, h2, hv, hwl, hsl, hs, decide_eq_true (by omega), decide_eq_true (by omega)]; rfl
theorem Mg.gd : Gd (mD n W q vs rows) := by
  refine .tup (by show 4 ≤ 2000; decide) fun x hx => ?_
  have := M.l8
  have := M.s10
  have := M.n12
  rcases List.mem_cons.mp hx with e | hx
  · rw [e]; exact .int _
  rcases List.mem_cons.mp hx with e | hx
  · rw [e]; exact .tup (by rw [List.length_map, M.wl]; omega) M.gls
  rcases List.mem_cons.mp hx with e | hx
  · rw [e]; exact K03.gd_2 (.int _) (.tup (by rw [M.vl]; omega) fun x hx => (ratB_r (M.vr x hx)).2)
  · rw [List.mem_singleton.mp hx]; exact .tup (by rw [List.length_map]; omega) fun x hx => (M.rws x hx).gd M.n12 (by omega)
omit M in
theorem is_word_machine_eq : Pg.p_is_word_machine = K25.p_is_word_machine := rfl
theorem is_machine_v : Pg.p_is_word_machine [.v (mD n W q vs rows)] = .ok (.v (.bl true)) [.v (mD n W q vs rows)] := by
  have e1 := K25.is_word_machine_v M.gd
  rwa [M.good, ← is_word_machine_eq] at e1
theorem need_machine_v : p_need_machine [.v (mD n W q vs rows)] = .ok (wkO n W q vs rows) [.v (mD n W q vs rows)] := by
  have e1 := is_machine_v M
  have e2 := opened_v M.tm M.n12 (by have := M.l8; omega) (ls := W.map SD) (vs := vs) (q := q) M.ok (by have := M.s10; omega)
  have e2' : p_opened [.v (mD n W q vs rows)] = .ok (wkO n W q vs rows) [.v (mD n W q vs rows)] := e2
  generalize hd : mD n W q vs rows = d at *
  simp only [wkO, WO] at e2' ⊢
  generalize wordsD (n : Int) (W.map SD) vs q rows = w at *
  simp [p_need_machine, fs_need_machine, e1, e2']
def wordB (l : Nat) : D → Bool
  | .tup xs => xs.all (inB 0 ((l : Int) - 1))
  | _ => false
theorem need_word_v {d : D} (g : Gd d) : p_need_word [wkO n W q vs rows, .v d] = if wordB l d = true then .ok (.v .non) [wkO n W q vs rows, .v d] else .ex ⟨"BadWord", []⟩ [wkO n W q vs rows, .v d] := by
  have e1 := is_row_v g 0 10000
  have c0 : c_MOST_WORD = .int 10000 := rfl
  have hwl : (W.map SD).length = l := by rw [List.length_map, M.wl]
  cases g with
  | @tup xs h g =>
    have e2 : rowLen 0 10000 (.tup xs) = true := by simp [rowLen]; omega
    rw [e2] at e1
    have h1 := comp_bl (vs := [2]) (i := 2) (fe := k_need_word_0e) (ρ := [some (wkO n W q vs rows), some (.v (.tup xs)), none]) (xs := xs) (inB 0 ((l : Int) - 1)) fun x hx => ⟨[some (wkO n W q vs rows), some (.v (.tup xs)), some (.v x)], by
      have e3 := within_v (g x hx) 0 ((l : Int) - 1)
      generalize inB 0 ((l : Int) - 1) x = b at *
      simp [k_need_word_0e, wipeE, M.wl, e3], rfl⟩
    have hm := mapM_bl (inB 0 ((l : Int) - 1)) xs
    have ha := all_b (inB 0 ((l : Int) - 1)) xs
    have hsl : xs.length < sizeLine := line_lt (by omega)
    show _ = if (xs.all (inB 0 ((l : Int) - 1))) = true then _ else _
    cases hh : xs.all (inB 0 ((l : Int) - 1)) <;> rw [hh] at ha <;> simp [p_need_word, fs_need_word, e1, c0, h1, hm, ha, hsl, plainVs]
  | _ => simp [rowLen] at e1; simp [p_need_word, fs_need_word, e1, c0, wordB]
omit M in
theorem wd_gd {w : List Nat} (h : w.length ≤ 2000) : Gd (wdD w) := .tup (by rw [List.length_map]; exact h) fun x hx => by
  obtain ⟨i, _, rfl⟩ := List.mem_map.mp hx
  exact .int _
omit M in
theorem word_yes {w : List Nat} (h : ∀ a ∈ w, a < l) : wordB l (wdD w) = true := by
  show (w.map fun i : Nat => D.int i).all (inB 0 ((l : Int) - 1)) = true
  rw [List.all_eq_true]
  intro x hx
  obtain ⟨i, hi, rfl⟩ := List.mem_map.mp hx
  have := h i hi
  simp [inB]; omega
variable {K : Nat} {XK : Nat → Ra → Prop} (hV : ∀ k ≤ K, ∀ (P : List Row) (xs : List Ra), TK P → xs.length = n → (∀ x ∈ xs, XK k x) → p_value_at [.v (tbD (polyT P)), .v (ptD xs)] = .ok (.v (rD (valP P xs))) [.v (tbD (polyT P)), .v (ptD xs)] ∧ XK (k + 1) (valP P xs)) (hK : K ≤ 1000)
include hV hK
theorem tells_v {xs : List Ra} (hv : vs = xs.map rD) (h0 : AtG XK n rows.length 0 (some (q, xs))) {w : List Nat} (hw : w.length ≤ K) (ha : ∀ a ∈ w, a < l) : p_tells [.v (mD n W q vs rows), .v (wdD w)] = .ok (.v (rD (tellA rows (runA rows (some (q, xs)) w)))) [.v (mD n W q vs rows), .v (wdD w)] := by
  have e1 := need_machine_v M
  have e2 := need_word_v M (wd_gd (w := w) (by omega))
  rw [if_pos (word_yes ha)] at e2
  have e3 := run_of_v (ls := W.map SD) hV M.n12 M.ok (by have := M.l8; omega) hw ha hv h0
  have hr := run_ok hV M.n12 M.ok (by have := M.l8; omega) w (show 0 + w.length ≤ K by omega) h0
  have e4 := told_of_v (ls := W.map SD) (vs := vs) (q0 := q) hV M.n12 M.ok (by have := M.l8; omega) (show 0 + w.length ≤ K by omega) hr
  simp only [rD] at e4 ⊢
  generalize tellA rows (runA rows (some (q, xs)) w) = t at *
  generalize atD (runA rows (some (q, xs)) w) = r at *
  generalize wdD w = wd at *
  generalize hd : mD n W q vs rows = m at *
  simp only [wkO, WO] at e1 e2 e3 e4
  generalize wordsD (n : Int) (W.map SD) vs q rows = w at *
  simp [p_tells, fs_tells, e1, e2, e3, e4]
end
end WG

set_option Elab.async false
set_option linter.all false
set_option maxRecDepth 100000
set_option maxHeartbeats 4000000
namespace K74
open PySem Fx Rt Pq Pg
abbrev JG (cells : List Int) (a b : Int) : O := .c (.lst [.lst (cells.map .int), .int a, .int b])
theorem law_jug_v {ns : List Int} : p__law_jug [.v (.lst (ns.map .int))] = .ok (JG ns 0 0) [.v (.lst (ns.map .int))] := by
  simp [p__law_jug, fs__law_jug, line_le]
theorem pow18 : PowBC 10 18 := powBC_mk (by decide) (by decide) (by decide)
theorem pow3 {x : Int} (h : x.natAbs < 2 ^ 1000) : PowBC x 3 := powBC_mk (by decide) (by decide) h
theorem t18 : (10 : Int) ^ (18 : Int).toNat = 1000000000000000000 := rfl
theorem t3 (x : Int) : x ^ (3 : Int).toNat = x ^ 3 := rfl
theorem law_take_v {cells : List Int} {a b many : Int} (ha : 0 ≤ a) (hb : a < 2 ^ 50) (h0 : 0 < many) (hl : many < 2 ^ 60) : ∃ x a' b', p__law_take [JG cells a b, .v (.int many)] = .ok (.v (.int x)) [JG cells a' b', .v (.int many)] ∧ 0 ≤ x ∧ x < many ∧ 0 ≤ a' ∧ a' ≤ a + 1 := by
  have hdm : ∀ y, DivC y many := fun y => divC_s h0 (by omega)
  have hx0 : L2.ixN 3 0 = some 0 := by decide
  have hx1 : L2.ixN 3 1 = some 1 := by decide
  have hx2 : L2.ixN 3 2 = some 2 := by decide
  have hm0 : many ≠ 0 := by omega
  have fin : ∀ (a' b' : Int) (x2 x3 : Option O), (seqF (setF 4 (op2F fmodD (b1F intD (bD (b2F ixD (bS 0) (cF (.int 2))))) (varF 1))) (seqF (setItF (bS 0) (cF (.int 2)) (op2F fdivD (b2F ixD (bS 0) (cF (.int 2))) (varF 1))) (retF (varF 4)))) [some (JG cells a' b'), some (.v (.int many)), x2, x3, none] = .ret (.v (.int (b'.fmod many))) [some (JG cells a' (b'.fdiv many)), some (.v (.int many)), x2, x3, some (.v (.int (b'.fmod many)))] := by
    intro a' b' x2 x3
    simp [hm0, hdm, hx2]
  have hst : startE ["jug", "many", "at", "cell", "got"] [JG cells a b, O.v (.int many)] = [some (JG cells a b), some (.v (.int many)), none, none, none] := rfl
  have go : ∀ (a' b' : Int) (x2 x3 : Option O), 0 ≤ a' → a' ≤ a + 1 → fs__law_take [some (JG cells a b), some (.v (.int many)), none, none, none] = (seqF (setF 4 (op2F fmodD (b1F intD (bD (b2F ixD (bS 0) (cF (.int 2))))) (varF 1))) (seqF (setItF (bS 0) (cF (.int 2)) (op2F fdivD (b2F ixD (bS 0) (cF (.int 2))) (varF 1))) (retF (varF 4)))) [some (JG cells a' b'), some (.v (.int many)), x2, x3, none] →
      ∃ x a' b', p__law_take [JG cells a b, .v (.int many)] = .ok (.v (.int x)) [JG cells a' b', .v (.int many)] ∧ 0 ≤ x ∧ x < many ∧ 0 ≤ a' ∧ a' ≤ a + 1 := by
    intro a' b' x2 x3 h1 h2 e
    refine ⟨b'.fmod many, a', b'.fdiv many, ?_, (fmod_range h0).1, (fmod_range h0).2, h1, h2⟩
    unfold p__law_take
    rw [hst, e, fin]
    rfl
  by_cases hb0 : b = 0
  · subst hb0
    -- the cell
    obtain ⟨c0, e0⟩ : ∃ c0 : Int, (ifSF (testF (op2F (ibD fun i j => decide (i < j)) (varF 2) (b1F lenD (bD (b2F ixD (bS 0) (cF (.int 0))))))) (setF 3 (op2F plusD (op2F mulD (cF (.int 2)) (b1F absD (bD (b2F ixD (bD (b2F ixD (bS 0) (cF (.int 0)))) (varF 2))))) (b1F intD (bD (op2F (ibD fun i j => decide (i < j)) (b2F ixD (bD (b2F ixD (bS 0) (cF (.int 0)))) (varF 2)) (cF (.int 0))))))) nextF) [some (JG cells a 0), some (.v (.int many)), some (.v (.int a)), some (.v (.int (3 * a + 5))), none] = .nx [some (JG cells a 0), some (.v (.int many)), some (.v (.int a)), some (.v (.int c0)), none] ∧ 0 ≤ c0 := by
      by_cases hal : a < (cells.length : Int)
      · obtain ⟨n, rfl⟩ := Int.eq_ofNat_of_zero_le ha
        have hn : n < cells.length := by omega
        have hat : L2.atI (cells.map D.int) (n : Int) = some (.int cells[n]) := by
          rw [v_atI (n := n) rfl (by rw [List.length_map]; exact hn), List.getElem?_map, List.getElem?_eq_getElem hn]; rfl
        generalize cells[n] = z at *
        by_cases hz : z < 0
        · exact ⟨2 * (-z) + 1, by simp [hal, hat, hz, abs_if], by omega⟩
        · exact ⟨2 * z + 0, by simp [hal, hat, hz, abs_if], by omega⟩
      · exact ⟨3 * a + 5, by simp [hal], by omega⟩
    obtain ⟨e0, hc0⟩ := e0
    obtain ⟨c2, e2⟩ : ∃ c2 : Int, (ifSF (testF (op2F (ibD fun i j => decide (i < j)) (varF 3) (op2F powBD (cF (.int 10)) (cF (.int 18))))) (setF 3 (op2F fmodD (b1F intD (bD (op2F powBD (op2F plusD (op2F plusD (op2F mulD (varF 3) (cF (.int 2654435761))) (op2F mulD (varF 2) (cF (.int 40503)))) (cF (.int 977))) (cF (.int 3))))) (cF (.int 618970019642690137449562111)))) nextF) [some (JG cells a 0), some (.v (.int many)), some (.v (.int a)), some (.v (.int c0)), none] = .nx [some (JG cells a 0), some (.v (.int many)), some (.v (.int a)), some (.v (.int c2)), none] := by
      by_cases hc : c0 < 1000000000000000000
      · have s1 : (c0 * 2654435761 + a * 40503 + 977).natAbs < 2 ^ 1000 := Nat.lt_of_lt_of_le (show _ < 2 ^ 200 by omega) (Nat.pow_le_pow_right (by decide) (by decide))
        have e3 := pow3 s1
        exact ⟨_, by simp [pow18, t18, hc, e3]; rfl⟩
      · exact ⟨c0, by simp [pow18, t18, hc]⟩
    refine go (a + 1) c2 (some (.v (.int a))) (some (.v (.int c2))) (by omega) (by omega) ?_
    unfold fs__law_take
    generalize (seqF (setF 4 (op2F fmodD (b1F intD (bD (b2F ixD (bS 0) (cF (.int 2))))) (varF 1))) (seqF (setItF (bS 0) (cF (.int 2)) (op2F fdivD (b2F ixD (bS 0) (cF (.int 2))) (varF 1))) (retF (varF 4)))) = REST
    generalize (ifSF (testF (op2F (ibD fun i j => decide (i < j)) (varF 2) (b1F lenD (bD (b2F ixD (bS 0) (cF (.int 0))))))) (setF 3 (op2F plusD (op2F mulD (cF (.int 2)) (b1F absD (bD (b2F ixD (bD (b2F ixD (bS 0) (cF (.int 0)))) (varF 2))))) (b1F intD (bD (op2F (ibD fun i j => decide (i < j)) (b2F ixD (bD (b2F ixD (bS 0) (cF (.int 0)))) (varF 2)) (cF (.int 0))))))) nextF) = F0 at *
    generalize (ifSF (testF (op2F (ibD fun i j => decide (i < j)) (varF 3) (op2F powBD (cF (.int 10)) (cF (.int 18))))) (setF 3 (op2F fmodD (b1F intD (bD (op2F powBD (op2F plusD (op2F plusD (op2F mulD (varF 3) (cF (.int 2654435761))) (op2F mulD (varF 2) (cF (.int 40503)))) (cF (.int 977))) (cF (.int 3))))) (cF (.int 618970019642690137449562111)))) nextF) = F2 at *
    simp [e0, e2, hx1, hx2, v_eqI]
  · refine go a b none none ha (by omega) ?_
    unfold fs__law_take
    generalize (seqF (setF 4 (op2F fmodD (b1F intD (bD (b2F ixD (bS 0) (cF (.int 2))))) (varF 1))) (seqF (setItF (bS 0) (cF (.int 2)) (op2F fdivD (b2F ixD (bS 0) (cF (.int 2))) (varF 1))) (retF (varF 4)))) = REST
    simp [v_eqI, hb0]
section
variable {r s : Int × Int} {d d' v v' : Nat}
theorem law_plus_y (h1 : Dy d v r) (h2 : Dy d' v' s) (hd : d + d' + 2 ≤ 9000) (hv : v + v' ≤ 90000000) : p__law_plus [.v (rD r), .v (rD s)] = .ok (.v (rD (addP r s))) [.v (rD r), .v (rD s)] := by
  have m1 : MulC r.1 s.2 := mulC_sz h1.top h2.bot (by omega) (by omega) (by omega)
  have m2 : MulC s.1 r.2 := mulC_sz h2.top h1.bot (by omega) (by omega) (by omega)
  have m3 : MulC r.2 s.2 := mulC_sz h1.bot h2.bot (by omega) (by omega) (by omega)
  have e := law_low_v (a := r.1 * s.2 + s.1 * r.2) (bot_ne h1.isr h2.isr) (log_of (h1.bot.mul h2.bot) (by omega) (by omega))
  simp [p__law_plus, fs__law_plus, m1, m2, m3, e, addP]
theorem law_by_y (h1 : Dy d v r) (h2 : Dy d' v' s) (hd : d + d' + 2 ≤ 9000) (hv : v + v' ≤ 90000000) : p__law_by [.v (rD r), .v (rD s)] = .ok (.v (rD (mulP r s))) [.v (rD r), .v (rD s)] := by
  have m1 : MulC r.1 s.1 := mulC_sz h1.top h2.top (by omega) (by omega) (by omega)
  have m3 : MulC r.2 s.2 := mulC_sz h1.bot h2.bot (by omega) (by omega) (by omega)
  have e := law_low_v (a := r.1 * s.1) (bot_ne h1.isr h2.isr) (log_of (h1.bot.mul h2.bot) (by omega) (by omega))
  simp [p__law_by, fs__law_by, m1, m3, e, mulP]
end
theorem dy_low {a b : Int} {v : Nat} (hb : 0 < b) (hd : b ∣ 2520) (ha : (a.natAbs : Int) ≤ 2 ^ v) : Dy 12 v (lowP a b) := by
  have hb' : b ≠ 0 := by omega
  have hr := low_isR (a := a) hb'
  refine ⟨hr, ⟨1, by decide, Int.dvd_trans (low_den hb') (by rw [Int.pow_succ, Int.pow_zero, Int.one_mul]; exact hd)⟩, ?_⟩
  have hc := low_cross (a := a) hb'
  have hp := hr.pos
  have e := abs_cross hc (by omega) (by omega)
  refine Int.le_of_mul_le_mul_right ?_ hb
  rw [e]
  have h1 : (1 : Int) ≤ b := by omega
  have h2 : (0 : Int) ≤ 2 ^ v := Int.le_of_lt (Int.pow_pos (by decide))
  calc (a.natAbs : Int) * (lowP a b).2 ≤ 2 ^ v * (lowP a b).2 := Int.mul_le_mul_of_nonneg_right ha (by omega)
    _ ≤ 2 ^ v * (lowP a b).2 * b := by
      have : (0 : Int) ≤ 2 ^ v * (lowP a b).2 := Int.mul_nonneg h2 (by omega)
      calc 2 ^ v * (lowP a b).2 = 2 ^ v * (lowP a b).2 * 1 := (Int.mul_one _).symm
        _ ≤ _ := Int.mul_le_mul_of_nonneg_left h1 this
theorem dy_int {a : Int} {v : Nat} (ha : (a.natAbs : Int) ≤ 2 ^ v) : Dy 12 v (a, 1) := by
  refine ⟨⟨show (0 : Int) < 1 by decide, by simp⟩, ⟨0, by decide, show (1 : Int) ∣ 2520 ^ 0 by decide⟩, ?_⟩
  simpa using ha
theorem law_ratio_v {cells : List Int} {a b : Int} (ha : 0 ≤ a) (hb : a < 2 ^ 45) : ∃ r a' b', p__law_ratio [JG cells a b] = .ok (.v (rD r)) [JG cells a' b'] ∧ Dy 12 4 r ∧ 0 ≤ a' ∧ a' ≤ a + 3 := by
  obtain ⟨x, a1, b1, e1, x0, x1, h1, h1'⟩ := law_take_v (cells := cells) (b := b) (many := 8) ha (by omega) (by decide) (by decide)
  by_cases hx : x < 6
  · obtain ⟨y, a2, b2, e2, y0, y1, h2, h2'⟩ := law_take_v (cells := cells) (b := b1) (many := 7) h1 (by omega) (by decide) (by decide)
    refine ⟨(y - 3, 1), a2, b2, ?_, dy_int (by omega), h2, by omega⟩
    simp [p__law_ratio, fs__law_ratio, e1, e2, hx, line_le]
  · obtain ⟨y, a2, b2, e2, y0, y1, h2, h2'⟩ := law_take_v (cells := cells) (b := b1) (many := 19) h1 (by omega) (by decide) (by decide)
    obtain ⟨z, a3, b3, e3, z0, z1, h3, h3'⟩ := law_take_v (cells := cells) (b := b2) (many := 4) h2 (by omega) (by decide) (by decide)
    have hz0 : 1 + z ≠ 0 := by omega
    have sb : Sz 10 (1 + z) := by unfold Sz; omega
    have el := law_low_v (a := y - 9) hz0 (log_of sb (by decide) (by decide))
    have hd2 : 1 + z ∣ 2520 := by
      have : z = 0 ∨ z = 1 ∨ z = 2 ∨ z = 3 := by omega
      rcases this with rfl | rfl | rfl | rfl <;> decide
    refine ⟨lowP (y - 9) (1 + z), a3, b3, ?_, dy_low (by omega) hd2 (by omega), h3, by omega⟩
    simp [p__law_ratio, fs__law_ratio, e1, e2, e3, hx, el]
end K74

set_option Elab.async false
set_option linter.all false
set_option maxRecDepth 100000
set_option maxHeartbeats 4000000
namespace K74
open PySem Fx Rt Pq Pg K25
theorem law_poly_v {P : List Row} (hn : (P.map (·.1)).Nodup) (hl : P.length ≤ 1000) : p__law_poly [.v (.tb (dictD P))] = .ok (.v (polyD (polyT (nz P)))) [.v (.tb (dictD P))] := by
  have h1 := comp_if (vs := [2]) (g := nameG 2) (ft := k__law_poly_1t) (fe := k__law_poly_1e) (fun p : Row => decide (p.2.1 ≠ 0)) (fun p : Row => eD p.1) (fun p : Row => kD p.1) (ρ := [some (.v (.tb (dictD P))), none, none, none]) P fun p hp =>
    ⟨[some (.v (.tb (dictD P))), none, some (.v (eD p.1)), none], rfl, by
      have hg : get P p.1 = some p.2 := (mem_get hn).mp hp
      simp [k__law_poly_1t, hg, v_eqIt], fun _ => by
      simp [k__law_poly_1e, sumSD, sum_ints, sum_ints2, C1.seq?, line_le], rfl⟩
  change compGo [2] (nameG 2) (noEx k__law_poly_1t) (noEx k__law_poly_1e) (P.map fun p => eD p.1) [some (.v (.tb (dictD P))), none, none, none] = .ok ((nz P).map fun p => kD p.1) _ at h1
  have hnl : (nz P).length ≤ 1000 := Nat.le_trans (List.length_filter_le _ _) hl
  have h2 := sort_k (nz P)
  have h3 := keysOk_k (nz P)
  have hkl : (P.map fun p => eD p.1).length < sizeLine := line_lt (by rw [List.length_map]; omega)
  have hs : sortLF (frzF (lcF (keysTF (varF 0)) [2] (nameG 2) k__law_poly_1t k__law_poly_1e)) [some (.v (.tb (dictD P))), none, none, none] = .ok (.c (.lst ((sortA (nz P)).map fun p => kD p.1))) [some (.v (.tb (dictD P))), none, none, none] := by
    have ha : frzF (lcF (keysTF (varF 0)) [2] (nameG 2) k__law_poly_1t k__law_poly_1e) [some (.v (.tb (dictD P))), none, none, none] = .ok (.lst ((nz P).map fun p => kD p.1)) [some (.v (.tb (dictD P))), none, none, none] := by
      have hk := dictD_keys P
      generalize ((nz P).map fun p => kD p.1) = zs at *
      generalize (P.map fun p => eD p.1) = ks at *
      simp [hk, hkl, h1, plainVs]
    unfold sortLF
    rw [ha, R.bind_ok]
    simp only []
    rw [if_pos ⟨h3, by rw [List.length_map]; exact line_le (by omega)⟩, h2]
  have hmem : ∀ p ∈ (sortA (nz P)).reverse, p ∈ P := fun p hp => (List.mem_filter.mp ((sortA_perm (nz P)).mem_iff.mp (List.mem_reverse.mp hp))).1
  have h4 := comp_of (vs := [3, 2]) (g := tupG 2 (consG (nameG 3) (consG (nameG 2) nilG))) (ft := yesF) (fe := k__law_poly_0e) (fun p : Row => kD p.1) (fun p : Row => rowD p) (ρ := [some (.v (.tb (dictD P))), some (.v (.lst ((sortA (nz P)).map fun p => kD p.1))), none, none]) (sortA (nz P)).reverse fun p hp =>
    ⟨[some (.v (.tb (dictD P))), some (.v (.lst ((sortA (nz P)).map fun p => kD p.1))), some (.v (eD p.1)), some (.v (.int p.1.sum))], [some (.v (.tb (dictD P))), some (.v (.lst ((sortA (nz P)).map fun p => kD p.1))), some (.v (eD p.1)), some (.v (.int p.1.sum))], rfl, rfl, by
      have hg : get P p.1 = some p.2 := (mem_get hn).mp (hmem p hp)
      simp [k__law_poly_0e, hg, line_le], rfl⟩
  rw [List.map_reverse] at h4
  have hsl : ((sortA (nz P)).map fun p => kD p.1).length < sizeLine := line_lt (by rw [List.length_map, (sortA_perm _).length_eq]; omega)
  unfold p__law_poly fs__law_poly
  generalize sortLF (frzF (lcF (keysTF (varF 0)) [2] (nameG 2) k__law_poly_1t k__law_poly_1e)) = S at *
  simp only [polyD, polyT]
  generalize (sortA (nz P)).reverse.map (fun p => rowD p) = out at *
  generalize (sortA (nz P)).map (fun p => kD p.1) = zs at *
  simp [hs, h4, hsl, plainVs]
structure Tw (n N G d v : Nat) (P : List Row) : Prop where
  nd : (P.map (·.1)).Nodup
  ex : ∀ p ∈ P, p.1.length = n ∧ (∀ i ∈ p.1, (0 : Int) ≤ i) ∧ deg p.1 ≤ G
  ok : ∀ p ∈ P, Dy d v p.2
  len : P.length ≤ N
abbrev Td (n N G : Nat) := Tw n N G 12 4
theorem Tw.tg {n N G d v : Nat} {P : List Row} (h : Tw n N G d v P) : Tg n N G d v (nz P) :=
  ⟨h.nd.sublist (List.Sublist.map _ List.filter_sublist), fun p hp => h.ex p (List.mem_filter.mp hp).1, fun p hp => by
    obtain ⟨h1, h2⟩ := List.mem_filter.mp hp
    exact ⟨h.ok p h1, by simpa using h2⟩, Nat.le_trans (List.length_filter_le _ _) h.len⟩
theorem Tw.put {n N G d v : Nat} {P : List Row} (h : Tw n N G d v P) {e : Ex} {r : Ra} (he : e.length = n ∧ (∀ i ∈ e, (0 : Int) ≤ i) ∧ deg e ≤ G) (hr : Dy d v r) : Tw n (N + 1) G d v (Pq.put P e r) := by
  have nd := nodup_put h.nd e r
  refine ⟨nd, fun p hp => ?_, fun p hp => ?_, Nat.le_trans (put_len P e r) (by have := h.len; omega)⟩
  all_goals
    have := (mem_get nd).mp hp
    rw [get_put] at this
    by_cases hx : p.1 = e
    · rw [if_pos hx] at this
      first | (rw [hx]; exact he) | (rw [← Option.some.inj this]; exact hr)
    · rw [if_neg hx] at this
      have hq := (mem_get h.nd).mpr this
      first | exact h.ex p hq | exact h.ok p hq
section
variable {cells : List Int} {n : Nat} (hn0 : 0 < n) (hn : n ≤ 12)
include hn0 hn
theorem drawn_turn {e : Ex} (he : e.length = n) {a b : Int} (ha : 0 ≤ a) (hb : a < 2 ^ 45) {o2 o3 o4 o5 o7 o8 : Option O} :
    ∃ (j : Nat) (a' b' : Int), j < n ∧ 0 ≤ a' ∧ a' ≤ a + 1 ∧ k__law_drawn_1b [some (JG cells a b), some (.v (.int n)), o2, o3, o4, o5, some (.c (.lst (e.map .int))), o7, o8] = .nx [some (JG cells a' b'), some (.v (.int n)), o2, o3, o4, o5, some (.c (.lst ((incE e j).map .int))), o7, some (.v (.int j))] := by
  obtain ⟨x, a1, b1, e1, x0, x1, h1, h1'⟩ := law_take_v (cells := cells) (b := b) (many := (n : Int)) ha (by omega) (by omega) (by omega)
  obtain ⟨j, rfl⟩ := Int.eq_ofNat_of_zero_le x0
  have hj : j < n := by omega
  obtain ⟨x, hx1, hx2⟩ := set_inc e (j := j) (by omega)
  have hix : L2.ixN (e.map D.int).length (j : Int) = some j := ixN_nat (by rw [List.length_map]; omega)
  have hn1 : (0 : Int) < n := by omega
  refine ⟨j, a1, b1, hj, h1, h1', ?_⟩
  generalize e.map D.int = es at *
  rw [← hx2]
  simp [k__law_drawn_1b, e1, hx1, hix, hn0]
theorem drawn_row {G N : Nat} (hG : G ≤ 3) (hN : N ≤ 20) {P : List Row} (hP : Td n N G P) {a b : Int} (ha : 0 ≤ a) (hb : a < 2 ^ 40) {o2 o5 o6 o7 o8 : Option O} :
    ∃ P' a' b' o6' o7' o8', Td n (N + 1) G P' ∧ 0 ≤ a' ∧ a' ≤ a + 7 ∧ k__law_drawn_0b [some (JG cells a b), some (.v (.int n)), o2, some (.v (.int G)), some (.c (.tb (dictD P))), o5, o6, o7, o8] = .nx [some (JG cells a' b'), some (.v (.int n)), o2, some (.v (.int G)), some (.c (.tb (dictD P'))), o5, o6', o7', o8'] := by
  obtain ⟨s, a1, b1, e1, s0, s1, h1, h1'⟩ := law_take_v (cells := cells) (b := b) (many := (G : Int) + 1) ha (by omega) (by omega) (by omega)
  obtain ⟨s, rfl⟩ := Int.eq_ofNat_of_zero_le s0
  obtain ⟨ρ', el, e, a2, b2, o7', o8', hE, h2, h2', rfl⟩ := for_range_inv (g := nameG 7) (b := k__law_drawn_1b) (lo := 0) (n := s) (fun t ρ => ∃ (e : Ex) (a' b' : Int) (o7 o8 : Option O), (e.length = n ∧ (∀ i ∈ e, (0 : Int) ≤ i) ∧ deg e ≤ t) ∧ 0 ≤ a' ∧ a' ≤ a1 + t ∧ ρ = [some (JG cells a' b'), some (.v (.int n)), o2, some (.v (.int G)), some (.c (.tb (dictD P))), o5, some (.c (.lst (e.map .int))), o7, o8]) (by
    rintro t ρ ht ⟨e, a', b', o7, o8, hE, h3, h3', rfl⟩
    obtain ⟨j, a3, b3, hj, h4, h4', e4⟩ := drawn_turn (cells := cells) hn0 hn hE.1 (a := a') (b := b') h3 (by omega) (o2 := o2) (o3 := some (.v (.int G))) (o4 := some (.c (.tb (dictD P)))) (o5 := o5) (o7 := some (.v (.int (0 + (t : Int))))) (o8 := o8)
    exact ⟨_, _, rfl, e4, incE e j, a3, b3, _, _, ⟨by rw [inc_len]; exact hE.1, inc_nn hE.2.1 j, by have := deg_inc e j; omega⟩, h4, by omega, rfl⟩) (ρ := [some (JG cells a1 b1), some (.v (.int n)), o2, some (.v (.int G)), some (.c (.tb (dictD P))), o5, some (.c (.lst ((zeE n).map .int))), o7, o8]) ⟨zeE n, a1, b1, o7, o8, ⟨List.length_replicate, ze_nn n, by rw [deg_ze]; exact Nat.le_refl _⟩, h1, by omega, rfl⟩
  obtain ⟨r, a3, b3, e3, hr, h3, h3'⟩ := law_ratio_v (cells := cells) (a := a2) (b := b2) h2 (by omega)
  refine ⟨Pq.put P e r, a3, b3, some (.c (.lst (e.map .int))), o7', o8', hP.put ⟨hE.1, hE.2.1, by omega⟩ hr, h3, by omega, ?_⟩
  have hput := putB_d P e r
  have hk := keyT_e e
  have hl : (e.map D.int).length ≤ sizeLine := line_le (by rw [List.length_map, hE.1]; omega)
  have hpl : P.length < sizeLine := line_lt (by have := hP.len; omega)
  have hn1 : (n : Int) ≤ 1000 := by omega
  have hn2 : (-1000 : Int) ≤ n := by omega
  have hrp := rep0 (n := n) (by omega)
  have hrg := rg_le (m := s) (by omega)
  generalize Pq.put P e r = P2 at *
  generalize (zeE n).map D.int = zs at *
  simp only [rD, eD] at hput e3 ⊢
  generalize e.map D.int = ee at *
  have hdl : (dictD P).length < sizeLine := by rw [dictD_len]; exact hpl
  generalize dictD P = dd at *
  generalize dictD P2 = dd' at *
  simp [k__law_drawn_0b, e1, hn1, hn2, hrp, hrg, el, hk, e3, hput, line_le, hdl, hl]
theorem law_drawn_v {G N : Nat} (hG : G ≤ 3) (hN : N ≤ 20) {a b : Int} (ha : 0 ≤ a) (hb : a < 2 ^ 39) :
    ∃ P a' b', p__law_drawn [JG cells a b, .v (.int n), .v (.int N), .v (.int G)] = .ok (.v (polyD (polyT P))) [JG cells a' b', .v (.int n), .v (.int N), .v (.int G)] ∧ Tg n N G 12 4 P ∧ 0 ≤ a' ∧ a' ≤ a + 140 := by
  obtain ⟨ρ', el, P, a', b', o5, o6, o7, o8, hP, h1, h1', rfl⟩ := for_range_inv (g := nameG 5) (b := k__law_drawn_0b) (lo := 0) (n := N) (fun t ρ => ∃ (P : List Row) (a' b' : Int) (o5 o6 o7 o8 : Option O), Td n t G P ∧ 0 ≤ a' ∧ a' ≤ a + 7 * t ∧ ρ = [some (JG cells a' b'), some (.v (.int n)), some (.v (.int N)), some (.v (.int G)), some (.c (.tb (dictD P))), o5, o6, o7, o8]) (by
    rintro t ρ ht ⟨P, a', b', o5, o6, o7, o8, hP, h1, h1', rfl⟩
    obtain ⟨P', a2, b2, o6', o7', o8', hP', h2, h2', e⟩ := drawn_row (cells := cells) hn0 hn hG (by omega) hP (a := a') (b := b') h1 (by omega) (o2 := some (.v (.int N))) (o5 := some (.v (.int (0 + (t : Int))))) (o6 := o6) (o7 := o7) (o8 := o8)
    exact ⟨_, _, rfl, e, P', a2, b2, _, _, _, _, hP', h2, by omega, rfl⟩) (ρ := [some (JG cells a b), some (.v (.int n)), some (.v (.int N)), some (.v (.int G)), some (.c (.tb (dictD []))), none, none, none, none]) ⟨[], a, b, none, none, none, none, ⟨by simp, (fun _ h => nomatch h), (fun _ h => nomatch h), Nat.zero_le _⟩, ha, by omega, rfl⟩
  refine ⟨nz P, a', b', ?_, hP.tg, h1, by omega⟩
  have ep := law_poly_v hP.nd (by have := hP.len; omega)
  have hrg := rg_le (m := N) (by omega)
  rw [show dictD [] = [] from rfl] at el
  generalize polyD (polyT (nz P)) = out at *
  generalize dictD P = dd at *
  simp [p__law_drawn, fs__law_drawn, hrg, el, ep]
end
end K74

set_option Elab.async false
set_option linter.all false
set_option maxRecDepth 100000
set_option maxHeartbeats 4000000
namespace K74
open PySem Fx Rt Pq Pg K25
theorem law_const_v {n : Nat} (hn : n ≤ 24) {r : Ra} : p__law_const [.v (.int n), .v (rD r)] = .ok (.v (polyD (polyT (nz [(zeE n, r)])))) [.v (.int n), .v (rD r)] := by
  have e4 := times_zero n hn
  have ep := law_poly_v (P := [(zeE n, r)]) (by simp) (by simp)
  have hk := keyT_e (List.replicate n 0)
  generalize polyD (polyT (nz [(zeE n, r)])) = out at *
  unfold dictD at ep
  rw [List.map_cons, List.map_nil] at ep
  unfold zeE at ep
  generalize (List.replicate n (0 : Int)) = z at *
  simp only [rD, eD] at ep ⊢
  simp [p__law_const, fs__law_const, e4, hk, line_le, ep]
theorem dictP_at {i : Nat} {ρ : Fx.Env} {T : List Row} (h0 : ρ[i]? = some (some (.v (polyD T)))) (h : (T.map (·.1)).Nodup) (hl : T.length ≤ 1000) : dictPF (bS i) ρ = .ok (.c (.tb (dictD T))) ρ := by
  have e1 := pairs_of T
  have e2 := putAll_d T [] (by simpa using h)
  have hg : Pl.get (.sl i) ρ = some (.val (polyD T)) := by simp [h0]
  unfold dictPF
  simp only [e_bS, h0, R.bind_ok]
  rw [hg]
  show (match (T.map rowD).mapM pairOfD with
      | some ps => if ps.length ≤ sizeLine then R.ok (O.c (.tb (putAllB [] ps))) ρ else .stuck
      | none => .stuck) = _
  rw [e1]
  show (if (dictD T).length ≤ sizeLine then _ else _) = _
  rw [if_pos (line_le (by rw [dictD_len]; omega))]
  have : putAllB [] (dictD T) = dictD T := e2
  rw [this]
theorem tw_of {n N G d v : Nat} {P : List Row} (h : Tg n N G d v P) : Tw n N G d v P := ⟨h.nd, h.ex, fun p hp => (h.ok p hp).1, h.len⟩
theorem Tw.poly {n N G d v : Nat} {P : List Row} (h : Tw n N G d v P) : Tw n N G d v (polyT P) :=
  ⟨((polyT_perm P).map _).nodup_iff.mpr h.nd, fun p hp => h.ex p (polyT_mem.mp hp), fun p hp => h.ok p (polyT_mem.mp hp), by rw [polyT_len]; exact h.len⟩
theorem Tw.mono {n N G d v N' G' d' v' : Nat} {P : List Row} (h : Tw n N G d v P) (h1 : N ≤ N') (h2 : G ≤ G') (h3 : d ≤ d') (h4 : v ≤ v') : Tw n N' G' d' v' P :=
  ⟨h.nd, fun p hp => ⟨(h.ex p hp).1, (h.ex p hp).2.1, Nat.le_trans (h.ex p hp).2.2 h2⟩, fun p hp => (h.ok p hp).mono h3 h4, Nat.le_trans h.len h1⟩
def stepS (T : List Row) (p : Row) : List Row := Pq.put T p.1 (addP ((get T p.1).getD (0, 1)) p.2)
def sumT (T Q : List Row) : List Row := Q.foldl stepS T
theorem stepS_dy {n N G d v : Nat} {T : List Row} (h : Tw n N G d v T) {p : Row} (hr : Dy d v p.2) : Dy d v ((get T p.1).getD (0, 1)) ∧ Dy d (v + 1) (addP ((get T p.1).getD (0, 1)) p.2) := by
  have h1 : Dy d v ((get T p.1).getD (0, 1)) := by
    cases hg : get T p.1 with
    | none => exact dy_0.mono (Nat.zero_le _) (Nat.zero_le _)
    | some x => exact h.ok (p.1, x) ((mem_get h.nd (p := (p.1, x))).mpr hg)
  exact ⟨h1, dy_add h1 hr⟩
theorem stepS_tw {n N G d v : Nat} {T : List Row} (h : Tw n N G d v T) {p : Row} (he : p.1.length = n ∧ (∀ i ∈ p.1, (0 : Int) ≤ i) ∧ deg p.1 ≤ G) (hr : Dy d v p.2) : Tw n (N + 1) G d (v + 1) (stepS T p) :=
  Tw.put (h.mono (Nat.le_refl _) (Nat.le_refl _) (Nat.le_refl _) (Nat.le_succ _)) he (stepS_dy h hr).2
section
variable {n G d v : Nat} (hd : d + d + 2 ≤ 9000)
include hd
theorem sum_loop {o0 o1 : Option O} : ∀ (Q T : List Row) (N m : Nat) (o3 o4 : Option O), Tw n N G d (v + m) T → (∀ p ∈ Q, (p.1.length = n ∧ (∀ i ∈ p.1, (0 : Int) ≤ i) ∧ deg p.1 ≤ G) ∧ Dy d v p.2) → N + Q.length ≤ 1000 → 2 * (v + m + Q.length) ≤ 90000000 →
    Tw n (N + Q.length) G d (v + (m + Q.length)) (sumT T Q) ∧ ∃ o3' o4', forF (tupG 2 (consG (nameG 3) (consG (nameG 4) nilG))) k__law_sum_0b (Q.map rowD) [o0, o1, some (.c (.tb (dictD T))), o3, o4] = .nx [o0, o1, some (.c (.tb (dictD (sumT T Q)))), o3', o4']
  | [], T, N, m, o3, o4, hT, _, _, _ => ⟨hT, o3, o4, rfl⟩
  | p :: Q, T, N, m, o3, o4, hT, hQ, hN, hv => by
    rw [List.length_cons] at hN hv
    obtain ⟨he, hr⟩ := hQ p List.mem_cons_self
    have hr' := hr.mono (Nat.le_refl d) (Nat.le_add_right v m)
    obtain ⟨g1, g2⟩ := stepS_dy hT hr'
    have hs := stepS_tw hT he hr'
    obtain ⟨ih, o3', o4', e2⟩ := sum_loop Q (stepS T p) (N + 1) (m + 1) (some (.v (eD p.1))) (some (.v (rD p.2))) hs (fun q hq => hQ q (List.mem_cons_of_mem _ hq)) (by omega) (by omega)
    refine ⟨?_, o3', o4', ?_⟩
    · rw [List.length_cons, show N + (Q.length + 1) = N + 1 + Q.length by omega, show m + (Q.length + 1) = m + 1 + Q.length by omega]
      exact ih
    · have ea := law_plus_y g1 hr' (by omega) (by omega)
      have hput := putB_d T p.1 (addP ((get T p.1).getD (0, 1)) p.2)
      have hpl : (dictD T).length < sizeLine := by rw [dictD_len]; exact line_lt (by have := hT.len; omega)
      have hst : stepS T p = Pq.put T p.1 (addP ((get T p.1).getD (0, 1)) p.2) := rfl
      have hk := keyT_e p.1
      have hlk := lookB_d T p.1
      rw [List.map_cons, for_step (ρ1 := [o0, o1, some (.c (.tb (dictD T))), some (.v (eD p.1)), some (.v (rD p.2))]) (ρ2 := [o0, o1, some (.c (.tb (dictD (stepS T p)))), some (.v (eD p.1)), some (.v (rD p.2))]) rfl ?_, e2]
      · rfl
      · clear e2 ih
        rw [hst]
        cases hg : get T p.1 with
        | none =>
          rw [hg] at hlk ea hput hst
          simp only [Option.getD_none, Option.map_none] at ea hput hlk ⊢
          generalize Pq.put T p.1 (addP (0, 1) p.2) = T2 at *
          simp only [rD, eD] at ea hput ⊢
          generalize p.1.map D.int = ee at *
          generalize dictD T = dd at *
          simp [k__law_sum_0b, get2TF, getOrTb, hk, hlk, ea, hput, hpl, line_le]
        | some x =>
          rw [hg] at hlk ea hput hst
          simp only [Option.getD_some, Option.map_some] at ea hput hlk ⊢
          generalize Pq.put T p.1 (addP x p.2) = T2 at *
          simp only [rD, eD] at ea hput hlk ⊢
          generalize p.1.map D.int = ee at *
          generalize dictD T = dd at *
          simp [k__law_sum_0b, get2TF, getOrTb, hk, hlk, ea, hput, hpl, line_le]
theorem law_sum_v {N M : Nat} {P Q : List Row} (hP : Tg n N G d v P) (hQ : Tg n M G d v Q) (hN : N + M ≤ 1000) (hv : 2 * (v + M) ≤ 90000000) :
    p__law_sum [.v (polyD (polyT P)), .v (polyD (polyT Q))] = .ok (.v (polyD (polyT (nz (sumT (polyT P) (polyT Q)))))) [.v (polyD (polyT P)), .v (polyD (polyT Q))] ∧ Tg n (N + M) G d (v + M) (nz (sumT (polyT P) (polyT Q))) := by
  have h1 := (tw_of hP).poly
  have h2 := (tw_of hQ).poly
  have hl2 : (polyT Q).length ≤ M := h2.len
  obtain ⟨hS, o3, o4, e⟩ := sum_loop hd (o0 := some (.v (polyD (polyT P)))) (o1 := some (.v (polyD (polyT Q)))) (polyT Q) (polyT P) N 0 none none (n := n) (G := G) (v := v) h1 (fun p hp => ⟨h2.ex p hp, h2.ok p hp⟩) (by omega) (by omega)
  have hS' := hS.mono (N' := N + M) (G' := G) (d' := d) (v' := v + M) (by omega) (Nat.le_refl _) (Nat.le_refl _) (by omega)
  refine ⟨?_, hS'.tg⟩
  have ep := law_poly_v hS'.nd (by have := hS'.len; omega)
  have ed := dictP_at (i := 0) (ρ := [some (.v (polyD (polyT P))), some (.v (polyD (polyT Q))), none, none, none]) rfl h1.nd (by have := h1.len; omega)
  generalize polyD (polyT (nz (sumT (polyT P) (polyT Q)))) = out at *
  generalize dictD (sumT (polyT P) (polyT Q)) = ds at *
  generalize dictD (polyT P) = dp at *
  simp only [polyD] at e ed ⊢
  generalize (polyT Q).map rowD = qs at *
  generalize (polyT P).map rowD = ps at *
  simp [p__law_sum, fs__law_sum, ed, e, ep]
end
section
variable {B V n N G d0 v0 : Nat} {xs : List Ra} (hx : ∀ x ∈ xs, Dy B V x) (hl : xs.length = n) (hn : n ≤ 12) (hd0 : 2 * (d0 + G * B) + 2 ≤ 9000) (hv0 : 2 * (v0 + G * V + N) ≤ 40000000) (hG1 : G ≤ 20)
include hx hl hn hd0 hv0 hG1
theorem lv_term {o0 o2 o3 o5 o6 : Option O} {e : Ex} {r : Ra} (he : deg e ≤ G ∧ e.length = n ∧ ∀ k ∈ e, 0 ≤ k) (hr : Dy d0 v0 r) (h3 : o3 = some (.v (eD e))) :
    ∃ o5' o6', forF (nameG 5) k__law_value_1b (rangeL 0 n) [o0, some (.v (ptD xs)), o2, o3, some (.v (rD r)), o5, o6] = .nx [o0, some (.v (ptD xs)), o2, o3, some (.v (rD (monP e xs r))), o5', o6'] := by
  subst h3
  obtain ⟨ρ', el, o5', o6', rfl⟩ := for_range_inv (g := nameG 5) (b := k__law_value_1b) (lo := 0) (n := n) (fun i ρ => ∃ o5 o6, ρ = [o0, some (.v (ptD xs)), o2, some (.v (eD e)), some (.v (rD (monP (e.take i) (xs.take i) r))), o5, o6]) (by
    rintro i ρ hi ⟨o5, o6, rfl⟩
    obtain ⟨k, hk⟩ : ∃ k, e[i]? = some k := ⟨_, List.getElem?_eq_getElem (by omega)⟩
    obtain ⟨x, hxi⟩ : ∃ x, xs[i]? = some x := ⟨_, List.getElem?_eq_getElem (by omega)⟩
    have hk0 : 0 ≤ k := he.2.2 k (List.mem_of_getElem? hk)
    obtain ⟨m, rfl⟩ := Int.eq_ofNat_of_zero_le hk0
    have hdg := deg_at hk
    rw [Int.toNat_natCast] at hdg
    have hxm := hx x (List.mem_of_getElem? hxi)
    have hp := monP_dy (e := e.take i) (xs := xs.take i) (D := B) (V := V) (fun y hy => hx y (List.mem_of_mem_take hy)) hr
    rw [monP_take e xs r i _ x hk hxi, Int.toNat_natCast]
    generalize monP (e.take i) (xs.take i) r = r0 at *
    have hix := pt_at2 hxi
    have hie : L2.atI (e.map D.int) (i : Int) = some (.int (m : Int)) := by
      rw [v_atI (n := i) rfl (by rw [List.length_map]; omega), List.getElem?_map, hk]; rfl
    have e0 : (0 : Int) + (i : Int) = (i : Int) := by omega
    obtain ⟨ρ2, el2, o6', rfl⟩ := for_range_inv (g := nameG 6) (b := k__law_value_2b) (lo := 0) (n := m) (fun j ρ => ∃ o6, ρ = [o0, some (.v (ptD xs)), o2, some (.v (eD e)), some (.v (rD (itP x j r0))), some (.v (.int (i : Int))), o6]) (by
      rintro j ρ hj ⟨o6, rfl⟩
      have h1 := itP_dy hp hxm j
      have hb1 : (deg (e.take i) + j + 1) * B ≤ G * B := Nat.mul_le_mul_right B (by omega)
      have hv1 : (deg (e.take i) + j + 1) * V ≤ G * V := Nat.mul_le_mul_right V (by omega)
      rw [Nat.add_mul, Nat.add_mul, Nat.one_mul] at hb1 hv1
      have em := law_by_y h1 hxm (by omega) (by omega)
      refine ⟨[o0, some (.v (ptD xs)), o2, some (.v (eD e)), some (.v (rD (itP x j r0))), some (.v (.int (i : Int))), some (.v (.int (0 + (j : Int))))], [o0, some (.v (ptD xs)), o2, some (.v (eD e)), some (.v (rD (itP x (j + 1) r0))), some (.v (.int (i : Int))), some (.v (.int (0 + (j : Int))))], rfl, ?_, _, rfl⟩
      have en : itP x (j + 1) r0 = mulP (itP x j r0) x := rfl
      rw [en]
      simp only [ptD, rD, eD] at em hix ⊢
      generalize (0 + (j : Int)) = jj
      generalize xs.map rD = pt at *
      simp [k__law_value_2b, em, hix]) (ρ := [o0, some (.v (ptD xs)), o2, some (.v (eD e)), some (.v (rD r0)), some (.v (.int (i : Int))), o6]) ⟨o6, rfl⟩
    have hrg := rg_le (m := m) (by omega)
    refine ⟨[o0, some (.v (ptD xs)), o2, some (.v (eD e)), some (.v (rD r0)), some (.v (.int (i : Int))), o6], [o0, some (.v (ptD xs)), o2, some (.v (eD e)), some (.v (rD (itP x m r0))), some (.v (.int (i : Int))), o6'], by rw [e0]; rfl, ?_, _, _, rfl⟩
    simp only [ptD, rD, eD] at el2 hie ⊢
    generalize xs.map rD = pt at *
    generalize e.map D.int = ee at *
    generalize rangeL 0 m = rl at *
    simp [k__law_value_1b, hie, hrg, el2]) (ρ := [o0, some (.v (ptD xs)), o2, some (.v (eD e)), some (.v (rD r)), o5, o6]) ⟨o5, o6, by cases e <;> cases xs <;> rfl⟩
  refine ⟨o5', o6', ?_⟩
  rw [List.take_of_length_le (by omega), List.take_of_length_le (by omega)] at el
  exact el
theorem law_value_v {P : List Row} (h : Tw n N G d0 v0 P) : p__law_value [.v (polyD P), .v (ptD xs)] = .ok (.v (rD (valP P xs))) [.v (polyD P), .v (ptD xs)] := by
  have key : ∀ (Q : List Row) (acc : Ra) (m : Nat) (o3 o4 o5 o6 : Option O), (∀ p ∈ Q, p ∈ P) → Dy (d0 + G * B) (v0 + G * V + m) acc → m + Q.length ≤ N →
      ∃ o3' o4' o5' o6', forF (tupG 2 (consG (nameG 3) (consG (nameG 4) nilG))) k__law_value_0b (Q.map rowD) [some (.v (polyD P)), some (.v (ptD xs)), some (.v (rD acc)), o3, o4, o5, o6] = .nx [some (.v (polyD P)), some (.v (ptD xs)), some (.v (rD (sumP acc Q xs))), o3', o4', o5', o6'] := by
    intro Q
    induction Q with
    | nil => exact fun acc m o3 o4 o5 o6 _ _ _ => ⟨o3, o4, o5, o6, rfl⟩
    | cons p Q ih =>
      intro acc m o3 o4 o5 o6 hQ hacc hm
      rw [List.length_cons] at hm
      have hp := hQ p List.mem_cons_self
      have h1 := h.ok p hp
      obtain ⟨h3, h4, h2⟩ := h.ex p hp
      obtain ⟨y5, y6, el⟩ := lv_term hx hl hn hd0 hv0 hG1 (o0 := some (.v (polyD P))) (o2 := some (.v (rD acc))) (o5 := o5) (o6 := o6) ⟨h2, h3, h4⟩ h1 (o3 := some (.v (eD p.1))) rfl
      have hm1 := (monP_dy (e := p.1) hx h1).mono (d' := d0 + G * B) (v' := v0 + G * V + m) (by have := Nat.mul_le_mul_right B h2; omega) (by have := Nat.mul_le_mul_right V h2; omega)
      have ea := law_plus_y hacc hm1 (by omega) (by omega)
      obtain ⟨z3, z4, z5, z6, e2⟩ := ih (addP acc (monP p.1 xs p.2)) (m + 1) (some (.v (eD p.1))) (some (.v (rD (monP p.1 xs p.2)))) y5 y6 (fun q hq => hQ q (List.mem_cons_of_mem _ hq)) (dy_add hacc hm1) (by omega)
      refine ⟨z3, z4, z5, z6, ?_⟩
      have hrg := rg_le (m := n) (by omega)
      have hel : ((p.1.map D.int).length : Int) = (n : Int) := by rw [List.length_map, h3]
      rw [List.map_cons, for_step (ρ1 := [some (.v (polyD P)), some (.v (ptD xs)), some (.v (rD acc)), some (.v (eD p.1)), some (.v (rD p.2)), o5, o6]) (ρ2 := [some (.v (polyD P)), some (.v (ptD xs)), some (.v (rD (addP acc (monP p.1 xs p.2)))), some (.v (eD p.1)), some (.v (rD (monP p.1 xs p.2))), y5, y6]) rfl ?_, e2]
      · rfl
      · clear e2 ih
        simp only [ptD, rD, eD] at el ea ⊢
        generalize polyD P = pp at *
        generalize p.1.map D.int = ee at *
        generalize xs.map rD = pt at *
        generalize rangeL 0 n = rl at *
        simp [k__law_value_0b, hel, hrg, el, ea]
  obtain ⟨z3, z4, z5, z6, e⟩ := key P (0, 1) 0 none none none none (fun _ h => h) (dy_0.mono (Nat.zero_le _) (Nat.zero_le _)) (by have := h.len; omega)
  simp only [ptD, rD, polyD] at e ⊢
  generalize hps : P.map rowD = ps at *
  generalize xs.map rD = pt at *
  simp [p__law_value, fs__law_value, e, line_le]
end
end K74

set_option Elab.async false
set_option linter.all false
set_option maxRecDepth 100000
set_option maxHeartbeats 4000000
namespace K74
open PySem Fx Rt Pq Pg K25
structure Lp (n : Nat) (xs : List Ra) (Ps : List (List Row)) : Prop where
  xl : xs.length = n
  xd : ∀ x ∈ xs, Dy 12 4 x
  pl : Ps.length = n
  pd : ∀ P ∈ Ps, Tg n 3 1 12 4 P
abbrev plsD (Ps : List (List Row)) : D := .tup (Ps.map plD)
abbrev lpD (xs : List Ra) (Ps : List (List Row)) : D := .tup [ptD xs, plsD Ps]
theorem ratB_r {r : Ra} (h : IsR r) : ratB (rD r) = true := by
  have h1 := h.pos
  have h2 := h.cop
  simp [ratB, h1, h2]
theorem gd_pts {xs : List Ra} (h : xs.length ≤ 12) : Gd (ptD xs) := .tup (by rw [List.length_map]; omega) fun x hx => by
  obtain ⟨r, _, rfl⟩ := List.mem_map.mp hx
  exact gd_r r
section
variable {n : Nat} {xs : List Ra} {Ps : List (List Row)} (hn0 : 1 ≤ n) (hn : n ≤ 6) (h : Lp n xs Ps)
include hn0 hn h
theorem gd_pls : Gd (plsD Ps) := .tup (by rw [List.length_map, h.pl]; omega) fun x hx => by
  obtain ⟨P, hP, rfl⟩ := List.mem_map.mp hx
  exact (WG.polyG_tg (by omega) (by decide) (h.pd P hP)).2
theorem gd_lp : Gd (lpD xs Ps) := .tup (by show 2 ≤ 2000; decide) fun x hx => by
  rcases List.mem_cons.mp hx with rfl | hx
  · exact gd_pts (by rw [h.xl]; omega)
  · rw [List.mem_singleton.mp hx]; exact gd_pls hn0 hn h
theorem is_loop_v : p_is_loop [.v (lpD xs Ps)] = .ok (.v (.bl true)) [.v (lpD xs Ps)] := by
  have g1 := gd_pts (xs := xs) (by rw [h.xl]; omega)
  have g2 := gd_pls hn0 hn h
  have e1 := is_row_v (gd_lp hn0 hn h) 2 2
  have r1 : rowLen 2 2 (lpD xs Ps) = true := by simp [rowLen]
  have e2 := is_row_v g1 1 6
  have r2 : rowLen 1 6 (ptD xs) = true := by simp [rowLen, h.xl]; omega
  have e3 := is_row_v g2 n n
  have r3 : rowLen n n (plsD Ps) = true := by simp [rowLen, h.pl]
  rw [r1] at e1
  rw [r2] at e2
  rw [r3] at e3
  have c0 : c_MOST_VARIABLES = .int 6 := rfl
  have hc1 := comp_bl (vs := [3]) (i := 3) (fe := k_is_loop_1e) (ρ := [some (.v (lpD xs Ps)), some (.v (.int n)), none, none]) (xs := xs.map rD) ratB fun x hx => ⟨[some (.v (lpD xs Ps)), some (.v (.int n)), none, some (.v x)], by
    obtain ⟨r, hr, rfl⟩ := List.mem_map.mp hx
    have e := is_ratio_g (gd_r r)
    rw [ratB_r (h.xd r hr).isr] at e ⊢
    generalize rD r = d at *
    simp [k_is_loop_1e, wipeE, e], rfl⟩
  have hm1 := mapM_bl ratB (xs.map rD)
  have ha1 := all_b ratB (xs.map rD)
  have hb1 : (xs.map rD).all ratB = true := List.all_eq_true.mpr fun x hx => by
    obtain ⟨r, hr, rfl⟩ := List.mem_map.mp hx
    exact ratB_r (h.xd r hr).isr
  have hc2 := comp_bl (vs := [2]) (i := 2) (fe := k_is_loop_0e) (ρ := [some (.v (lpD xs Ps)), some (.v (.int n)), none, none]) (xs := Ps.map plD) (polyB n) fun x hx => ⟨[some (.v (lpD xs Ps)), some (.v (.int n)), some (.v x), none], by
    obtain ⟨P, hP, rfl⟩ := List.mem_map.mp hx
    have hg := WG.polyG_tg (by omega) (by decide) (h.pd P hP)
    have e := is_polynomial_in_v hg.2 n
    rw [hg.1] at e ⊢
    generalize plD P = d at *
    simp [k_is_loop_0e, wipeE, e], rfl⟩
  have hm2 := mapM_bl (polyB n) (Ps.map plD)
  have ha2 := all_b (polyB n) (Ps.map plD)
  have hb2 : (Ps.map plD).all (polyB n) = true := List.all_eq_true.mpr fun x hx => by
    obtain ⟨P, hP, rfl⟩ := List.mem_map.mp hx
    exact (WG.polyG_tg (by omega) (by decide) (h.pd P hP)).1
  rw [hb1] at ha1
  rw [hb2] at ha2
  have hl1 : (xs.map rD).length = n := by rw [List.length_map, h.xl]
  have hl2 : (Ps.map plD).length = n := by rw [List.length_map, h.pl]
  have s1 : n < sizeLine := line_lt (by omega)
  simp only [lpD, ptD, plsD] at e1 e2 e3 hc1 hc2 ⊢
  generalize (xs.map rD).map (fun x => D.bl (ratB x)) = b1 at *
  generalize (xs.map rD).map ratB = bb1 at *
  generalize (Ps.map plD).map (fun x => D.bl (polyB n x)) = b2 at *
  generalize (Ps.map plD).map (polyB n) = bb2 at *
  generalize xs.map rD = ps at *
  generalize Ps.map plD = qs at *
  simp [p_is_loop, fs_is_loop, e1, c0, e2, hl1, hl2, e3, hc1, hc2, hm1, hm2, ha1, ha2, s1, plainVs]
theorem need_loop_v : p_need_loop [.v (lpD xs Ps)] = .ok (.v .non) [.v (lpD xs Ps)] := by
  have e := is_loop_v hn0 hn h
  generalize lpD xs Ps = d at *
  simp [p_need_loop, fs_need_loop, e]
end
theorem need_loop_no : p_need_loop [.v (.tup [])] = .ex ⟨"BadLoop", []⟩ [.v (.tup [])] := by
  have e1 := is_row_v (d := .tup []) (.tup (by simp) (fun _ h => nomatch h)) 2 2
  have r1 : rowLen 2 2 (.tup []) = false := by simp [rowLen]
  rw [r1] at e1
  have e : p_is_loop [.v (.tup [])] = .ok (.v (.bl false)) [.v (.tup [])] := by
    simp [p_is_loop, fs_is_loop, e1]
  simp [p_need_loop, fs_need_loop, e]
theorem comp_draw {cells : List Int} {fe : FE D} {Q : D → Prop} {o1 o2 o3 : Option O}
    (step : ∀ (a b : Int) (d : D), 0 ≤ a → a < 2 ^ 36 → ∃ y a' b', Q y ∧ 0 ≤ a' ∧ a' ≤ a + 1000 ∧ fe [some (JG cells a b), o1, o2, o3, some (.v d)] = .ok y [some (JG cells a' b'), o1, o2, o3, some (.v d)]) :
    ∀ (ds : List D) (a b : Int), 0 ≤ a → a + 1000 * ds.length < 2 ^ 36 → ∃ (ys : List D) (a' b' : Int), ys.length = ds.length ∧ (∀ y ∈ ys, Q y) ∧ 0 ≤ a' ∧ a' ≤ a + 1000 * ds.length ∧
      compGo [4] (nameG 4) (noEx yesF) (noEx fe) ds [some (JG cells a b), o1, o2, o3, none] = .ok ys [some (JG cells a' b'), o1, o2, o3, none]
  | [], a, b, ha, _ => ⟨[], a, b, rfl, (fun _ h => nomatch h), ha, by simp, rfl⟩
  | d :: ds, a, b, ha, hb => by
    rw [List.length_cons] at hb
    obtain ⟨y, a1, b1, hy, h1, h1', e1⟩ := step a b d ha (by omega)
    obtain ⟨ys, a2, b2, hl, hv, h2, h2', e2⟩ := comp_draw step ds a1 b1 h1 (by omega)
    refine ⟨y :: ys, a2, b2, by rw [List.length_cons, List.length_cons, hl], fun v hv' => ?_, h2, by rw [List.length_cons]; omega, ?_⟩
    · rcases List.mem_cons.mp hv' with e | hv'
      · rw [e]; exact hy
      · exact hv v hv'
    · unfold compGo
      show ((noEx yesF) [some (JG cells a b), o1, o2, o3, some (.v d)]).bind _ = _
      simp only [e_noEx, e_yes, R.bind_ok, if_true, e1]
      show (compGo [4] (nameG 4) (noEx yesF) (noEx fe) ds [some (JG cells a1 b1), o1, o2, o3, none]).bind _ = _
      rw [e2]; rfl
theorem choose_l {α : Type} {f : α → D} {Q : α → Prop} : ∀ {ys : List D}, (∀ y ∈ ys, ∃ r, y = f r ∧ Q r) → ∃ rs : List α, ys = rs.map f ∧ ∀ r ∈ rs, Q r
  | [], _ => ⟨[], rfl, (fun _ h => nomatch h)⟩
  | y :: ys, h => by
    obtain ⟨r, hr, hq⟩ := h y List.mem_cons_self
    obtain ⟨rs, hs, hqs⟩ := choose_l (ys := ys) fun y hy => h y (List.mem_cons_of_mem _ hy)
    refine ⟨r :: rs, by rw [hr, hs]; rfl, fun x hx => ?_⟩
    rcases List.mem_cons.mp hx with e | hx
    · rw [e]; exact hq
    · exact hqs x hx
theorem law_loop_v {cells : List Int} {n : Nat} (hn0 : 0 < n) (hn : n ≤ 6) {a b : Int} (ha : 0 ≤ a) (hb : a < 2 ^ 35) :
    ∃ xs Ps a' b', p__law_loop [JG cells a b, .v (.int n), .v (.int 1)] = .ok (.v (lpD xs Ps)) [JG cells a' b', .v (.int n), .v (.int 1)] ∧ Lp n xs Ps ∧ 0 ≤ a' ∧ a' ≤ a + 12000 := by
  have hrl : (rangeL 0 n).length = n := by unfold rangeL; rw [List.length_map, List.length_range]
  obtain ⟨ys, a1, b1, hl1, hy1, h1, h1', e1⟩ := comp_draw (cells := cells) (fe := k__law_loop_1e) (Q := fun d => ∃ r, d = rD r ∧ Dy 12 4 r) (o1 := some (.v (.int n))) (o2 := some (.v (.int 1))) (o3 := none) (fun a b d ha hb => by
    obtain ⟨r, a', b', e, hr, h1, h2⟩ := law_ratio_v (cells := cells) (b := b) ha (by omega)
    refine ⟨rD r, a', b', ⟨r, rfl, hr⟩, h1, by omega, ?_⟩
    simp only [rD] at e ⊢
    simp [k__law_loop_1e, e]) (rangeL 0 n) a b ha (by rw [hrl]; omega)
  obtain ⟨xs, rfl, hxs⟩ := choose_l hy1
  rw [hrl] at hl1 h1'
  rw [List.length_map] at hl1
  obtain ⟨zs, a2, b2, hl2, hy2, h2, h2', e2⟩ := comp_draw (cells := cells) (fe := k__law_loop_0e) (Q := fun d => ∃ P, d = plD P ∧ Tg n 3 1 12 4 P) (o1 := some (.v (.int n))) (o2 := some (.v (.int 1))) (o3 := some (.v (ptD xs))) (fun a b d ha hb => by
    obtain ⟨m, a', b', e, m0, m1, h1, h1'⟩ := law_take_v (cells := cells) (b := b) (many := 3) ha (by omega) (by decide) (by decide)
    obtain ⟨m, rfl⟩ := Int.eq_ofNat_of_zero_le m0
    obtain ⟨P, a2, b2, e2, hP, h2, h2'⟩ := law_drawn_v (cells := cells) hn0 (by omega) (G := 1) (N := m + 1) (by decide) (by omega) (a := a') (b := b') h1 (by omega)
    refine ⟨plD P, a2, b2, ⟨P, rfl, hP.mono (by omega) (Nat.le_refl _) (Nat.le_refl _) (Nat.le_refl _)⟩, h2, by omega, ?_⟩
    have em : (((m + 1 : Nat) : Int)) = 1 + (m : Int) := by omega
    rw [em] at e2
    change p__law_drawn [_, _, _, .v (.int 1)] = .ok _ [_, _, _, .v (.int 1)] at e2
    change p__law_drawn [_, _, _, _] = .ok (.v (plD P)) _ at e2
    generalize plD P = pp at *
    generalize ptD xs = pt at *
    simp [k__law_loop_0e, e, e2]) (rangeL 0 n) a1 b1 h1 (by rw [hrl]; omega)
  obtain ⟨Ps, rfl, hPs⟩ := choose_l hy2
  rw [hrl] at hl2 h2'
  rw [List.length_map] at hl2
  refine ⟨xs, Ps, a2, b2, ?_, ⟨hl1, hxs, hl2, hPs⟩, h2, by omega⟩
  have hrg := rg_le (m := n) (by omega)
  have s0 : (rangeL 0 n).length < sizeLine := line_lt (by rw [hrl]; omega)
  simp only [lpD, ptD, plsD] at e2 ⊢
  generalize rangeL 0 n = rg at *
  generalize xs.map rD = ps at *
  generalize Ps.map plD = qs at *
  simp [p__law_loop, fs__law_loop, hrg, e1, e2, s0, plainVs, line_le]
def goP (Ps : List (List Row)) (xs : List Ra) : List Ra := Ps.map fun P => valP (polyT P) xs
def ptN (Ps : List (List Row)) (xs : List Ra) : Nat → List Ra
  | 0 => xs
  | k + 1 => goP Ps (ptN Ps xs k)
theorem ptN_ok {n : Nat} {xs : List Ra} {Ps : List (List Row)} (h : Lp n xs Ps) : ∀ k, (ptN Ps xs k).length = n ∧ ∀ x ∈ ptN Ps xs k, Dy (12 * (k + 1)) (4 + 7 * k) x
  | 0 => ⟨h.xl, h.xd⟩
  | k + 1 => by
    obtain ⟨h1, h2⟩ := ptN_ok h k
    refine ⟨by show (Ps.map _).length = n; rw [List.length_map, h.pl], fun x hx => ?_⟩
    obtain ⟨P, hP, rfl⟩ := List.mem_map.mp hx
    have hp := (tw_of (h.pd P hP)).poly
    have := valP_dy h2 (P := polyT P) (G := 1) (d := 12) (v := 4) fun p hq => ⟨hp.ok p hq, (hp.ex p hq).2.2⟩
    have hl := hp.len
    exact this.mono (by omega) (by omega)
section
variable {n : Nat} {xs : List Ra} {Ps : List (List Row)} (hn0 : 1 ≤ n) (hn : n ≤ 6) (h : Lp n xs Ps)
include hn0 hn h
theorem set_value {k : Nat} (hk : k ≤ 40) {P : List Row} (hP : P ∈ Ps) :
    p__law_value [.v (plD P), .v (ptD (ptN Ps xs k))] = .ok (.v (rD (valP (polyT P) (ptN Ps xs k)))) [.v (plD P), .v (ptD (ptN Ps xs k))] ∧
    p_value_at [.v (.tb (dictD (polyT P))), .v (ptD (ptN Ps xs k))] = .ok (.v (rD (valP (polyT P) (ptN Ps xs k)))) [.v (.tb (dictD (polyT P))), .v (ptD (ptN Ps xs k))] := by
  obtain ⟨h1, h2⟩ := ptN_ok h k
  have hp := h.pd P hP
  have hw := (tw_of hp).poly
  have hg : Tg n 3 1 12 4 (polyT P) := ⟨hw.nd, hw.ex, fun p hq => hp.ok p (polyT_mem.mp hq), hw.len⟩
  exact ⟨law_value_v h2 h1 (by omega) (by omega) (by omega) (by decide) hw, WG.value_at_g h2 h1 (by omega) (by omega) (by omega) (by omega) hg⟩
theorem law_after_v {k : Nat} (hk : k ≤ 40) : p__law_after [.v (lpD xs Ps), .v (.int k)] = .ok (.v (ptD (ptN Ps xs k))) [.v (lpD xs Ps), .v (.int k)] := by
  obtain ⟨ρ', el, o3, rfl⟩ := for_range_inv (g := nameG 3) (b := k__law_after_0b) (lo := 0) (n := k) (fun t ρ => ∃ (o3 : Option O), ρ = [some (.v (lpD xs Ps)), some (.v (.int k)), some (.v (ptD (ptN Ps xs t))), o3, none]) (by
    rintro t ρ ht ⟨o3, rfl⟩
    have hc := comp_of (vs := [4]) (g := nameG 4) (ft := yesF) (fe := k__law_after_1e) plD (fun P => rD (valP (polyT P) (ptN Ps xs t))) (ρ := [some (.v (lpD xs Ps)), some (.v (.int k)), some (.v (ptD (ptN Ps xs t))), some (.v (.int (0 + (t : Int)))), none]) Ps fun P hP =>
      ⟨[some (.v (lpD xs Ps)), some (.v (.int k)), some (.v (ptD (ptN Ps xs t))), some (.v (.int (0 + (t : Int)))), some (.v (plD P))], [some (.v (lpD xs Ps)), some (.v (.int k)), some (.v (ptD (ptN Ps xs t))), some (.v (.int (0 + (t : Int)))), some (.v (plD P))], rfl, rfl, by
        have e := (set_value hn0 hn h (k := t) (by omega) hP).1
        generalize (0 + (t : Int)) = tt
        generalize ptD (ptN Ps xs t) = pt at *
        generalize lpD xs Ps = lp
        generalize valP (polyT P) (ptN Ps xs t) = w at *
        generalize plD P = pp at *
        simp only [rD] at e ⊢
        simp [k__law_after_1e, e], rfl⟩
    have en : (Ps.map fun P => rD (valP (polyT P) (ptN Ps xs t))) = (ptN Ps xs (t + 1)).map rD := by
      show _ = (goP Ps (ptN Ps xs t)).map rD
      unfold goP
      rw [List.map_map]; rfl
    rw [en] at hc
    refine ⟨[some (.v (lpD xs Ps)), some (.v (.int k)), some (.v (ptD (ptN Ps xs t))), some (.v (.int (0 + (t : Int)))), none], [some (.v (lpD xs Ps)), some (.v (.int k)), some (.v (ptD (ptN Ps xs (t + 1)))), some (.v (.int (0 + (t : Int)))), none], rfl, ?_, _, rfl⟩
    have hsl : (Ps.map plD).length < sizeLine := line_lt (by rw [List.length_map, h.pl]; omega)
    have hsl2 : ((ptN Ps xs (t + 1)).map rD).length ≤ sizeLine := line_le (by rw [List.length_map, (ptN_ok h (t + 1)).1]; omega)
    generalize (0 + (t : Int)) = tt at *
    simp only [lpD, plsD, ptD] at hc ⊢
    generalize (ptN Ps xs (t + 1)).map rD = p2 at *
    generalize (ptN Ps xs t).map rD = p1 at *
    generalize xs.map rD = p0 at *
    generalize Ps.map plD = qs at *
    simp [k__law_after_0b, hc, hsl, hsl2, plainVs]) (ρ := [some (.v (lpD xs Ps)), some (.v (.int k)), some (.v (ptD xs)), none, none]) ⟨none, rfl⟩
  have hrg := rg_le (m := k) (by omega)
  simp only [lpD] at el ⊢
  generalize plsD Ps = qs at *
  generalize ptD (ptN Ps xs k) = p2 at *
  generalize ptD xs = p1 at *
  generalize rangeL 0 k = rg at *
  simp [p__law_after, fs__law_after, hrg, el]
end
end K74

set_option Elab.async false
set_option linter.all false
set_option maxRecDepth 100000
set_option maxHeartbeats 4000000
namespace K74
open PySem Fx Rt Pq Pg K25
abbrev setsD (Ps : List (List Row)) : D := .lst (Ps.map fun P => .tb (dictD (polyT P)))
abbrev crs (Ps : List (List Row)) (pt : List Ra) : O := .ins "Course" [("values_now", .val (ptD pt)), ("sets", .val (setsD Ps))]
theorem sz_bound {m : Nat} {i G : Int} (h : Sz m i) (hm : m ≤ 1200) (hG : (2 : Int) ^ 1200 ≤ G) : -G < i ∧ i < G := by
  unfold Sz at h
  have h1 : i.natAbs < 2 ^ 1200 := Nat.lt_of_lt_of_le h (Nat.pow_le_pow_right (by decide) hm)
  have h2 : ((i.natAbs : Nat) : Int) < ((2 ^ 1200 : Nat) : Int) := Int.ofNat_lt.mpr h1
  rw [Int.natCast_pow] at h2
  change ((i.natAbs : Nat) : Int) < (2 : Int) ^ 1200 at h2
  generalize (2 : Int) ^ 1200 = M at *
  omega
theorem n_vs : ¬ (Str.ofString "values_now" = Str.ofString "sets") := by decide
theorem n_sv : ¬ (Str.ofString "sets" = Str.ofString "values_now") := by decide
theorem great_ex : ∃ G : Int, c_GREATEST = .int G ∧ (2 : Int) ^ 1200 ≤ G := ⟨_, rfl, by decide +kernel⟩
section
variable {n : Nat} {xs : List Ra} {Ps : List (List Row)} (hn0 : 1 ≤ n) (hn : n ≤ 6) (h : Lp n xs Ps)
include hn0 hn h
theorem course_init_v : p_Course__init [.ins "Course" [], .v (lpD xs Ps)] = .ok (.v .non) [crs Ps xs, .v (lpD xs Ps)] := by
  have hc := comp_of (vs := [2]) (g := nameG 2) (ft := yesF) (fe := k_Course__init_1e) plD (fun P => .tb (dictD (polyT P))) (ρ := [some (.ins "Course" [("values_now", .val (ptD xs))]), some (.v (lpD xs Ps)), none]) Ps fun P hP =>
    ⟨[some (.ins "Course" [("values_now", .val (ptD xs))]), some (.v (lpD xs Ps)), some (.v (plD P))], [some (.ins "Course" [("values_now", .val (ptD xs))]), some (.v (lpD xs Ps)), some (.v (plD P))], rfl, rfl, by
      have hw := (tw_of (h.pd P hP)).poly
      have e := terms_of_v hw.nd (by have := hw.len; omega)
      change p_terms_of [.v (plD P)] = .ok _ [.v (plD P)] at e
      generalize plD P = pp at *
      generalize lpD xs Ps = lp at *
      generalize ptD xs = pt at *
      generalize dictD (polyT P) = dd at *
      simp [k_Course__init_1e, e], rfl⟩
  have hsl : (Ps.map plD).length < sizeLine := line_lt (by rw [List.length_map, h.pl]; omega)
  simp only [lpD, plsD, crs, setsD] at hc ⊢
  generalize (Ps.map fun P => D.tb (dictD (polyT P))) = ts at *
  generalize Ps.map plD = qs at *
  generalize ptD xs = pt at *
  simp [p_Course__init, fs_Course__init, hc, hsl, plainVs, n_vs]
theorem go_v {k : Nat} (hk : k ≤ 40) : p_Course__go [crs Ps (ptN Ps xs k)] = .ok (.v .non) [crs Ps (ptN Ps xs (k + 1))] := by
  obtain ⟨G, hG, hG2⟩ := great_ex
  have hc := comp_of (vs := [4]) (g := nameG 4) (ft := yesF) (fe := k_Course__go_1e) (fun P => .tb (dictD (polyT P))) (fun P => rD (valP (polyT P) (ptN Ps xs k))) (ρ := [some (crs Ps (ptN Ps xs k)), none, none, none, none]) Ps fun P hP =>
    ⟨[some (crs Ps (ptN Ps xs k)), none, none, none, some (.v (.tb (dictD (polyT P))))], [some (crs Ps (ptN Ps xs k)), none, none, none, some (.v (.tb (dictD (polyT P))))], rfl, rfl, by
      have e := (set_value hn0 hn h hk hP).2
      simp only [crs]
      generalize ptD (ptN Ps xs k) = pt at *
      generalize setsD Ps = sd at *
      generalize valP (polyT P) (ptN Ps xs k) = w at *
      generalize dictD (polyT P) = dd at *
      simp only [rD] at e ⊢
      simp [k_Course__go_1e, e], rfl⟩
  have en : (Ps.map fun P => rD (valP (polyT P) (ptN Ps xs k))) = (ptN Ps xs (k + 1)).map rD := by
    show _ = (goP Ps (ptN Ps xs k)).map rD
    unfold goP
    rw [List.map_map]; rfl
  rw [en] at hc
  have el : ∀ (ys : List Ra) (o0 o1 o2 o3 o4 : Option O), (∀ y ∈ ys, Dy (12 * (k + 1 + 1)) (4 + 7 * (k + 1)) y) → ∃ o2' o3', forF (tupG 2 (consG (nameG 2) (consG (nameG 3) nilG))) k_Course__go_0b (ys.map rD) [o0, o1, o2, o3, o4] = .nx [o0, o1, o2', o3', o4] := by
    intro ys
    induction ys with
    | nil => exact fun o0 o1 o2 o3 o4 _ => ⟨o2, o3, rfl⟩
    | cons y ys ih =>
      intro o0 o1 o2 o3 o4 hy
      have hd := hy y List.mem_cons_self
      obtain ⟨o2', o3', e⟩ := ih o0 o1 (some (.v (.int y.1))) (some (.v (.int y.2))) o4 fun z hz => hy z (List.mem_cons_of_mem _ hz)
      obtain ⟨a1, a2⟩ := sz_bound hd.top (by omega) hG2
      obtain ⟨_, a4⟩ := sz_bound hd.bot (by omega) hG2
      refine ⟨o2', o3', ?_⟩
      rw [List.map_cons, for_step (ρ1 := [o0, o1, some (.v (.int y.1)), some (.v (.int y.2)), o4]) (ρ2 := [o0, o1, some (.v (.int y.1)), some (.v (.int y.2)), o4]) rfl ?_, e]
      have a4' : ¬ G ≤ y.2 := by omega
      simp [k_Course__go_0b, hG, a1, a2, a4']
  obtain ⟨o2', o3', e⟩ := el (ptN Ps xs (k + 1)) (some (crs Ps (ptN Ps xs k))) (some (.v (ptD (ptN Ps xs (k + 1))))) none none none (ptN_ok h (k + 1)).2
  have hsl : (Ps.map fun P => D.tb (dictD (polyT P))).length < sizeLine := line_lt (by rw [List.length_map, h.pl]; omega)
  have hsl2 : ((ptN Ps xs (k + 1)).map rD).length ≤ sizeLine := line_le (by rw [List.length_map, (ptN_ok h (k + 1)).1]; omega)
  simp only [crs, setsD, ptD] at hc e ⊢
  generalize (Ps.map fun P => D.tb (dictD (polyT P))) = ts at *
  generalize (ptN Ps xs (k + 1)).map rD = p2 at *
  generalize (ptN Ps xs k).map rD = p1 at *
  simp [p_Course__go, fs_Course__go, n_sv, n_vs, hc, hsl, hsl2, plainVs, e]
end
def fz (f : Nat → Bool) : Nat → Nat → Option Nat
  | _, 0 => none
  | k, m + 1 => if f k = true then some k else fz f (k + 1) m
theorem fz_head (f : Nat → Bool) : ∀ (m k : Nat), fz f k m = ((List.range' k m).filter f).head?
  | 0, k => rfl
  | m + 1, k => by
    rw [List.range'_succ]
    unfold fz
    cases hf : f k with
    | true => rw [List.filter_cons_of_pos hf]; rfl
    | false => rw [List.filter_cons_of_neg (by rw [hf]; exact Bool.false_ne_true), if_neg Bool.false_ne_true]; exact fz_head f m (k + 1)
def rgL (k m : Nat) : List D := (List.range' k m).map fun i : Nat => D.int (0 + (i : Int))
theorem rgL_0 (m : Nat) : rangeL 0 m = rgL 0 m := by
  unfold rangeL rgL
  rw [List.range_eq_range']
def optD : Option Nat → D
  | some k => .int k
  | none => .non
section
variable {n : Nat} {xs : List Ra} {Ps : List (List Row)} (hn0 : 1 ≤ n) (hn : n ≤ 6) (h : Lp n xs Ps) {P : List Row} {d v : Nat} (hP : Tg n 3 2 d v P) (hd : d ≤ 600) (hv : v ≤ 600)
include hn0 hn h hP hd hv
theorem told_value {k : Nat} (hk : k ≤ 40) :
    p__law_value [.v (plD P), .v (ptD (ptN Ps xs k))] = .ok (.v (rD (valP (polyT P) (ptN Ps xs k)))) [.v (plD P), .v (ptD (ptN Ps xs k))] ∧
    p_value_at [.v (.tb (dictD (polyT P))), .v (ptD (ptN Ps xs k))] = .ok (.v (rD (valP (polyT P) (ptN Ps xs k)))) [.v (.tb (dictD (polyT P))), .v (ptD (ptN Ps xs k))] ∧
    Dy (d + 2 * (12 * (k + 1))) (v + 2 * (4 + 7 * k) + 3) (valP (polyT P) (ptN Ps xs k)) := by
  obtain ⟨h1, h2⟩ := ptN_ok h k
  have hw := (tw_of hP).poly
  have hg : Tg n 3 2 d v (polyT P) := ⟨hw.nd, hw.ex, fun p hq => hP.ok p (polyT_mem.mp hq), hw.len⟩
  exact ⟨law_value_v h2 h1 (by omega) (by omega) (by omega) (by decide) hw, WG.value_at_g h2 h1 (by omega) (by omega) (by omega) (by omega) hg, WG.val_dy_g h2 h1 (by omega) (by omega) (by omega) (by omega) hg⟩
abbrev zeroAt (P : List Row) (Ps : List (List Row)) (xs : List Ra) (k : Nat) : Bool := decide ((valP (polyT P) (ptN Ps xs k)).1 = 0)
theorem zero_loop {most : Nat} (hm : most ≤ 30) : ∀ (m k : Nat) (o5 : Option O), k + m = most + 1 →
    ∃ ρ', forF (nameG 5) k_first_zero_0b (rgL k m) [some (.v (lpD xs Ps)), some (.v (plD P)), some (.v (.int most)), some (crs Ps (ptN Ps xs k)), some (.v (.tb (dictD (polyT P)))), o5] =
      (match fz (zeroAt P Ps xs) k m with | some j => .ret (.v (.int j)) ρ' | none => .nx ρ')
  | 0, k, o5, _ => ⟨_, rfl⟩
  | m + 1, k, o5, hkm => by
    obtain ⟨_, e, hdy⟩ := told_value hn0 hn h hP hd hv (k := k) (by omega)
    have e0 : rgL k (m + 1) = .int (k : Int) :: rgL (k + 1) m := by
      unfold rgL
      rw [List.range'_succ, List.map_cons, Int.zero_add]
    rw [e0]
    unfold fz
    by_cases hz : (valP (polyT P) (ptN Ps xs k)).1 = 0
    · refine ⟨[some (.v (lpD xs Ps)), some (.v (plD P)), some (.v (.int most)), some (crs Ps (ptN Ps xs k)), some (.v (.tb (dictD (polyT P)))), some (.v (.int k))], ?_⟩
      rw [if_pos (show zeroAt P Ps xs k = true from decide_eq_true hz)]
      refine Fx.for_ret (ρ1 := [some (.v (lpD xs Ps)), some (.v (plD P)), some (.v (.int most)), some (crs Ps (ptN Ps xs k)), some (.v (.tb (dictD (polyT P)))), some (.v (.int k))]) rfl ?_
      simp only [crs]
      generalize lpD xs Ps = lp at *
      generalize plD P = pp at *
      generalize ptD (ptN Ps xs k) = pt at *
      generalize setsD Ps = sd at *
      generalize valP (polyT P) (ptN Ps xs k) = w at *
      generalize dictD (polyT P) = dd at *
      simp only [rD] at e
      simp [k_first_zero_0b, e, v_eqI, hz]
    · rw [if_neg (show ¬ zeroAt P Ps xs k = true from fun x => hz (of_decide_eq_true x))]
      by_cases hlt : k < most
      · obtain ⟨ρ', ih⟩ := zero_loop hm m (k + 1) (some (.v (.int k))) (by omega)
        refine ⟨ρ', ?_⟩
        rw [for_step (ρ1 := [some (.v (lpD xs Ps)), some (.v (plD P)), some (.v (.int most)), some (crs Ps (ptN Ps xs k)), some (.v (.tb (dictD (polyT P)))), some (.v (.int k))]) (ρ2 := [some (.v (lpD xs Ps)), some (.v (plD P)), some (.v (.int most)), some (crs Ps (ptN Ps xs (k + 1))), some (.v (.tb (dictD (polyT P)))), some (.v (.int k))]) rfl ?_, ih]
        clear ih
        have eg := go_v hn0 hn h (k := k) (by omega)
        have hlt' : (k : Int) < (most : Int) := by omega
        simp only [crs] at eg ⊢
        generalize lpD xs Ps = lp at *
        generalize plD P = pp at *
        generalize ptD (ptN Ps xs (k + 1)) = pt2 at *
        generalize ptD (ptN Ps xs k) = pt at *
        generalize setsD Ps = sd at *
        generalize valP (polyT P) (ptN Ps xs k) = w at *
        generalize dictD (polyT P) = dd at *
        simp only [rD] at e
        have lk : ([("values_now", C1.val pt), ("sets", C1.val sd)] : List (Str × C1)).lookup ("go" : Str) = none := rfl
        simp [k_first_zero_0b, e, v_eqI, hz, hlt, eg, lk]
      · have : m = 0 := by omega
        subst this
        refine ⟨[some (.v (lpD xs Ps)), some (.v (plD P)), some (.v (.int most)), some (crs Ps (ptN Ps xs k)), some (.v (.tb (dictD (polyT P)))), some (.v (.int k))], ?_⟩
        rw [for_step (ρ1 := [some (.v (lpD xs Ps)), some (.v (plD P)), some (.v (.int most)), some (crs Ps (ptN Ps xs k)), some (.v (.tb (dictD (polyT P)))), some (.v (.int k))]) (ρ2 := [some (.v (lpD xs Ps)), some (.v (plD P)), some (.v (.int most)), some (crs Ps (ptN Ps xs k)), some (.v (.tb (dictD (polyT P)))), some (.v (.int k))]) rfl ?_]
        · rfl
        · have hlt' : ¬ (k : Int) < (most : Int) := by omega
          simp only [crs]
          generalize lpD xs Ps = lp at *
          generalize plD P = pp at *
          generalize ptD (ptN Ps xs k) = pt at *
          generalize setsD Ps = sd at *
          generalize valP (polyT P) (ptN Ps xs k) = w at *
          generalize dictD (polyT P) = dd at *
          simp only [rD] at e
          simp [k_first_zero_0b, e, v_eqI, hz, hlt]
theorem need_poly_v : p_need_loop_polynomial [.v (lpD xs Ps), .v (plD P)] = .ok (.v .non) [.v (lpD xs Ps), .v (plD P)] := by
  have hg := WG.polyG_tg (by omega) (by decide) hP
  have e := is_polynomial_in_v hg.2 n
  rw [hg.1] at e
  have hl1 : (xs.map rD).length = n := by rw [List.length_map, h.xl]
  change p_is_polynomial_in [_, .v (plD P)] = .ok _ [_, .v (plD P)] at e
  generalize plD P = pp at *
  simp only [lpD, ptD]
  generalize plsD Ps = qs
  generalize xs.map rD = ps at *
  simp [p_need_loop_polynomial, fs_need_loop_polynomial, hl1, e]
theorem first_zero_v {most : Nat} (hm : most ≤ 30) : p_first_zero [.v (lpD xs Ps), .v (plD P), .v (.int most)] = .ok (.v (optD (fz (zeroAt P Ps xs) 0 (most + 1)))) [.v (lpD xs Ps), .v (plD P), .v (.int most)] := by
  have e1 := need_loop_v hn0 hn h
  have e2 := need_poly_v hn0 hn h hP hd hv
  have e3 : p_need_rounds [.v (.int most)] = .ok (.v .non) [.v (.int most)] := by
    have e := within_v (.int most) 0 10000
    have r : inB 0 10000 (.int (most : Int)) = true := by simp [inB]; omega
    rw [r] at e
    have c0 : c_MOST_ROUNDS = .int 10000 := rfl
    simp [p_need_rounds, fs_need_rounds, c0, e]
  have e4 := course_init_v hn0 hn h
  have hw := (tw_of hP).poly
  have e5 := terms_of_v hw.nd (by have := hw.len; omega)
  change p_terms_of [.v (plD P)] = .ok _ [.v (plD P)] at e5
  obtain ⟨ρ', el⟩ := zero_loop hn0 hn h hP hd hv hm (most + 1) 0 none (by omega)
  rw [← rgL_0] at el
  have hrg := rg_le (m := most + 1) (by omega)
  rw [show (((most + 1 : Nat) : Int)) = (most : Int) + 1 by omega] at hrg
  change forF _ _ _ [_, _, _, some (crs Ps xs), _, _] = _ at el
  simp only [crs] at e4 el
  generalize rangeL 0 (most + 1) = rg at *
  generalize lpD xs Ps = lp at *
  generalize plD P = pp at *
  generalize ptD xs = pt at *
  generalize setsD Ps = sd at *
  generalize dictD (polyT P) = dd at *
  cases hf : fz (zeroAt P Ps xs) 0 (most + 1) with
  | none =>
    rw [hf] at el
    simp [p_first_zero, fs_first_zero, e1, e2, e3, e4, e5, hrg, el, optD]
  | some j =>
    rw [hf] at el
    simp [p_first_zero, fs_first_zero, e1, e2, e3, e4, e5, hrg, el, optD]
end
end K74

set_option Elab.async false
set_option linter.all false
set_option maxRecDepth 100000
set_option maxHeartbeats 4000000
namespace K74
open PySem Fx Rt Pq Pg K25
theorem tb1 : List.lookup (Str.ofString "BadPolynomial") tbl_BadLoop = some false := by rfl
theorem tb2 : List.lookup (Str.ofString "BadPolynomial") tbl_BadPolynomial = some true := by rfl
theorem tb3 : List.lookup (Str.ofString "BadLoop") tbl_BadLoop = some true := by rfl
theorem tb4 : List.lookup (Str.ofString "BadRounds") tbl_BadLoop = some false := by rfl
theorem tb5 : List.lookup (Str.ofString "BadRounds") tbl_BadPolynomial = some false := by rfl
theorem tb6 : List.lookup (Str.ofString "BadRounds") tbl_BadRounds = some true := by rfl
theorem same_opt (o : Option Nat) : p__law_same [.v (optD o), .v (optD o)] = .ok (.v (.bl true)) [.v (optD o), .v (optD o)] := by
  show bodyF [] [.v (optD o), .v (optD o)] (fs__law_same (pr__law_same 13) [some (.v (optD o)), some (.v (optD o)), none]) = _
  generalize pr__law_same 13 = pr
  cases o with
  | none => simp [fs__law_same, optD, isNoneD]
  | some k => simp [fs__law_same, optD, isNoneD, v_eqBB, tyN]
def oddR (d : D) : Prop := d = .int (-1) ∨ d = .int 10001 ∨ d = .non ∨ d = .bl true
theorem odd_rounds {d : D} (h : oddR d) : p_need_rounds [.v d] = .ex ⟨"BadRounds", []⟩ [.v d] := by
  have g : Gd d := by
    rcases h with rfl | rfl | rfl | rfl
    · exact .int _
    · exact .int _
    · exact .non
    · exact .bl _
  have e := within_v g 0 10000
  have r : inB 0 10000 d = false := by rcases h with rfl | rfl | rfl | rfl <;> decide
  rw [r] at e
  have c0 : c_MOST_ROUNDS = .int 10000 := rfl
  simp [p_need_rounds, fs_need_rounds, c0, e]
section
variable {n : Nat} {xs : List Ra} {Ps : List (List Row)} (hn0 : 1 ≤ n) (hn : n ≤ 6) (h : Lp n xs Ps)
include hn0 hn h
theorem none_poly : p_need_loop_polynomial [.v (lpD xs Ps), .v .non] = .ex ⟨"BadPolynomial", []⟩ [.v (lpD xs Ps), .v .non] := by
  have e := is_polynomial_in_v .non n
  have r : polyB n .non = false := rfl
  rw [r] at e
  have hl1 : (xs.map rD).length = n := by rw [List.length_map, h.xl]
  simp only [lpD, ptD]
  generalize plsD Ps = qs
  generalize xs.map rD = ps at *
  simp [p_need_loop_polynomial, fs_need_loop_polynomial, hl1, e]
theorem told_none {d : D} : p__law_told [.v (lpD xs Ps), .v .non, .v d] = .ok (.v (.str "polynomial")) [.v (lpD xs Ps), .v .non, .v d] := by
  have e1 := need_loop_v hn0 hn h
  have e2 := none_poly hn0 hn h
  generalize lpD xs Ps = lp at *
  have e : p_first_zero [.v lp, .v .non, .v d] = .ex ⟨"BadPolynomial", []⟩ [.v lp, .v .non, .v d] := by
    simp [p_first_zero, fs_first_zero, e1, e2]
  simp [p__law_told, fs__law_told, e, e_try, tb1, tb2, handF]
end
theorem told_empty {d : D} : p__law_told [.v (.tup []), .v .non, .v d] = .ok (.v (.str "loop")) [.v (.tup []), .v .non, .v d] := by
  have e : p_first_zero [.v (.tup []), .v .non, .v d] = .ex ⟨"BadLoop", []⟩ [.v (.tup []), .v .non, .v d] := by
    simp [p_first_zero, fs_first_zero, need_loop_no]
  simp [p__law_told, fs__law_told, e, e_try, tb3, handF]
section
variable {n : Nat} {xs : List Ra} {Ps : List (List Row)} (hn0 : 1 ≤ n) (hn : n ≤ 6) (h : Lp n xs Ps) {P : List Row} {d v : Nat} (hP : Tg n 3 2 d v P) (hd : d ≤ 600) (hv : v ≤ 600)
include hn0 hn h hP hd hv
theorem told_odd {o : D} (ho : oddR o) : p__law_told [.v (lpD xs Ps), .v (plD P), .v o] = .ok (.v (.str "rounds")) [.v (lpD xs Ps), .v (plD P), .v o] := by
  have e1 := need_loop_v hn0 hn h
  have e2 := need_poly_v hn0 hn h hP hd hv
  have e3 := odd_rounds ho
  generalize lpD xs Ps = lp at *
  generalize plD P = pp at *
  have e : p_first_zero [.v lp, .v pp, .v o] = .ex ⟨"BadRounds", []⟩ [.v lp, .v pp, .v o] := by
    simp [p_first_zero, fs_first_zero, e1, e2, e3]
  simp [p__law_told, fs__law_told, e, e_try, tb4, tb5, tb6, handF]
theorem told_v {most : Nat} (hm : most ≤ 30) : p__law_told [.v (lpD xs Ps), .v (plD P), .v (.int most)] = .ok (.v (optD (fz (zeroAt P Ps xs) 0 (most + 1)))) [.v (lpD xs Ps), .v (plD P), .v (.int most)] := by
  have e := first_zero_v hn0 hn h hP hd hv hm
  generalize optD (fz (zeroAt P Ps xs) 0 (most + 1)) = out at *
  generalize lpD xs Ps = lp at *
  generalize plD P = pp at *
  simp [p__law_told, fs__law_told, e, e_try]
end
end K74

set_option Elab.async false
set_option linter.all false
set_option maxRecDepth 100000
set_option maxHeartbeats 4000000
namespace K74
open PySem Fx Rt Pq Pg K25
theorem v_eq0 {w : Ra} : eqD false (rD w) (.tup [.int 0, .int 1]) = some (.bl (decide (w = (0, 1)))) := by
  obtain ⟨x, y⟩ := w
  rw [v_eq rfl rfl]
  simp [eqB, toPy, toPyL, PyData.eqv, PyData.eqvAll, Bool.beq_eq_decide_eq]
theorem dy_neg {d v : Nat} {r : Ra} (h : Dy d v r) : Dy d v (-r.1, r.2) := by
  obtain ⟨⟨h1, h2⟩, h3, h4⟩ := h
  exact ⟨⟨h1, by simpa using h2⟩, h3, by simpa using h4⟩
section
variable {n : Nat} {xs : List Ra} {Ps : List (List Row)} (hn0 : 1 ≤ n) (hn : n ≤ 6) (h : Lp n xs Ps) {P : List Row} {d v : Nat} (hP : Tg n 3 2 d v P) (hd : d ≤ 600) (hv : v ≤ 600)
include hn0 hn h hP hd hv
theorem beside_v {r : Nat} (hr : r ≤ 11) (hP2 : Tg n 2 2 12 4 P) : ∃ P' : List Row,
    p__law_sum [.v (plD P), .v (plD (nz [(zeE n, (-(valP (polyT P) (ptN Ps xs r)).1, (valP (polyT P) (ptN Ps xs r)).2))]))] = .ok (.v (plD P')) [.v (plD P), .v (plD (nz [(zeE n, (-(valP (polyT P) (ptN Ps xs r)).1, (valP (polyT P) (ptN Ps xs r)).2))]))] ∧ Tg n 3 2 320 200 P' := by
  have hd1 := (told_value hn0 hn h (hP2.mono (by decide) (Nat.le_refl _) (Nat.le_refl _) (Nat.le_refl _)) (by decide) (by decide) (k := r) (by omega)).2.2
  have hd2 := (dy_neg hd1).mono (d' := 320) (v' := 199) (by omega) (by omega)
  have hw : Tw n 1 2 320 199 [(zeE n, (-(valP (polyT P) (ptN Ps xs r)).1, (valP (polyT P) (ptN Ps xs r)).2))] := ⟨by simp, fun p hp => by
    rw [List.mem_singleton.mp hp]
    exact ⟨List.length_replicate, ze_nn n, by rw [deg_ze]; exact Nat.zero_le _⟩, fun p hp => by
    rw [List.mem_singleton.mp hp]; exact hd2, by simp⟩
  obtain ⟨e, hg⟩ := law_sum_v (d := 320) (v := 199) (G := 2) (n := n) (by decide) (hP2.mono (Nat.le_refl 2) (Nat.le_refl _) (by decide) (by decide)) hw.tg (by decide) (by decide)
  exact ⟨_, e, hg⟩
end
abbrev lE (S : D) (J : O) (x2 : Option O) (n : Nat) (lp pp : D) (x6 x7 x8 x9 : Option O) : Fx.Env := [some (.v S), some J, x2, some (.v (.int n)), some (.v lp), some (.v pp), x6, x7, x8, x9, none]
section
variable {cells : List Int} {S : D}
theorem turn_v {a b : Int} (ha : 0 ≤ a) (hb : a < 2 ^ 34) (x2 x3 x4 x5 x6 x7 x8 x9 : Option O) :
    ∃ a' b' y3 y4 y5 y6 y7 y8 y9, k_law_0b [some (.v S), some (JG cells a b), x2, x3, x4, x5, x6, x7, x8, x9, none] = .nx [some (.v S), some (JG cells a' b'), x2, y3, y4, y5, y6, y7, y8, y9, none] ∧ 0 ≤ a' ∧ a' ≤ a + 13000 := by
  obtain ⟨m, a1, b1, e1, m0, m1, h1, h1'⟩ := law_take_v (cells := cells) (b := b) (many := 3) ha (by omega) (by decide) (by decide)
  obtain ⟨m, rfl⟩ := Int.eq_ofNat_of_zero_le m0
  obtain ⟨n, hnm⟩ : ∃ n : Nat, n = m + 1 := ⟨_, rfl⟩
  have hn0 : 1 ≤ n := by omega
  have hn : n ≤ 6 := by omega
  have hni : (1 : Int) + (m : Int) = (n : Int) := by omega
  obtain ⟨xs, Ps, a2, b2, e2, h, h2, h2'⟩ := law_loop_v (cells := cells) hn0 hn (a := a1) (b := b1) h1 (by omega)
  obtain ⟨P0, a3, b3, e3, hP0, h3, h3'⟩ := law_drawn_v (cells := cells) (n := n) hn0 (by omega) (G := 2) (N := 2) (by decide) (by decide) (a := a2) (b := b2) h2 (by omega)
  change p__law_drawn [_, _, .v (.int 2), .v (.int 2)] = .ok (.v (plD P0)) [_, _, .v (.int 2), .v (.int 2)] at e3
  obtain ⟨c, a4, b4, e4, c0, c1, h4, h4'⟩ := law_take_v (cells := cells) (b := b3) (many := 2) h3 (by omega) (by decide) (by decide)
  have s1 : (setF 3 (op2F plusD (cF (.int 1)) (frzF (callF [0] p__law_take (consA (bS 1) (consA (bD (cF (.int 3))) nilA)))))) [some (.v S), some (JG cells a b), x2, x3, x4, x5, x6, x7, x8, x9, none] = .nx [some (.v S), some (JG cells a1 b1), x2, some (.v (.int n)), x4, x5, x6, x7, x8, x9, none] := by
    simp only [JG] at e1 ⊢
    generalize cells.map D.int = cs at *
    simp [e1, hni]
  have s2 : (setF 4 (frzF (callF [0] p__law_loop (consA (bS 1) (consA (bS 3) (consA (bD (cF (.int 1))) nilA)))))) [some (.v S), some (JG cells a1 b1), x2, some (.v (.int n)), x4, x5, x6, x7, x8, x9, none] = .nx [some (.v S), some (JG cells a2 b2), x2, some (.v (.int n)), some (.v (lpD xs Ps)), x5, x6, x7, x8, x9, none] := by
    generalize lpD xs Ps = lp at *
    simp only [JG] at e2 ⊢
    generalize cells.map D.int = cs at *
    simp [e2]
  have s3 : (setF 5 (frzF (callF [0] p__law_drawn (consA (bS 1) (consA (bS 3) (consA (bD (cF (.int 2))) (consA (bD (cF (.int 2))) nilA))))))) [some (.v S), some (JG cells a2 b2), x2, some (.v (.int n)), some (.v (lpD xs Ps)), x5, x6, x7, x8, x9, none] = .nx (lE S (JG cells a3 b3) x2 n (lpD xs Ps) (plD P0) x6 x7 x8 x9) := by
    generalize lpD xs Ps = lp at *
    generalize plD P0 = pp at *
    simp only [JG, lE] at e3 ⊢
    generalize cells.map D.int = cs at *
    simp [e3]
  -- the polynomial
  obtain ⟨P, d, v, a5, b5, y6, hP, hd, hv, h5, h5', s4⟩ : ∃ P d v a5 b5 y6, Tg n 3 2 d v P ∧ d ≤ 600 ∧ v ≤ 600 ∧ 0 ≤ a5 ∧ a5 ≤ a4 + 1 ∧ (ifSF (testF (op2F (eqD false) (frzF (callF [0] p__law_take (consA (bS 1) (consA (bD (cF (.int 2))) nilA)))) (cF (.int 0)))) (seqF (setF 6 (frzF (callF [] p__law_value (consA (bS 5) (consA (bD (frzF (callF [] p__law_after (consA (bS 4) (consA (bD (frzF (callF [0] p__law_take (consA (bS 1) (consA (bD (cF (.int 12))) nilA))))) nilA))))) nilA)))))
  (setF 5 (frzF (callF [] p__law_sum (consA (bS 5) (consA (bD (frzF (callF [] p__law_const (consA (bS 3) (consA (bD (tupF (consF (op1F (iD fun i => -i) (b2F ixD (bS 6) (cF (.int 0)))) (consF (b2F ixD (bS 6) (cF (.int 1))) nilF)))) nilA))))) nilA)))))) nextF) (lE S (JG cells a3 b3) x2 n (lpD xs Ps) (plD P0) x6 x7 x8 x9) = .nx (lE S (JG cells a5 b5) x2 n (lpD xs Ps) (plD P) y6 x7 x8 x9) := by
    by_cases hc : c = 0
    · obtain ⟨r, a5, b5, e5, r0, r1, h5, h5'⟩ := law_take_v (cells := cells) (b := b4) (many := 12) h4 (by omega) (by decide) (by decide)
      obtain ⟨r, rfl⟩ := Int.eq_ofNat_of_zero_le r0
      have hP3 := hP0.mono (show 2 ≤ 3 by decide) (Nat.le_refl 2) (Nat.le_refl 12) (Nat.le_refl 4)
      obtain ⟨P', ep, hP'⟩ := beside_v hn0 hn h hP3 (by decide) (by decide) (r := r) (by omega) hP0
      have ea := law_after_v hn0 hn h (k := r) (by omega)
      have ev := (told_value hn0 hn h hP3 (by decide) (by decide) (k := r) (by omega)).1
      have ek := law_const_v (n := n) (by omega) (r := (-(valP (polyT P0) (ptN Ps xs r)).1, (valP (polyT P0) (ptN Ps xs r)).2))
      change p__law_const _ = .ok (.v (plD _)) _ at ek
      refine ⟨P', 320, 200, a5, b5, some (.v (rD (valP (polyT P0) (ptN Ps xs r)))), hP', by decide, by decide, h5, h5', ?_⟩
      generalize plD (nz [(zeE n, (-(valP (polyT P0) (ptN Ps xs r)).1, (valP (polyT P0) (ptN Ps xs r)).2))]) = qq at *
      generalize lpD xs Ps = lp at *
      generalize plD P0 = pp at *
      generalize plD P' = pp' at *
      generalize ptD (ptN Ps xs r) = pt at *
      generalize valP (polyT P0) (ptN Ps xs r) = w at *
      subst hc
      simp only [JG, lE, rD] at e4 e5 ev ek ⊢
      generalize cells.map D.int = cs at *
      simp [e4, e5, ea, ev, ek, ep, v_eqI, line_le]
    · refine ⟨P0, 12, 4, a4, b4, x6, hP0.mono (by decide) (Nat.le_refl _) (Nat.le_refl _) (Nat.le_refl _), by decide, by decide, h4, by omega, ?_⟩
      generalize lpD xs Ps = lp at *
      generalize plD P0 = pp at *
      simp only [JG, lE] at e4 ⊢
      generalize cells.map D.int = cs at *
      simp [e4, v_eqI, hc]
  obtain ⟨most, a6, b6, e6, m0', m1', h6, h6'⟩ := law_take_v (cells := cells) (b := b5) (many := 21) h5 (by omega) (by decide) (by decide)
  obtain ⟨most, rfl⟩ := Int.eq_ofNat_of_zero_le m0'
  have s5 : (setF 7 (frzF (callF [0] p__law_take (consA (bS 1) (consA (bD (cF (.int 21))) nilA))))) (lE S (JG cells a5 b5) x2 n (lpD xs Ps) (plD P) y6 x7 x8 x9) = .nx (lE S (JG cells a6 b6) x2 n (lpD xs Ps) (plD P) y6 (some (.v (.int most))) x8 x9) := by
    generalize lpD xs Ps = lp at *
    generalize plD P = pp at *
    simp only [JG, lE] at e6 ⊢
    generalize cells.map D.int = cs at *
    simp [e6]
  -- what is due
  have hc := comp_fil (vs := [10]) (g := nameG 10) (ft := k_law_1t) (fe := k_law_1e) (fun k : Nat => .int (0 + (k : Int))) (fun k : Nat => .int (k : Int)) (zeroAt P Ps xs) (ρ := lE S (JG cells a6 b6) x2 n (lpD xs Ps) (plD P) y6 (some (.v (.int most))) x8 x9) (List.range (most + 1)) fun k hk =>
    ⟨[some (.v S), some (JG cells a6 b6), x2, some (.v (.int n)), some (.v (lpD xs Ps)), some (.v (plD P)), y6, some (.v (.int most)), x8, x9, some (.v (.int (0 + (k : Int))))], rfl, [some (.v S), some (JG cells a6 b6), x2, some (.v (.int n)), some (.v (lpD xs Ps)), some (.v (plD P)), y6, some (.v (.int most)), x8, x9, some (.v (.int (k : Int)))], by
      have hk' := List.mem_range.mp hk
      have ea := law_after_v hn0 hn h (k := k) (by omega)
      obtain ⟨ev, _, hdy⟩ := told_value hn0 hn h hP hd hv (k := k) (by omega)
      have hz : zeroAt P Ps xs k = decide (valP (polyT P) (ptN Ps xs k) = (0, 1)) := by
        unfold zeroAt
        refine decide_eq_decide.mpr ⟨fun e => zero_eq hdy.isr e, fun e => by rw [e]⟩
      rw [hz]
      have eq0 := v_eq0 (w := valP (polyT P) (ptN Ps xs k))
      rw [Int.zero_add]
      generalize lpD xs Ps = lp at *
      generalize plD P = pp at *
      generalize ptD (ptN Ps xs k) = pt at *
      generalize decide (valP (polyT P) (ptN Ps xs k) = (0, 1)) = bb at *
      generalize valP (polyT P) (ptN Ps xs k) = w at *
      generalize JG cells a6 b6 = jj at *
      simp only [rD] at ev eq0
      simp [k_law_1t, ea, ev, eq0, line_le], fun _ => ⟨[some (.v S), some (JG cells a6 b6), x2, some (.v (.int n)), some (.v (lpD xs Ps)), some (.v (plD P)), y6, some (.v (.int most)), x8, x9, some (.v (.int (k : Int)))], by simp [k_law_1e], rfl⟩, fun _ => rfl⟩
  obtain ⟨ks, hks⟩ : ∃ ks : List Nat, ks = (List.range (most + 1)).filter (zeroAt P Ps xs) := ⟨_, rfl⟩
  rw [← hks] at hc
  have hfz : fz (zeroAt P Ps xs) 0 (most + 1) = ks.head? := by rw [fz_head, hks, List.range_eq_range']
  have et := told_v hn0 hn h hP hd hv (most := most) (by omega)
  have ef := first_zero_v hn0 hn h hP hd hv (most := most) (by omega)
  have es := same_opt ks.head?
  rw [hfz] at et ef
  have hrg := rg_le (m := most + 1) (by omega)
  rw [show (((most + 1 : Nat) : Int)) = (most : Int) + 1 by omega] at hrg
  have hrl : (rangeL 0 (most + 1)).length < sizeLine := line_lt (by unfold rangeL; rw [List.length_map, List.length_range]; omega)
  have hrd : ((List.range (most + 1)).map fun k : Nat => D.int (0 + (k : Int))) = rangeL 0 (most + 1) := rfl
  rw [hrd] at hc
  obtain ⟨is, his⟩ : ∃ is : List Int, is = ks.map fun k : Nat => (k : Int) := ⟨_, rfl⟩
  have hki : (ks.map fun k : Nat => D.int (k : Int)) = is.map .int := by rw [his, List.map_map]; rfl
  rw [hki] at hc
  have s6 : (setOF 8 (lcF (rng1 (op2F plusD (varF 7) (cF (.int 1)))) [10] (nameG 10) k_law_1t k_law_1e)) (lE S (JG cells a6 b6) x2 n (lpD xs Ps) (plD P) y6 (some (.v (.int most))) x8 x9) = .nx (lE S (JG cells a6 b6) x2 n (lpD xs Ps) (plD P) y6 (some (.v (.int most))) (some (.c (.lst (is.map .int)))) x9) := by
    generalize rangeL 0 (most + 1) = rg at *
    generalize lpD xs Ps = lp at *
    generalize plD P = pp at *
    generalize JG cells a6 b6 = jj at *
    simp only [lE] at hc ⊢
    generalize is.map D.int = dl at *
    simp [hrg, hrl, hc, plainVs]
  have due : ∀ o8, o8 = some (O.c (.lst (is.map .int))) ∨ o8 = some (.v (.lst (is.map .int))) → (ifF (testF (op2F (eqD true) (varFzF 8) (frzF (lstF nilF)))) (b2F ixD (bS 8) (cF (.int 0))) (cF .non)) (lE S (JG cells a6 b6) x2 n (lpD xs Ps) (plD P) y6 (some (.v (.int most))) o8 x9) = .ok (optD ks.head?) (lE S (JG cells a6 b6) x2 n (lpD xs Ps) (plD P) y6 (some (.v (.int most))) (some (.v (.lst (is.map .int)))) x9) := by
    intro o8 h8
    generalize lpD xs Ps = lp at *
    generalize plD P = pp at *
    generalize JG cells a6 b6 = jj at *
    clear s1 s2 s3 s4 s5 s6 hc
    cases ks with
    | nil =>
      subst his
      have en : eqD true (.lst []) (.lst []) = some (.bl false) := v_eqNil (n := true) (ns := [])
      rcases h8 with rfl | rfl <;> simp [lE, optD, en]
    | cons k ks' =>
      subst his
      have en : eqD true (.lst ((((k :: ks').map fun k : Nat => (k : Int))).map D.int)) (.lst []) = some (.bl true) := v_eqNil (n := true) (ns := (k :: ks').map fun k : Nat => (k : Int))
      simp only [List.map_cons] at en h8 ⊢
      generalize (ks'.map fun k : Nat => (k : Int)).map D.int = tl at *
      have h0 : L2.atI (D.int (k : Int) :: tl) ((0 : Nat) : Int) = some (.int (k : Int)) := by
        rw [v_atI (n := 0) rfl (by simp)]; rfl
      have h0' : L2.atI (D.int (k : Int) :: tl) 0 = some (.int (k : Int)) := h0
      rcases h8 with rfl | rfl <;> simp [lE, optD, en, h0']
  have s7 : (ifSF (notF (testF (frzF (callF [] p__law_same (consA (bD (frzF (callF [] p__law_told (consA (bS 4) (consA (bS 5) (consA (bS 7) nilA)))))) (consA (bD (ifF (testF (op2F (eqD true) (varFzF 8) (frzF (lstF nilF)))) (b2F ixD (bS 8) (cF (.int 0))) (cF .non))) nilA)))))) (retF (cF (.bl false))) nextF) (lE S (JG cells a6 b6) x2 n (lpD xs Ps) (plD P) y6 (some (.v (.int most))) (some (.c (.lst (is.map .int)))) x9) = .nx (lE S (JG cells a6 b6) x2 n (lpD xs Ps) (plD P) y6 (some (.v (.int most))) (some (.v (.lst (is.map .int)))) x9) := by
    have due := due _ (.inl rfl)
    generalize (ifF (testF (op2F (eqD true) (varFzF 8) (frzF (lstF nilF)))) (b2F ixD (bS 8) (cF (.int 0))) (cF .non)) = DUE at *
    generalize optD ks.head? = out at *
    generalize lpD xs Ps = lp at *
    generalize plD P = pp at *
    generalize JG cells a6 b6 = jj at *
    generalize is.map D.int = dl at *
    simp only [lE] at due ⊢
    simp [et, due, es]
  have hp : permG 0 3 [2, 1, 0] ([] : List Pl) [.sl 7, .sl 5, .sl 4] = [.sl 4, .sl 5, .sl 7] := rfl
  have s8 : (ifSF (notF (testF (frzF (callF [] p__law_same (consA (bD (frzF (callKF [] p_first_zero (fun {_} => pi_kp_first_zero_0_most_polynomial_loop) 3 nilA (consA (bS 7) (consA (bS 5) (consA (bS 4) nilA)))))) (consA (bD (ifF (testF (op2F (eqD true) (varFzF 8) (frzF (lstF nilF)))) (b2F ixD (bS 8) (cF (.int 0))) (cF .non))) nilA)))))) (retF (cF (.bl false))) nextF) (lE S (JG cells a6 b6) x2 n (lpD xs Ps) (plD P) y6 (some (.v (.int most))) (some (.v (.lst (is.map .int)))) x9) = .nx (lE S (JG cells a6 b6) x2 n (lpD xs Ps) (plD P) y6 (some (.v (.int most))) (some (.v (.lst (is.map .int)))) x9) := by
    have due := due _ (.inr rfl)
    generalize (ifF (testF (op2F (eqD true) (varFzF 8) (frzF (lstF nilF)))) (b2F ixD (bS 8) (cF (.int 0))) (cF .non)) = DUE at *
    generalize optD ks.head? = out at *
    generalize lpD xs Ps = lp at *
    generalize plD P = pp at *
    generalize JG cells a6 b6 = jj at *
    generalize is.map D.int = dl at *
    simp only [lE] at due ⊢
    simp [ef, due, es, hp, pi_kp_first_zero_0_most_polynomial_loop]
  obtain ⟨o, a7, b7, e7, o0, o1, h7, h7'⟩ := law_take_v (cells := cells) (b := b6) (many := 4) h6 (by omega) (by decide) (by decide)
  obtain ⟨od, hod, hat⟩ : ∃ od, oddR od ∧ L2.atI [D.int (-1), .int 10001, .non, .bl true] o = some od := by
    have : o = 0 ∨ o = 1 ∨ o = 2 ∨ o = 3 := by omega
    rcases this with rfl | rfl | rfl | rfl
    · exact ⟨_, .inl rfl, rfl⟩
    · exact ⟨_, .inr (.inl rfl), rfl⟩
    · exact ⟨_, .inr (.inr (.inl rfl)), rfl⟩
    · exact ⟨_, .inr (.inr (.inr rfl)), rfl⟩
  have s9 : (setF 9 (b2F ixD (bD (frzF (lstF (consF (op1F (iD fun i => -i) (cF (.int 1))) (consF (cF (.int 10001)) (consF (cF .non) (consF (cF (.bl true)) nilF))))))) (frzF (callF [0] p__law_take (consA (bS 1) (consA (bD (cF (.int 4))) nilA)))))) (lE S (JG cells a6 b6) x2 n (lpD xs Ps) (plD P) y6 (some (.v (.int most))) (some (.v (.lst (is.map .int)))) x9) = .nx (lE S (JG cells a7 b7) x2 n (lpD xs Ps) (plD P) y6 (some (.v (.int most))) (some (.v (.lst (is.map .int)))) (some (.v od))) := by
    generalize lpD xs Ps = lp at *
    generalize plD P = pp at *
    generalize is.map D.int = dl at *
    simp only [JG, lE] at e7 ⊢
    generalize cells.map D.int = cs at *
    simp [e7, hat, line_le]
  have t1 := told_odd hn0 hn h hP hd hv hod
  have t2 := told_none hn0 hn h (d := od)
  have t3 := told_empty (d := od)
  have q1 : eqD true (.str (Str.ofString "rounds")) (.str (Str.ofString "rounds")) = some (.bl false) := by rw [v_eq (by decide +kernel) (by decide +kernel)]; simp [eqB, toPy, PyData.eqv]
  have q2 : eqD true (.str (Str.ofString "polynomial")) (.str (Str.ofString "polynomial")) = some (.bl false) := by rw [v_eq (by decide +kernel) (by decide +kernel)]; simp [eqB, toPy, PyData.eqv]
  have q3 : eqD true (.str (Str.ofString "loop")) (.str (Str.ofString "loop")) = some (.bl false) := by rw [v_eq (by decide +kernel) (by decide +kernel)]; simp [eqB, toPy, PyData.eqv]
  have s10 : (ifSF (orF (testF (op2F (eqD true) (frzF (callF [] p__law_told (consA (bS 4) (consA (bS 5) (consA (bS 9) nilA))))) (cF (.str "rounds")))) (orF (testF (op2F (eqD true) (frzF (callF [] p__law_told (consA (bS 4) (consA (bD (cF .non)) (consA (bS 9) nilA))))) (cF (.str "polynomial")))) (testF (op2F (eqD true) (frzF (callF [] p__law_told (consA (bD (tupF nilF)) (consA (bD (cF .non)) (consA (bS 9) nilA))))) (cF (.str "loop")))))) (retF (cF (.bl false))) nextF) (lE S (JG cells a7 b7) x2 n (lpD xs Ps) (plD P) y6 (some (.v (.int most))) (some (.v (.lst (is.map .int)))) (some (.v od))) = .nx (lE S (JG cells a7 b7) x2 n (lpD xs Ps) (plD P) y6 (some (.v (.int most))) (some (.v (.lst (is.map .int)))) (some (.v od))) := by
    generalize lpD xs Ps = lp at *
    generalize plD P = pp at *
    generalize JG cells a7 b7 = jj at *
    generalize is.map D.int = dl at *
    simp only [lE]
    simp [t1, t2, t3, q1, q2, q3, line_le]
  refine ⟨a7, b7, some (.v (.int n)), some (.v (lpD xs Ps)), some (.v (plD P)), y6, some (.v (.int most)), some (.v (.lst (is.map .int))), some (.v od), ?_, h7, by omega⟩
  unfold k_law_0b
  rw [e_seq, s1, e_seq_nx, e_seq, s2, e_seq_nx, e_seq, s3, e_seq_nx, e_seq, s4, e_seq_nx, e_seq, s5, e_seq_nx, e_seq, s6, e_seq_nx, e_seq, s7, e_seq_nx, e_seq, s8, e_seq_nx, e_seq, s9, e_seq_nx, s10]
end
theorem law_true : ∀ ns : List Int, ns.length ≤ 63 → ∃ os', p_law [.v (.lst (ns.map .int))] = .ok (.v (.bl true)) os' := fun ns hn => by
  have e0 := law_jug_v (ns := ns)
  obtain ⟨T, hT, hT7⟩ : ∃ T : Nat, (1 : Int) + (if (6 : Int) < (ns.length : Int) then 6 else (ns.length : Int)) = (T : Int) ∧ T ≤ 7 := by
    by_cases h6 : (6 : Int) < (ns.length : Int)
    · exact ⟨7, by rw [if_pos h6]; rfl, by decide⟩
    · exact ⟨1 + ns.length, by rw [if_neg h6]; omega, by omega⟩
  obtain ⟨ρ', hf, a1, b1, x2, y3, y4, y5, y6, y7, y8, y9, h1, h1', rfl⟩ := for_range_inv (g := nameG 2) (b := k_law_0b) (lo := 0) (n := T) (ρ := [some (.v (.lst (ns.map .int))), some (JG ns 0 0), none, none, none, none, none, none, none, none, none])
    (fun i ρ => ∃ (a b : Int) (x2 y3 y4 y5 y6 y7 y8 y9 : Option O), 0 ≤ a ∧ a ≤ 13000 * i ∧ ρ = [some (.v (.lst (ns.map .int))), some (JG ns a b), x2, y3, y4, y5, y6, y7, y8, y9, none]) (fun i ρ hi ⟨a, b, x2, y3, y4, y5, y6, y7, y8, y9, h1, h1', hρ⟩ => by
      subst hρ
      obtain ⟨a', b', z3, z4, z5, z6, z7, z8, z9, e, h2, h2'⟩ := turn_v (cells := ns) (S := .lst (ns.map .int)) (a := a) (b := b) h1 (by omega) (some (.v (.int (0 + (i : Int))))) y3 y4 y5 y6 y7 y8 y9
      exact ⟨_, _, rfl, e, a', b', _, z3, z4, z5, z6, z7, z8, z9, h2, by omega, rfl⟩) ⟨0, 0, none, none, none, none, none, none, none, none, by decide, by simp, rfl⟩
  have hr := rg_le (m := T) (by omega)
  rw [← hT] at hr
  have hln : ((ns.map D.int).length : Int) = (ns.length : Int) := by rw [List.length_map]
  simp only [JG] at e0 hf
  generalize ns.map D.int = S at *
  simp [p_law, fs_law, e0, hln, hr, hf]
end K74

set_option Elab.async false
set_option linter.all false
set_option maxRecDepth 100000
set_option maxHeartbeats 4000000

open PySem PySem.W PyProof.Rows
set_option maxHeartbeats 0 in
theorem PySem.Challenge.cw_idealsame_k74_first_zeros_of_loops_holds : PySem.Challenge.rw_idealsame_k74_first_zeros_of_loops.Holds := by
  w_on; o_law; k_head; (case hw => w_witness2)
  k_fill
  refine Fx.walk_tabs (l := PySem.Challenge.rw_idealsame_k74_first_zeros_of_loops) (n := 63) (k := 16) (x := "script") (CX := fun w => L2.CX PySem.Challenge.rw_idealsame_k74_first_zeros_of_loops.prog w) rfl (by decide) rfl ⟨rfl, by decide, by decide⟩ (fun w h Y => by first | exact PySem.W.km_in_of Y | exact PySem.W.kIn_of Y) ?F (fun _ _ _ _ _ h => Fx.cx_none h)
  case F =>
    intro w mg mb lo mean fa h Y KX T hmg
    refine' K74.all_mk KX T.g hmg ?gI_Course ?pg_Course ?hd_Course ?po_Course ?sa_Course ?mk_Course ?kc_Course ?N_Course_sets ?N_Course_values_now (L2.fun_mk ?l_terms_of ?c_terms_of ?k_terms_of) ?g_terms_of (L2.fun_mk ?l_lowest ?c_lowest ?k_lowest) ?g_lowest (L2.fun_mk ?l_added ?c_added ?k_added) ?g_added (L2.fun_mk ?l_multiplied ?c_multiplied ?k_multiplied) ?g_multiplied (L2.fun_mk ?l_raised ?c_raised ?k_raised) ?g_raised (L2.fun_mk ?l_value_at ?c_value_at ?k_value_at) ?g_value_at (L2.fun_mk ?l_is_row ?c_is_row ?k_is_row) ?g_is_row (L2.fun_mk ?l_is_int ?c_is_int ?k_is_int) ?g_is_int (L2.fun_mk ?l_is_ratio ?c_is_ratio ?k_is_ratio) ?g_is_ratio (L2.fun_mk ?l_are_numbers ?c_are_numbers ?k_are_numbers) ?g_are_numbers (L2.fun_mk ?l_is_pair_in ?c_is_pair_in ?k_is_pair_in) ?g_is_pair_in (L2.fun_mk ?l_is_polynomial_in ?c_is_polynomial_in ?k_is_polynomial_in) ?g_is_polynomial_in (L2.fun_mk ?l_is_loop ?c_is_loop ?k_is_loop) ?g_is_loop (L2.fun_mk ?l_need_loop ?c_need_loop ?k_need_loop) ?g_need_loop (L2.fun_mk ?l_need_loop_polynomial ?c_need_loop_polynomial ?k_need_loop_polynomial) ?g_need_loop_polynomial (L2.fun_mk ?l_within ?c_within ?k_within) ?g_within (L2.fun_mk ?l_need_rounds ?c_need_rounds ?k_need_rounds) ?g_need_rounds (L2.fun_mk ?l_Course__init ?c_Course__init ?k_Course__init) ?at_Course__init ?fn_Course__init (L2.fun_mk ?l_Course__go ?c_Course__go ?k_Course__go) ?at_Course__go ?fn_Course__go (L2.fun_mk ?l_first_zero ?c_first_zero ?k_first_zero) ?g_first_zero (L2.fun_mk ?l__law_jug ?c__law_jug ?k__law_jug) ?g__law_jug (L2.fun_mk ?l__law_take ?c__law_take ?k__law_take) ?g__law_take (L2.fun_mk ?l__law_same ?c__law_same ?k__law_same) ?g__law_same (L2.fun_mk ?l__law_low ?c__law_low ?k__law_low) ?g__law_low (L2.fun_mk ?l__law_plus ?c__law_plus ?k__law_plus) ?g__law_plus (L2.fun_mk ?l__law_poly ?c__law_poly ?k__law_poly) ?g__law_poly (L2.fun_mk ?l__law_sum ?c__law_sum ?k__law_sum) ?g__law_sum (L2.fun_mk ?l__law_by ?c__law_by ?k__law_by) ?g__law_by (L2.fun_mk ?l__law_value ?c__law_value ?k__law_value) ?g__law_value (L2.fun_mk ?l__law_const ?c__law_const ?k__law_const) ?g__law_const (L2.fun_mk ?l__law_ratio ?c__law_ratio ?k__law_ratio) ?g__law_ratio (L2.fun_mk ?l__law_drawn ?c__law_drawn ?k__law_drawn) ?g__law_drawn (L2.fun_mk ?l__law_loop ?c__law_loop ?k__law_loop) ?g__law_loop (L2.fun_mk ?l__law_after ?c__law_after ?k__law_after) ?g__law_after (L2.fun_mk ?l__law_told ?c__law_told ?k__law_told) ?g__law_told (L2.fun_mk ?l_law ?c_law ?k_law) ?g_law ?z_abs ?z_all ?z_bool ?z_dict ?z_enumerate ?z_int ?z_isinstance ?z_len ?z_list ?z_min ?z_range ?z_sorted ?z_str ?z_sum ?z_tuple ?gg_gcd (a_ZERO := (L2.V.ref _)) ?gc_ZERO ?rv_ZERO ?rc_ZERO (a_ONE := (L2.V.ref _)) ?gc_ONE ?rv_ONE ?rc_ONE (a_MOST_VARIABLES := (L2.V.int 6)) ?gc_MOST_VARIABLES ?rv_MOST_VARIABLES ?rc_MOST_VARIABLES (a_MOST_ROUNDS := (L2.V.int 10000)) ?gc_MOST_ROUNDS ?rv_MOST_ROUNDS ?rc_MOST_ROUNDS (a_GREATEST := (L2.V.int (1000000000000000000000000000000000000000000000000000000000000000000000000000000000000000000000000000000000000000000000000000000000000000000000000000000000000000000000000000000000000000000000000000000000000000000000000000000000000000000000000000000000000000000000000000000000000000000000000000000000000000000000000000000000000000000000000000000000000000000000000000000000000000000000000000000000000000000000000000000000000000000000000000000000000000000000000000000000000000000000000000000000000000000000000000000000000000000000000000000000000000000000000000000000000000000000000000000000000000000000000000000000000000000000000000000000000000000000000000000000000000000000000000000000000000000000000000000000000000000000000000000000000000000000000000000000000000000000000000000000000000000000000000000000000000000000000000000000000000000000000000000000000000000000000000000000000000000000000000000000000000000000000000000000000000000000000000000000000000000000000000000000000000000000000000000000000000000000000000000000000000000000000000000000000000000000000000000000000000000000000000000000000000000000000000000000000000000000000000000000000000000000000000000000000000000000000000000000000000000000000000000000000000000000000000000000000000000000000000000000000000000000000000000000000000000000000000000000000000000000000000000000000000000000000000000000000000000000000000000000000000000000000000000000000000000000000000000000000000000000000000000000000000000000000000000000000000000000000000000000000000000000000000000000000000000000000000000000000000000000000000000000000000000000000000000000000000000000000000000000000000000000000000000000000000000000000000000000000000000000000000000000000000000000000000000000000000000000000000000000000000000000000000000000000000000000000000000000000000000000000000000000000000000000000000000000000000000000000000000000000000000000000000000000000000000000000000000000000000000000000000000000000000000000000000000000000000000000000000000000000000000000000000000000000000000000000000000000000000000000000000000000000000000000000000000000000000000000000000000000000000000000000000000000000000000000000000000000000000000000000000000000000000000000000000000000000000000000000000000000000000000000000000000000000000000000000000000000000000000000000000000000000000000000000000000000000000000000000000000000000000000000000000000000000000000000000000000000000000000000000000000000000000000000000000000000000000000000000000000000000000000000000000000000000000000000000000000000000000000000000000000000000000000000000000000000000000000000000000000000000000000000000000000000000000000000000000000000000000000000000000000000000000000000000000000000000000000000000000000000000000000000000000000000000000000000000000000000000000000000000000000000000000000000000000000000000000000000000000000000000000000000000000000000000000000000000000000000000000000000000000000000000000000000000000000000000000000000000000000000000000000000000000000000000000000000000000000000000000000000000))) ?gc_GREATEST ?rv_GREATEST ?rc_GREATEST ?gx_BadLoop ?xb_BadLoop ?xt_BadLoop ?xd_BadLoop ?gx_BadPolynomial ?xb_BadPolynomial ?xt_BadPolynomial ?xd_BadPolynomial ?gx_BadRounds ?xb_BadRounds ?xt_BadRounds ?xd_BadRounds ?gx_IdealError ?xb_IdealError ?xt_IdealError ?xd_IdealError ?gx_TooGreat ?xb_TooGreat ?xt_TooGreat ?xd_TooGreat ?xe_BadLoop ?xk_BadLoop ?xe_BadPolynomial ?xk_BadPolynomial ?xe_BadRounds ?xk_BadRounds ?xe_TooGreat ?xk_TooGreat ?xs_BadLoop_BadLoop ?xs_BadPolynomial_BadLoop ?xs_BadRounds_BadLoop ?xs_TooGreat_BadLoop ?xs_BadLoop_BadPolynomial ?xs_BadPolynomial_BadPolynomial ?xs_BadRounds_BadPolynomial ?xs_TooGreat_BadPolynomial ?xs_BadLoop_BadRounds ?xs_BadPolynomial_BadRounds ?xs_BadRounds_BadRounds ?xs_TooGreat_BadRounds ?xs_BadLoop_IdealError ?xs_BadPolynomial_IdealError ?xs_BadRounds_IdealError ?xs_TooGreat_IdealError K74.law_true
    (case gI_Course => k_is)
    (case pg_Course => k_is)
    (case hd_Course => k_is)
    (case po_Course => k_is)
    (case sa_Course => k_is)
    (case mk_Course => k_is)
    (case kc_Course => k_is)
    (case N_Course_sets => k_is)
    (case N_Course_values_now => k_is)
    (case g_terms_of => k_is)
    (case l_terms_of => k_is)
    (case c_terms_of => k_is)
    (case k_terms_of => k_is)
    (case g_lowest => k_is)
    (case l_lowest => k_is)
    (case c_lowest => k_is)
    (case k_lowest => k_is)
    (case g_added => k_is)
    (case l_added => k_is)
    (case c_added => k_is)
    (case k_added => k_is)
    (case g_multiplied => k_is)
    (case l_multiplied => k_is)
    (case c_multiplied => k_is)
    (case k_multiplied => k_is)
    (case g_raised => k_is)
    (case l_raised => k_is)
    (case c_raised => k_is)
    (case k_raised => k_is)
    (case g_value_at => k_is)
    (case l_value_at => k_is)
    (case c_value_at => k_is)
    (case k_value_at => k_is)
    (case g_is_row => k_is)
    (case l_is_row => k_is)
    (case c_is_row => k_is)
    (case k_is_row => k_is)
    (case g_is_int => k_is)
    (case l_is_int => k_is)
    (case c_is_int => k_is)
    (case k_is_int => k_is)
    (case g_is_ratio => k_is)
    (case l_is_ratio => k_is)
    (case c_is_ratio => k_is)
    (case k_is_ratio => k_is)
    (case g_are_numbers => k_is)
    (case l_are_numbers => k_is)
    (case c_are_numbers => k_is)
    (case k_are_numbers => k_is)
    (case g_is_pair_in => k_is)
    (case l_is_pair_in => k_is)
    (case c_is_pair_in => k_is)
    (case k_is_pair_in => k_is)
    (case g_is_polynomial_in => k_is)
    (case l_is_polynomial_in => k_is)
    (case c_is_polynomial_in => k_is)
    (case k_is_polynomial_in => k_is)
    (case g_is_loop => k_is)
    (case l_is_loop => k_is)
    (case c_is_loop => k_is)
    (case k_is_loop => k_is)
    (case g_need_loop => k_is)
    (case l_need_loop => k_is)
    (case c_need_loop => k_is)
    (case k_need_loop => k_is)
    (case g_need_loop_polynomial => k_is)
    (case l_need_loop_polynomial => k_is)
    (case c_need_loop_polynomial => k_is)
    (case k_need_loop_polynomial => k_is)
    (case g_within => k_is)
    (case l_within => k_is)
    (case c_within => k_is)
    (case k_within => k_is)
    (case g_need_rounds => k_is)
    (case l_need_rounds => k_is)
    (case c_need_rounds => k_is)
    (case k_need_rounds => k_is)
    (case at_Course__init => k_is)
    (case fn_Course__init => k_is)
    (case l_Course__init => k_is)
    (case c_Course__init => k_is)
    (case k_Course__init => k_is)
    (case at_Course__go => k_is)
    (case fn_Course__go => k_is)
    (case l_Course__go => k_is)
    (case c_Course__go => k_is)
    (case k_Course__go => k_is)
    (case g_first_zero => k_is)
    (case l_first_zero => k_is)
    (case c_first_zero => k_is)
    (case k_first_zero => k_is)
    (case g__law_jug => k_is)
    (case l__law_jug => k_is)
    (case c__law_jug => k_is)
    (case k__law_jug => k_is)
    (case g__law_take => k_is)
    (case l__law_take => k_is)
    (case c__law_take => k_is)
    (case k__law_take => k_is)
    (case g__law_same => k_is)
    (case l__law_same => k_is)
    (case c__law_same => k_is)
    (case k__law_same => k_is)
    (case g__law_low => k_is)
    (case l__law_low => k_is)
    (case c__law_low => k_is)
    (case k__law_low => k_is)
    (case g__law_plus => k_is)
    (case l__law_plus => k_is)
    (case c__law_plus => k_is)
    (case k__law_plus => k_is)
    (case g__law_poly => k_is)
    (case l__law_poly => k_is)
    (case c__law_poly => k_is)
    (case k__law_poly => k_is)
    (case g__law_sum => k_is)
    (case l__law_sum => k_is)
    (case c__law_sum => k_is)
    (case k__law_sum => k_is)
    (case g__law_by => k_is)
    (case l__law_by => k_is)
    (case c__law_by => k_is)
    (case k__law_by => k_is)
    (case g__law_value => k_is)
    (case l__law_value => k_is)
    (case c__law_value => k_is)
    (case k__law_value => k_is)
    (case g__law_const => k_is)
    (case l__law_const => k_is)
    (case c__law_const => k_is)
    (case k__law_const => k_is)
    (case g__law_ratio => k_is)
    (case l__law_ratio => k_is)
    (case c__law_ratio => k_is)
    (case k__law_ratio => k_is)
    (case g__law_drawn => k_is)
    (case l__law_drawn => k_is)
    (case c__law_drawn => k_is)
    (case k__law_drawn => k_is)
    (case g__law_loop => k_is)
    (case l__law_loop => k_is)
    (case c__law_loop => k_is)
    (case k__law_loop => k_is)
    (case g__law_after => k_is)
    (case l__law_after => k_is)
    (case c__law_after => k_is)
    (case k__law_after => k_is)
    (case g__law_told => k_is)
    (case l__law_told => k_is)
    (case c__law_told => k_is)
    (case k__law_told => k_is)
    (case g_law => k_is)
    (case l_law => k_is)
    (case c_law => k_is)
    (case k_law => k_is)
    (case z_abs => k_is)
    (case z_all => k_is)
    (case z_bool => k_is)
    (case z_dict => k_is)
    (case z_enumerate => k_is)
    (case z_int => k_is)
    (case z_isinstance => k_is)
    (case z_len => k_is)
    (case z_list => k_is)
    (case z_min => k_is)
    (case z_range => k_is)
    (case z_sorted => k_is)
    (case z_str => k_is)
    (case z_sum => k_is)
    (case z_tuple => k_is)
    (case gg_gcd => k_is)
    (case gx_BadLoop => k_is)
    (case xb_BadLoop => k_is)
    (case xt_BadLoop => k_is)
    (case xd_BadLoop => k_is)
    (case gx_BadPolynomial => k_is)
    (case xb_BadPolynomial => k_is)
    (case xt_BadPolynomial => k_is)
    (case xd_BadPolynomial => k_is)
    (case gx_BadRounds => k_is)
    (case xb_BadRounds => k_is)
    (case xt_BadRounds => k_is)
    (case xd_BadRounds => k_is)
    (case gx_IdealError => k_is)
    (case xb_IdealError => k_is)
    (case xt_IdealError => k_is)
    (case xd_IdealError => k_is)
    (case gx_TooGreat => k_is)
    (case xb_TooGreat => k_is)
    (case xt_TooGreat => k_is)
    (case xd_TooGreat => k_is)
    (case xk_BadLoop => k_is)
    (case xk_BadPolynomial => k_is)
    (case xk_BadRounds => k_is)
    (case xk_TooGreat => k_is)
    (case xs_BadLoop_BadLoop => k_is)
    (case xs_BadPolynomial_BadLoop => k_is)
    (case xs_BadRounds_BadLoop => k_is)
    (case xs_TooGreat_BadLoop => k_is)
    (case xs_BadLoop_BadPolynomial => k_is)
    (case xs_BadPolynomial_BadPolynomial => k_is)
    (case xs_BadRounds_BadPolynomial => k_is)
    (case xs_TooGreat_BadPolynomial => k_is)
    (case xs_BadLoop_BadRounds => k_is)
    (case xs_BadPolynomial_BadRounds => k_is)
    (case xs_BadRounds_BadRounds => k_is)
    (case xs_TooGreat_BadRounds => k_is)
    (case xs_BadLoop_IdealError => k_is)
    (case xs_BadPolynomial_IdealError => k_is)
    (case xs_BadRounds_IdealError => k_is)
    (case xs_TooGreat_IdealError => k_is)
    (case xe_BadLoop => first | k_exc | k_is)
    (case xe_BadPolynomial => first | k_exc | k_is)
    (case xe_BadRounds => first | k_exc | k_is)
    (case xe_TooGreat => first | k_exc | k_is)
    (case gc_ZERO => k_is)
    (case rv_ZERO => first | exact rfl | exact ⟨_, rfl⟩)
    (case rc_ZERO => intro _; refine' Fx.rc_tup (xs := [(L2.V.int 0), (L2.V.int 1)]) ?lk ?h1 ?h2 ?hs ?hv ?hr; (case lk => k_is); (case h1 => exact ⟨rfl, rfl⟩); (case h2 => exact rfl); (case hs => decide); (case hv => exact (.cons ⟨_, rfl⟩ (.cons ⟨_, rfl⟩ .nil))); (case hr => exact fun G => (.cons (.int _) (.cons (.int _) .nil))))
    (case gc_ONE => k_is)
    (case rv_ONE => first | exact rfl | exact ⟨_, rfl⟩)
    (case rc_ONE => intro _; refine' Fx.rc_tup (xs := [(L2.V.int 1), (L2.V.int 1)]) ?lk ?h1 ?h2 ?hs ?hv ?hr; (case lk => k_is); (case h1 => exact ⟨rfl, rfl⟩); (case h2 => exact rfl); (case hs => decide); (case hv => exact (.cons ⟨_, rfl⟩ (.cons ⟨_, rfl⟩ .nil))); (case hr => exact fun G => (.cons (.int _) (.cons (.int _) .nil))))
    (case gc_MOST_VARIABLES => k_is)
    (case rv_MOST_VARIABLES => first | exact rfl | exact ⟨_, rfl⟩)
    (case rc_MOST_VARIABLES => intro _; exact fun G => .int _)
    (case gc_MOST_ROUNDS => k_is)
    (case rv_MOST_ROUNDS => first | exact rfl | exact ⟨_, rfl⟩)
    (case rc_MOST_ROUNDS => intro _; exact fun G => .int _)
    (case gc_GREATEST => k_is)
    (case rv_GREATEST => first | exact rfl | exact ⟨_, rfl⟩)
    (case rc_GREATEST => intro _; exact fun G => .int _)
