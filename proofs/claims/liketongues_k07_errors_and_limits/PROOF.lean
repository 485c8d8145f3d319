import PyProof.Rows.All
import Wide.All
import OpenK.AllK
import Wide.FinOn
import HandS.Base
import HandS.Call
import HandS.List
import HandS.Words
import HandS.Lambda
import HandS.HotCalls
import HandS.ExcInit
import KE.KDictKeyed
import KE.KDictWalk
import HandS.TupAny
import HandS.TupMul
import HandS.Deep
import HandS.IsInst
import HandS.Text
import HandS.TupLe
import HandS.Style
import HandS.Dict
import HandS.Ends
import HandS.Comp
import HandS.Iter
import HandS.Walk
import HandS.More
import HandS.WordsDict
import HandS.Replace
import PyProof.ReprRoads
import KE.KRevSl
import KE.GoesEnum
import HandS.Zip
import HandS.ForMost
import HandS.EndTab
import KE.KNestM
import HandS.Star
import HandS.SortKw
import HandS.DictTup
import KE.KMinKey
import HandS.SortInts
import HandS.FStr
import HandS.Conv
import HandS.RaiseMore
import PyProof.InstNe
import HandS.MapObj
import KE.KDictCopyH
import KE.KDictDisplayH
import HandS.SetFor
import HandS.Strs
import HandS.StrMore
import PyProof.Rows.RegReprOcc
import KE.GoesZip
import KE.GoesMore
import PyProof.MeetsIn
import PyProof.Rows.Range3
import KE.RegKTryMore
import HandS.TryOnly
import KE.SortData
import KE.DataCmp
import KE.DataMinMax
import HandS.WideBits
import HandS.TupLen
import PyProof.TupleOfStr
import HandS.ExcCtx
import KE.KTryMore
import KE.KExcIs
import HandS.ExcField
import HandS.ExcIs
import KE.KWithOwn
import KE.KEqDict
import HandS.Finally
import KE.KExcInit
import HandS.ExcValue
import PySem.Challenge.RW_liketongues_k07_errors_and_limits
import PyProof.ReprLen
set_option Elab.async false
set_option linter.all false
section
set_option maxRecDepth 100000
set_option maxHeartbeats 4000000
namespace MC
open PySem PySem.Spec PyProof.Rows L2

/-- a name: its signs -/
abbrev Nm := List Nat

/-- pure values; ref n: the n-th object of the list heap; scr, rdic, ins: objects that nobody changes any more (lists, dicts, instances) -/
inductive PV where
  | non
  | bl (b : Bool)
  | int (i : Int)
  | str (s : List Nat)
  | tup (xs : List PV)
  | scr (xs : List PV)
  | rdic (kvs : List (PV × PV))
  | ins (c : Nat) (fs : List (Nm × PV))
  | ref (n : Nat)
  | gl (i : Nat)
  | exn (c : Nat) (fs : List (Nm × PV))
  | exv (c : Nat) (fs : List (Nm × PV))
  deriving Inhabited

/-- objects that may change -/
inductive PO where
  | lst (xs : List PV)
  | ins (c : Nat) (fs : List (Nm × PV))
  | dic (lk : Bool) (kvs : List (PV × PV))
  | dit (lk : Bool) (kvs : List (PV × PV))
  deriving Inhabited
abbrev PH := List PO

/-- what the text's top has left: its written part, its classes and its values by number -/
structure Wo where
  K : PySem.W.Frag
  cl : Nat → Option Addr
  gv : Nat → Option V
  W : World
  T : List (Addr × Str) := []
  ex : Option (Addr × Obj) := none

def nmS (k : Nm) : Str := ⟨k.toArray⟩

/-- a dict's key: an int or a text -/
def keyP : PV → Option Key
  | .int i => some (.inl i)
  | .str s => some (.inr ⟨s.toArray⟩)
  | _ => none

/-- a list that nobody changes: an object of the written part, or one that is known to the object -/
def ScrL (w : Wo) (M : Addr → Prop) (H : Hp) (a : Addr) (vs : List V) : Prop :=
  (∃ (o : Obj) (its : Array Value) (n : Nat), w.K.lookup a = some o ∧ o.cls = .type "list" ∧ o.dict = none ∧ o.data = .seq its n ∧ its.size ≤ sizeLine ∧ Vals vs its.toList) ∨
    ∃ o, H a = some (.frz o (.lst vs)) ∧ ¬ M a
theorem ScrL.sq {w : Wo} {M : Addr → Prop} {H : Hp} {a : Addr} {vs : List V} (h : ScrL w M H a vs) : SqL w.K H a vs := h.elim .inr fun ⟨o, e, _⟩ => .inl (.inr ⟨o, e⟩)

mutual
inductive VR (w : Wo) (M : Addr → Prop) (rho : List Addr) (H : Hp) : PV → V → Prop
  | non : VR w M rho H .non .non
  | bl (b : Bool) : VR w M rho H (.bl b) (.bl b)
  | int (i : Int) : VR w M rho H (.int i) (.int i)
  | str (s : List Nat) : VR w M rho H (.str s) (.str ⟨s.toArray⟩)
  | tup {xs : List PV} {vs : List V} {a : Addr} : SqT w.K H a vs → VRs w M rho H xs vs → VR w M rho H (.tup xs) (.ref a)
  | scr {xs : List PV} {vs : List V} {a : Addr} : ScrL w M H a vs → VRs w M rho H xs vs → VR w M rho H (.scr xs) (.ref a)
  | rdic {kvs : List (PV × PV)} {ks : List (Key × V)} {a : Addr} {o : Obj} : H a = some (.frz o (.dK ks)) → ¬ M a → KRs w M rho H kvs ks → VR w M rho H (.rdic kvs) (.ref a)
  | ins {c : Nat} {C dx a : Addr} {fs : List (Nm × PV)} {gs : List (Str × V)} : w.cl c = some C → H a = some (.ins C dx gs) → ¬ M a → FRs w M rho H fs gs → VR w M rho H (.ins c fs) (.ref a)
  | ref {n : Nat} {a : Addr} : rho[n]? = some a → VR w M rho H (.ref n) (.ref a)
  | gl {i : Nat} {v : V} : w.gv i = some v → VR w M rho H (.gl i) v
  | exn {c : Nat} {C a : Addr} {d : Option Addr} {oe : Obj} {fs : List (Nm × PV)} {gs : List (Str × V)} : w.ex = some (a, oe) → Zc (.ref C) d oe → (∃ vs, oe.data = .fields vs) → w.cl c = some C → (∀ x, d = some x → H x = some (.xd gs) ∧ ¬ M x) → (d = none → gs = []) → FRs w M rho H fs gs → VR w M rho H (.exn c fs) (.ref a)
  | exv {c : Nat} {C a : Addr} {d : Option Addr} {fs : List (Nm × PV)} {gs : List (Str × V)} : H a = some (exo a C d) → ¬ M a → w.cl c = some C → (∀ x, d = some x → H x = some (exd x gs) ∧ ¬ M x) → (d = none → gs = []) → FRs w M rho H fs gs → VR w M rho H (.exv c fs) (.ref a)
inductive VRs (w : Wo) (M : Addr → Prop) (rho : List Addr) (H : Hp) : List PV → List V → Prop
  | nil : VRs w M rho H [] []
  | cons {x : PV} {v : V} {xs : List PV} {vs : List V} : VR w M rho H x v → VRs w M rho H xs vs → VRs w M rho H (x :: xs) (v :: vs)
inductive FRs (w : Wo) (M : Addr → Prop) (rho : List Addr) (H : Hp) : List (Nm × PV) → List (Str × V) → Prop
  | nil : FRs w M rho H [] []
  | cons {k : Nm} {x : PV} {v : V} {fs : List (Nm × PV)} {gs : List (Str × V)} : VR w M rho H x v → FRs w M rho H fs gs → FRs w M rho H ((k, x) :: fs) ((nmS k, v) :: gs)
inductive KRs (w : Wo) (M : Addr → Prop) (rho : List Addr) (H : Hp) : List (PV × PV) → List (Key × V) → Prop
  | nil : KRs w M rho H [] []
  | cons {k x : PV} {j : Key} {v : V} {fs : List (PV × PV)} {gs : List (Key × V)} : keyP k = some j → VR w M rho H x v → KRs w M rho H fs gs → KRs w M rho H ((k, x) :: fs) ((j, v) :: gs)
end

mutual
/-- a key of a dict whose keys are tuples -/
def nkP : PV → Option NestedKey
  | .non => some .none
  | .bl b => some (.num (if b = true then 1 else 0))
  | .int i => some (.num i)
  | .str s => some (.text ⟨s.toArray⟩)
  | .tup xs => match nkPs xs with
    | some ks => some (.tup ks)
    | none => none
  | .scr _ => none
  | .rdic _ => none
  | .ins _ _ => none
  | .ref _ => none
  | .gl _ => none
  | .exn _ _ => none
  | .exv _ _ => none
def nkPs : List PV → Option (List NestedKey)
  | [] => some []
  | x :: xs => match nkP x with
    | some k => match nkPs xs with
      | some ks => some (k :: ks)
      | none => none
    | none => none
end
/-- a dict whose keys are tuples, by its entries -/
def TDO (W : World) (a : Addr) (xs : List (NestedKey × Addr × Value)) : HO := .ext fun h => ∃ o es ep, h.get? a = some o ∧ o.ExactDict ∧ o.data = .dict es ep ∧ es.toList = xs.map fun x => ⟨x.1.hash W, .ref x.2.1, x.2.2⟩
inductive TRs (w : Wo) (M : Addr → Prop) (rho : List Addr) (H : Hp) : List (PV × PV) → List (NestedKey × Addr × Value) → Prop
  | nil : TRs w M rho H [] []
  | cons {k x : PV} {nk : NestedKey} {a : Addr} {u : Value} {v : V} {fs : List (PV × PV)} {gs : List (NestedKey × Addr × Value)} : nkP k = some nk → nk.depth ≤ 8 → VR w M rho H k (.ref a) → VR w M rho H x v → RelV v u → TRs w M rho H fs gs → TRs w M rho H ((k, x) :: fs) ((nk, a, u) :: gs)

def OR (w : Wo) (M : Addr → Prop) (rho : List Addr) (H : Hp) (a : Addr) : PO → Prop
  | .lst xs => ∃ vs, H a = some (.lst vs) ∧ VRs w M rho H xs vs
  | .ins c fs => ∃ C dx gs, w.cl c = some C ∧ H a = some (.ins C dx gs) ∧ FRs w M rho H fs gs
  | .dic lk kvs => ∃ ks, (bif lk then ∃ o, H a = some (.frz o (.dK ks)) else H a = some (.dK ks)) ∧ KRs w M rho H kvs ks
  | .dit lk kvs => ∃ xs, (bif lk then ∃ o, H a = some (.frz o (TDO w.W a xs)) else H a = some (TDO w.W a xs)) ∧ (a == sysModules) = false ∧ xs.length ≤ sizeLine ∧ (xs.map (·.1)).Nodup ∧ TRs w M rho H kvs xs

/-- the tables of code objects -/
def TabsM (w : Wo) (M : Addr → Prop) (H : Hp) : Prop := ∀ p ∈ w.T, ∃ ps : Array Value, H p.1 = some (.tbl ps) ∧ TriplesOk ps.toList ∧ ∀ (pos : Pos) (cv : Value), codeAmong pos ps.toList = some cv → ∃ c, cv = .ref c ∧ H c = some (LamX.CodeO c p.2) ∧ ¬ M c
structure HR (w : Wo) (M : Addr → Prop) (rho : List Addr) (H : Hp) (h : PH) : Prop where
  len : h.length = rho.length
  nd : rho.Nodup
  mem : ∀ b ∈ rho, M b
  live : ∀ b, M b → H b ≠ none
  ob : ∀ (n : Nat) (o : PO), h[n]? = some o → ∃ a, rho[n]? = some a ∧ OR w M rho H a o
  tabs : TabsM w M H

structure Step (M : Addr → Prop) (rho : List Addr) (H : Hp) (M' : Addr → Prop) (rho' : List Addr) (H' : Hp) : Prop where
  ext : ∀ (n : Nat) a, rho[n]? = some a → rho'[n]? = some a
  mono : ∀ b, M b → M' b
  fresh : ∀ b, M' b → M b ∨ H b = none
  new : ∀ b ∈ rho', b ∈ rho ∨ H b = none
  frame : ∀ b o, b ∉ rho → H b = some o → (∀ ps, o ≠ .tbl ps) → H' b = some o
  there : ∀ b, H b ≠ none → H' b ≠ none
  frz : ∀ b o u, H b = some (.frz o u) → H' b = some (.frz o u)

section
variable {w : Wo} {M M1 M2 : Addr → Prop} {rho rho1 rho2 : List Addr} {H H1 H2 : Hp} {h h1 : PH}

theorem Step.refl : Step M rho H M rho H := ⟨fun _ _ e => e, fun _ e => e, fun _ e => .inl e, fun _ e => .inl e, fun _ _ _ e _ => e, fun _ e => e, fun _ _ _ e => e⟩
theorem Step.trans (a : Step M rho H M1 rho1 H1) (b : Step M1 rho1 H1 M2 rho2 H2) : Step M rho H M2 rho2 H2 where
  ext := fun n x e => b.ext n x (a.ext n x e)
  mono := fun x e => b.mono x (a.mono x e)
  fresh := fun x e => by
    rcases b.fresh x e with e | e
    · exact a.fresh x e
    · refine .inr ?_
      cases q : H x with
      | none => rfl
      | some o => exact absurd e (a.there x (by rw [q]; exact Option.some_ne_none _))
  new := fun x e => by
    rcases b.new x e with e | e
    · exact a.new x e
    · refine .inr ?_
      cases q : H x with
      | none => rfl
      | some o => exact absurd e (a.there x (by rw [q]; exact Option.some_ne_none _))
  frame := fun x o n e nt => by
    refine b.frame x o (fun z => ?_) (a.frame x o n e nt) nt
    rcases a.new x z with z | z
    · exact n z
    · rw [z] at e; cases e
  there := fun x e => b.there x (a.there x e)
  frz := fun x o u e => b.frz x o u (a.frz x o u e)

/-- no tuple -/
def noT : HO → Bool
  | .tup _ => false
  | .frz _ (.tup _) => false
  | .tbl _ => false
  | _ => true
theorem OR.some {a : Addr} {o : PO} (r : OR w M rho H a o) : ∃ u, H a = some u ∧ noT u = true := by
  cases o with
  | lst xs => obtain ⟨vs, e, _⟩ := r; exact ⟨_, e, rfl⟩
  | ins c fs => obtain ⟨_, _, _, _, e, _⟩ := r; exact ⟨_, e, rfl⟩
  | dic lk kvs =>
    obtain ⟨ks, e, _⟩ := r
    cases lk with
    | false => exact ⟨_, e, rfl⟩
    | true => obtain ⟨o, e⟩ := e; exact ⟨_, e, rfl⟩
  | dit lk kvs =>
    obtain ⟨ks, e, _⟩ := r
    cases lk with
    | false => exact ⟨_, e, rfl⟩
    | true => obtain ⟨o, e⟩ := e; exact ⟨_, e, rfl⟩
theorem HR.at (r : HR w M rho H h) {b : Addr} (hb : b ∈ rho) : ∃ u, H b = some u ∧ noT u = true := by
  obtain ⟨n, hn, e⟩ := List.mem_iff_getElem.mp hb
  have hl : n < h.length := by rw [r.len]; exact hn
  obtain ⟨a, ha, q⟩ := r.ob n h[n] (List.getElem?_eq_getElem hl)
  rw [List.getElem?_eq_getElem hn, e] at ha
  cases ha
  exact q.some
theorem Step.sqT (st : Step M rho H M1 rho1 H1) (r : HR w M rho H h) {K : PySem.W.Frag} {a : Addr} {vs : List V} (q : SqT K H a vs) : SqT K H1 a vs := by
  rcases q with (q | ⟨o, q⟩) | q
  · refine .inl (.inl (st.frame a _ (fun z => ?_) q fun ps z => by cases z))
    obtain ⟨u, e, n⟩ := r.at z
    rw [q] at e; cases e; cases n
  · refine .inl (.inr ⟨o, st.frame a _ (fun z => ?_) q fun ps z => by cases z⟩)
    obtain ⟨u, e, n⟩ := r.at z
    rw [q] at e; cases e; cases n
  · exact .inr q
theorem Step.no (st : Step M rho H M1 rho1 H1) {a : Addr} {u : HO} (q : H a = some u) (n : ¬ M a) : ¬ M1 a := fun z => by
  rcases st.fresh a z with z | z
  · exact n z
  · rw [q] at z; cases z
theorem Step.at (st : Step M rho H M1 rho1 H1) (r : HR w M rho H h) {a : Addr} {u : HO} (q : H a = some u) (n : ¬ M a) (nt : ∀ ps, u ≠ .tbl ps := by intro ps z; cases z) : H1 a = some u :=
  st.frame a u (fun z => n (r.mem a z)) q nt
theorem Step.scr (st : Step M rho H M1 rho1 H1) (r : HR w M rho H h) {a : Addr} {vs : List V} (q : ScrL w M H a vs) : ScrL w M1 H1 a vs := by
  rcases q with q | ⟨o, q, n⟩
  · exact .inl q
  · exact .inr ⟨o, st.at r q n, st.no q n⟩
mutual
theorem VR.step (st : Step M rho H M1 rho1 H1) (r : HR w M rho H h) : ∀ {x : PV} {v : V}, VR w M rho H x v → VR w M1 rho1 H1 x v
  | _, _, .non => .non
  | _, _, .bl b => .bl b
  | _, _, .int i => .int i
  | _, _, .str s => .str s
  | _, _, .tup q s => .tup (st.sqT r q) (VRs.step st r s)
  | _, _, .scr q s => .scr (st.scr r q) (VRs.step st r s)
  | _, _, .rdic e n s => .rdic (st.at r e n) (st.no e n) (KRs.step st r s)
  | _, _, .ins c e n s => .ins c (st.at r e n) (st.no e n) (FRs.step st r s)
  | _, _, .ref e => .ref (st.ext _ _ e)
  | _, _, .gl e => .gl e
  | _, _, .exn e1 e2 e3 e4 e5 e6 s => .exn e1 e2 e3 e4 (fun x hx => ⟨st.at r (e5 x hx).1 (e5 x hx).2, st.no (e5 x hx).1 (e5 x hx).2⟩) e6 (FRs.step st r s)
  | _, _, .exv e1 e2 e3 e4 e5 s => .exv (st.at r e1 e2 fun _ => exo_tbl) (st.no e1 e2) e3 (fun x hx => ⟨st.at r (e4 x hx).1 (e4 x hx).2 (fun _ z => HO.noConfusion (show HO.ext _ = HO.tbl _ from z)), st.no (e4 x hx).1 (e4 x hx).2⟩) e5 (FRs.step st r s)
theorem VRs.step (st : Step M rho H M1 rho1 H1) (r : HR w M rho H h) : ∀ {xs : List PV} {vs : List V}, VRs w M rho H xs vs → VRs w M1 rho1 H1 xs vs
  | _, _, .nil => .nil
  | _, _, .cons a b => .cons (VR.step st r a) (VRs.step st r b)
theorem FRs.step (st : Step M rho H M1 rho1 H1) (r : HR w M rho H h) : ∀ {fs : List (Nm × PV)} {gs : List (Str × V)}, FRs w M rho H fs gs → FRs w M1 rho1 H1 fs gs
  | _, _, .nil => .nil
  | _, _, .cons a b => .cons (VR.step st r a) (FRs.step st r b)
theorem KRs.step (st : Step M rho H M1 rho1 H1) (r : HR w M rho H h) : ∀ {fs : List (PV × PV)} {gs : List (Key × V)}, KRs w M rho H fs gs → KRs w M1 rho1 H1 fs gs
  | _, _, .nil => .nil
  | _, _, .cons k a b => .cons k (VR.step st r a) (KRs.step st r b)
end

theorem TRs.step (st : Step M rho H M1 rho1 H1) (r : HR w M rho H h) : ∀ {fs : List (PV × PV)} {gs : List (NestedKey × Addr × Value)}, TRs w M rho H fs gs → TRs w M1 rho1 H1 fs gs
  | _, _, .nil => .nil
  | _, _, .cons k d a b c q => .cons k d (a.step st r) (b.step st r) c (TRs.step st r q)
theorem TRs.length : ∀ {fs : List (PV × PV)} {gs : List (NestedKey × Addr × Value)}, TRs w M rho H fs gs → gs.length = fs.length
  | _, _, .nil => rfl
  | _, _, .cons _ _ _ _ _ b => by rw [List.length_cons, List.length_cons, TRs.length b]
theorem VRs.length : ∀ {xs : List PV} {vs : List V}, VRs w M rho H xs vs → vs.length = xs.length
  | _, _, .nil => rfl
  | _, _, .cons _ b => by rw [List.length_cons, List.length_cons, VRs.length b]
theorem VRs.get : ∀ {xs : List PV} {vs : List V} {i : Nat} {x : PV}, VRs w M rho H xs vs → xs[i]? = some x → ∃ v, vs[i]? = some v ∧ VR w M rho H x v
  | _, _, i, _, .nil, e => by simp at e
  | _, _, 0, _, .cons a _, e => by simp at e; subst e; exact ⟨_, rfl, a⟩
  | _, _, i + 1, x, .cons _ b, e => by
    obtain ⟨v, h1, h2⟩ := VRs.get (i := i) (x := x) b (by simpa using e)
    exact ⟨v, by simpa using h1, h2⟩
theorem VRs.append : ∀ {xs ys : List PV} {vs us : List V}, VRs w M rho H xs vs → VRs w M rho H ys us → VRs w M rho H (xs ++ ys) (vs ++ us)
  | _, _, _, _, .nil, s => s
  | _, _, _, _, .cons r t, s => .cons r (VRs.append t s)
theorem VRs.take : ∀ {xs : List PV} {vs : List V} (n : Nat), VRs w M rho H xs vs → VRs w M rho H (xs.take n) (vs.take n)
  | _, _, 0, _ => .nil
  | _, _, _ + 1, .nil => .nil
  | _, _, n + 1, .cons r t => .cons r (VRs.take n t)
theorem VRs.drop : ∀ {xs : List PV} {vs : List V} (n : Nat), VRs w M rho H xs vs → VRs w M rho H (xs.drop n) (vs.drop n)
  | _, _, 0, r => r
  | _, _, _ + 1, .nil => .nil
  | _, _, n + 1, .cons _ t => VRs.drop n t
theorem VRs.set {x : PV} {v : V} (r : VR w M rho H x v) : ∀ {xs : List PV} {vs : List V} (i : Nat), VRs w M rho H xs vs → VRs w M rho H (xs.set i x) (vs.set i v)
  | _, _, _, .nil => .nil
  | _, _, 0, .cons _ t => .cons r t
  | _, _, i + 1, .cons q t => .cons q (VRs.set r i t)

/-- all that stood stands, more may be laid -/
theorem Step.grow (e : ∀ b o, H b = some o → H1 b = some o) : Step M rho H M rho H1 where
  ext := fun _ _ e => e
  mono := fun _ e => e
  fresh := fun _ e => .inl e
  new := fun _ e => .inl e
  frame := fun b o _ q _ => e b o q
  there := fun b q z => by
    cases p : H b with
    | none => exact q p
    | some o => rw [e b o p] at z; cases z
  frz := fun b o u q => e b _ q
theorem OR.step (st : Step M rho H M1 rho1 H1) (r : HR w M rho H h) {a : Addr} {o : PO} (e : H1 a = H a) (q : OR w M rho H a o) : OR w M1 rho1 H1 a o := by
  cases o with
  | lst xs => obtain ⟨vs, p, s⟩ := q; exact ⟨vs, e.trans p, s.step st r⟩
  | ins c fs => obtain ⟨C, dx, gs, p1, p, s⟩ := q; exact ⟨C, dx, gs, p1, e.trans p, s.step st r⟩
  | dic lk kvs =>
    obtain ⟨ks, p, s⟩ := q
    refine ⟨ks, ?_, s.step st r⟩
    cases lk with
    | false => exact e.trans p
    | true => obtain ⟨o, p⟩ := p; exact ⟨o, e.trans p⟩
  | dit lk kvs =>
    obtain ⟨ks, p, z1, z2, z3, s⟩ := q
    refine ⟨ks, ?_, z1, z2, z3, s.step st r⟩
    cases lk with
    | false => exact e.trans p
    | true => obtain ⟨o, p⟩ := p; exact ⟨o, e.trans p⟩
theorem TabsM.grow (t : TabsM w M H) (e : ∀ b o, H b = some o → H1 b = some o) (m : ∀ b, H b ≠ none → M1 b → M b) : TabsM w M1 H1 := fun p hp => by
  obtain ⟨ps, h1, h2, h3⟩ := t p hp
  refine ⟨ps, e _ _ h1, h2, fun pos cv hc => ?_⟩
  obtain ⟨c, e1, e2, e3⟩ := h3 pos cv hc
  exact ⟨c, e1, e _ _ e2, fun z => e3 (m c (by rw [e2]; exact Option.some_ne_none _) z)⟩
theorem HR.grow (r : HR w M rho H h) (e : ∀ b o, H b = some o → H1 b = some o) : HR w M rho H1 h where
  len := r.len
  nd := r.nd
  mem := r.mem
  live := fun b m => (Step.grow (M := M) (rho := rho) e).there b (r.live b m)
  ob := fun n o q => by
    obtain ⟨a, ha, s⟩ := r.ob n o q
    obtain ⟨u, hu, _⟩ := s.some
    exact ⟨a, ha, s.step (Step.grow e) r ((e a u hu).trans hu.symm)⟩
  tabs := r.tabs.grow e fun _ _ z => z
theorem same_upd {p : Addr} {o : HO} (n : H p = none) : ∀ b u, H b = some u → upd H p o b = some u := fun b u e => by
  rw [upd_ne (ne_of_none e n)]; exact e

/-- a new object of the list heap -/
theorem Step.alloc {p : Addr} {o : HO} (n : H p = none) : Step M rho H (fun b => M b ∨ b = p) (rho ++ [p]) (upd H p o) where
  ext := fun i a e => by
    have hi : i < rho.length := (List.getElem?_eq_some_iff.mp e).1
    rw [List.getElem?_append_left hi]; exact e
  mono := fun b e => .inl e
  fresh := fun b e => e.elim .inl fun z => .inr (by rw [z]; exact n)
  new := fun b e => by
    rcases List.mem_append.mp e with z | z
    · exact .inl z
    · rw [List.mem_singleton.mp z]; exact .inr n
  frame := fun b u _ e _ => same_upd n b u e
  there := fun b e => (Step.grow (M := M) (rho := rho) (same_upd (o := o) n)).there b e
  frz := fun b u v e => same_upd n b _ e
theorem HR.alloc (r : HR w M rho H h) {p : Addr} {o : HO} (n : H p = none) {po : PO} (q : OR w (fun b => M b ∨ b = p) (rho ++ [p]) (upd H p o) p po) :
    HR w (fun b => M b ∨ b = p) (rho ++ [p]) (upd H p o) (h ++ [po]) where
  len := by rw [List.length_append, List.length_append, r.len]; rfl
  nd := by
    refine List.nodup_append.mpr ⟨r.nd, (by simp), fun a ha b hb e => ?_⟩
    rw [List.mem_singleton] at hb
    subst e; subst hb
    exact r.live _ (r.mem _ ha) n
  mem := fun b hb => (List.mem_append.mp hb).elim (fun z => .inl (r.mem b z)) fun z => .inr (List.mem_singleton.mp z)
  live := fun b hb => hb.elim (fun z => (Step.alloc (M := M) (rho := rho) (o := o) n).there b (r.live b z)) fun z => by rw [z, upd_same]; exact Option.some_ne_none _
  ob := fun i u e => by
    by_cases hi : i < h.length
    · rw [List.getElem?_append_left hi] at e
      obtain ⟨a, ha, s⟩ := r.ob i u e
      obtain ⟨v, hv, _⟩ := s.some
      exact ⟨a, (Step.alloc (M := M) (rho := rho) (o := o) n).ext i a ha, s.step (Step.alloc n) r (upd_ne (ne_of_none hv n))⟩
    · have hi2 : i = h.length := by
        have z := (List.getElem?_eq_some_iff.mp e).1
        rw [List.length_append, List.length_singleton] at z
        omega
      subst hi2
      rw [List.getElem?_append_right (Nat.le_refl _), Nat.sub_self] at e
      cases e
      refine ⟨p, ?_, q⟩
      rw [List.getElem?_append_right (by rw [r.len]; exact Nat.le_refl _), r.len, Nat.sub_self]
      rfl
  tabs := r.tabs.grow (same_upd n) fun b hb z => z.elim id fun q => absurd (by rw [q]; exact n) hb
/-- the n-th object is written -/
theorem Step.write (r : HR w M rho H h) {n : Nat} {a : Addr} {o : HO} (e : rho[n]? = some a) (nf : ∀ p u, H a ≠ some (.frz p u)) : Step M rho H M rho (upd H a o) where
  ext := fun _ _ e => e
  mono := fun _ e => e
  fresh := fun _ e => .inl e
  new := fun _ e => .inl e
  frame := fun b u nb q _ => by
    rw [upd_ne]
    · exact q
    · rintro rfl
      exact nb (List.mem_of_getElem? e)
  there := fun b q => by
    by_cases hb : b = a
    · subst hb; rw [upd_same]; exact Option.some_ne_none _
    · rw [upd_ne hb]; exact q
  frz := fun b p u q => by
    rw [upd_ne]
    · exact q
    · rintro rfl
      exact nf p u q
theorem TabsM.write (t : TabsM w M H) {a : Addr} {o : HO} (m : M a) (nt : ∀ ps, H a ≠ some (.tbl ps)) : TabsM w M (upd H a o) := fun p hp => by
  obtain ⟨ps, h1, h2, h3⟩ := t p hp
  refine ⟨ps, ?_, h2, fun pos cv hc => ?_⟩
  · rw [upd_ne]
    · exact h1
    · rintro rfl
      exact nt ps h1
  · obtain ⟨c, e1, e2, e3⟩ := h3 pos cv hc
    refine ⟨c, e1, ?_, e3⟩
    rw [upd_ne]
    · exact e2
    · rintro rfl
      exact e3 m
theorem HR.notTab (r : HR w M rho H h) {b : Addr} (hb : b ∈ rho) (ps : Array Value) : H b ≠ some (.tbl ps) := fun z => by
  obtain ⟨u, e, n⟩ := r.at hb
  rw [z] at e; cases e; cases n
theorem HR.write (r : HR w M rho H h) {n : Nat} {a : Addr} {o : HO} {po : PO} (e : rho[n]? = some a) (nf : ∀ p u, H a ≠ some (.frz p u)) (q : OR w M rho (upd H a o) a po) : HR w M rho (upd H a o) (h.set n po) where
  len := by rw [List.length_set]; exact r.len
  nd := r.nd
  mem := r.mem
  live := fun b hb => (Step.write r (o := o) e nf).there b (r.live b hb)
  ob := fun i u z => by
    by_cases hi : i = n
    · subst hi
      have hl : i < h.length := by
        have := (List.getElem?_eq_some_iff.mp z).1
        rwa [List.length_set] at this
      rw [List.getElem?_set_self hl] at z
      cases z
      exact ⟨a, e, q⟩
    · rw [List.getElem?_set_ne (Ne.symm hi)] at z
      obtain ⟨b, hb, s⟩ := r.ob i u z
      refine ⟨b, hb, s.step (Step.write r e nf) r (upd_ne ?_)⟩
      rintro rfl
      obtain ⟨h1, e1⟩ := List.getElem?_eq_some_iff.mp hb
      obtain ⟨h2, e2⟩ := List.getElem?_eq_some_iff.mp e
      exact hi ((List.getElem_inj r.nd).mp (e1.trans e2.symm))
  tabs := r.tabs.write (r.mem a (List.mem_of_getElem? e)) (r.notTab (List.mem_of_getElem? e))
end

/-- an outcome: a value and the heap behind it; an exception (its class, its attributes); or nothing is said -/
inductive R (α : Type) where
  | ok (a : α) (h : PH)
  | exc (c : Nat) (fs : List (Nm × PV)) (h : PH)
  | stuck
/-- the kind depends on f, so that simp leaves f alone -/
@[reducible] def RT {α β : Type} (_ : α → PH → R β) : Type := R β
def R.bind {α β : Type} (r : R α) (f : α → PH → R β) : RT f := match r with
  | .ok a h => f a h
  | .exc c fs h => .exc c fs h
  | .stuck => .stuck
/-- what is wanted of an exception -/
abbrev XC := Nat → List (Nm × PV) → PH → (Addr → Prop) → List Addr → Hp → Prop
abbrev KC (α : Type) := α → PH → (Addr → Prop) → List Addr → Hp → Prop
def Out {α : Type} (w : Wo) (EX : XC) (M : Addr → Prop) (rho : List Addr) (H : Hp) (r : R α) (k : KC α) : Prop := match r with
  | .ok a h => ∀ M' rho' H', Step M rho H M' rho' H' → HR w M' rho' H' h → k a h M' rho' H'
  | .exc c fs h => ∀ M' rho' H', Step M rho H M' rho' H' → HR w M' rho' H' h → EX c fs h M' rho' H'
  | .stuck => False
section
variable {w : Wo} {EX : XC} {M M1 : Addr → Prop} {rho rho1 : List Addr} {H H1 : Hp} {α β : Type}
theorem Out.step {r : R α} {k : KC α} (o : Out w EX M rho H r k) (st : Step M rho H M1 rho1 H1) : Out w EX M1 rho1 H1 r k := by
  cases r with
  | ok a h => exact fun M' rho' H' s q => o M' rho' H' (st.trans s) q
  | exc c fs h => exact fun M' rho' H' s q => o M' rho' H' (st.trans s) q
  | stuck => exact o
theorem Out.bind {r : R α} {f : α → PH → R β} {k : KC β} (o : Out w EX M rho H (r.bind f) k) : Out w EX M rho H r fun a h M' rho' H' => Out w EX M' rho' H' (f a h) k := by
  cases r with
  | ok a h => exact fun M' rho' H' s _ => Out.step (show Out w EX M rho H (f a h) k from o) s
  | exc c fs h => exact o
  | stuck => exact o
theorem Out.imp {r : R α} {k k' : KC α} (o : Out w EX M rho H r k) (i : ∀ a h M' rho' H', Step M rho H M' rho' H' → HR w M' rho' H' h → k a h M' rho' H' → k' a h M' rho' H') : Out w EX M rho H r k' := by
  cases r with
  | ok a h => exact fun M' rho' H' s q => i a h M' rho' H' s q (o M' rho' H' s q)
  | exc c fs h => exact o
  | stuck => exact o
theorem Out.now {a : α} {h : PH} {k : KC α} (o : Out w EX M rho H (.ok a h) k) (q : HR w M rho H h) : k a h M rho H := o M rho H Step.refl q
end
end MC

end
section
set_option maxRecDepth 100000
set_option maxHeartbeats 4000000
namespace MC
open PySem PySem.Spec PyProof.Rows L2

/-- slots -/
abbrev Sl := L2.St
abbrev ME0 := List (Option PV) → PH → R PV
/-- the mirrors: of an expression, a test, an argument list -/
abbrev ME := ME0
abbrev MT := List (Option PV) → PH → R Bool
abbrev MA := List (Option PV) → PH → R (List PV)

/-- what a context must be for the rules; hot: an exception is handled there, w tells which -/
structure CxtG (hot : Bool) (w : Wo) (k : Nat) (X : Cx) : Prop where
  hK : X.K = w.K
  hW : X.w = w.W
  calmP : hot = false → X.calm = true ∧ X.A.handled = none
  pinP : hot = true → ∃ p, w.ex = some p ∧ p ∈ X.pn ∧ L2H.Hot1 X.A p
  roomH : L2H.RoomH k X.A
  grd : X.A.guards = some []
  own : PassesOwn (model X.prog X.w) X.A X.env X.xe
abbrev Cxt := CxtG false
theorem CxtG.calm {w : Wo} {k : Nat} {X : Cx} (C : CxtG false w k X) : X.calm = true := (C.calmP rfl).1
theorem CxtG.room {w : Wo} {k : Nat} {X : Cx} (C : CxtG false w k X) : Room k X.A := ⟨(C.calmP rfl).2, C.roomH.dp, C.roomH.un⟩
theorem Cxt.mk {w : Wo} {k : Nat} {X : Cx} (hK : X.K = w.K) (hW : X.w = w.W) (calm : X.calm = true) (room : Room k X.A) (grd : X.A.guards = some []) (own : PassesOwn (model X.prog X.w) X.A X.env X.xe) : Cxt w k X :=
  ⟨hK, hW, fun _ => ⟨calm, room.hd⟩, fun z => (nomatch z), ⟨room.dp, room.un⟩, grd, own⟩

inductive ER (w : Wo) (M : Addr → Prop) (rho : List Addr) (H : Hp) : List (Option PV) → Sl → Prop
  | nil : ER w M rho H [] []
  | has {x : PV} {v : V} {e : List (Option PV)} {s : Sl} : VR w M rho H x v → ER w M rho H e s → ER w M rho H (some x :: e) (some v :: s)
  | no {v : Option V} {e : List (Option PV)} {s : Sl} : ER w M rho H e s → ER w M rho H (none :: e) (v :: s)
section
variable {w : Wo} {M M1 : Addr → Prop} {rho rho1 : List Addr} {H H1 : Hp} {h : PH}
theorem ER.step (st : Step M rho H M1 rho1 H1) (r : HR w M rho H h) : ∀ {e : List (Option PV)} {s : Sl}, ER w M rho H e s → ER w M1 rho1 H1 e s
  | _, _, .nil => .nil
  | _, _, .has a b => .has (a.step st r) (ER.step st r b)
  | _, _, .no b => .no (ER.step st r b)
theorem ER.get : ∀ {e : List (Option PV)} {s : Sl} {i : Nat} {x : PV}, ER w M rho H e s → e[i]? = some (some x) → ∃ v, s[i]? = some (some v) ∧ VR w M rho H x v
  | _, _, i, _, .nil, q => by simp at q
  | _, _, 0, _, .has a _, q => by simp at q; subst q; exact ⟨_, rfl, a⟩
  | _, _, 0, _, .no _, q => by simp at q
  | _, _, i + 1, x, .has _ b, q => by
    obtain ⟨v, h1, h2⟩ := ER.get (i := i) (x := x) b (by simpa using q)
    exact ⟨v, by simpa using h1, h2⟩
  | _, _, i + 1, x, .no b, q => by
    obtain ⟨v, h1, h2⟩ := ER.get (i := i) (x := x) b (by simpa using q)
    exact ⟨v, by simpa using h1, h2⟩
theorem ER.set {x : PV} {v : V} (r : VR w M rho H x v) : ∀ {e : List (Option PV)} {s : Sl} (i : Nat), ER w M rho H e s → ER w M rho H (e.set i (some x)) (s.set i (some v))
  | _, _, _, .nil => .nil
  | _, _, 0, .has _ b => .has r b
  | _, _, 0, .no b => .has r b
  | _, _, i + 1, .has a b => .has a (ER.set r i b)
  | _, _, i + 1, .no b => .no (ER.set r i b)
theorem ER.drop : ∀ {e : List (Option PV)} {s : Sl} (i : Nat) (v : Option V), ER w M rho H e s → ER w M rho H (e.set i none) (s.set i v)
  | _, _, _, _, .nil => .nil
  | _, _, 0, _, .has _ b => .no b
  | _, _, 0, _, .no b => .no b
  | _, _, i + 1, v, .has a b => .has a (ER.drop i v b)
  | _, _, i + 1, v, .no b => .no (ER.drop i v b)
theorem ER.length : ∀ {e : List (Option PV)} {s : Sl}, ER w M rho H e s → e.length = s.length
  | _, _, .nil => rfl
  | _, _, .has _ b => by rw [List.length_cons, List.length_cons, ER.length b]
  | _, _, .no b => by rw [List.length_cons, List.length_cons, ER.length b]
end

/-- a value's end -/
def KV (w : Wo) (Q : VK) : KC PV := fun x _ M rho H => ∀ v, VR w M rho H x v → Q v H
def KA (w : Wo) (Q : List V → Hp → Prop) : KC (List PV) := fun xs _ M rho H => ∀ vs, VRs w M rho H xs vs → Q vs H
def KB (Q : Bool → Hp → Prop) : KC Bool := fun b _ _ _ H => Q b H
/-- the readings -/
def tM (w : Wo) (EX : XC) (m : ME) : TE := fun σ H Q => ∃ M rho env h, ER w M rho H env σ ∧ HR w M rho H h ∧ Out w EX M rho H (m env h) (KV w Q)
def tT (w : Wo) (EX : XC) (m : MT) : TT := fun σ H Q => ∃ M rho env h, ER w M rho H env σ ∧ HR w M rho H h ∧ Out w EX M rho H (m env h) (KB Q)
def tA (w : Wo) (EX : XC) (m : MA) : TA := fun σ H Q => ∃ M rho env h, ER w M rho H env σ ∧ HR w M rho H h ∧ Out w EX M rho H (m env h) (KA w Q)
theorem PE.imp {X : Cx} {e : Expr} {t t' : TE} (p : PE X e t) (i : ∀ σ H Q, t' σ H Q → t σ H Q) : PE X e t' := ⟨fun pins s σ H Q I h => p.run pins s σ H Q I (i σ H Q h)⟩
theorem PT.imp {X : Cx} {e : Expr} {t t' : TT} (p : PT X e t) (i : ∀ σ H Q, t' σ H Q → t σ H Q) : PT X e t' := ⟨fun pins s σ H Q I h => p.run pins s σ H Q I (i σ H Q h)⟩
theorem PW.imp {X : Cx} {e : Expr} {t t' : TT} (p : PW X e t) (i : ∀ σ H Q, t' σ H Q → t σ H Q) : PW X e t' := ⟨fun wh pins s σ H Q I h => p.run wh pins s σ H Q I (i σ H Q h)⟩
theorem PA.imp {X : Cx} {es : List Expr} {t t' : TA} (p : PA X es t) (i : ∀ σ H Q, t' σ H Q → t σ H Q) : PA X es t' := ⟨fun ps pins s σ H Q I h => p.run ps pins s σ H Q I (i σ H Q h)⟩

section
variable {w : Wo} {EX : XC} {M : Addr → Prop} {rho : List Addr} {H : Hp} {env : List (Option PV)} {σ : Sl} {h : PH}
/-- from an outcome with any end to the reading -/
theorem tM.of {m : ME} {k : KC PV} {Q : VK} (er : ER w M rho H env σ) (hr : HR w M rho H h) (o : Out w EX M rho H (m env h) k)
    (i : ∀ x h1 M1 rho1 H1 v, Step M rho H M1 rho1 H1 → ER w M1 rho1 H1 env σ → HR w M1 rho1 H1 h1 → k x h1 M1 rho1 H1 → VR w M1 rho1 H1 x v → Q v H1) : tM w EX m σ H Q :=
  ⟨M, rho, env, h, er, hr, o.imp fun x h1 M1 rho1 H1 st hr1 q v r => i x h1 M1 rho1 H1 v st (er.step st hr) hr1 q r⟩
theorem tT.of {m : MT} {k : KC Bool} {Q : Bool → Hp → Prop} (er : ER w M rho H env σ) (hr : HR w M rho H h) (o : Out w EX M rho H (m env h) k)
    (i : ∀ x h1 M1 rho1 H1, Step M rho H M1 rho1 H1 → ER w M1 rho1 H1 env σ → HR w M1 rho1 H1 h1 → k x h1 M1 rho1 H1 → Q x H1) : tT w EX m σ H Q :=
  ⟨M, rho, env, h, er, hr, o.imp fun x h1 M1 rho1 H1 st hr1 q => i x h1 M1 rho1 H1 st (er.step st hr) hr1 q⟩
theorem tA.of {m : MA} {k : KC (List PV)} {Q : List V → Hp → Prop} (er : ER w M rho H env σ) (hr : HR w M rho H h) (o : Out w EX M rho H (m env h) k)
    (i : ∀ x h1 M1 rho1 H1 v, Step M rho H M1 rho1 H1 → ER w M1 rho1 H1 env σ → HR w M1 rho1 H1 h1 → k x h1 M1 rho1 H1 → VRs w M1 rho1 H1 x v → Q v H1) : tA w EX m σ H Q :=
  ⟨M, rho, env, h, er, hr, o.imp fun x h1 M1 rho1 H1 st hr1 q v r => i x h1 M1 rho1 H1 v st (er.step st hr) hr1 q r⟩
end

def mVar (i : Nat) : ME := fun env h => match env[i]? with
  | some (some x) => .ok x h
  | _ => .stuck
def mC (x : PV) : ME := fun _ h => .ok x h
section
variable {w : Wo} {EX : XC} {X : Cx} {k : Nat}
theorem me_var (i : Nat) {x : Str} {pos : Pos} (hN : X.N[i]? = some x := by rfl) (hv : Vis X.env.scope x := by first | exact Or.inl rfl | exact Or.inr (Or.inl rfl) | exact Or.inr (Or.inr rfl)) (hd : (x == ("__debug__" : Str)) = false := by decide)
    (hcd : (x == ("__classdict__" : Str)) = false := by decide) : PE X (.Name x pos) (tM w EX (mVar i)) := by
  refine PE.imp (pv i hN hv hd hcd) fun σ H Q h => ?_
  obtain ⟨M, rho, env, hh, er, hr, o⟩ := h
  unfold mVar at o
  cases e : env[i]? with
  | none => rw [e] at o; exact o.elim
  | some a =>
    cases a with
    | none => rw [e] at o; exact o.elim
    | some x =>
      rw [e] at o
      obtain ⟨v, e1, r⟩ := er.get e
      exact ⟨v, e1, o.now hr v r⟩
theorem me_const {e : Expr} {v : V} {x : PV} (p : PE X e (tC v)) (r : ∀ M rho H, VR w M rho H x v) : PE X e (tM w EX (mC x)) := by
  refine PE.imp p fun σ H Q h => ?_
  obtain ⟨M, rho, env, hh, er, hr, o⟩ := h
  exact o.now hr v (r M rho H)
theorem me_int {i : Int} {j pos} : PE X (.Constant (.int i) j pos) (tM w EX (mC (.int i))) := me_const pe_int fun _ _ _ => .int i
theorem me_bl {b : Bool} {j pos} : PE X (.Constant (.bool b) j pos) (tM w EX (mC (.bl b))) := me_const pe_bl fun _ _ _ => .bl b
theorem me_non {j pos} : PE X (.Constant .none j pos) (tM w EX (mC .non)) := me_const pe_non fun _ _ _ => .non
theorem me_str {x : Str} {j pos} (s : List Nat) (e : x = ⟨s.toArray⟩ := by decide +kernel) : PE X (.Constant (.str x) j pos) (tM w EX (mC (.str s))) := by
  subst e
  exact me_const pe_str fun _ _ _ => .str s
/-- a global that holds an int, a text -/
theorem me_gint (i : Int) {x : Str} {t : Tok} {pos : Pos} (hg : Gl X x) (hm : X.mg x = some (.int i t)) (hd : (x == ("__debug__" : Str)) = false := by decide) : PE X (.Name x pos) (tM w EX (mC (.int i))) :=
  me_const (pe_glob (v := .int i) hg hm ⟨t, rfl⟩ hd) fun _ _ _ => .int i
end

def LIM : Nat := 16777216
theorem lim_eq : (sizeLine : Nat) = LIM := sizeLine_eq
def maNil : MA := fun _ h => .ok [] h
def maCons (m : ME) (ms : MA) : MA := fun env h => (m env h).bind fun x h1 => (ms env h1).bind fun xs h2 => .ok (x :: xs) h2
def mTup (ms : MA) : ME := fun env h => (ms env h).bind fun xs h1 => if xs.length ≤ LIM then .ok (.tup xs) h1 else .stuck
def mLst (ms : MA) : ME := fun env h => (ms env h).bind fun xs h1 => if xs.length ≤ LIM then .ok (.ref h1.length) (h1 ++ [.lst xs]) else .stuck
section
variable {w : Wo} {EX : XC} {X : Cx} {k : Nat} {M : Addr → Prop} {rho : List Addr} {H : Hp} {h : PH}
theorem ma_nil : PA X [] (tA w EX maNil) := by
  refine PA.imp pa_nil fun σ H Q h => ?_
  obtain ⟨M, rho, env, hh, er, hr, o⟩ := h
  exact o.now hr [] .nil
theorem ma_cons {e : Expr} {es : List Expr} {m : ME} {ms : MA} (ha : PE X e (tM w EX m)) (hb : PA X es (tA w EX ms)) (hs : starEach (e :: es) X.env = (false, eval e X.env) :: starEach es X.env := by rfl) : PA X (e :: es) (tA w EX (maCons m ms)) := by
  refine PA.imp (pa_cons ha hb hs) fun σ H Q h => ?_
  obtain ⟨M, rho, env, hh, er, hr, o⟩ := h
  refine tM.of er hr o.bind fun x h1 M1 rho1 H1 v st1 er1 hr1 o1 rv => ?_
  refine ⟨M1, rho1, env, h1, er1, hr1, (Out.bind o1).imp fun ys h2 M2 rho2 H2 st2 hr2 o2 us rs => ?_⟩
  exact o2.now hr2 (v :: us) (.cons (rv.step st2 hr1) rs)
/-- a new tuple -/
theorem KV.tup {xs : List PV} {vs : List V} {Q : VK} (hr : HR w M rho H h) (o : Out w EX M rho H (.ok (.tup xs) h) (KV w Q)) (r : VRs w M rho H xs vs) : ∀ p, H p = none → Q (.ref p) (upd H p (.tup vs)) := fun p n =>
  o M rho _ (Step.grow (same_upd n)) (hr.grow (same_upd n)) _ (.tup (SqT.of upd_same) (r.step (Step.grow (same_upd n)) hr))
/-- a new list -/
theorem KV.lst {xs : List PV} {vs : List V} {Q : VK} (hr : HR w M rho H h) (o : Out w EX M rho H (.ok (.ref h.length) (h ++ [.lst xs])) (KV w Q)) (r : VRs w M rho H xs vs) : ∀ p, H p = none → Q (.ref p) (upd H p (.lst vs)) := fun p n => by
  have st := Step.alloc (M := M) (rho := rho) (o := .lst vs) n
  have r2 := r.step st hr
  refine o _ _ _ st (hr.alloc n ⟨vs, upd_same, r2⟩) _ (.ref ?_)
  rw [List.getElem?_append_right (by rw [hr.len]; exact Nat.le_refl _), hr.len, Nat.sub_self]
  rfl
theorem me_tup {es : List Expr} {ms : MA} {x1 pos} (ha : PA X es (tA w EX ms)) : PE X (.Tuple es x1 pos) (tM w EX (mTup ms)) := by
  refine PE.imp (pe_tup ha) fun σ H Q h => ?_
  obtain ⟨M, rho, env, hh, er, hr, o⟩ := h
  refine tA.of er hr o.bind fun xs h1 M1 rho1 H1 vs st1 er1 hr1 o1 rs => ?_
  by_cases hl : xs.length ≤ LIM
  · simp only [hl, if_true] at o1
    exact ⟨by rw [rs.length, lim_eq]; exact hl, KV.tup hr1 o1 rs⟩
  · simp only [hl, if_false] at o1
    exact o1.elim
theorem me_lst {es : List Expr} {ms : MA} {pos} (ha : PA X es (tA w EX ms)) : PE X (.List es pos) (tM w EX (mLst ms)) := by
  refine PE.imp (pe_lst ha) fun σ H Q h => ?_
  obtain ⟨M, rho, env, hh, er, hr, o⟩ := h
  refine tA.of er hr o.bind fun xs h1 M1 rho1 H1 vs st1 er1 hr1 o1 rs => ?_
  by_cases hl : xs.length ≤ LIM
  · simp only [hl, if_true] at o1
    exact ⟨by rw [rs.length, lim_eq]; exact hl, KV.lst hr1 o1 rs⟩
  · simp only [hl, if_false] at o1
    exact o1.elim
end

abbrev O2 := PH → PV → PV → R PV
abbrev O1 := PH → PV → R PV
def r2 (w : Wo) (EX : XC) (op : O2) : R2 := fun x y H Q => ∃ M rho h px py, HR w M rho H h ∧ VR w M rho H px x ∧ VR w M rho H py y ∧ Out w EX M rho H (op h px py) (KV w Q)
def r1 (w : Wo) (EX : XC) (op : O1) : V → Hp → VK → Prop := fun x H Q => ∃ M rho h px, HR w M rho H h ∧ VR w M rho H px x ∧ Out w EX M rho H (op h px) (KV w Q)
def rA (w : Wo) (EX : XC) (op : PH → List PV → R PV) : List V → Hp → VK → Prop := fun xs H Q => ∃ M rho h ps, HR w M rho H h ∧ VRs w M rho H ps xs ∧ Out w EX M rho H (op h ps) (KV w Q)
def mOp (op : O2) (ma mb : ME) : ME := fun env h => (ma env h).bind fun x h1 => (mb env h1).bind fun y h2 => op h2 x y
def mUn (op : O1) (ma : ME) : ME := fun env h => (ma env h).bind fun x h1 => op h1 x
section
variable {w : Wo} {EX : XC} {X : Cx} {k : Nat} {a b : Expr} {ma mb : ME} {pos : Pos}
theorem tM_op {op : O2} {σ : Sl} {H : Hp} {Q : VK} (h : tM w EX (mOp op ma mb) σ H Q) : tOp (r2 w EX op) (tM w EX ma) (tM w EX mb) σ H Q := by
  obtain ⟨M, rho, env, hh, er, hr, o⟩ := h
  refine tM.of er hr o.bind fun x h1 M1 rho1 H1 v st1 er1 hr1 o1 rv => ?_
  refine ⟨M1, rho1, env, h1, er1, hr1, (Out.bind o1).imp fun y h2 M2 rho2 H2 st2 hr2 o2 u ru => ?_⟩
  exact ⟨M2, rho2, h2, x, y, hr2, rv.step st2 hr1, ru, o2⟩
theorem tM_un {op : O1} {σ : Sl} {H : Hp} {Q : VK} (h : tM w EX (mUn op ma) σ H Q) : tUn (r1 w EX op) (tM w EX ma) σ H Q := by
  obtain ⟨M, rho, env, hh, er, hr, o⟩ := h
  exact tM.of er hr o.bind fun x h1 M1 rho1 H1 v st1 er1 hr1 o1 rv => ⟨M1, rho1, h1, x, hr1, rv, o1⟩
theorem me_op {op : Operator} {f : O2} (ho : OpR X (binaryOp op) (r2 w EX f)) (ha : PE X a (tM w EX ma)) (hb : PE X b (tM w EX mb)) : PE X (.BinOp a op b pos) (tM w EX (mOp f ma mb)) :=
  PE.imp (pe_op ho ha hb) fun _ _ _ h => tM_op h
theorem me_un {op : UnaryOp} {f : O1} (ho : UnR X (unaryOp op) (r1 w EX f)) (ha : PE X a (tM w EX ma)) : PE X (.UnaryOp op a pos) (tM w EX (mUn f ma)) :=
  PE.imp (pe_un ho ha) fun _ _ _ h => tM_un h
theorem me_cmp {op : CmpOp} {f : O2} (ho : OpR X (compareOp op) (r2 w EX f)) (ha : PE X a (tM w EX ma)) (hb : PE X b (tM w EX mb)) (hm : behindInMarks op b = false) : PE X (.Compare a [op] [b] pos) (tM w EX (mOp f ma mb)) :=
  PE.imp (pe_cmpR ho ha hb hm) fun _ _ _ h => tM_op h
end

/-- of a bool -/
def asB (r : R PV) : R Bool := r.bind fun x h => match x with
  | .bl b => .ok b h
  | _ => .stuck
def mTB (m : ME) : MT := fun env h => asB (m env h)
section
variable {w : Wo} {EX : XC} {X : Cx} {k : Nat} {a b c : Expr} {ma mb mc : ME} {pos : Pos}
theorem tM_test {σ : Sl} {H : Hp} {Q : Bool → Hp → Prop} (h : tT w EX (mTB ma) σ H Q) : tTest (tM w EX ma) σ H Q := by
  obtain ⟨M, rho, env, hh, er, hr, o⟩ := h
  refine tM.of er hr (Out.bind o) fun x h1 M1 rho1 H1 v st1 er1 hr1 o1 rv => ?_
  cases rv with
  | bl b => exact ⟨b, rfl, o1.now hr1⟩
  | _ => exact (show False from o1).elim
theorem mt_cmp {op : CmpOp} {f : O2} (ho : OpR X (compareOp op) (r2 w EX f)) (ha : PE X a (tM w EX ma)) (hb : PE X b (tM w EX mb)) (hm : behindInMarks op b = false) : PT X (.Compare a [op] [b] pos) (tT w EX (mTB (mOp f ma mb))) := by
  refine PT.imp (pt_cmpR ho ha hb hm) fun σ H Q h => ?_
  exact tM_op (show tM w EX (mOp f ma mb) σ H _ from tM_test h)
/-- a < b < c -/
def mCh (f g : O2) (ma mb mc : ME) : ME := fun env h => (ma env h).bind fun x h1 => (mb env h1).bind fun y h2 => (f h2 x y).bind fun z h3 => match z with
  | .bl true => (mc env h3).bind fun u h4 => g h4 y u
  | .bl false => .ok (.bl false) h3
  | _ => .stuck
end
end MC

end
section
set_option maxRecDepth 100000
set_option maxHeartbeats 4000000
namespace MC
open PySem PySem.Spec PyProof.Rows L2

def S (l : List Nat) : Str := ⟨l.toArray⟩
theorem S_len (l : List Nat) : (S l).length = l.length := by show l.toArray.size = _; simp
theorem S_app (a b : List Nat) : S a ++ S b = S (a ++ b) := by
  show (⟨a.toArray ++ b.toArray⟩ : Str) = ⟨(a ++ b).toArray⟩
  simp
theorem S_inj {a b : List Nat} (h : S a = S b) : a = b := by
  have := congrArg (fun z : Str => z.cps.toList) h
  simpa [S] using this
theorem S_list (l : List Nat) : (S l).cps.toList = l := by simp [S]
theorem S_of (z : Str) : S z.cps.toList = z := by cases z; simp [S]

def opI (C : Int → Int → Bool) (g : Int → Int → PV) : O2 := fun h x y => match x, y with
  | .int i, .int j => bif C i j then .ok (g i j) h else .stuck
  | _, _ => .stuck
def unI (g : Int → Int) : O1 := fun h x => match x with
  | .int i => .ok (.int (g i)) h
  | _ => .stuck
section
variable {w : Wo} {EX : XC} {X : Cx} {k : Nat}
theorem oI {f : Value → Value → Sem Value} {C : Int → Int → Bool} {D : Int → Int → Prop} {g : Int → Int → PV} {g' : Int → Int → V} (ho : OpR X f (rI D g')) (hC : ∀ i j, C i j = true → D i j) (hg : ∀ i j M rho H, VR w M rho H (g i j) (g' i j)) :
    OpR X f (r2 w EX (opI C g)) := by
  intro pins s σ H x y v u Q I rx ry ⟨M, rho, h, px, py, hr, vx, vy, o⟩
  cases vx <;> try exact (show False from o).elim
  cases vy <;> try exact (show False from o).elim
  rename_i i j
  cases e : C i j with
  | false =>
    have o' : Out w EX M rho H (bif C i j then .ok (g i j) h else .stuck) (KV w Q) := o
    rw [e] at o'
    exact (show False from o').elim
  | true =>
    have o' : Out w EX M rho H (bif C i j then .ok (g i j) h else .stuck) (KV w Q) := o
    rw [e] at o'
    exact ho pins s σ H _ _ v u Q I rx ry ⟨i, j, rfl, rfl, hC i j e, (show Out w EX M rho H (.ok (g i j) h) (KV w Q) from o').now hr _ (hg i j M rho H)⟩
def opSub : O2 := opI (fun _ _ => true) fun i j => .int (i - j)
def opMod : O2 := opI (fun _ j => decide (0 < j)) fun i j => .int (i % j)
def opFdiv : O2 := opI (fun _ j => decide (0 < j) && decide (j < 1073741824)) fun i j => .int (i / j)
def opPow : O2 := opI (fun i j => decide (0 ≤ j) && decide (j ≤ 1000000) && decide (i.natAbs < 2 ^ 64)) fun i j => .int (i ^ j.toNat)
theorem o_mod : OpR X (binaryOp .Mod) (r2 w EX opMod) := oI op_mod (fun _ _ h => of_decide_eq_true h) fun _ _ _ _ _ => .int _
theorem o_fdiv : OpR X (binaryOp .FloorDiv) (r2 w EX opFdiv) := oI op_fdiv (fun _ _ h => by
  rw [Bool.and_eq_true] at h
  exact ⟨of_decide_eq_true h.1, of_decide_eq_true h.2⟩) fun _ _ _ _ _ => .int _
theorem o_pow : OpR X (binaryOp .Pow) (r2 w EX opPow) := oI op_pow (fun _ _ h => by
  rw [Bool.and_eq_true, Bool.and_eq_true] at h
  exact ⟨of_decide_eq_true h.1.1, of_decide_eq_true h.1.2, of_decide_eq_true h.2⟩) fun _ _ _ _ _ => .int _
theorem o_neg : UnR X (unaryOp .USub) (r1 w EX (unI fun i => -i)) := by
  intro pins s σ H x v Q I rx ⟨M, rho, h, px, hr, vx, o⟩
  cases vx <;> try exact (show False from o).elim
  exact un_neg pins s σ H _ v Q I rx ⟨_, rfl, (show Out w EX M rho H (.ok _ h) (KV w Q) from o).now hr _ (.int _)⟩
def opAdd : O2 := fun h x y => match x, y with
  | .int i, .int j => .ok (.int (i + j)) h
  | .str a, .str b => bif decide (a.length + b.length ≤ LIM) then .ok (.str (a ++ b)) h else .stuck
  | .tup a, .tup b => bif decide (a.length + b.length ≤ LIM) then .ok (.tup (a ++ b)) h else .stuck
  | .ref n, .ref m => match h[n]?, h[m]? with
    | some (.lst a), some (.lst b) => bif decide (a.length + b.length ≤ LIM) then .ok (.ref h.length) (h ++ [.lst (a ++ b)]) else .stuck
    | _, _ => .stuck
  | _, _ => .stuck
theorem Out.lim {M : Addr → Prop} {rho : List Addr} {H : Hp} {α : Type} {c : Prop} [Decidable c] {r : R α} {kk : KC α} (o : Out w EX M rho H (bif decide c then r else .stuck) kk) : c ∧ Out w EX M rho H r kk := by
  by_cases h : c
  · rw [decide_eq_true h] at o; exact ⟨h, o⟩
  · rw [decide_eq_false h] at o; exact (show False from o).elim
theorem HR.lst {M : Addr → Prop} {rho : List Addr} {H : Hp} {h : PH} (hr : HR w M rho H h) {n : Nat} {a : Addr} {xs : List PV} (e : h[n]? = some (.lst xs)) (ha : rho[n]? = some a) : ∃ vs, H a = some (.lst vs) ∧ VRs w M rho H xs vs := by
  obtain ⟨b, hb, q⟩ := hr.ob n _ e
  rw [ha] at hb; cases hb
  exact q
theorem o_add {hh : Bool} (C : CxtG hh w k X) : OpR X (binaryOp .Add) (r2 w EX opAdd) := by
  intro pins s σ H x y v u Q I rx ry ⟨M, rho, h, px, py, hr, vx, vy, o⟩
  cases vx with
  | int i =>
    cases vy <;> try exact (show False from o).elim
    exact op_add pins s σ H _ _ v u Q I rx ry ⟨_, _, rfl, rfl, (show Out w EX M rho H (.ok _ h) (KV w Q) from o).now hr _ (.int _)⟩
  | str a =>
    cases vy <;> try exact (show False from o).elim
    obtain ⟨hl, o2⟩ := Out.lim o
    refine op_add_str pins s σ H _ _ v u Q I rx ry ⟨_, _, rfl, rfl, ?_, ?_⟩
    · show (S _).length + (S _).length ≤ _
      rw [S_len, S_len, lim_eq]; exact hl
    · show Q (.str (S _ ++ S _)) H
      rw [S_app]
      exact o2.now hr _ (.str _)
  | @tup a vs A ha sa =>
    cases vy <;> try exact (show False from o).elim
    rename_i b us B hb sb
    obtain ⟨hl, o2⟩ := Out.lim o
    refine op_catA pins s σ H _ _ v u Q I rx ry ⟨A, B, vs, us, rfl, rfl, by rw [C.hK]; exact ha, by rw [C.hK]; exact hb, by rw [sa.length, sb.length, lim_eq]; exact hl, fun e => ?_, fun _ e => ?_, fun _ _ => ?_⟩
    · subst e
      cases sa
      exact o2.now hr _ (.tup hb sb)
    · subst e
      cases sb
      rw [List.append_nil] at o2
      exact o2.now hr _ (.tup ha sa)
    · exact KV.tup hr o2 (sa.append sb)
  | @ref n A ha =>
    cases vy <;> try exact (show False from o).elim
    rename_i m B hb
    have o' : Out w EX M rho H (match h[n]?, h[m]? with
      | some (.lst a), some (.lst b) => bif decide (a.length + b.length ≤ LIM) then .ok (.ref h.length) (h ++ [.lst (a ++ b)]) else .stuck
      | _, _ => .stuck) (KV w Q) := o
    split at o'
    · rename_i xs ys e1 e2
      obtain ⟨hl, o2⟩ := Out.lim o'
      obtain ⟨vs, h1, s1⟩ := hr.lst e1 ha
      obtain ⟨us, h2, s2⟩ := hr.lst e2 hb
      exact op_cat pins s σ H _ _ v u Q I rx ry ⟨A, B, vs, us, rfl, rfl, h1, h2, by rw [s1.length, s2.length, lim_eq]; exact hl, KV.lst hr o2 (s1.append s2)⟩
    · exact (show False from o').elim
  | _ => exact (show False from o).elim
end
theorem tuple_mul1 (l : Addr) (items : Array Value) (n : Nat) (dd : Option Addr) (sl : Array (Option Value)) (u : Tok) :
    Meets (Builtin.«tuple.__mul__» ⟨[.ref l, .int 1 u], []⟩) (fun _ R s => s.heap.get? l = some { cls := .type "tuple", dict := dd, data := .seq items n, slots := sl } ∧ R (.ok (.ret (Value.ref l))) s) :=
  .of_wp fun prog w A R s h => by
    obtain ⟨hp, g, d, tk, os⟩ := s
    obtain ⟨hl, h⟩ := h
    have f1 := AutoSeq1.idx_int
    wp_walk using wpAny_loadPart' hl
    repeat (first
      | (refine wpAny_ite_true (by simp) ?_; wp_walk using wpAny_loadPart' hl)
      | (refine wpAny_ite_false (by simp) ?_; wp_walk using wpAny_loadPart' hl))
    exact ⟨_, rfl, h⟩

def opMul : O2 := fun h x y => match x, y with
  | .int i, .int j => bif (decide (-(2 ^ 64) < i) && decide (i < 2 ^ 64)) || (decide (-(2 ^ 64) < j) && decide (j < 2 ^ 64)) then .ok (.int (i * j)) h else .stuck
  | .str a, .int j => bif decide (-1000000 ≤ j) && decide (j ≤ 1000) && decide (a.length ≤ 1000) then .ok (.str (List.replicate j.toNat a).flatten) h else .stuck
  | .tup a, .int j => bif decide (1 ≤ j) && decide (j ≤ 1000) && decide (1 ≤ a.length) && decide (a.length ≤ 1000) then .ok (.tup (List.replicate j.toNat a).flatten) h else .stuck
  | .ref n, .int j => match h[n]? with
    | some (.lst a) => bif decide (-1000000 ≤ j) && decide (j ≤ 1000) && decide (a.length ≤ 1000) then .ok (.ref h.length) (h ++ [.lst (List.replicate j.toNat a).flatten]) else .stuck
    | _ => .stuck
  | _, _ => .stuck
theorem Out.bif {w : Wo} {EX : XC} {M : Addr → Prop} {rho : List Addr} {H : Hp} {α : Type} {c : Bool} {r : R α} {kk : KC α} (o : Out w EX M rho H (bif c then r else .stuck) kk) : c = true ∧ Out w EX M rho H r kk := by
  cases c with
  | true => exact ⟨rfl, o⟩
  | false => exact (show False from o).elim
theorem VRs.rep {w : Wo} {M : Addr → Prop} {rho : List Addr} {H : Hp} {xs : List PV} {vs : List V} (r : VRs w M rho H xs vs) : ∀ j : Nat, VRs w M rho H (List.replicate j xs).flatten (List.replicate j vs).flatten
  | 0 => .nil
  | j + 1 => by
    rw [List.replicate_succ, List.replicate_succ, List.flatten_cons, List.flatten_cons]
    exact r.append (VRs.rep r j)
theorem rep_one {α : Type} (l : List α) : (List.replicate 1 l).flatten = l := by simp
theorem foldl_repS (l : List Nat) : ∀ (j : Nat) (acc : List Nat), List.foldl (fun x y => x ++ y) acc.toArray (List.replicate j l.toArray) = (acc ++ (List.replicate j l).flatten).toArray
  | 0, acc => by simp
  | j + 1, acc => by
    rw [List.replicate_succ, List.foldl_cons, show acc.toArray ++ l.toArray = (acc ++ l).toArray by simp, foldl_repS l j (acc ++ l), List.replicate_succ, List.flatten_cons, List.append_assoc]
theorem S_rep (l : List Nat) (j : Int) : Txt.mul (S l) j = S (List.replicate j.toNat l).flatten := by
  unfold Txt.mul
  by_cases h1 : j < 1
  · rw [if_pos h1, show j.toNat = 0 by omega]
    rfl
  · rw [if_neg h1]
    by_cases h2 : (j == 1 || (S l).length == 0) = true
    · rw [if_pos h2]
      rw [S_len] at h2
      simp only [Bool.or_eq_true, beq_iff_eq] at h2
      rcases h2 with h2 | h2
      · subst h2
        show S l = S (List.replicate 1 l).flatten
        rw [rep_one]
      · have : l = [] := List.eq_nil_of_length_eq_zero h2
        subst this
        simp [S]
    · rw [if_neg h2]
      have e := foldl_repS l j.toNat []
      show (⟨List.foldl (fun x y => x ++ y) #[] (List.replicate j.toNat l.toArray)⟩ : Str) = ⟨(List.replicate j.toNat l).flatten.toArray⟩
      rw [e]
      simp
theorem o_mul {w : Wo} {EX : XC} {X : Cx} {k : Nat} {hh : Bool} (C : CxtG hh w k X) : OpR X (binaryOp .Mult) (r2 w EX opMul) := by
  intro pins s σ H x y v u Q I rx ry ⟨M, rho, h, px, py, hr, vx, vy, o⟩
  cases vx with
  | int i =>
    cases vy <;> try exact (show False from o).elim
    rename_i j
    obtain ⟨hc, o2⟩ := Out.bif o
    refine op_mul pins s σ H _ _ v u Q I rx ry ⟨i, j, rfl, rfl, ?_, o2.now hr _ (.int _)⟩
    simp only [Bool.or_eq_true, Bool.and_eq_true, decide_eq_true_eq] at hc
    exact hc
  | str a =>
    cases vy <;> try exact (show False from o).elim
    rename_i j
    obtain ⟨hc, o2⟩ := Out.bif o
    simp only [Bool.and_eq_true, decide_eq_true_eq] at hc
    obtain ⟨t, rfl⟩ := rx
    obtain ⟨t', rfl⟩ := ry
    refine SB.mul (mulOk_of 1000 1000 (by show (S a).length ≤ _; rw [S_len]; exact hc.2) (by omega) (by omega) (by decide) (by decide)) fun t2 k2 => ?_
    refine ⟨.str _, H, I.tok _, ⟨t2, rfl⟩, ?_⟩
    show Q (.str (Txt.mul (S a) j)) H
    rw [S_rep]
    exact o2.now hr _ (.str _)
  | @tup a vs A ha sa =>
    cases vy <;> try exact (show False from o).elim
    rename_i j
    obtain ⟨hc, o2⟩ := Out.bif o
    simp only [Bool.and_eq_true, decide_eq_true_eq] at hc
    obtain ⟨⟨⟨h1, h2⟩, h3⟩, h4⟩ := hc
    have hl := sa.length
    by_cases e : j = 1
    · subst e
      have o3 : Out w EX M rho H (.ok (.tup (List.replicate 1 a).flatten) h) (KV w Q) := o2
      rw [rep_one] at o3
      have q := o3.now hr _ (.tup ha sa)
      cases rx
      obtain ⟨t, rfl⟩ := ry
      obtain ⟨its, r, ⟨⟨cls, dd, data, sl⟩, ho, hcl, n, hd⟩, hs⟩ := I.tuple (show SqT X.K H A vs by rw [C.hK]; exact ha)
      simp only at hcl hd
      subst hcl hd
      exact wpAny_binaryOp_repeat_ref (T := "tuple") (U := "int") (by decide) ⟨_, ho, rfl⟩ (fun s' => typeIs_int s' 1 t) noFill_tuple_mul F.fills_int_mul F.slot_int_rmul repeat_tuple F.slot_int_index.lookup
        (call_meets F.slot_int_rmul (typeIs_int s 1 t) F.entry_int_rmul (F.args_int_rmul_2 _ _) (int_rmul_tuple 1 t A its.toArray n dd sl)
          ⟨ho, rfl, ⟨_, ho, rfl⟩, call_meets F.slot_tuple_mul ⟨_, ho, rfl⟩ F.entry_tuple_mul (F.args_tuple_mul_2 _ _) (tuple_mul1 A its.toArray n dd sl t) ⟨ho, ⟨.ref A, H, I, rfl, q⟩⟩⟩)
    · refine op_repT pins s σ H _ _ v u Q I rx ry ⟨A, j, vs, rfl, rfl, by rw [C.hK]; exact ha, fun z => ?_, by omega, by omega, by omega, KV.tup hr o2 (sa.rep _)⟩
      rw [z] at hl
      simp at hl
      omega
  | @ref n A ha =>
    cases vy <;> try exact (show False from o).elim
    rename_i j
    have o' : Out w EX M rho H (match h[n]? with
      | some (.lst a) => bif decide (-1000000 ≤ j) && decide (j ≤ 1000) && decide (a.length ≤ 1000) then .ok (.ref h.length) (h ++ [.lst (List.replicate j.toNat a).flatten]) else .stuck
      | _ => .stuck) (KV w Q) := o
    split at o'
    · rename_i xs e1
      obtain ⟨hc, o2⟩ := Out.bif o'
      simp only [Bool.and_eq_true, decide_eq_true_eq] at hc
      obtain ⟨⟨h1, h2⟩, h3⟩ := hc
      obtain ⟨vs, h4, s1⟩ := hr.lst e1 ha
      refine op_rep pins s σ H _ _ v u Q I rx ry ⟨A, j, vs, rfl, rfl, h4, by omega, by omega, ?_, KV.lst hr o2 (s1.rep _)⟩
      rw [s1.length, lim_eq]
      have : xs.length * j.toNat ≤ 1000 * 1000 := Nat.mul_le_mul h3 (by omega)
      show _ ≤ 16777216
      omega
    · exact (show False from o').elim
  | _ => exact (show False from o).elim

def mapO {α β : Type} (f : α → Option β) : List α → Option (List β)
  | [] => some []
  | x :: xs => match f x with
    | none => none
    | some y => match mapO f xs with
      | none => none
      | some ys => some (y :: ys)
/-- a value as data -/
def toD (h : PH) : Nat → PV → Option PyData
  | 0, _ => none
  | n + 1, x => match x with
    | .non => some .none
    | .bl b => some (.bool b)
    | .int i => some (.int i)
    | .str s => some (.str (S s))
    | .tup xs => (mapO (toD h n) xs).map .tuple
    | .scr xs => (mapO (toD h n) xs).map .list
    | .ref m => match h[m]? with
      | some (.lst xs) => (mapO (toD h n) xs).map .list
      | _ => none
    | _ => none
def DEP : Nat := 20
section
variable {w : Wo} {EX : XC} {X : Cx} {k : Nat} {M : Addr → Prop} {rho : List Addr} {H : Hp} {h : PH}
theorem mapO_dp (hr : HR w M rho H h) {f : PV → Option PyData} (hf : ∀ x d v, f x = some d → VR w M rho H x v → Dp w.K H v d) : ∀ {xs : List PV} {vs : List V} {ds : List PyData}, mapO f xs = some ds → VRs w M rho H xs vs → DpAll w.K H vs ds
  | [], _, _, e, r => by
    cases r
    cases e
    exact .nil
  | x :: xs, _, ds, e, r => by
    cases r with
    | cons r1 r2 =>
      unfold mapO at e
      cases e1 : f x with
      | none => rw [e1] at e; cases e
      | some d =>
        rw [e1] at e
        cases e2 : mapO f xs with
        | none => simp only [e2] at e; cases e
        | some ds' =>
          simp only [e2] at e
          cases e
          exact .cons (hf x d _ e1 r1) (mapO_dp hr hf e2 r2)
theorem toD_dp (hr : HR w M rho H h) : ∀ (n : Nat) (x : PV) (d : PyData) (v : V), toD h n x = some d → VR w M rho H x v → Dp w.K H v d := by
  intro n
  induction n with
  | zero => intro x d v e; cases e
  | succ n ih =>
    intro x d v e r
    cases r with
    | non => cases e; exact .non
    | bl b => cases e; exact .bl b
    | int i => cases e; exact .int i
    | str s => cases e; exact .str _
    | @tup xs vs A ha sa =>
      have e' : (mapO (toD h n) xs).map PyData.tuple = some d := e
      cases e2 : mapO (toD h n) xs with
      | none => rw [e2] at e'; cases e'
      | some ds => rw [e2] at e'; cases e'; exact .tup ha (mapO_dp hr ih e2 sa)
    | @scr xs vs A ha sa =>
      have e' : (mapO (toD h n) xs).map PyData.list = some d := e
      cases e2 : mapO (toD h n) xs with
      | none => rw [e2] at e'; cases e'
      | some ds => rw [e2] at e'; cases e'; exact .lst ha.sq (mapO_dp hr ih e2 sa)
    | @ref m A ha =>
      have e' : (match h[m]? with
        | some (.lst xs) => (mapO (toD h n) xs).map PyData.list
        | _ => none) = some d := e
      split at e'
      · rename_i xs e1
        obtain ⟨vs, h4, s1⟩ := hr.lst e1 ha
        cases e2 : mapO (toD h n) xs with
        | none => rw [e2] at e'; cases e'
        | some ds => rw [e2] at e'; cases e'; exact .lst (SqL.of h4) (mapO_dp hr ih e2 s1)
      · cases e'
    | _ => cases e
/-- two values as data -/
def by2 (f : PyData → PyData → Bool) : O2 := fun h x y => match toD h DEP x, toD h DEP y with
  | some d, some e => bif SeqAt.shaped d && SeqAt.shaped e then .ok (.bl (f d e)) h else .stuck
  | _, _ => .stuck
def opEq : O2 := by2 fun d e => PyData.eqv d e
def opNe : O2 := by2 fun d e => !PyData.eqv d e
theorem by2_out {f : PyData → PyData → Bool} {x y : PV} {kk : KC PV} (o : Out w EX M rho H (by2 f h x y) kk) : ∃ d e, toD h DEP x = some d ∧ toD h DEP y = some e ∧ SeqAt.shaped d = true ∧ SeqAt.shaped e = true ∧ Out w EX M rho H (.ok (.bl (f d e)) h) kk := by
  unfold by2 at o
  split at o
  · rename_i d e e1 e2
    obtain ⟨hc, o2⟩ := Out.bif o
    rw [Bool.and_eq_true] at hc
    exact ⟨d, e, e1, e2, hc.1, hc.2, o2⟩
  · exact (show False from o).elim
theorem CxtG.units {hh : Bool} (C : CxtG hh w k X) : X.A.units + 190 < cLine := by have := C.roomH.un; omega
theorem o_eq {hh : Bool} (C : CxtG hh w k X) : OpR X (compareOp .Eq) (r2 w EX opEq) := by
  intro pins s σ H x y v u Q I rx ry ⟨M, rho, h, px, py, hr, vx, vy, o⟩
  obtain ⟨d, e, e1, e2, s1, s2, o2⟩ := by2_out o
  have hu := C.units
  exact op_eqD (by omega) pins s σ H _ _ v u Q I rx ry ⟨d, e, by rw [C.hK]; exact toD_dp hr _ _ _ _ e1 vx, by rw [C.hK]; exact toD_dp hr _ _ _ _ e2 vy, s1, s2, o2.now hr _ (.bl _)⟩
theorem o_ne {hh : Bool} (C : CxtG hh w k X) : OpR X (compareOp .NotEq) (r2 w EX opNe) := by
  intro pins s σ H x y v u Q I rx ry ⟨M, rho, h, px, py, hr, vx, vy, o⟩
  obtain ⟨d, e, e1, e2, s1, s2, o2⟩ := by2_out o
  have hu := C.units
  exact op_neD (by omega) pins s σ H _ _ v u Q I rx ry ⟨d, e, by rw [C.hK]; exact toD_dp hr _ _ _ _ e1 vx, by rw [C.hK]; exact toD_dp hr _ _ _ _ e2 vy, s1, s2, o2.now hr _ (.bl _)⟩
end
end MC

end
section
set_option maxRecDepth 100000
set_option maxHeartbeats 4000000
namespace MC
open PySem PySem.Spec PyProof.Rows L2

def truth (h : PH) : PV → Option Bool
  | .non => some false
  | .bl b => some b
  | .int i => some (i != 0)
  | .str s => bif decide (s.length ≤ LIM) then some (!s.isEmpty) else none
  | .tup xs => some (!xs.isEmpty)
  | .scr xs => some (!xs.isEmpty)
  | .ref n => match h[n]? with
    | some (.lst xs) => some (!xs.isEmpty)
    | some (.dic false kvs) => some (!kvs.isEmpty)
    | _ => none
  | _ => none
def mTru (m : ME) : MT := fun env h => (m env h).bind fun x h1 => match truth h1 x with
  | some b => .ok b h1
  | none => .stuck
def mAnd (a b : MT) : MT := fun env h => (a env h).bind fun c h1 => bif c then b env h1 else .ok false h1
def mOr (a b : MT) : MT := fun env h => (a env h).bind fun c h1 => bif c then .ok true h1 else b env h1
def mNot (a : MT) : MT := fun env h => (a env h).bind fun c h1 => .ok (!c) h1
def mIf (t : MT) (a b : ME) : ME := fun env h => (t env h).bind fun c h1 => bif c then a env h1 else b env h1
def mAndV (a b : ME) : ME := fun env h => (a env h).bind fun x h1 => match x with
  | .bl c => bif c then b env h1 else .ok (.bl false) h1
  | _ => .stuck
def mOrV (a b : ME) : ME := fun env h => (a env h).bind fun x h1 => match x with
  | .bl c => bif c then .ok (.bl true) h1 else b env h1
  | _ => .stuck
def mNotV (a : ME) : ME := fun env h => (a env h).bind fun x h1 => match x with
  | .bl c => .ok (.bl (!c)) h1
  | _ => .stuck
theorem empty_len {α β : Type} {xs : List α} {ys : List β} (h : ys.length = xs.length) : (!ys.isEmpty) = !xs.isEmpty := by
  cases xs <;> cases ys <;> first | rfl | (simp at h)
section
variable {w : Wo} {EX : XC} {X : Cx} {k : Nat} {M : Addr → Prop} {rho : List Addr} {H : Hp} {h : PH} {a b c : Expr} {ma mb : ME} {ta tb : MT} {pos : Pos} {rest : List Expr}
theorem KRs.length : ∀ {kvs : List (PV × PV)} {ks : List (Key × V)}, KRs w M rho H kvs ks → ks.length = kvs.length
  | _, _, .nil => rfl
  | _, _, .cons _ _ b => by rw [List.length_cons, List.length_cons, KRs.length b]
theorem truth_ok (hr : HR w M rho H h) {x : PV} {v : V} {b : Bool} (r : VR w M rho H x v) (e : truth h x = some b) : TruV w.K v H b := by
  cases r with
  | non => cases e; exact rfl
  | bl b => cases e; exact rfl
  | int i => cases e; exact rfl
  | str s =>
    have e' : (bif decide (s.length ≤ LIM) then some (!s.isEmpty) else none) = some b := e
    by_cases hl : s.length ≤ LIM
    · rw [decide_eq_true hl] at e'
      cases e'
      refine ⟨by show (S s).length ≤ _; rw [S_len, lim_eq]; exact hl, ?_⟩
      show _ = (((S s).length : Int) != 0)
      rw [S_len]
      cases s with
      | nil => rfl
      | cons z zs =>
        show true = _
        symm
        rw [bne_iff_ne]
        simp only [List.length_cons]
        omega
    · rw [decide_eq_false hl] at e'
      cases e'
  | tup q s => cases e; exact .inr (.inl ⟨_, q, (empty_len s.length).symm⟩)
  | scr q s => cases e; exact .inl ⟨_, q.sq, (empty_len s.length).symm⟩
  | @ref n A ha =>
    have e' : (match h[n]? with
      | some (.lst xs) => some (!xs.isEmpty)
      | some (.dic false kvs) => some (!kvs.isEmpty)
      | _ => none) = some b := e
    split at e'
    · rename_i xs e1
      cases e'
      obtain ⟨vs, h1, s1⟩ := hr.lst e1 ha
      exact .inl ⟨vs, SqL.of h1, (empty_len s1.length).symm⟩
    · rename_i kvs e1
      cases e'
      obtain ⟨b, hb, ks, h1, s1⟩ := hr.ob n _ e1
      rw [ha] at hb; cases hb
      exact .inr (.inr ⟨ks, h1, (empty_len s1.length).symm⟩)
    · cases e'
  | _ => cases e
theorem mt_tru {hh : Bool} (C : CxtG hh w k X) (ha : PE X a (tM w EX ma)) (he : ∀ whole, isTrue a X.env whole = (do let v ← whole; standAt a.pos; holding [v] (truthy v)) := by intro _; rfl) : PT X a (tT w EX (mTru ma)) := by
  refine PT.imp (pt_truth ha he) fun σ H Q hh => ?_
  obtain ⟨M, rho, env, h, er, hr, o⟩ := hh
  refine tM.of er hr (Out.bind o) fun x h1 M1 rho1 H1 v st1 er1 hr1 o1 rv => ?_
  cases e : truth h1 x with
  | none => rw [e] at o1; exact (show False from o1).elim
  | some b =>
    rw [e] at o1
    exact ⟨b, by rw [C.hK]; exact truth_ok hr1 rv e, o1.now hr1⟩
theorem mw_one {op : BoolOp} (ha : PT X a (tT w EX ta)) : PW X (.BoolOp op [a] pos) (tT w EX ta) := by
  cases op with
  | And => exact pw_and1 ha
  | Or => exact pw_or1 ha
theorem mw_or (ha : PT X a (tT w EX ta)) (hb : PW X (.BoolOp .Or (b :: rest) pos) (tT w EX tb)) : PW X (.BoolOp .Or (a :: b :: rest) pos) (tT w EX (mOr ta tb)) := by
  refine PW.imp (pw_or ha hb) fun σ H Q hh => ?_
  obtain ⟨M, rho, env, h, er, hr, o⟩ := hh
  refine tT.of er hr (Out.bind o) fun x h1 M1 rho1 H1 st1 er1 hr1 o1 => ?_
  cases x with
  | true => exact iteT (o1.now hr1)
  | false => exact iteF ⟨M1, rho1, env, h1, er1, hr1, o1⟩
theorem mt_not (ha : PT X a (tT w EX ta)) : PT X (.UnaryOp .Not a pos) (tT w EX (mNot ta)) := by
  refine PT.imp (pt_not ha) fun σ H Q hh => ?_
  obtain ⟨M, rho, env, h, er, hr, o⟩ := hh
  exact tT.of er hr (Out.bind o) fun x h1 M1 rho1 H1 st1 er1 hr1 o1 => o1.now hr1
theorem me_if (hc : PT X c (tT w EX ta)) (ha : PE X a (tM w EX ma)) (hb : PE X b (tM w EX mb)) : PE X (.IfExp c a b pos) (tM w EX (mIf ta ma mb)) := by
  refine PE.imp (pe_ifExp hc ha hb) fun σ H Q hh => ?_
  obtain ⟨M, rho, env, h, er, hr, o⟩ := hh
  refine tT.of er hr (Out.bind o) fun x h1 M1 rho1 H1 st1 er1 hr1 o1 => ?_
  cases x with
  | true => exact iteT ⟨M1, rho1, env, h1, er1, hr1, o1⟩
  | false => exact iteF ⟨M1, rho1, env, h1, er1, hr1, o1⟩
theorem me_one {op : BoolOp} (ha : PE X a (tM w EX ma)) : PE X (.BoolOp op [a] pos) (tM w EX ma) := pe_one ha
theorem me_and (ha : PE X a (tM w EX ma)) (hb : PE X (.BoolOp .And (b :: rest) pos) (tM w EX mb)) : PE X (.BoolOp .And (a :: b :: rest) pos) (tM w EX (mAndV ma mb)) := by
  refine PE.imp (pe_and ha hb) fun σ H Q hh => ?_
  obtain ⟨M, rho, env, h, er, hr, o⟩ := hh
  refine tM.of er hr (Out.bind o) fun x h1 M1 rho1 H1 v st1 er1 hr1 o1 rv => ?_
  cases rv <;> try exact (show False from o1).elim
  rename_i c
  refine ⟨c, rfl, ?_⟩
  cases c with
  | true => exact iteT ⟨M1, rho1, env, h1, er1, hr1, o1⟩
  | false => exact iteF ((show Out w EX M1 rho1 H1 (.ok (.bl false) h1) (KV w Q) from o1).now hr1 _ (.bl _))
end
end MC

end
section
set_option maxRecDepth 100000
set_option maxHeartbeats 4000000
namespace MC
open PySem PySem.Spec PyProof.Rows L2

def ltN : List Nat → List Nat → Bool
  | [], [] => false
  | [], _ :: _ => true
  | _ :: _, [] => false
  | x :: xs, y :: ys => bif x == y then ltN xs ys else decide (x < y)
theorem ltN_iff : ∀ a b : List Nat, decide (a < b) = ltN a b
  | [], [] => by decide
  | [], y :: ys => by simp [ltN]
  | x :: xs, [] => by simp [ltN]
  | x :: xs, y :: ys => by
    have ih := ltN_iff xs ys
    unfold ltN
    by_cases e : x = y
    · subst e
      rw [beq_self_eq_true, cond_true, ← ih]
      simp
    · have e2 : (x == y) = false := beq_eq_false_iff_ne.mpr e
      rw [e2, cond_false]
      simp [List.cons_lt_cons_iff, e]
def opOrd (p : Int → Int → Bool) (q : List Nat → List Nat → Bool) : O2 := fun h x y => match x, y with
  | .int i, .int j => .ok (.bl (p i j)) h
  | .str a, .str b => .ok (.bl (q a b)) h
  | _, _ => .stuck
def opLt : O2 := opOrd (fun i j => decide (i < j)) fun a b => ltN a b
def opLe : O2 := opOrd (fun i j => decide (i ≤ j)) fun a b => !ltN b a
def opGt : O2 := opOrd (fun i j => decide (j < i)) fun a b => ltN b a
def opGe : O2 := opOrd (fun i j => decide (j ≤ i)) fun a b => !ltN a b
def isNon : PV → Bool
  | .non => true
  | _ => false
def opIs (neg : Bool) : O2 := fun h x y => match y with
  | .non => .ok (.bl (bif neg then !isNon x else isNon x)) h
  | .bl b => match x with
    | .bl a => .ok (.bl (bif neg then !(a == b) else a == b)) h
    | _ => .stuck
  | _ => .stuck
section
variable {w : Wo} {EX : XC} {X : Cx} {k : Nat} {M : Addr → Prop} {rho : List Addr} {H : Hp} {h : PH}
theorem o_ord {f : Value → Value → Sem Value} {p : Int → Int → Bool} {q : List Nat → List Nat → Bool} (hi : OpR X f (rI0 fun i j => .bl (p i j)))
    (hs : OpR X f (fun x y H Q => ∃ i j, x = .str i ∧ y = .str j ∧ Q (.bl (q i.cps.toList j.cps.toList)) H)) : OpR X f (r2 w EX (opOrd p q)) := by
  intro pins s σ H x y v u Q I rx ry ⟨M, rho, h, px, py, hr, vx, vy, o⟩
  cases vx <;> try exact (show False from o).elim
  · cases vy <;> try exact (show False from o).elim
    rename_i i j
    exact hi pins s σ H _ _ v u Q I rx ry ⟨i, j, rfl, rfl, (show Out w EX M rho H (.ok (.bl (p i j)) h) (KV w Q) from o).now hr _ (.bl _)⟩
  · cases vy <;> try exact (show False from o).elim
    rename_i a b
    refine hs pins s σ H _ _ v u Q I rx ry ⟨_, _, rfl, rfl, ?_⟩
    have e1 : (⟨a.toArray⟩ : Str).cps.toList = a := by simp
    have e2 : (⟨b.toArray⟩ : Str).cps.toList = b := by simp
    rw [e1, e2]
    exact (show Out w EX M rho H (.ok (.bl (q a b)) h) (KV w Q) from o).now hr _ (.bl _)
theorem o_lt : OpR X (compareOp .Lt) (r2 w EX opLt) := o_ord op_lt fun pins s σ H x y v u Q I rx ry ⟨i, j, e1, e2, q⟩ => op_lt_str pins s σ H x y v u Q I rx ry ⟨i, j, e1, e2, by rw [ltN_iff]; exact q⟩
theorem o_gt : OpR X (compareOp .Gt) (r2 w EX opGt) := o_ord op_gt fun pins s σ H x y v u Q I rx ry ⟨i, j, e1, e2, q⟩ => op_gt_str pins s σ H x y v u Q I rx ry ⟨i, j, e1, e2, by rw [ltN_iff]; exact q⟩
theorem o_ge : OpR X (compareOp .GtE) (r2 w EX opGe) := o_ord op_ge fun pins s σ H x y v u Q I rx ry ⟨i, j, e1, e2, q⟩ => op_ge_str pins s σ H x y v u Q I rx ry ⟨i, j, e1, e2, by rw [ltN_iff]; exact q⟩
end

/-- the items of a list or tuple -/
def items (h : PH) : PV → Option (List PV)
  | .tup xs => some xs
  | .scr xs => some xs
  | .ref n => match h[n]? with
    | some (.lst xs) => some xs
    | _ => none
  | _ => none
/-- a key is that key -/
def keyQ : PV → PV → Bool
  | .int i, .int j => i == j
  | .str a, .str b => a == b
  | _, _ => false
def lookP (x : PV) : List (PV × PV) → Option PV
  | [] => none
  | (k, v) :: r => bif keyQ k x then some v else lookP x r
def isKey : PV → Bool
  | .int _ => true
  | .str _ => true
  | _ => false
section
variable {w : Wo} {EX : XC} {X : Cx} {k : Nat} {M : Addr → Prop} {rho : List Addr} {H : Hp} {h : PH}
theorem keyQ_iff {k x : PV} {j : Key} {v : V} (hk : keyP k = some j) (hx : isKey x = true) (rx : VR w M rho H x v) : ∃ i, keyP x = some i ∧ v = kV i ∧ (keyQ k x = decide (j = i)) := by
  cases rx <;> try (exact (Bool.false_ne_true hx).elim)
  · rename_i i
    refine ⟨.inl i, rfl, rfl, ?_⟩
    cases k <;> try (cases hk)
    · exact (key_ll _ _).symm
    · exact (key_rl _ _).symm
  · rename_i b
    refine ⟨.inr ⟨b.toArray⟩, rfl, rfl, ?_⟩
    cases k <;> try (cases hk)
    · exact (key_lr _ _).symm
    · rename_i a
      rw [key_rr]
      show (a == b) = _
      by_cases e : a = b
      · subst e; simp
      · rw [beq_eq_false_iff_ne.mpr e, decide_eq_false]
        intro z
        exact e (S_inj z)
theorem lookP_ok {x : PV} {v : V} (hx : isKey x = true) (rx : VR w M rho H x v) : ∃ i, keyP x = some i ∧ v = kV i ∧ ∀ {kvs : List (PV × PV)} {ks : List (Key × V)}, KRs w M rho H kvs ks →
    (lookP x kvs = none ∧ valV ks i = none) ∨ ∃ y u, lookP x kvs = some y ∧ valV ks i = some u ∧ VR w M rho H y u := by
  obtain ⟨i, h1, h2, _⟩ := keyQ_iff (k := .int 0) (j := .inl 0) rfl hx rx
  refine ⟨i, h1, h2, fun {kvs ks} r => ?_⟩
  induction kvs generalizing ks with
  | nil => cases r; exact .inl ⟨rfl, rfl⟩
  | cons p kvs ih =>
    cases r with
    | @cons k y j u _ gs hk hv ht =>
      obtain ⟨i', h1', _, q⟩ := keyQ_iff hk hx rx
      rw [h1] at h1'
      cases h1'
      unfold lookP
      by_cases e : j = i
      · rw [q, decide_eq_true e, cond_true]
        exact .inr ⟨y, u, rfl, valV_pos e, hv⟩
      · rw [q, decide_eq_false e, cond_false, valV_neg (by exact e)]
        exact ih ht
end
end MC

end
section
set_option maxRecDepth 100000
set_option maxHeartbeats 4000000
namespace MC
open PySem PySem.Spec PyProof.Rows L2

def ixL (h : PH) (xs : List PV) (y : PV) : R PV := match y with
  | .int i => match atI xs i with
    | some v => .ok v h
    | none => .stuck
  | _ => .stuck
def ixD (h : PH) (kvs : List (PV × PV)) (y : PV) : R PV := bif isKey y then (match lookP y kvs with
  | some v => .ok v h
  | none => .stuck) else .stuck
def ixS (h : PH) (s : List Nat) (y : PV) : R PV := match y with
  | .int i => match atI s i with
    | some c => bif decide (s.length ≤ LIM) then .ok (.str [c]) h else .stuck
    | none => .stuck
  | _ => .stuck
def opIx : O2 := fun h x y => match x with
  | .str s => ixS h s y
  | .rdic kvs => ixD h kvs y
  | .ref n => match h[n]? with
    | some (.dic _ kvs) => ixD h kvs y
    | some (.lst xs) => ixL h xs y
    | _ => .stuck
  | .tup xs => ixL h xs y
  | .scr xs => ixL h xs y
  | _ => .stuck
section
variable {w : Wo} {EX : XC} {X : Cx} {k : Nat} {M : Addr → Prop} {rho : List Addr} {H : Hp} {h : PH}
theorem VRs.atI {xs : List PV} {vs : List V} {i : Int} {x : PV} (r : VRs w M rho H xs vs) (e : L2.atI xs i = some x) : ∃ v, L2.atI vs i = some v ∧ VR w M rho H x v := by
  unfold L2.atI at e ⊢
  rw [r.length]
  cases q : ixN xs.length i with
  | none => rw [q] at e; cases e
  | some j =>
    rw [q] at e
    exact r.get e
theorem ixL_out {xs : List PV} {py : PV} {kk : KC PV} (o : Out w EX M rho H (ixL h xs py) kk) : ∃ i z, py = .int i ∧ L2.atI xs i = some z ∧ Out w EX M rho H (.ok z h) kk := by
  unfold ixL at o
  split at o
  · split at o
    · rename_i e
      exact ⟨_, _, rfl, e, o⟩
    · exact (show False from o).elim
  · exact (show False from o).elim
theorem o_ix {hh : Bool} (C : CxtG hh w k X) : IxR X (r2 w EX opIx) := by
  intro value slice pins s σ H x y v u Q I rx ry ⟨M, rho, h, px, py, hr, vx, vy, o⟩ hs
  have hu := C.units
  have dic : ∀ {A : Addr} {ks : List (Key × V)} {kvs : List (PV × PV)}, v = .ref A → Rd H A (.dK ks) → KRs w M rho H kvs ks → Out w EX M rho H (ixD h kvs py) (KV w Q) → wpAny (model X.prog X.w) X.A (subscriptTail value slice v u) (EP X pins σ Q) X.xe s := by
    intro A ks kvs ev rd sa o
    obtain ⟨hx, o2⟩ := Out.bif o
    obtain ⟨i, e1, e2, e3⟩ := lookP_ok hx vy
    subst ev e2
    rcases e3 sa with ⟨z1, z2⟩ | ⟨y', u', z1, z2, r'⟩
    · rw [z1] at o2; exact (show False from o2).elim
    · rw [z1] at o2
      have g : DGet H A (kV i) (some u') := .inl ⟨ks, i, rd, rfl, z2.symm⟩
      exact tail_any (T := "dict") (dict_typeIs I g) PySem.F.slot_dict_getitem.lookup (d_getItem (by omega) I g ry fun w' s3 I3 rw' => ⟨u', H, I3, rw', (show Out w EX M rho H (.ok y' h) (KV w Q) from o2).now hr _ r'⟩) hs
  have lst : ∀ {A : Addr} {us : List V} {xs : List PV}, x = .ref A → SqL w.K H A us → VRs w M rho H xs us → Out w EX M rho H (ixL h xs py) (KV w Q) → wpAny (model X.prog X.w) X.A (subscriptTail value slice v u) (EP X pins σ Q) X.xe s := by
    intro A us xs ex hq sa o
    obtain ⟨i, z, rfl, e, o⟩ := ixL_out o
    cases vy
    obtain ⟨z', e', r'⟩ := sa.atI e
    exact ix_list value slice pins s σ H _ _ v u Q I rx ry ⟨A, us, i, z', ex, rfl, by rw [C.hK]; exact hq, e', o.now hr _ r'⟩ hs
  cases vx <;> try exact (show False from o).elim
  · rename_i t
    have o' : Out w EX M rho H (ixS h t py) (KV w Q) := o
    unfold ixS at o'
    split at o'
    · split at o'
      · rename_i e
        cases vy
        obtain ⟨hl, o2⟩ := Out.lim o'
        refine ix_str value slice pins s σ H _ _ v u Q I rx ry ⟨_, _, _, rfl, rfl, ?_, ?_, o2.now hr (.str ⟨#[_]⟩) (.str [_])⟩ hs
        · show (S t).length ≤ _
          rw [S_len, lim_eq]; exact hl
        · show L2.atI (S t).cps.toList _ = some _
          rw [S_list]; exact e
      · exact (show False from o').elim
    · exact (show False from o').elim
  · rename_i xs us A ha sa
    obtain ⟨i, z, rfl, e, o2⟩ := ixL_out o
    cases vy
    obtain ⟨z', e', r'⟩ := sa.atI e
    exact ix_tup value slice pins s σ H _ _ v u Q I rx ry ⟨A, us, i, z', rfl, rfl, by rw [C.hK]; exact ha, e', o2.now hr _ r'⟩ hs
  · rename_i xs us A ha sa
    exact lst rfl ha.sq sa o
  · rename_i kvs ks A ob ha hn sa
    exact dic (by cases rx; rfl) (.inr ⟨ob, ha⟩) sa o
  · rename_i n A ha
    have o' : Out w EX M rho H (match h[n]? with
      | some (.dic _ kvs) => ixD h kvs py
      | some (.lst xs) => ixL h xs py
      | _ => .stuck) (KV w Q) := o
    split at o'
    · rename_i lk kvs e0
      obtain ⟨b, hb, ks, h1, sa⟩ := hr.ob n _ e0
      rw [ha] at hb; cases hb
      exact dic (by cases rx; rfl) (by
        cases lk with
        | false => exact .inl h1
        | true => exact .inr h1) sa o'
    · rename_i xs e0
      obtain ⟨us, h1, sa⟩ := hr.lst e0 ha
      exact lst rfl (SqL.of h1) sa o'
    · exact (show False from o').elim
theorem me_ix {hh : Bool} (C : CxtG hh w k X) {a b : Expr} {ma mb : ME} {pos : Pos} (ha : PE X a (tM w EX ma)) (hb : PE X b (tM w EX mb)) (hs : PlainIx b := by exact fun _ _ => rfl) : PE X (.Subscript a b pos) (tM w EX (mOp opIx ma mb)) :=
  PE.imp (pe_ix (o_ix C) ha hb hs) fun _ _ _ h => tM_op h
end

def cutG {α : Type} (xs : List α) (lo hi : Option Int) : List α := (xs.drop (HT.sIx xs.length 0 lo)).take (HT.sIx xs.length xs.length hi - HT.sIx xs.length 0 lo)
abbrev MO := List (Option PV) → PH → R (Option Int)
def tO (w : Wo) (EX : XC) (m : MO) : TO := fun σ H Q => ∃ M rho env h, ER w M rho H env σ ∧ HR w M rho H h ∧ Out w EX M rho H (m env h) (fun i _ _ _ H' => Q i H')
def moNone : MO := fun _ h => .ok none h
def moSome (m : ME) : MO := fun env h => (m env h).bind fun x h1 => match x with
  | .int i => .ok (some i) h1
  | _ => .stuck
def opSl (h : PH) (x : PV) (lo hi : Option Int) : R PV := match x with
  | .str s => bif decide (s.length ≤ LIM) then .ok (.str (cutG s lo hi)) h else .stuck
  | .tup xs => .ok (.tup (cutG xs lo hi)) h
  | .scr xs => .ok (.ref h.length) (h ++ [.lst (cutG xs lo hi)])
  | .ref n => match h[n]? with
    | some (.lst xs) => .ok (.ref h.length) (h ++ [.lst (cutG xs lo hi)])
    | _ => .stuck
  | _ => .stuck
def mSl (m : ME) (l u : MO) : ME := fun env h => (m env h).bind fun x h1 => (l env h1).bind fun lo h2 => (u env h2).bind fun hi h3 => opSl h3 x lo hi
section
variable {w : Wo} {EX : XC} {X : Cx} {k : Nat} {M : Addr → Prop} {rho : List Addr} {H : Hp} {h : PH}
theorem PO_imp {X : Cx} {e : Option Expr} {t t2 : TO} (p : L2.PO X e t) (i : ∀ σ H Q, t2 σ H Q → t σ H Q) : L2.PO X e t2 := ⟨fun pins s σ H Q I h => p.run pins s σ H Q I (i σ H Q h)⟩
theorem mo_none : L2.PO X none (tO w EX moNone) := by
  refine PO_imp po_none fun σ H Q hh => ?_
  obtain ⟨M, rho, env, h, er, hr, o⟩ := hh
  exact o.now hr
theorem mo_some {e : Expr} {m : ME} (ha : PE X e (tM w EX m)) : L2.PO X (some e) (tO w EX (moSome m)) := by
  refine PO_imp (po_some ha) fun σ H Q hh => ?_
  obtain ⟨M, rho, env, h, er, hr, o⟩ := hh
  refine tM.of er hr (Out.bind o) fun x h1 M1 rho1 H1 v st1 er1 hr1 o1 rv => ?_
  cases rv <;> try exact (show False from o1).elim
  rename_i i
  exact ⟨i, rfl, (show Out w EX M1 rho1 H1 (.ok (some i) h1) _ from o1).now hr1⟩
theorem VRs.cut {xs : List PV} {vs : List V} (r : VRs w M rho H xs vs) (lo hi : Option Int) : VRs w M rho H (cutG xs lo hi) (cutV vs lo hi) := by
  unfold cutG cutV
  rw [r.length]
  exact (r.drop _).take _
theorem cut_all {α : Type} (xs : List α) {lo hi : Option Int} (e : HT.sIx xs.length 0 lo = 0 ∧ HT.sIx xs.length xs.length hi = xs.length) : cutG xs lo hi = xs := by
  unfold cutG
  rw [e.1, e.2]
  simp
theorem o_sl {hh : Bool} (C : CxtG hh w k X) : SlR X (fun x lo hi H Q => ∃ M rho h px, HR w M rho H h ∧ VR w M rho H px x ∧ Out w EX M rho H (opSl h px lo hi) (KV w Q)) := by
  intro pins s σ H x v vl vu lo hi sl Q I rx hs pl pu ⟨M, rho, h, px, hr, vx, o⟩
  cases vx <;> try exact (show False from o).elim
  · rename_i t
    obtain ⟨hl, o2⟩ := Out.lim o
    refine sl_str pins s σ H _ v vl vu lo hi sl Q I rx hs pl pu ⟨_, rfl, ?_, ?_⟩
    · show (S t).length ≤ _
      rw [S_len, lim_eq]; exact hl
    · have e : cutS (⟨t.toArray⟩ : Str) lo hi = S (cutG t lo hi) := by
        unfold cutS cutG S
        simp [Str.length]
      rw [e]
      exact o2.now hr _ (.str _)
  · rename_i xs us A ha sa
    refine sl_tupA pins s σ H _ v vl vu lo hi sl Q I rx hs pl pu ⟨A, us, rfl, by rw [C.hK]; exact ha, fun e => ?_, fun _ => ?_⟩
    · have o2 : Out w EX M rho H (.ok (.tup (cutG xs lo hi)) h) (KV w Q) := o
      rw [sa.length] at e
      rw [cut_all xs e] at o2
      exact o2.now hr _ (.tup ha sa)
    · exact KV.tup hr o (sa.cut lo hi)
  · rename_i xs us A ha sa
    exact sl_list pins s σ H _ v vl vu lo hi sl Q I rx hs pl pu ⟨A, us, rfl, by rw [C.hK]; exact ha.sq, KV.lst hr o (sa.cut lo hi)⟩
  · rename_i n A ha
    have o' : Out w EX M rho H (match h[n]? with
      | some (.lst xs) => .ok (.ref h.length) (h ++ [.lst (cutG xs lo hi)])
      | _ => .stuck) (KV w Q) := o
    split at o'
    · rename_i xs e0
      obtain ⟨us, h1, sa⟩ := hr.lst e0 ha
      exact sl_list pins s σ H _ v vl vu lo hi sl Q I rx hs pl pu ⟨A, us, rfl, by rw [C.hK]; exact SqL.of h1, KV.lst hr o' (sa.cut lo hi)⟩
    · exact (show False from o').elim
theorem me_sl {hh : Bool} (C : CxtG hh w k X) {e : Expr} {lo hi : Option Expr} {m : ME} {l u : MO} {p2 pos : Pos} (ha : PE X e (tM w EX m)) (hl : L2.PO X lo (tO w EX l)) (hu : L2.PO X hi (tO w EX u)) : PE X (.Subscript e (.Slice lo hi none p2) pos) (tM w EX (mSl m l u)) := by
  refine PE.imp (pe_slice (o_sl (EX := EX) C) ha hl hu) fun σ H Q hh => ?_
  obtain ⟨M, rho, env, h, er, hr, o⟩ := hh
  refine tM.of er hr (Out.bind o) fun x h1 M1 rho1 H1 v st1 er1 hr1 o1 rv => ?_
  refine ⟨M1, rho1, env, h1, er1, hr1, (Out.bind o1).imp fun lo h2 M2 rho2 H2 st2 hr2 o2 => ?_⟩
  refine ⟨M2, rho2, env, h2, er1.step st2 hr1, hr2, (Out.bind o2).imp fun hi h3 M3 rho3 H3 st3 hr3 o3 => ?_⟩
  exact ⟨M3, rho3, h3, x, hr3, (rv.step st2 hr1).step st3 hr2, o3⟩
end

def lookF (f : Nm) : List (Nm × PV) → Option PV
  | [] => none
  | (k, v) :: r => bif k == f then some v else lookF f r
/-- the class and the attributes of an instance -/
def fldsOf (h : PH) : PV → Option (Nat × List (Nm × PV))
  | .ins c fs => some (c, fs)
  | .ref n => match h[n]? with
    | some (.ins c fs) => some (c, fs)
    | _ => none
  | _ => none
/-- o.f; cs: the classes of which the rule knows that field -/
def mFld (cs : List Nat) (f : Nm) (m : ME) : ME := fun env h => (m env h).bind fun x h1 => match fldsOf h1 x with
  | some (c, fs) => bif cs.contains c then (match lookF f fs with
    | some v => .ok v h1
    | none => .stuck) else .stuck
  | none => .stuck
section
variable {w : Wo} {EX : XC} {X : Cx} {k : Nat} {M : Addr → Prop} {rho : List Addr} {H : Hp} {h : PH}
theorem nmS_inj {a b : Nm} (e : nmS a = nmS b) : a = b := S_inj e
theorem FRs.look {f : Nm} : ∀ {fs : List (Nm × PV)} {gs : List (Str × V)} {x : PV}, FRs w M rho H fs gs → lookF f fs = some x → ∃ v, gs.lookup (nmS f) = some v ∧ VR w M rho H x v
  | _, _, _, .nil, e => nomatch e
  | _, _, x, .cons (k := kk) r s, e => by
    unfold lookF at e
    by_cases q : kk = f
    · subst q
      rw [beq_self_eq_true, cond_true] at e
      cases e
      exact ⟨_, by rw [List.lookup_cons, beq_self_eq_true], r⟩
    · rw [beq_eq_false_iff_ne.mpr q, cond_false] at e
      obtain ⟨v, h1, h2⟩ := FRs.look s e
      refine ⟨v, ?_, h2⟩
      rw [List.lookup_cons, beq_eq_false_iff_ne.mpr (fun z => q (nmS_inj z).symm)]
      exact h1
end
end MC

end
section
set_option maxRecDepth 100000
set_option maxHeartbeats 4000000
namespace MC
open PySem PySem.Spec PyProof.Rows L2

mutual
def noRef : PV → Bool
  | .ref _ => false
  | .exn _ fs => noRefF fs
  | .exv _ fs => noRefF fs
  | .tup xs => noRefs xs
  | .scr xs => noRefs xs
  | .rdic kvs => noRefK kvs
  | .ins _ fs => noRefF fs
  | .non => true
  | .bl _ => true
  | .int _ => true
  | .str _ => true
  | .gl _ => true
def noRefs : List PV → Bool
  | [] => true
  | x :: xs => noRef x && noRefs xs
def noRefK : List (PV × PV) → Bool
  | [] => true
  | (k, x) :: xs => noRef k && (noRef x && noRefK xs)
def noRefF : List (Nm × PV) → Bool
  | [] => true
  | (_, x) :: xs => noRef x && noRefF xs
end
mutual
def renV (f : Nat → Option Nat) : PV → Option PV
  | .ref n => match f n with
    | some m => some (.ref m)
    | none => none
  | .tup xs => match renVs f xs with
    | some ys => some (.tup ys)
    | none => none
  | .scr xs => match renVs f xs with
    | some ys => some (.scr ys)
    | none => none
  | .rdic kvs => match renK f kvs with
    | some ys => some (.rdic ys)
    | none => none
  | .ins c fs => match renF f fs with
    | some ys => some (.ins c ys)
    | none => none
  | .exn c fs => match renF f fs with
    | some ys => some (.exn c ys)
    | none => none
  | .exv c fs => match renF f fs with
    | some ys => some (.exv c ys)
    | none => none
  | .non => some .non
  | .bl b => some (.bl b)
  | .int i => some (.int i)
  | .str s => some (.str s)
  | .gl i => some (.gl i)
def renVs (f : Nat → Option Nat) : List PV → Option (List PV)
  | [] => some []
  | x :: xs => match renV f x, renVs f xs with
    | some y, some ys => some (y :: ys)
    | _, _ => none
def renK (f : Nat → Option Nat) : List (PV × PV) → Option (List (PV × PV))
  | [] => some []
  | (k, x) :: xs => match renV f x, renK f xs with
    | some y, some ys => some ((k, y) :: ys)
    | _, _ => none
def renF (f : Nat → Option Nat) : List (Nm × PV) → Option (List (Nm × PV))
  | [] => some []
  | (k, x) :: xs => match renV f x, renF f xs with
    | some y, some ys => some ((k, y) :: ys)
    | _, _ => none
end
def renO (f : Nat → Option Nat) : PO → Option PO
  | .lst xs => match renVs f xs with
    | some ys => some (.lst ys)
    | none => none
  | .ins c fs => match renF f fs with
    | some gs => some (.ins c gs)
    | none => none
  | .dic lk kvs => match renK f kvs with
    | some ls => some (.dic lk ls)
    | none => none
  | .dit lk kvs => match renK f kvs with
    | some ls => some (.dit lk ls)
    | none => none
mutual
def refsV : PV → List Nat
  | .ref n => [n]
  | .tup xs => refsVs xs
  | .scr xs => refsVs xs
  | .rdic kvs => refsK kvs
  | .ins _ fs => refsF fs
  | .exn _ fs => refsF fs
  | .exv _ fs => refsF fs
  | .non => []
  | .bl _ => []
  | .int _ => []
  | .str _ => []
  | .gl _ => []
def refsVs : List PV → List Nat
  | [] => []
  | x :: xs => refsV x ++ refsVs xs
def refsK : List (PV × PV) → List Nat
  | [] => []
  | (_, x) :: xs => refsV x ++ refsK xs
def refsF : List (Nm × PV) → List Nat
  | [] => []
  | (_, x) :: xs => refsV x ++ refsF xs
end
def refsO : PO → List Nat
  | .lst xs => refsVs xs
  | .ins _ fs => refsF fs
  | .dic _ kvs => refsK kvs
  | .dit _ kvs => refsK kvs
/-- the objects that are reached, each once -/
def reach (h : PH) : Nat → List Nat → List Nat → Option (List Nat)
  | _, [], seen => some seen
  | 0, _ :: _, _ => none
  | f + 1, n :: todo, seen => bif seen.contains n then reach h f todo seen else match h[n]? with
    | some o => reach h f (refsO o ++ todo) (seen ++ [n])
    | none => none
def idx (l : List Nat) (n : Nat) : Option Nat := match l with
  | [] => none
  | m :: r => bif m == n then some 0 else match idx r n with
    | some i => some (i + 1)
    | none => none

section
variable {w : Wo} {M M1 : Addr → Prop} {rho rho1 : List Addr} {H H1 : Hp} {h : PH}
/-- what stands for ever -/
def fixO : HO → Bool
  | .tup _ => true
  | .frz _ _ => true
  | .ins _ _ _ => true
  | .xd _ => true
  | .ext _ => true
  | _ => false
structure Tr (w : Wo) (M : Addr → Prop) (rho : List Addr) (H : Hp) (M1 : Addr → Prop) (rho1 : List Addr) (H1 : Hp) (f : Nat → Option Nat) : Prop where
  hp : ∀ b o, fixO o = true → H b = some o → H1 b = some o
  mo : ∀ b, M1 b → M b
  rf : ∀ (n m : Nat) a, f n = some m → rho[n]? = some a → rho1[m]? = some a
theorem Tr.sqT {f : Nat → Option Nat} (t : Tr w M rho H M1 rho1 H1 f) {K : PySem.W.Frag} {a : Addr} {vs : List V} (q : SqT K H a vs) : SqT K H1 a vs := by
  rcases q with (q | ⟨o, q⟩) | q
  · exact .inl (.inl (t.hp _ _ rfl q))
  · exact .inl (.inr ⟨o, t.hp _ _ rfl q⟩)
  · exact .inr q
theorem Tr.scr {f : Nat → Option Nat} (t : Tr w M rho H M1 rho1 H1 f) {a : Addr} {vs : List V} (q : ScrL w M H a vs) : ScrL w M1 H1 a vs := by
  rcases q with q | ⟨o, q, n⟩
  · exact .inl q
  · exact .inr ⟨o, t.hp _ _ rfl q, fun z => n (t.mo _ z)⟩
mutual
theorem VR.tr {f : Nat → Option Nat} (t : Tr w M rho H M1 rho1 H1 f) : ∀ {x y : PV} {v : V}, VR w M rho H x v → renV f x = some y → VR w M1 rho1 H1 y v
  | _, _, _, .non, e => by cases e; exact .non
  | _, _, _, .bl b, e => by cases e; exact .bl b
  | _, _, _, .int i, e => by cases e; exact .int i
  | _, _, _, .str s, e => by cases e; exact .str s
  | _, _, _, .tup (xs := xs) q s, e => by
    unfold renV at e
    cases e1 : renVs f xs with
    | none => rw [e1] at e; cases e
    | some ys => rw [e1] at e; cases e; exact .tup (t.sqT q) (VRs.tr t s e1)
  | _, _, _, .scr (xs := xs) q s, e => by
    unfold renV at e
    cases e1 : renVs f xs with
    | none => rw [e1] at e; cases e
    | some ys => rw [e1] at e; cases e; exact .scr (t.scr q) (VRs.tr t s e1)
  | _, _, _, .rdic (kvs := kvs) q n s, e => by
    unfold renV at e
    cases e1 : renK f kvs with
    | none => rw [e1] at e; cases e
    | some ys => rw [e1] at e; cases e; exact .rdic (t.hp _ _ rfl q) (fun z => n (t.mo _ z)) (KRs.tr t s e1)
  | _, _, _, .ins (fs := fs) c q n s, e => by
    unfold renV at e
    cases e1 : renF f fs with
    | none => rw [e1] at e; cases e
    | some ys => rw [e1] at e; cases e; exact .ins c (t.hp _ _ rfl q) (fun z => n (t.mo _ z)) (FRs.tr t s e1)
  | _, _, _, .ref (n := n) q, e => by
    unfold renV at e
    cases e1 : f n with
    | none => rw [e1] at e; cases e
    | some m => rw [e1] at e; cases e; exact .ref (t.rf n m _ e1 q)
  | _, _, _, .gl q, e => by cases e; exact .gl q
  | _, _, _, .exn (fs := fs) e1 e2 e3 e4 e5 e6 s, e => by
    unfold renV at e
    cases q : renF f fs with
    | none => rw [q] at e; cases e
    | some ys => rw [q] at e; cases e; exact .exn e1 e2 e3 e4 (fun x hx => ⟨t.hp _ _ rfl (e5 x hx).1, fun z => (e5 x hx).2 (t.mo _ z)⟩) e6 (FRs.tr t s q)
  | _, _, _, .exv (fs := fs) e1 e2 e3 e4 e5 s, e => by
    unfold renV at e
    cases q : renF f fs with
    | none => rw [q] at e; cases e
    | some ys => rw [q] at e; cases e; exact .exv (t.hp _ _ rfl e1) (fun z => e2 (t.mo _ z)) e3 (fun x hx => ⟨t.hp _ _ rfl (e4 x hx).1, fun z => (e4 x hx).2 (t.mo _ z)⟩) e5 (FRs.tr t s q)
theorem VRs.tr {f : Nat → Option Nat} (t : Tr w M rho H M1 rho1 H1 f) : ∀ {xs ys : List PV} {vs : List V}, VRs w M rho H xs vs → renVs f xs = some ys → VRs w M1 rho1 H1 ys vs
  | _, _, _, .nil, e => by cases e; exact .nil
  | _, _, _, .cons (x := x) (xs := xs) a b, e => by
    unfold renVs at e
    cases e1 : renV f x with
    | none => rw [e1] at e; cases e
    | some y =>
      cases e2 : renVs f xs with
      | none => rw [e1, e2] at e; cases e
      | some ys => rw [e1, e2] at e; cases e; exact .cons (VR.tr t a e1) (VRs.tr t b e2)
theorem FRs.tr {f : Nat → Option Nat} (t : Tr w M rho H M1 rho1 H1 f) : ∀ {xs ys : List (Nm × PV)} {vs : List (Str × V)}, FRs w M rho H xs vs → renF f xs = some ys → FRs w M1 rho1 H1 ys vs
  | _, _, _, .nil, e => by cases e; exact .nil
  | _, _, _, .cons (x := x) (fs := xs) a b, e => by
    unfold renF at e
    cases e1 : renV f x with
    | none => rw [e1] at e; cases e
    | some y =>
      cases e2 : renF f xs with
      | none => rw [e1, e2] at e; cases e
      | some ys => rw [e1, e2] at e; cases e; exact .cons (VR.tr t a e1) (FRs.tr t b e2)
theorem KRs.tr {f : Nat → Option Nat} (t : Tr w M rho H M1 rho1 H1 f) : ∀ {xs ys : List (PV × PV)} {vs : List (Key × V)}, KRs w M rho H xs vs → renK f xs = some ys → KRs w M1 rho1 H1 ys vs
  | _, _, _, .nil, e => by cases e; exact .nil
  | _, _, _, .cons (x := x) (fs := xs) q a b, e => by
    unfold renK at e
    cases e1 : renV f x with
    | none => rw [e1] at e; cases e
    | some y =>
      cases e2 : renK f xs with
      | none => rw [e1, e2] at e; cases e
      | some ys => rw [e1, e2] at e; cases e; exact .cons q (VR.tr t a e1) (KRs.tr t b e2)
end
mutual
theorem nk_ren (f : Nat → Option Nat) : ∀ (x : PV) (k : NestedKey), nkP x = some k → renV f x = some x
  | .non, _, _ | .bl _, _, _ | .int _, _, _ | .str _, _, _ => by unfold renV; rfl
  | .tup xs, k, e => by
    unfold nkP at e
    cases q : nkPs xs with
    | none => rw [q] at e; cases e
    | some ks => unfold renV; rw [nks_ren f xs ks q]
  | .scr _, _, e | .rdic _, _, e | .ins _ _, _, e | .ref _, _, e | .gl _, _, e | .exn _ _, _, e | .exv _ _, _, e => by unfold nkP at e; cases e
theorem nks_ren (f : Nat → Option Nat) : ∀ (x : List PV) (k : List NestedKey), nkPs x = some k → renVs f x = some x
  | [], _, _ => by unfold renVs; rfl
  | x :: xs, k, e => by
    unfold nkPs at e
    cases q : nkP x with
    | none => rw [q] at e; cases e
    | some y =>
      cases q2 : nkPs xs with
      | none => rw [q, q2] at e; cases e
      | some ys => unfold renVs; rw [nk_ren f x y q, nks_ren f xs ys q2]
end
theorem TRs.tr {f : Nat → Option Nat} (t : Tr w M rho H M1 rho1 H1 f) : ∀ {xs ys : List (PV × PV)} {vs : List (NestedKey × Addr × Value)}, TRs w M rho H xs vs → renK f xs = some ys → TRs w M1 rho1 H1 ys vs
  | _, _, _, .nil, e => by cases e; exact .nil
  | _, _, _, .cons (k := k) (x := x) (fs := xs) q1 q2 r0 a r b, e => by
    unfold renK at e
    cases e1 : renV f x with
    | none => rw [e1] at e; cases e
    | some y =>
      cases e2 : renK f xs with
      | none => rw [e1, e2] at e; cases e
      | some ys => rw [e1, e2] at e; cases e; exact .cons q1 q2 (r0.tr t (nk_ren f k _ q1)) (a.tr t e1) r (TRs.tr t b e2)
theorem OR.tr {f : Nat → Option Nat} (t : Tr w M rho H M1 rho1 H1 f) {a : Addr} {o p : PO} (q : OR w M rho H a o) (he : H1 a = H a) (e : renO f o = Option.some p) : OR w M1 rho1 H1 a p := by
  cases o with
  | lst xs =>
    obtain ⟨vs, h1, h2⟩ := q
    cases e1 : renVs f xs with
    | none => simp only [renO, e1] at e; cases e
    | some ys => simp only [renO, e1] at e; cases e; exact ⟨vs, he.trans h1, h2.tr t e1⟩
  | ins c fs =>
    obtain ⟨C, dx, gs, h0, h1, h2⟩ := q
    cases e1 : renF f fs with
    | none => simp only [renO, e1] at e; cases e
    | some ys => simp only [renO, e1] at e; cases e; exact ⟨C, dx, gs, h0, he.trans h1, h2.tr t e1⟩
  | dic lk kvs =>
    obtain ⟨ks, h1, h2⟩ := q
    cases e1 : renK f kvs with
    | none => simp only [renO, e1] at e; cases e
    | some ys =>
      simp only [renO, e1] at e; cases e
      refine ⟨ks, ?_, h2.tr t e1⟩
      cases lk with
      | false => exact he.trans h1
      | true => obtain ⟨o, h1⟩ := h1; exact ⟨o, he.trans h1⟩
  | dit lk kvs =>
    obtain ⟨ks, h1, z1, z2, z3, h2⟩ := q
    cases e1 : renK f kvs with
    | none => simp only [renO, e1] at e; cases e
    | some ys =>
      simp only [renO, e1] at e; cases e
      refine ⟨ks, ?_, z1, z2, z3, h2.tr t e1⟩
      cases lk with
      | false => exact he.trans h1
      | true => obtain ⟨o, h1⟩ := h1; exact ⟨o, he.trans h1⟩
end

abbrev MF := List PV → PH → R PV
def FUEL : Nat := 1600
def pick (h : PH) (f : Nat → Option Nat) (n : Nat) : Option PO := match h[n]? with
  | some o => renO f o
  | none => none
def setAll : PH → List Nat → List PO → PH
  | h, n :: ns, o :: os => setAll (h.set n o) ns os
  | h, _, _ => h
def newsOf (fp live : List Nat) : List Nat := live.filter fun n => decide (fp.length ≤ n)
def backF (fp news : List Nat) (n0 : Nat) : Nat → Option Nat := fun n => bif decide (n < fp.length) then fp[n]? else match idx news n with
  | some i => some (n0 + i)
  | none => none
/-- behind the call: fp the objects that were handed over, h the caller's heap, vs and g what came back -/
def takeL (h : PH) (fp : List Nat) (vs : List PV) (g : PH) : Option (List Nat × List PV × PH) := match reach g FUEL (refsVs vs ++ List.range fp.length) [] with
  | some live => match renVs (backF fp (newsOf fp live) h.length) vs, mapO (pick g (backF fp (newsOf fp live) h.length)) (List.range fp.length), mapO (pick g (backF fp (newsOf fp live) h.length)) (newsOf fp live) with
    | some us, some os, some ns => some (newsOf fp live, us, setAll h fp os ++ ns)
    | _, _, _ => none
  | none => none
def takeBack (h : PH) (fp : List Nat) (v : PV) (g : PH) : R PV := match takeL h fp [v] g with
  | some (_, [u], h2) => .ok u h2
  | _ => .stuck
/-- a new instance that nobody else holds is taken over as a value -/
def takeFrz (h : PH) (fp : List Nat) (v : PV) (g : PH) : R PV := match v with
  | .ref i => match g[i]? with
    | some (.ins c fs) => match takeL h fp (fs.map (·.2)) g with
      | some (news, us, h2) => bif news.contains i || decide (i < fp.length) then .stuck else .ok (.ins c ((fs.map (·.1)).zip us)) h2
      | none => .stuck
    | _ => .stuck
  | _ => .stuck
def callG (tb : PH → List Nat → PV → PH → R PV) (m : MF) (args : List PV) (h : PH) : R PV := match reach h FUEL (refsVs args) [] with
  | some fp => match renVs (idx fp) args, mapO (pick h (idx fp)) fp with
    | some as, some hc => match m as hc with
      | .ok v g => tb h fp v g
      | .exc _ _ _ => .stuck
      | .stuck => .stuck
    | _, _ => .stuck
  | none => .stuck
section
theorem idx_get : ∀ {l : List Nat} {n i : Nat}, idx l n = some i → l[i]? = some n
  | [], _, _, e => nomatch e
  | m :: r, n, i, e => by
    unfold idx at e
    by_cases q : m = n
    · rw [beq_iff_eq.mpr q, cond_true] at e
      cases e
      rw [q]; rfl
    · rw [beq_eq_false_iff_ne.mpr q, cond_false] at e
      split at e
      · rename_i j ej
        cases e
        have := idx_get ej
        simpa using this
      · cases e
theorem mapO_len {α β : Type} {f : α → Option β} : ∀ {xs : List α} {ys : List β}, mapO f xs = some ys → ys.length = xs.length
  | [], _, e => by cases e; rfl
  | x :: xs, ys, e => by
    unfold mapO at e
    split at e
    · cases e
    · split at e
      · cases e
      · rename_i e2
        cases e
        rw [List.length_cons, List.length_cons, mapO_len e2]
theorem mapO_get {α β : Type} {f : α → Option β} : ∀ {xs : List α} {ys : List β}, mapO f xs = some ys → ∀ {i : Nat} {x : α}, xs[i]? = some x → ∃ y, ys[i]? = some y ∧ f x = some y
  | [], _, _, i, _, h => by simp at h
  | x :: xs, ys, e, i, z, h => by
    unfold mapO at e
    split at e
    · cases e
    · rename_i y ey
      split at e
      · cases e
      · rename_i e2
        cases e
        cases i with
        | zero =>
          have h1 : x = z := by simpa using h
          subst h1
          exact ⟨y, rfl, ey⟩
        | succ i =>
          obtain ⟨y2, h1, h2⟩ := mapO_get e2 (i := i) (x := z) (by simpa using h)
          exact ⟨y2, by simpa using h1, h2⟩
theorem reach_nd {h : PH} : ∀ {f : Nat} {todo seen fp : List Nat}, seen.Nodup → reach h f todo seen = some fp → fp.Nodup
  | f, [], seen, fp, n, e => by
    cases f <;> (unfold reach at e; cases e; exact n)
  | 0, _ :: _, _, _, _, e => by unfold reach at e; cases e
  | f + 1, m :: todo, seen, fp, n, e => by
    unfold reach at e
    by_cases q : seen.contains m = true
    · rw [q, cond_true] at e
      exact reach_nd n e
    · have q' : seen.contains m = false := by simpa using q
      rw [q', cond_false] at e
      split at e
      · refine reach_nd (List.nodup_append.mpr ⟨n, (by simp), fun a ha b hb z => ?_⟩) e
        rw [List.mem_singleton] at hb
        subst z; subst hb
        exact q (List.contains_iff_mem.mpr ha)
      · cases e
theorem setAll_len : ∀ (h : PH) (ns : List Nat) (os : List PO), (setAll h ns os).length = h.length
  | h, [], os => by cases os <;> rfl
  | h, n :: ns, [] => rfl
  | h, n :: ns, o :: os => by
    show (setAll (h.set n o) ns os).length = _
    rw [setAll_len, List.length_set]
theorem setAll_out : ∀ (h : PH) (ns : List Nat) (os : List PO) {i : Nat}, i ∉ ns → (setAll h ns os)[i]? = h[i]?
  | h, [], os, i, _ => by cases os <;> rfl
  | h, n :: ns, [], i, _ => rfl
  | h, n :: ns, o :: os, i, hn => by
    show (setAll (h.set n o) ns os)[i]? = _
    have h1 : n ≠ i := fun e => hn (by rw [e]; exact List.mem_cons_self)
    rw [setAll_out (h.set n o) ns os fun z => hn (List.mem_cons_of_mem _ z), List.getElem?_set_ne h1]
theorem setAll_in : ∀ (h : PH) (ns : List Nat) (os : List PO), ns.Nodup → os.length = ns.length → ∀ {i j : Nat}, ns[j]? = some i → i < h.length → (setAll h ns os)[i]? = os[j]?
  | h, [], os, _, _, i, j, e, _ => by simp at e
  | h, n :: ns, [], _, l, i, j, e, _ => by simp at l
  | h, n :: ns, o :: os, nd, l, i, j, e, hi => by
    show (setAll (h.set n o) ns os)[i]? = _
    have nd2 := List.nodup_cons.mp nd
    cases j with
    | zero =>
      have e1 : n = i := by simpa using e
      subst e1
      rw [setAll_out _ _ _ nd2.1, List.getElem?_set_self hi]
      rfl
    | succ j =>
      have e1 : ns[j]? = some i := by simpa using e
      have := setAll_in (h.set n o) ns os nd2.2 (by simpa using l) e1 (by rw [List.length_set]; exact hi)
      rw [this]
      simp
end
section
variable {w : Wo} {EX EX2 : XC} {M : Addr → Prop} {rho : List Addr} {H : Hp} {h : PH}
/-- the addresses that are handed over -/
def some_of (rho : List Addr) (fp : List Nat) : List Addr := fp.map fun n => rho.getD n 0
theorem some_get {rho : List Addr} {fp : List Nat} {i n : Nat} {a : Addr} (e : fp[i]? = some n) (r : rho[n]? = some a) : (some_of rho fp)[i]? = some a := by
  unfold some_of
  rw [List.getElem?_map, e]
  simp [List.getD, r]
theorem some_inv {rho : List Addr} {fp : List Nat} {i : Nat} {a : Addr} (hf : ∀ n ∈ fp, n < rho.length) (e : (some_of rho fp)[i]? = some a) : ∃ n, fp[i]? = some n ∧ rho[n]? = some a := by
  unfold some_of at e
  rw [List.getElem?_map] at e
  cases q : fp[i]? with
  | none => rw [q] at e; cases e
  | some n =>
    rw [q] at e
    have hn := hf n (List.mem_of_getElem? q)
    refine ⟨n, rfl, ?_⟩
    rw [← e]
    simp [List.getD, hn]
theorem some_nd {rho : List Addr} {fp : List Nat} (h1 : rho.Nodup) (h2 : fp.Nodup) (hf : ∀ n ∈ fp, n < rho.length) : (some_of rho fp).Nodup := by
  unfold some_of
  induction fp with
  | nil => exact List.nodup_nil
  | cons n r ih =>
    have h3 := List.nodup_cons.mp h2
    rw [List.map_cons]
    refine List.nodup_cons.mpr ⟨fun z => ?_, ih h3.2 fun m hm => hf m (List.mem_cons_of_mem _ hm)⟩
    obtain ⟨m, hm, e⟩ := List.mem_map.mp z
    have l1 := hf n List.mem_cons_self
    have l2 := hf m (List.mem_cons_of_mem _ hm)
    simp only [List.getD, List.getElem?_eq_getElem l1, List.getElem?_eq_getElem l2, Option.getD_some] at e
    have := (List.getElem_inj h1).mp e
    subst this
    exact h3.1 hm
theorem pick_some {h : PH} {f : Nat → Option Nat} {n : Nat} {p : PO} (e : pick h f n = some p) : ∃ o, h[n]? = some o ∧ renO f o = some p := by
  unfold pick at e
  split at e
  · rename_i o e0
    exact ⟨o, e0, e⟩
  · cases e
theorem pick_all {h : PH} {f : Nat → Option Nat} {ns : List Nat} {os : List PO} (e : mapO (pick h f) ns = some os) : ∀ n ∈ ns, n < h.length := fun n hn => by
  obtain ⟨i, hi, ei⟩ := List.mem_iff_getElem.mp hn
  obtain ⟨y, _, ey⟩ := mapO_get e (i := i) (x := n) (by rw [List.getElem?_eq_getElem hi, ei])
  obtain ⟨o, h1, _⟩ := pick_some ey
  exact (List.getElem?_eq_some_iff.mp h1).1
/-- entering -/
theorem enter_ok (hr : HR w M rho H h) {args as : List PV} {hc : PH} {fp : List Nat} {vs : List V} (nd : fp.Nodup) (e1 : renVs (idx fp) args = some as) (e2 : mapO (pick h (idx fp)) fp = some hc) (r : VRs w M rho H args vs) :
    VRs w M (some_of rho fp) H as vs ∧ HR w M (some_of rho fp) H hc := by
  have hf : ∀ n ∈ fp, n < rho.length := fun n hn => by rw [← hr.len]; exact pick_all e2 n hn
  have t : Tr w M rho H M (some_of rho fp) H (idx fp) := ⟨fun _ _ _ e => e, fun _ e => e, fun n m a q ha => some_get (idx_get q) ha⟩
  refine ⟨r.tr t e1, ⟨?_, some_nd hr.nd nd hf, fun b hb => ?_, hr.live, fun n o q => ?_, hr.tabs⟩⟩
  · rw [mapO_len e2]
    unfold some_of
    rw [List.length_map]
  · obtain ⟨i, hi, ei⟩ := List.mem_iff_getElem.mp hb
    obtain ⟨n, _, hn⟩ := some_inv hf (i := i) (a := b) (by rw [List.getElem?_eq_getElem hi, ei])
    exact hr.mem b (List.mem_of_getElem? hn)
  · have hn : n < fp.length := by
      have := (List.getElem?_eq_some_iff.mp q).1
      rwa [mapO_len e2] at this
    obtain ⟨y, hy, ey⟩ := mapO_get e2 (i := n) (x := fp[n]) (List.getElem?_eq_getElem hn)
    rw [q] at hy
    cases hy
    obtain ⟨o', h1, h2⟩ := pick_some ey
    obtain ⟨a, ha, s⟩ := hr.ob _ _ h1
    exact ⟨a, some_get (List.getElem?_eq_getElem hn) ha, s.tr t rfl h2⟩
/-- coming back -/
theorem back_core {M1 : Addr → Prop} {rho1 : List Addr} {H1 : Hp} (hr : HR w M rho H h) {fp : List Nat} {g h2 : PH} {v us : List PV} {V : List L2.V} {nw : List Nat} (nd : fp.Nodup) (hf : ∀ n ∈ fp, n < rho.length) (st : Step M (some_of rho fp) H M1 rho1 H1) (hr1 : HR w M1 rho1 H1 g) (r : VRs w M1 rho1 H1 v V)
    (o : takeL h fp v g = some (nw, us, h2)) : ∃ M2 rho2, Step M rho H M2 rho2 H1 ∧ HR w M2 rho2 H1 h2 ∧ VRs w M2 rho2 H1 us V ∧ (∀ b, M2 b → M b ∨ ∃ n ∈ nw, rho1[n]? = some b) := by
  unfold takeL at o
  split at o
  · rename_i live el
    have ndl := reach_nd List.nodup_nil el
    generalize hnews : newsOf fp live = news at o
    have ndn : news.Nodup := by rw [← hnews]; exact ndl.filter _
    have nge : ∀ n ∈ news, fp.length ≤ n := fun n hn => by
      rw [← hnews] at hn
      exact of_decide_eq_true (List.mem_filter.mp hn).2
    generalize hfd : backF fp news h.length = f at o
    split at o
    · rename_i us' os ns e1 e2 e3
      have lo : os.length = fp.length := by rw [mapO_len e2, List.length_range]
      have ln : ns.length = news.length := mapO_len e3
      have nlt : ∀ n ∈ news, n < rho1.length := fun n hn => by rw [← hr1.len]; exact pick_all e3 n hn
      have lc : (some_of rho fp).length = fp.length := by unfold some_of; rw [List.length_map]
      -- a new address
      have newA : ∀ b ∈ some_of rho1 news, b ∈ rho1 ∧ H b = none := fun b hb => by
        obtain ⟨i, hi, ei⟩ := List.mem_iff_getElem.mp hb
        obtain ⟨n, h1, h2⟩ := some_inv nlt (i := i) (a := b) (by rw [List.getElem?_eq_getElem hi, ei])
        have hm := List.mem_of_getElem? h2
        refine ⟨hm, ?_⟩
        rcases st.new b hm with z | z
        · obtain ⟨j, hj, ej⟩ := List.mem_iff_getElem.mp z
          have q := st.ext j b (by rw [List.getElem?_eq_getElem hj, ej])
          obtain ⟨l1, z1⟩ := List.getElem?_eq_some_iff.mp q
          obtain ⟨l2, z2⟩ := List.getElem?_eq_some_iff.mp h2
          have := (List.getElem_inj hr1.nd).mp (z1.trans z2.symm)
          have g1 := nge n (List.mem_of_getElem? h1)
          rw [lc] at hj
          omega
        · exact z
      have subR : ∀ b ∈ some_of rho fp, b ∈ rho := fun b hb => by
        obtain ⟨i, hi, ei⟩ := List.mem_iff_getElem.mp hb
        obtain ⟨n, _, hn⟩ := some_inv hf (i := i) (a := b) (by rw [List.getElem?_eq_getElem hi, ei])
        exact List.mem_of_getElem? hn
      let M2 : Addr → Prop := fun b => M b ∨ b ∈ some_of rho1 news
      let rho2 := rho ++ some_of rho1 news
      have st2 : Step M rho H M2 rho2 H1 := by
        refine ⟨fun n a e => ?_, fun b e => .inl e, fun b e => e.elim .inl fun z => .inr (newA b z).2, fun b e => ?_, fun b o' nb e nt => st.frame b o' (fun z => nb (subR b z)) e nt, st.there, st.frz⟩
        · show (rho ++ some_of rho1 news)[n]? = some a
          rw [List.getElem?_append_left (List.getElem?_eq_some_iff.mp e).1]; exact e
        · rcases List.mem_append.mp e with z | z
          · exact .inl z
          · exact .inr (newA b z).2
      have t : Tr w M1 rho1 H1 M2 rho2 H1 f := by
        refine ⟨fun _ _ _ e => e, fun b e => e.elim (st.mono b) fun z => hr1.mem b (newA b z).1, fun n m a q ha => ?_⟩
        rw [← hfd] at q
        unfold backF at q
        by_cases hn : n < fp.length
        · simp only [hn, decide_true, cond_true] at q
          have hm := hf m (List.mem_of_getElem? q)
          have z := st.ext n _ (some_get q (List.getElem?_eq_getElem hm))
          rw [ha] at z
          cases z
          show (rho ++ some_of rho1 news)[m]? = _
          rw [List.getElem?_append_left hm]
          exact List.getElem?_eq_getElem hm
        · simp only [hn, decide_false, cond_false] at q
          split at q
          · rename_i i ei
            cases q
            show (rho ++ some_of rho1 news)[h.length + i]? = _
            rw [hr.len, List.getElem?_append_right (Nat.le_add_right _ _), Nat.add_sub_cancel_left]
            exact some_get (idx_get ei) ha
          · cases q
      have hr2 : HR w M2 rho2 H1 (setAll h fp os ++ ns) := by
        refine ⟨?_, ?_, fun b hb => ?_, fun b hb => ?_, fun n o' q => ?_, hr1.tabs.grow (fun _ _ e => e) fun b _ z => z.elim (st.mono b) fun y => hr1.mem b (newA b y).1⟩
        · show _ = (rho ++ some_of rho1 news).length
          rw [List.length_append, List.length_append, setAll_len, hr.len, ln]
          unfold some_of
          rw [List.length_map]
        · refine List.nodup_append.mpr ⟨hr.nd, some_nd hr1.nd ndn nlt, fun a ha b hb e => ?_⟩
          subst e
          exact hr.live _ (hr.mem _ ha) (newA _ hb).2
        · rcases List.mem_append.mp hb with z | z
          · exact .inl (hr.mem b z)
          · exact .inr z
        · rcases hb with z | z
          · exact st.there b (hr.live b z)
          · exact hr1.live b (hr1.mem b (newA b z).1)
        · by_cases hn : n < h.length
          · rw [List.getElem?_append_left (by rw [setAll_len]; exact hn)] at q
            by_cases hm : n ∈ fp
            · obtain ⟨j, hj, ej⟩ := List.mem_iff_getElem.mp hm
              have e4 : fp[j]? = some n := by rw [List.getElem?_eq_getElem hj, ej]
              rw [setAll_in h fp os nd lo e4 hn] at q
              obtain ⟨y, hy, ey⟩ := mapO_get e2 (i := j) (x := j) (by simp [hj])
              rw [q] at hy
              cases hy
              obtain ⟨o2, h1, h2⟩ := pick_some ey
              obtain ⟨a, ha, s⟩ := hr1.ob _ _ h1
              refine ⟨a, ?_, s.tr t rfl h2⟩
              have hn2 : n < rho.length := by rw [← hr.len]; exact hn
              have z := st.ext j _ (some_get e4 (List.getElem?_eq_getElem hn2))
              rw [ha] at z
              cases z
              show (rho ++ some_of rho1 news)[n]? = _
              rw [List.getElem?_append_left hn2]
              exact List.getElem?_eq_getElem hn2
            · rw [setAll_out h fp os hm] at q
              obtain ⟨a, ha, s⟩ := hr.ob _ _ q
              refine ⟨a, st2.ext n a ha, s.step st2 hr ?_⟩
              obtain ⟨x, hx, nx⟩ := s.some
              rw [hx]
              refine st.frame a x (fun z => ?_) hx fun ps y => by subst y; cases nx
              obtain ⟨i, hi, ei⟩ := List.mem_iff_getElem.mp z
              obtain ⟨n', h5, h6⟩ := some_inv hf (i := i) (a := a) (by rw [List.getElem?_eq_getElem hi, ei])
              obtain ⟨l1, z1⟩ := List.getElem?_eq_some_iff.mp ha
              obtain ⟨l2, z2⟩ := List.getElem?_eq_some_iff.mp h6
              have := (List.getElem_inj hr.nd).mp (z1.trans z2.symm)
              subst this
              exact hm (List.mem_of_getElem? h5)
          · rw [List.getElem?_append_right (by rw [setAll_len]; omega), setAll_len] at q
            have hl : n - h.length < news.length := by
              have := (List.getElem?_eq_some_iff.mp q).1
              omega
            obtain ⟨y, hy, ey⟩ := mapO_get e3 (i := n - h.length) (x := news[n - h.length]) (List.getElem?_eq_getElem hl)
            rw [q] at hy
            cases hy
            obtain ⟨o2, h1, h2⟩ := pick_some ey
            obtain ⟨a, ha, s⟩ := hr1.ob _ _ h1
            refine ⟨a, ?_, s.tr t rfl h2⟩
            show (rho ++ some_of rho1 news)[n]? = _
            rw [List.getElem?_append_right (by rw [← hr.len]; omega), ← hr.len]
            exact some_get (List.getElem?_eq_getElem hl) ha
      have o2 := Option.some.inj o
      have p1 := congrArg Prod.fst o2
      have p2 := congrArg (fun z => z.2.1) o2
      have p3 := congrArg (fun z => z.2.2) o2
      simp only at p1 p2 p3
      subst p1; subst p2; subst p3
      refine ⟨M2, rho2, st2, hr2, r.tr t e1, fun b hb => hb.elim .inl fun z => .inr ?_⟩
      obtain ⟨i, hi, ei⟩ := List.mem_iff_getElem.mp z
      obtain ⟨n, h1, h2⟩ := some_inv nlt (i := i) (a := b) (by rw [List.getElem?_eq_getElem hi, ei])
      exact ⟨n, List.mem_of_getElem? h1, h2⟩
    · cases o
  · cases o
theorem back_ok {M1 : Addr → Prop} {rho1 : List Addr} {H1 : Hp} (hr : HR w M rho H h) {fp : List Nat} {g : PH} {v : PV} {V : L2.V} (nd : fp.Nodup) (hf : ∀ n ∈ fp, n < rho.length) (st : Step M (some_of rho fp) H M1 rho1 H1) (hr1 : HR w M1 rho1 H1 g) (r : VR w M1 rho1 H1 v V)
    {k : KC PV} (o : Out w EX M rho H (takeBack h fp v g) k) : ∃ M2 rho2 u h2, Step M rho H M2 rho2 H1 ∧ HR w M2 rho2 H1 h2 ∧ VR w M2 rho2 H1 u V ∧ k u h2 M2 rho2 H1 := by
  unfold takeBack at o
  split at o
  · rename_i nw u h2 e
    obtain ⟨M2, rho2, st2, hr2, r2, _⟩ := back_core hr nd hf st hr1 (.cons r .nil) e
    cases r2 with
    | cons r2 _ => exact ⟨M2, rho2, u, h2, st2, hr2, r2, o M2 rho2 H1 st2 hr2⟩
  · exact (show False from o).elim
theorem FRs.vals {M1 : Addr → Prop} {rho1 : List Addr} {H1 : Hp} : ∀ {fs : List (Nm × PV)} {gs : List (Str × L2.V)}, FRs w M1 rho1 H1 fs gs → VRs w M1 rho1 H1 (fs.map (·.2)) (gs.map (·.2))
  | _, _, .nil => .nil
  | _, _, .cons a b => .cons a b.vals
theorem FRs.back {M1 M2 : Addr → Prop} {rho1 rho2 : List Addr} {H1 H2 : Hp} : ∀ {fs : List (Nm × PV)} {gs : List (Str × L2.V)} {us : List PV}, FRs w M1 rho1 H1 fs gs → VRs w M2 rho2 H2 us (gs.map (·.2)) → FRs w M2 rho2 H2 ((fs.map (·.1)).zip us) gs
  | _, _, _, .nil, .nil => .nil
  | _, _, _, .cons a b, .cons c d => .cons c (b.back d)
/-- the callee's outcome from the call's -/
def TbOk (w : Wo) (EX : XC) (tb : PH → List Nat → PV → PH → R PV) : Prop := ∀ {M M1 : Addr → Prop} {rho rho1 : List Addr} {H H1 : Hp} {h : PH}, HR w M rho H h → ∀ {fp : List Nat} {g : PH} {v : PV} {V : L2.V}, fp.Nodup → (∀ n ∈ fp, n < rho.length) → Step M (some_of rho fp) H M1 rho1 H1 → HR w M1 rho1 H1 g → VR w M1 rho1 H1 v V →
    ∀ {k : KC PV}, Out w EX M rho H (tb h fp v g) k → ∃ M2 rho2 u h2, Step M rho H M2 rho2 H1 ∧ HR w M2 rho2 H1 h2 ∧ VR w M2 rho2 H1 u V ∧ k u h2 M2 rho2 H1
theorem tb_ok : TbOk w EX takeBack := back_ok
theorem callG_ok {tb : PH → List Nat → PV → PH → R PV} (T : TbOk w EX tb) {m : MF} {args : List PV} {vs : List V} {k : KC PV} (hr : HR w M rho H h) (r : VRs w M rho H args vs) (o : Out w EX M rho H (callG tb m args h) k) :
    ∃ rho' as hc, VRs w M rho' H as vs ∧ HR w M rho' H hc ∧ Out w EX2 M rho' H (m as hc) (fun v _ M1 rho1 H1 => ∀ V, VR w M1 rho1 H1 v V → ∃ M2 rho2 u h2, Step M rho H M2 rho2 H1 ∧ HR w M2 rho2 H1 h2 ∧ VR w M2 rho2 H1 u V ∧ k u h2 M2 rho2 H1) := by
  unfold callG at o
  split at o
  · rename_i fp ef
    have nd := reach_nd List.nodup_nil ef
    split at o
    · rename_i as hc e1 e2
      have hf : ∀ n ∈ fp, n < rho.length := fun n hn => by rw [← hr.len]; exact pick_all e2 n hn
      obtain ⟨r', hr'⟩ := enter_ok hr nd e1 e2 r
      refine ⟨_, as, hc, r', hr', ?_⟩
      split at o
      · rename_i v g em
        rw [em]
        exact fun M1 rho1 H1 st hr1 V rv => T hr nd hf st hr1 rv o
      · exact (show False from o).elim
      · exact (show False from o).elim
    · exact (show False from o).elim
  · exact (show False from o).elim
end
end MC

end
section
set_option maxRecDepth 100000
set_option maxHeartbeats 4000000
namespace MC
open PySem PySem.Spec PyProof.Rows L2

abbrev En := List (Option PV)
/-- how a statement ends -/
inductive Fl where
  | nx (e : En)
  | rt (v : PV)
  | bk (e : En)
  | ct (e : En)
abbrev MS := En → PH → R Fl
def KS (w : Wo) (D : Ends) : KC Fl := fun f _ M rho H => match f with
  | .nx e => ∀ s, ER w M rho H e s → D.nx s H
  | .rt x => ∀ v, VR w M rho H x v → D.rt v H
  | .bk e => ∀ s, ER w M rho H e s → D.bk s H
  | .ct e => ∀ s, ER w M rho H e s → D.ct s H
def tS (w : Wo) (EX : XC) (m : MS) : TS := fun D s H => ∃ M rho env h, ER w M rho H env s ∧ HR w M rho H h ∧ Out w EX M rho H (m env h) (KS w D)
theorem PS_imp {X : Cx} {e : Stmt} {t t2 : TS} (p : PS X e t) (i : ∀ D s H, t2 D s H → t D s H) : PS X e t2 := ⟨fun pins s σ H D I h => p.run pins s σ H D I (i D σ H h)⟩
theorem PSs_imp {X : Cx} {e : List Stmt} {t t2 : TS} (p : PSs X e t) (i : ∀ D s H, t2 D s H → t D s H) : PSs X e t2 := ⟨fun pins s σ H D I h => p.run pins s σ H D I (i D σ H h)⟩

def mNil : MS := fun env h => .ok (.nx env) h
def mSeq (a b : MS) : MS := fun env h => (a env h).bind fun f h1 => match f with
  | .nx e => b e h1
  | .rt v => .ok (.rt v) h1
  | .bk e => .ok (.bk e) h1
  | .ct e => .ok (.ct e) h1
def mSet (i : Nat) (m : ME) : MS := fun env h => (m env h).bind fun x h1 => .ok (.nx (env.set i (some x))) h1
def mDrop (m : ME) : MS := fun env h => (m env h).bind fun _ h1 => .ok (.nx env) h1
def mRet (m : ME) : MS := fun env h => (m env h).bind fun x h1 => .ok (.rt x) h1
def mRetN : MS := fun _ h => .ok (.rt .non) h
def mIfS (t : MT) (a b : MS) : MS := fun env h => (t env h).bind fun c h1 => bif c then a env h1 else b env h1
def mBreak : MS := fun env h => .ok (.bk env) h
def mCont : MS := fun env h => .ok (.ct env) h
section
variable {w : Wo} {EX : XC} {X : Cx} {k : Nat} {st : Stmt} {rest : List Stmt} {a b : MS} {m : ME} {e : Expr} {pos : Pos}
theorem mss_nil : PSs X [] (tS w EX mNil) := by
  refine PSs_imp pss_nil fun D s H hh => ?_
  obtain ⟨M, rho, env, h, er, hr, o⟩ := hh
  exact o.now hr s er
theorem mss_cons (h1 : PS X st (tS w EX a)) (h2 : PSs X rest (tS w EX b)) : PSs X (st :: rest) (tS w EX (mSeq a b)) := by
  refine PSs_imp (pss_cons h1 h2) fun D s H hh => ?_
  obtain ⟨M, rho, env, h, er, hr, o⟩ := hh
  refine ⟨M, rho, env, h, er, hr, (Out.bind o).imp fun f h1 M1 rho1 H1 st1 hr1 o1 => ?_⟩
  cases f with
  | nx e => exact fun s1 er1 => ⟨M1, rho1, e, h1, er1, hr1, o1⟩
  | rt v => exact (show Out w EX M1 rho1 H1 (.ok (.rt v) h1) (KS w D) from o1).now hr1
  | bk e => exact (show Out w EX M1 rho1 H1 (.ok (.bk e) h1) (KS w D) from o1).now hr1
  | ct e => exact (show Out w EX M1 rho1 H1 (.ok (.ct e) h1) (KS w D) from o1).now hr1
theorem ms_set (i : Nat) {x : Str} {pos' : Pos} (hN : X.N.Nodup) (he : PE X e (tM w EX m)) (hi : X.N[i]? = some x := by rfl) (hx : Loc X.env.scope x := by first | exact Or.inl rfl | exact Or.inr rfl)
    (hs : swapsWith e (some (.Name x pos')) pos.line X.env = pure false := by rfl) (hf : X.fn x = true ∨ X.env.scope.names.lookup x = some .local := by first | exact .inl rfl | exact .inr rfl | assumption) :
    PS X (.Assign [.Name x pos'] e pos) (tS w EX (mSet i m)) := by
  refine PS_imp (ps_set hN hi hx he hs hf) fun D s H hh => ?_
  obtain ⟨M, rho, env, h, er, hr, o⟩ := hh
  exact tM.of er hr (Out.bind o) fun y h1 M1 rho1 H1 v st1 er1 hr1 o1 rv => o1.now hr1 _ (er1.set rv i)
theorem ms_ret (he : PE X e (tM w EX m)) : PS X (.Return (some e) pos) (tS w EX (mRet m)) := by
  refine PS_imp (ps_ret he) fun D s H hh => ?_
  obtain ⟨M, rho, env, h, er, hr, o⟩ := hh
  exact tM.of er hr (Out.bind o) fun y h1 M1 rho1 H1 v st1 er1 hr1 o1 rv => o1.now hr1 _ rv
theorem ms_if {c : Expr} {as bs : List Stmt} {t : MT} (hc : PT X c (tT w EX t)) (ha : PSs X as (tS w EX a)) (hb : PSs X bs (tS w EX b)) : PS X (.If c as bs pos) (tS w EX (mIfS t a b)) := by
  refine PS_imp (ps_if hc ha hb) fun D s H hh => ?_
  obtain ⟨M, rho, env, h, er, hr, o⟩ := hh
  refine tT.of er hr (Out.bind o) fun x h1 M1 rho1 H1 st1 er1 hr1 o1 => ?_
  cases x with
  | true => exact iteT ⟨M1, rho1, env, h1, er1, hr1, o1⟩
  | false => exact iteF ⟨M1, rho1, env, h1, er1, hr1, o1⟩
end

abbrev MG := PV → En → PH → R En
abbrev MGs := List PV → En → PH → R En
def KG (w : Wo) (Q : L2.St → Hp → Prop) : KC En := fun e _ M rho H => ∀ s, ER w M rho H e s → Q s H
def tG (w : Wo) (EX : XC) (m : MG) : TG := fun v s H Q => ∃ M rho env h x, ER w M rho H env s ∧ HR w M rho H h ∧ VR w M rho H x v ∧ Out w EX M rho H (m x env h) (KG w Q)
def tGs (w : Wo) (EX : XC) (m : MGs) : TGs := fun vs s H Q => ∃ M rho env h xs, ER w M rho H env s ∧ HR w M rho H h ∧ VRs w M rho H xs vs ∧ Out w EX M rho H (m xs env h) (KG w Q)
def gName' (i : Nat) : MG := fun x env h => .ok (env.set i (some x)) h
def gsNil : MGs := fun xs env h => match xs with
  | [] => .ok env h
  | _ => .stuck
def gsCons (g : MG) (gs : MGs) : MGs := fun xs env h => match xs with
  | x :: r => (g x env h).bind fun e h1 => gs r e h1
  | [] => .stuck
def gTup' (n : Nat) (gs : MGs) : MG := fun x env h => match x with
  | .tup xs => bif xs.length == n then gs xs env h else .stuck
  | _ => .stuck
/-- target = value -/
def mAsg (m : ME) (g : MG) : MS := fun env h => (m env h).bind fun x h1 => (g x env h1).bind fun e h2 => .ok (.nx e) h2
section
variable {w : Wo} {EX : XC} {X : Cx} {k : Nat} {pos : Pos}
theorem PG_imp {tg : Expr} {t t2 : TG} (p : PG X tg t) (i : ∀ v s H Q, t2 v s H Q → t v s H Q) : PG X tg t2 := ⟨fun pins s σ H v u Q I r h => p.run pins s σ H v u Q I r (i v σ H Q h)⟩
theorem PGs_imp {tg : List Expr} {t t2 : TGs} (p : PGs X tg t) (i : ∀ v s H Q, t2 v s H Q → t v s H Q) : PGs X tg t2 := ⟨fun pins s σ H v u Q I r h => p.run pins s σ H v u Q I r (i v σ H Q h)⟩
theorem mg_name (i : Nat) {x : Str} (hN : X.N.Nodup) (hi : X.N[i]? = some x := by rfl) (hx : Loc X.env.scope x := by first | exact Or.inl rfl | exact Or.inr rfl) (hf : X.fn x = true ∨ X.env.scope.names.lookup x = some .local := by first | exact .inl rfl | exact .inr rfl | assumption) :
    PG X (.Name x pos) (tG w EX (gName' i)) := by
  refine PG_imp (pg_name hN hi hx hf) fun v s H Q hh => ?_
  obtain ⟨M, rho, env, h, x, er, hr, rv, o⟩ := hh
  exact o.now hr _ (er.set rv i)
theorem mgs_nil : PGs X [] (tGs w EX gsNil) := by
  refine PGs_imp pgs_nil fun vs s H Q hh => ?_
  obtain ⟨M, rho, env, h, xs, er, hr, rv, o⟩ := hh
  cases rv with
  | nil => exact ⟨rfl, (show Out w EX M rho H (.ok env h) (KG w Q) from o).now hr _ er⟩
  | cons _ _ => exact (show False from o).elim
theorem mgs_cons {e : Expr} {es : List Expr} {g : MG} {gs : MGs} (h1 : PG X e (tG w EX g)) (h2 : PGs X es (tGs w EX gs)) (hs : (assignEach (e :: es) X.env).map (·.2) = assign e X.env :: (assignEach es X.env).map (·.2) := by rfl) : PGs X (e :: es) (tGs w EX (gsCons g gs)) := by
  refine PGs_imp (pgs_cons h1 h2 hs) fun vs s H Q hh => ?_
  obtain ⟨M, rho, env, h, xs, er, hr, rv, o⟩ := hh
  cases rv with
  | nil => exact (show False from o).elim
  | @cons x v xs vs r1 r2 =>
    refine ⟨v, vs, rfl, M, rho, env, h, x, er, hr, r1, ?_⟩
    exact (Out.bind (show Out w EX M rho H ((g x env h).bind fun e h1 => gs xs e h1) (KG w Q) from o)).imp fun e h1 M1 rho1 H1 st1 hr1 o1 s1 er1 => ⟨M1, rho1, e, h1, xs, er1, hr1, r2.step st1 hr, o1⟩
theorem mg_tup (C : Cxt w k X) {es : List Expr} {j : Nat} {gs : MGs} (n : Nat) (h : PGs X es (tGs w EX gs)) (hn : (assignEach es X.env).length = n := by rfl) (hst : (assignEach es X.env).findIdx? (·.1) = none := by rfl) : PG X (.Tuple es j pos) (tG w EX (gTup' n gs)) := by
  refine PG_imp (pg_tup C.calm h hn hst) fun v s H Q hh => ?_
  obtain ⟨M, rho, env, hp, x, er, hr, rv, o⟩ := hh
  cases rv <;> try exact (show False from o).elim
  rename_i xs vs A ha sa
  obtain ⟨hl, o2⟩ := Out.bif o
  exact ⟨A, vs, rfl, by rw [C.hK]; exact ha, by rw [sa.length]; exact beq_iff_eq.mp hl, M, rho, env, hp, xs, er, hr, sa, o2⟩
theorem ms_asg {tg e : Expr} {m : ME} {g : MG} (he : PE X e (tM w EX m)) (hg : PG X tg (tG w EX g)) (hs : swapsWithSole [tg] e pos.line X.env = pure false := by rfl) (hw : swappedStores [tg] e X.env = pure none := by rfl)
    (h1 : (assignEach [tg] X.env).map (·.2) = [assign tg X.env] := by rfl) : PS X (.Assign [tg] e pos) (tS w EX (mAsg m g)) := by
  refine PS_imp (ps_asg he hg hs hw h1) fun D s H hh => ?_
  obtain ⟨M, rho, env, h, er, hr, o⟩ := hh
  refine tM.of er hr (Out.bind o) fun x h1 M1 rho1 H1 v st1 er1 hr1 o1 rv => ?_
  exact ⟨M1, rho1, env, h1, x, er1, hr1, rv, (Out.bind o1).imp fun e h2 M2 rho2 H2 st2 hr2 o2 s2 er2 => o2.now hr2 _ er2⟩
/-- a, b = x, y: plain local names -/
def mPar (i j : Nat) (ma mb : ME) : MS := fun env h => (ma env h).bind fun x h1 => (mb env h1).bind fun y h2 => .ok (.nx ((env.set i (some x)).set j (some y))) h2
theorem ms_par (C : Cxt w k X) (i j : Nat) {x y : Str} {a b : Expr} {ma mb : ME} {px py pt : Pos} {kt k2 pt2} (hN : X.N.Nodup) (ha : PE X a (tM w EX ma)) (hb : PE X b (tM w EX mb)) (hi : X.N[i]? = some x := by rfl) (hj : X.N[j]? = some y := by rfl) (hij : i ≠ j := by decide)
    (hx : X.env.scope.names.lookup x = some .local := by rfl) (hy : X.env.scope.names.lookup y = some .local := by rfl) (hw : swappedStores [.Tuple [.Name x px, .Name y py] kt pt] (.Tuple [a, b] k2 pt2) X.env = pure (some [x, y]) := by rfl)
    (hs : swapsWithSole [.Tuple [.Name x px, .Name y py] kt pt] (.Tuple [a, b] k2 pt2) pos.line X.env = pure false := by rfl)
    (s1 : starEach [a, b] X.env = (false, eval a X.env) :: starEach [b] X.env := by rfl) (s2 : starEach [b] X.env = (false, eval b X.env) :: starEach [] X.env := by rfl) :
    PS X (.Assign [.Tuple [.Name x px, .Name y py] kt pt] (.Tuple [a, b] k2 pt2) pos) (tS w EX (mPar i j ma mb)) := by
  refine PS_imp (ps_par C.calm hN hi hj hij hx hy (pa_cons ha (pa_cons hb pa_nil s2) s1) hw hs) fun D s H hh => ?_
  obtain ⟨M, rho, env, h, er, hr, o⟩ := hh
  refine tM.of er hr (Out.bind o) fun x h1 M1 rho1 H1 v st1 er1 hr1 o1 rv => ?_
  refine tM.of er1 hr1 (Out.bind o1) fun y h2 M2 rho2 H2 u st2 er2 hr2 o2 ru => ?_
  exact ⟨v, u, rfl, o2.now hr2 _ ((er2.set (rv.step st2 hr1) i).set ru j)⟩
end

/-- a body as a function of its arguments; n names -/
def mFun (n : Nat) (b : MS) : MF := fun args h => (b (args.map some ++ List.replicate (n - args.length) none) h).bind fun f h1 => match f with
  | .nx _ => .ok .non h1
  | .rt v => .ok v h1
  | _ => .stuck
def spM (w : Wo) (EX : XC) (m : MF) (vs : List V) (H : Hp) (Q : VK) : Prop := ∃ M rho args h, VRs w M rho H args vs ∧ HR w M rho H h ∧ Out w EX M rho H (m args h) (KV w Q)
structure FnM (P : Program) (W : World) (w : Wo) (mg : Str → Option Value) (base : Heap) (CX : CXT) (ex : XK → XC) (k : Nat) (f : Addr) (fd : FuncData) (ps : List Str) (m : MF) : Prop where
  run : ∀ (A : Around) (outer : List Env) (s : Shared) (H : Hp) (args : Args) (us : List Value) (vs : List V) (Q : VK) (E : XK), Room k A → A.guards = some [] → Env0 P W w.K mg base A outer s H → BindsTo s fd args (ps.zip us) → Vals vs us → vs.length = ps.length →
    spM w (ex E) m vs H Q → codeAny (model P W) A (.call (.ref f) args) (CR CX outer P W H s Q E) s
section
variable {P : Program} {W : World} {w : Wo} {mg : Str → Option Value} {base : Heap} {CX : CXT} {ex : XK → XC} {k : Nat}
theorem start_er {M : Addr → Prop} {rho : List Addr} {H : Hp} {args : List PV} {vs : List V} (n : Nat) (r : VRs w M rho H args vs) : ER w M rho H (args.map some ++ List.replicate (n - args.length) none) (vs.map some ++ List.replicate (n - vs.length) none) := by
  rw [r.length]
  generalize n - args.length = j
  have tl : ∀ j : Nat, ER w M rho H (List.replicate j none) (List.replicate j (none : Option V)) := fun j => by
    induction j with
    | zero => exact .nil
    | succ j ih => rw [List.replicate_succ, List.replicate_succ]; exact .no ih
  have all : ∀ {args : List PV} {vs : List V}, VRs w M rho H args vs → ER w M rho H (args.map some ++ List.replicate j none) (vs.map some ++ List.replicate j none) := by
    intro args
    induction args with
    | nil => intro vs r; cases r; exact tl j
    | cons x xs ih => intro vs r; cases r with | cons a b => exact .has a (ih b)
  exact all r
/-- a def of the text, by its body's mirror -/
theorem fnm_of (hW : W = w.W) {x qual : Str} {st : Stmt} {f : Addr} {fd : FuncData} {N ps : List Str} {b : MS} (F : Fun w.K x qual st f fd) (sc : FnScope N ps (defScope st))
    (hb : ∀ (cdv : Value) (A : Around) (outer : List Env) (s : Shared) (H : Hp) (E : XK), Cxt w k (cxOf CX P W w.K mg base N qual (defScope st) f cdv A outer s H E).nox →
      PSs (cxOf CX P W w.K mg base N qual (defScope st) f cdv A outer s H E).nox (defBody st) (tS w (ex E) b)) : FnM P W w mg base CX ex (k + 1) f fd ps (mFun N.length b) := by
  obtain ⟨oc, od, kV, doc, pm, an, cdv, ct, osl, rfl, lk, hcd⟩ := F.ex
  constructor
  intro A outer s H args us vs Q E room grd e0 bt rv len sp
  have inK : w.K.In s.heap := e0.mod.kin.keeps fun b o z => (e0.bs b o z).1
  have noLim : s.heap.NoLimit := e0.mod.nolimit.keeps fun b o z => (e0.bs b o z).1
  refine codeAny_call_function (fd := PySem.W.fnOf x qual (defArgs st) (defBody st) (defScope st) .none kV doc pm an cdv ct) room.depth (inK _ _ lk) rfl sc.co sc.gen rfl (PySem.W.codeRec_of inK hcd) (bt _ _ _ _ ?_)
  refine wpAny_newFunctionEnv_cells sc.kind (fun y hy => ?_) fun env henv s1 x1 => ?_
  · rcases sc.par y.1 (List.of_mem_zip (a := y.1) (b := y.2) hy).1 with q | q
    · exact Or.inl q
    · exact Or.inr ⟨q, PySem.W.cellsFrom_some _ _ _ (Or.inl q)⟩
  subst henv
  refine ⟨noLim.keeps x1.toInCall.keep, codeAny_func ?_⟩
  have C : Cxt w k (cxOf CX P W w.K mg base N qual (defScope st) f cdv A outer s H E).nox := Cxt.mk rfl hW rfl (room.deeper _) grd PassesOwn.never
  have I : Inv (cxOf CX P W w.K mg base N qual (defScope st) f cdv A outer s H E) [] (start N vs) H s1 := inv_start sc room.hd e0 len rv x1
  obtain ⟨M, rho, as, h, ra, hr, o⟩ := sp
  have er : ER w M rho H (as.map some ++ List.replicate (N.length - as.length) none) (start N vs) := start_er N.length ra
  have red : tS w (ex E) b { nx := fun _ H' => Q .non H', rt := Q } (start N vs) H := by
    refine ⟨M, rho, _, h, er, hr, (Out.bind o).imp fun fl h1 M1 rho1 H1 st1 hr1 o1 => ?_⟩
    cases fl with
    | nx e => exact fun s1 _ => (show Out w (ex E) M1 rho1 H1 (.ok .non h1) (KV w Q) from o1).now hr1 _ .non
    | rt v => exact (show Out w (ex E) M1 rho1 H1 (.ok v h1) (KV w Q) from o1).now hr1
    | bk e => exact (show False from o1).elim
    | ct e => exact (show False from o1).elim
  refine wpAny_mono ((hb cdv A outer s H E C).nox.run [] s1 (start N vs) H _ I red) (fun fl s' q => ?_) fun e s' q => q
  cases fl with
  | ret u => obtain ⟨v, σ', H', J, r, q⟩ := q; exact ⟨v, H', J.os, J.bare, J.base, J.hok, r, q⟩
  | next => obtain ⟨σ', H', J, q⟩ := q; exact ⟨.non, H', J.os, J.bare, J.base, J.hok, rfl, q⟩
  | brk => obtain ⟨_, _, _, q⟩ := q; exact (show False from q).elim
  | cont => obtain ⟨_, _, _, q⟩ := q; exact (show False from q).elim
end

end MC

end
section
set_option maxRecDepth 100000
set_option maxHeartbeats 4000000
namespace MC
open PySem PySem.Spec PyProof.Rows L2

/-- arguments by place: the positional ones, then the keywords' values, then the defaults -/
def gI {α : Type} (ix : List Nat) (l : List α) : List α := ix.filterMap fun i => l[i]?
/-- how a call binds -/
structure Bd (K : PySem.W.Frag) (fd : FuncData) (ps ks : List Str) (n : Nat) (ds : List Value) (ix : List Nat) : Prop where
  to : ∀ (s : Shared) (us ws : List Value), K.In s.heap → us.length = n → ws.length = ks.length → BindsTo s fd ⟨us, ks.zip ws⟩ (ps.zip (gI ix (us ++ ws ++ ds)))
  len : ix.length = ps.length
  lo : ∀ i ∈ ix, i < n + ks.length + ds.length
theorem gI_len {α : Type} : ∀ {ix : List Nat} {l : List α}, (∀ i ∈ ix, i < l.length) → (gI ix l).length = ix.length
  | [], _, _ => rfl
  | i :: r, l, h => by
    have h1 := h i List.mem_cons_self
    unfold gI
    rw [List.filterMap_cons, List.getElem?_eq_getElem h1]
    have := gI_len (ix := r) (l := l) fun j hj => h j (List.mem_cons_of_mem _ hj)
    unfold gI at this
    simp only [List.length_cons, this]
theorem gI_vals {xs : List V} {us : List Value} (r : Vals xs us) : ∀ ix : List Nat, Vals (gI ix xs) (gI ix us)
  | [] => .nil
  | i :: ix => by
    have ih := gI_vals r ix
    unfold gI at ih ⊢
    rw [List.filterMap_cons, List.filterMap_cons]
    cases e : xs[i]? with
    | none => rw [r.none_of e]; exact ih
    | some x =>
      obtain ⟨u, e2, q⟩ := r.get e
      rw [e2]
      exact .cons q ih
section
variable {w : Wo} {EX : XC} {M : Addr → Prop} {rho : List Addr} {H : Hp} {h : PH}
theorem VRs.noneOf {xs : List PV} {vs : List V} (r : VRs w M rho H xs vs) {i : Nat} (e : xs[i]? = none) : vs[i]? = none := by
  have := r.length
  rw [List.getElem?_eq_none_iff] at e ⊢
  omega
theorem VRs.gI {xs : List PV} {vs : List V} (r : VRs w M rho H xs vs) : ∀ ix : List Nat, VRs w M rho H (gI ix xs) (gI ix vs)
  | [] => .nil
  | i :: ix => by
    have ih := VRs.gI r ix
    unfold MC.gI at ih ⊢
    rw [List.filterMap_cons, List.filterMap_cons]
    cases e : xs[i]? with
    | none => rw [r.noneOf e]; exact ih
    | some x =>
      obtain ⟨u, e2, q⟩ := r.get e
      rw [e2]
      exact .cons q ih
end

/-- a value that can be called: n values by place, ks by name -/
structure Clb (X : Cx) (w : Wo) (EX : XC) (u : Value) (n : Nat) (ks : List Str) (op : PH → List PV → R PV) : Prop where
  kp : PySem.W.keepIn X.K u = true
  run : ∀ {pins : List (Addr × Obj)} {σ : L2.St} {H : Hp} {s : Shared} {Q : VK} {us ws : List Value} {vs zs : List V} {M : Addr → Prop} {rho : List Addr} {h : PH} {xs ys : List PV}, Inv X pins σ H s → Vals vs us → Vals zs ws → us.length = n → ws.length = ks.length →
    HR w M rho H h → VRs w M rho H xs vs → VRs w M rho H ys zs → Out w EX M rho H (op h (xs ++ ys)) (KV w Q) → wpAny (model X.prog X.w) X.A (call u us (ks.zip ws)) (EP X pins σ Q) X.xe s

section
variable {w : Wo} {EX : XC} {X : Cx} {k j : Nat} {CX : CXT} {ex : XK → XC} {f : Addr} {fd : FuncData} {ps ks : List Str} {m : MF} {E : XK} {p pos apos : Pos} {z : Str}
  {ds : List Value} {dv : List V} {dp : List PV} {n : Nat} {ix : List Nat}
/-- a def -/
theorem clb_fn (C : Cxt w k X) (F : FnM X.prog X.w w X.mg X.base CX ex k f fd ps m) (hx : Passes CX X E) (hk : PySem.W.keepIn w.K (.ref f) = true) (B : Bd w.K fd ps ks n ds ix) (hd : Vals dv ds) (hp : ∀ M rho H, VRs w M rho H dp dv) {tb : PH → List Nat → PV → PH → R PV} (T : TbOk w EX tb) :
    Clb X w EX (.ref f) n ks fun h xs => callG tb m (gI ix (xs ++ dp)) h := by
  refine ⟨by rw [C.hK]; exact hk, ?_⟩
  intro pins σ H s Q us ws vs zs M rho h xs ys I r rz lu lw hr rx ry o
  have rA : Vals (vs ++ zs ++ dv) (us ++ ws ++ ds) := (r.append rz).append hd
  have rP : VRs w M rho H (xs ++ ys ++ dp) (vs ++ zs ++ dv) := (rx.append ry).append (hp M rho H)
  have hlen : (gI ix (us ++ ws ++ ds)).length = ps.length := by
    rw [gI_len, B.len]
    intro i hi
    have := B.lo i hi
    simp only [List.length_append]; omega
  have r2 := gI_vals rA ix
  have e0 : Env0 X.prog X.w w.K X.mg X.base X.A X.stack s H := by rw [← C.hK]; exact I.env0
  obtain ⟨rho', as, hc, r3, hr3, o3⟩ := callG_ok (EX2 := ex E) T hr (rP.gI ix) o
  refine wpAny_call (codeAny_mono (F.run X.A X.stack s H ⟨us, ks.zip ws⟩ (gI ix (us ++ ws ++ ds)) (gI ix (vs ++ zs ++ dv)) Q E C.room C.grd e0 (B.to s us ws (by rw [← C.hK]; exact I.kIn) lu lw) r2 (by rw [r2.length]; exact hlen)
    ⟨M, rho', as, hc, r3, hr3, o3.imp fun v g M1 rho1 H1 st1 hr1 q V rv => ?_⟩) fun rs s' q => ?_)
  · obtain ⟨M2, rho2, u, h2, _, _, ru, kq⟩ := q V rv
    exact kq V ru
  · cases rs with
    | error e => exact hx pins σ H s e s' I q
    | ok fl =>
      cases fl with
      | ret u => exact I.after q
      | next => exact (show False from q).elim
      | brk => exact (show False from q).elim
      | cont => exact (show False from q).elim

/-- what the maker's outcome is: __init__ gives None back, the instance is the answer -/
def initM (c : Nat) (m : MF) (ix : List Nat) (dp : List PV) : MF := fun xs h => (m (gI ix (.ref h.length :: xs ++ dp)) (h ++ [.ins c []])).bind fun v g => match v with
  | .non => .ok (.ref h.length) g
  | _ => .stuck
/-- a class -/
theorem FnM.mono {P : Program} {W : World} {mg : Str → Option Value} {base : Heap} {i j : Nat} (F : FnM P W w mg base CX ex i f fd ps m) (h : i ≤ j) : FnM P W w mg base CX ex j f fd ps m :=
  ⟨fun A outer s H args us vs Q E r => F.run A outer s H args us vs Q E (r.mono h)⟩
end
end MC

end
section
set_option maxRecDepth 100000
set_option maxHeartbeats 4000000
namespace MC
open PySem PySem.Spec PyProof.Rows L2

abbrev OC := PH → List PV → R PV
def mCl (op : OC) (n j : Nat) (ma mk : MA) : ME := fun env h => (ma env h).bind fun xs h1 => (mk env h1).bind fun ys h2 => bif xs.length == n && ys.length == j then op h2 (xs ++ ys) else .stuck
def mCl0 (op : OC) (n : Nat) (ma : MA) : ME := fun env h => (ma env h).bind fun xs h1 => bif xs.length == n then op h1 xs else .stuck
def mBt (op : OC) (ma : MA) : ME := fun env h => (ma env h).bind fun xs h1 => op h1 xs
section
variable {w : Wo} {EX : XC} {X : Cx} {k n : Nat} {u : Value} {ks : List Str} {op : OC} {x m : Str} {p pos apos kpos : Pos} {e o : Expr} {es : List Expr} {kws : List Keyword} {ma mk : MA} {me : ME} {nm : Option Str}
theorem PK.imp {t t' : TA} (p : PK X kws t) (i : ∀ σ H Q, t' σ H Q → t σ H Q) : PK X kws t' := ⟨fun ps pins s σ H Q I h => p.run ps pins s σ H Q I (i σ H Q h)⟩
theorem mk_nil : PK X [] (tA w EX maNil) := by
  refine PK.imp pk_nil fun σ H Q h => ?_
  obtain ⟨M, rho, env, hh, er, hr, o⟩ := h
  exact o.now hr [] .nil
theorem mk_cons (ha : PE X e (tM w EX me)) (hb : PK X kws (tA w EX mk)) : PK X (⟨nm, e, kpos⟩ :: kws) (tA w EX (maCons me mk)) := by
  refine PK.imp (pk_cons ha hb) fun σ H Q h => ?_
  obtain ⟨M, rho, env, hh, er, hr, o⟩ := h
  refine tM.of er hr o.bind fun x h1 M1 rho1 H1 v st1 er1 hr1 o1 rv => ?_
  refine ⟨M1, rho1, env, h1, er1, hr1, (Out.bind o1).imp fun ys h2 M2 rho2 H2 st2 hr2 o2 us rs => ?_⟩
  exact o2.now hr2 (v :: us) (.cons (rv.step st2 hr1) rs)

/-- the callee's reading behind the arguments -/
theorem clb_at (B : Clb X w EX u n ks op) {pins : List (Addr × Obj)} {σ : L2.St} {H : Hp} {s : Shared} {Q : VK} {us : List Value} {vs : List V} {M : Addr → Prop} {rho : List Addr} {h : PH} {xs : List PV} (hks : ks = []) (I : Inv X pins σ H s) (r : Vals vs us)
    (hr : HR w M rho H h) (rx : VRs w M rho H xs vs) (o : Out w EX M rho H (bif xs.length == n then op h xs else .stuck) (KV w Q)) : wpAny (model X.prog X.w) X.A (call u us) (EP X pins σ Q) X.xe s := by
  subst hks
  obtain ⟨hl, o⟩ := Out.bif o
  have hl := beq_iff_eq.mp hl
  have := B.run (ws := []) (zs := []) (ys := []) I r .nil (by rw [← r.length, rx.length]; exact hl) rfl hr rx .nil (by rw [List.append_nil]; exact o)
  exact this
/-- f(e, ..) -/
theorem me_call (B : Clb X w EX u n [] op) (hg : Gl X x) (hm : X.mg x = some u) (ha : PA X (e :: es) (tA w EX ma)) (hdb : (x == ("__debug__" : Str)) = false := by decide)
    (he : starEach (e :: es) X.env = (false, eval e X.env) :: starEach es X.env := by rfl) (hpl : (backTo pos (starEach es X.env)).any (·.1) = false := by rfl) : PE X (.Call (.Name x p) (e :: es) [] pos) (tM w EX (mCl0 op n ma)) := by
  refine ⟨fun pins s σ H Q I h => ?_⟩
  refine wpAny_Call_Name_kw (ld_glob I hg hm ?_ hdb)
  obtain ⟨M, rho, env, hh, er, hr, o⟩ := h
  refine PySem.W.callWith_K (h₀ := X.base) I.ok.mod.kin B.kp (thn (ha.run pos pins s σ H _ I (tA.of er hr (Out.bind o) fun xs h1 M1 rho1 H1 vs st1 er1 hr1 o1 rs => (⟨M1, rho1, h1, xs, hr1, rs, o1⟩ : ∃ M1 rho1 h1 xs, HR w M1 rho1 H1 h1 ∧ VRs w M1 rho1 H1 xs vs ∧ Out w EX M1 rho1 H1 (bif xs.length == n then op h1 xs else .stuck) (KV w Q)))) fun us s1 ⟨vs, H1, I1, r, q⟩ => ⟨I1.kIn, ?_⟩) he hpl
  obtain ⟨M1, rho1, h1, xs, hr1, rs, o1⟩ := q
  exact clb_at B rfl I1 r hr1 rs o1
theorem clb_kw (B : Clb X w EX u n ks op) {pins : List (Addr × Obj)} {σ : L2.St} {H : Hp} {s : Shared} {Q : VK} {us ws : List Value} {vs zs : List V} {M : Addr → Prop} {rho : List Addr} {h : PH} {xs ys : List PV} (I : Inv X pins σ H s) (r : Vals vs us) (rz : Vals zs ws)
    (hr : HR w M rho H h) (rx : VRs w M rho H xs vs) (ry : VRs w M rho H ys zs) (o : Out w EX M rho H (bif xs.length == n && ys.length == ks.length then op h (xs ++ ys) else .stuck) (KV w Q)) : wpAny (model X.prog X.w) X.A (call u us (ks.zip ws)) (EP X pins σ Q) X.xe s := by
  obtain ⟨hl, o⟩ := Out.bif o
  rw [Bool.and_eq_true] at hl
  exact B.run I r rz (by rw [← r.length, rx.length]; exact beq_iff_eq.mp hl.1) (by rw [← rz.length, ry.length]; exact beq_iff_eq.mp hl.2) hr rx ry o
/-- f(k = v, ..) -/
theorem me_callK0 (B : Clb X w EX u 0 ks op) (hg : Gl X x) (hm : X.mg x = some u) (hkw : PK X kws (tA w EX mk)) (j : Nat) (hj : ks.length = j := by rfl) (hall : (backToKw pos (keywordEach kws X.env)).all (·.1.isSome) = true := by rfl) (hks : (backToKw pos (keywordEach kws X.env)).filterMap (·.1) = ks := by rfl)
    (hdb : (x == ("__debug__" : Str)) = false := by decide)
    (hpl : ((backTo pos (starEach [] X.env)).any (·.1) || (backToKw pos (keywordEach kws X.env)).any (·.1.isNone)) = false := by rfl) : PE X (.Call (.Name x p) [] kws pos) (tM w EX (mCl op 0 j maNil mk)) := by
  subst hj
  refine ⟨fun pins s σ H Q I h => ?_⟩
  refine wpAny_Call_Name_kw (ld_glob I hg hm ?_ hdb)
  obtain ⟨M, rho, env, hh, er, hr, o⟩ := h
  have o1 : Out w EX M rho H ((mk env hh).bind fun ys h2 => bif ([] : List PV).length == 0 && ys.length == ks.length then op h2 ([] ++ ys) else .stuck) (KV w Q) := o
  refine PySem.W.callWith_KW0 (h₀ := X.base) (first := []) I.ok.mod.kin B.kp hall (thn (hkw.run pos pins s σ H _ I (tA.of er hr (Out.bind o1) fun ys h2 M2 rho2 H2 zs st2 er2 hr2 o2 ry =>
    (⟨M2, rho2, h2, ys, hr2, ry, o2⟩ : ∃ M2 rho2 h2 ys, HR w M2 rho2 H2 h2 ∧ VRs w M2 rho2 H2 ys zs ∧ Out w EX M2 rho2 H2 (bif ([] : List PV).length == 0 && ys.length == ks.length then op h2 ([] ++ ys) else .stuck) (KV w Q)))) fun ws s2 ⟨zs, H2, I2, rz, q2⟩ => ⟨I2.kIn, ?_⟩) hpl
  rw [hks]
  obtain ⟨M2, rho2, h2, ys, hr2, ry2, o2⟩ := q2
  exact clb_kw (us := []) (vs := []) B I2 .nil rz hr2 .nil ry2 o2
/-- b(e, ..), b a builtin -/
theorem me_blt {id : String} (hc : CallR X (.builtin id) (rA w EX op)) (hg : Gl X x) (hm : X.mg x = none) (hv : bootBuiltins x = some (.builtin id)) (ha : PA X (e :: es) (tA w EX ma)) (hn : x ≠ "__name__" := by decide) (hdb : (x == ("__debug__" : Str)) = false := by decide)
    (he : starEach (e :: es) X.env = (false, eval e X.env) :: starEach es X.env := by rfl) (hpl : (backTo pos (starEach es X.env)).any (·.1) = false := by rfl) : PE X (.Call (.Name x p) (e :: es) [] pos) (tM w EX (mBt op ma)) := by
  refine PE.imp (pe_callB hc hg hm hv ha hn hdb he hpl) fun σ H Q h => ?_
  obtain ⟨M, rho, env, hh, er, hr, o⟩ := h
  exact tA.of er hr (Out.bind o) fun xs h1 M1 rho1 H1 vs st1 er1 hr1 o1 rs => ⟨M1, rho1, h1, xs, hr1, rs, o1⟩
/-- T(e, ..), T a builtin type -/
theorem me_ty {T : String} (hc : CallR X (.type T) (rA w EX op)) (hg : Gl X x) (hm : X.mg x = none) (hv : bootBuiltins x = some (.type T)) (ha : PA X (e :: es) (tA w EX ma)) (hn : x ≠ "__name__" := by decide) (hdb : (x == ("__debug__" : Str)) = false := by decide)
    (he : starEach (e :: es) X.env = (false, eval e X.env) :: starEach es X.env := by rfl) (hpl : (backTo pos (starEach es X.env)).any (·.1) = false := by rfl) : PE X (.Call (.Name x p) (e :: es) [] pos) (tM w EX (mBt op ma)) := by
  refine PE.imp (pe_callTy hc hg hm hv ha hn hdb he hpl) fun σ H Q h => ?_
  obtain ⟨M, rho, env, hh, er, hr, o⟩ := h
  exact tA.of er hr (Out.bind o) fun xs h1 M1 rho1 H1 vs st1 er1 hr1 o1 rs => ⟨M1, rho1, h1, xs, hr1, rs, o1⟩
end

section
variable {w : Wo} {EX : XC} {X : Cx} {k n c : Nat} {f A : Addr} {op : OC} {m : Nm} {pos apos : Pos} {e o : Expr} {es : List Expr} {ma : MA} {mo : ME} {pl : Sem Bool}
end
end MC

end
section
set_option maxRecDepth 100000
set_option maxHeartbeats 4000000
namespace MC
open PySem PySem.Spec PyProof.Rows L2

mutual
def beqV : PV → PV → Bool
  | .non, .non => true
  | .bl a, .bl b => a == b
  | .int a, .int b => a == b
  | .str a, .str b => a == b
  | .tup a, .tup b => beqVs a b
  | .scr a, .scr b => beqVs a b
  | .rdic a, .rdic b => beqK a b
  | .ins c a, .ins d b => c == d && beqF a b
  | .ref a, .ref b => a == b
  | .gl a, .gl b => a == b
  | .exn c a, .exn d b => c == d && beqF a b
  | .exv c a, .exv d b => c == d && beqF a b
  | _, _ => false
def beqVs : List PV → List PV → Bool
  | [], [] => true
  | x :: xs, y :: ys => beqV x y && beqVs xs ys
  | _, _ => false
def beqK : List (PV × PV) → List (PV × PV) → Bool
  | [], [] => true
  | (a, x) :: xs, (b, y) :: ys => beqV a b && (beqV x y && beqK xs ys)
  | _, _ => false
def beqF : List (Nm × PV) → List (Nm × PV) → Bool
  | [], [] => true
  | (a, x) :: xs, (b, y) :: ys => a == b && (beqV x y && beqF xs ys)
  | _, _ => false
end
mutual
theorem beqV_rf : ∀ x : PV, beqV x x = true
  | .non => by unfold beqV; rfl
  | .bl b => by unfold beqV; simp
  | .int i => by unfold beqV; simp
  | .str s => by unfold beqV; simp
  | .tup xs => by unfold beqV; exact beqVs_rf xs
  | .scr xs => by unfold beqV; exact beqVs_rf xs
  | .rdic xs => by unfold beqV; exact beqK_rf xs
  | .ins c fs => by unfold beqV; simp [beqF_rf fs]
  | .ref n => by unfold beqV; simp
  | .gl n => by unfold beqV; simp
  | .exn c fs => by unfold beqV; simp [beqF_rf fs]
  | .exv c fs => by unfold beqV; simp [beqF_rf fs]
theorem beqVs_rf : ∀ x : List PV, beqVs x x = true
  | [] => by unfold beqVs; rfl
  | x :: xs => by unfold beqVs; simp [beqV_rf x, beqVs_rf xs]
theorem beqK_rf : ∀ x : List (PV × PV), beqK x x = true
  | [] => by unfold beqK; rfl
  | (a, x) :: xs => by unfold beqK; simp [beqV_rf a, beqV_rf x, beqK_rf xs]
theorem beqF_rf : ∀ x : List (Nm × PV), beqF x x = true
  | [] => by unfold beqF; rfl
  | (a, x) :: xs => by unfold beqF; simp [beqV_rf x, beqF_rf xs]
end
mutual
theorem beqV_ok : ∀ {x y : PV}, beqV x y = true → x = y
  | .non, .non, _ => rfl
  | .bl a, .bl b, h => by unfold beqV at h; rw [beq_iff_eq.mp h]
  | .int a, .int b, h => by unfold beqV at h; rw [beq_iff_eq.mp h]
  | .str a, .str b, h => by unfold beqV at h; rw [beq_iff_eq.mp h]
  | .tup a, .tup b, h => by unfold beqV at h; rw [beqVs_ok h]
  | .scr a, .scr b, h => by unfold beqV at h; rw [beqVs_ok h]
  | .rdic a, .rdic b, h => by unfold beqV at h; rw [beqK_ok h]
  | .ins c a, .ins d b, h => by unfold beqV at h; rw [Bool.and_eq_true] at h; rw [beq_iff_eq.mp h.1, beqF_ok h.2]
  | .ref a, .ref b, h => by unfold beqV at h; rw [beq_iff_eq.mp h]
  | .gl a, .gl b, h => by unfold beqV at h; rw [beq_iff_eq.mp h]
  | .non, .bl _, h | .non, .int _, h | .non, .str _, h | .non, .tup _, h | .non, .scr _, h | .non, .rdic _, h | .non, .ins _ _, h | .non, .ref _, h | .non, .gl _, h => by unfold beqV at h; cases h
  | .bl _, .non, h | .bl _, .int _, h | .bl _, .str _, h | .bl _, .tup _, h | .bl _, .scr _, h | .bl _, .rdic _, h | .bl _, .ins _ _, h | .bl _, .ref _, h | .bl _, .gl _, h => by unfold beqV at h; cases h
  | .int _, .non, h | .int _, .bl _, h | .int _, .str _, h | .int _, .tup _, h | .int _, .scr _, h | .int _, .rdic _, h | .int _, .ins _ _, h | .int _, .ref _, h | .int _, .gl _, h => by unfold beqV at h; cases h
  | .str _, .non, h | .str _, .bl _, h | .str _, .int _, h | .str _, .tup _, h | .str _, .scr _, h | .str _, .rdic _, h | .str _, .ins _ _, h | .str _, .ref _, h | .str _, .gl _, h => by unfold beqV at h; cases h
  | .tup _, .non, h | .tup _, .bl _, h | .tup _, .int _, h | .tup _, .str _, h | .tup _, .scr _, h | .tup _, .rdic _, h | .tup _, .ins _ _, h | .tup _, .ref _, h | .tup _, .gl _, h => by unfold beqV at h; cases h
  | .scr _, .non, h | .scr _, .bl _, h | .scr _, .int _, h | .scr _, .str _, h | .scr _, .tup _, h | .scr _, .rdic _, h | .scr _, .ins _ _, h | .scr _, .ref _, h | .scr _, .gl _, h => by unfold beqV at h; cases h
  | .rdic _, .non, h | .rdic _, .bl _, h | .rdic _, .int _, h | .rdic _, .str _, h | .rdic _, .tup _, h | .rdic _, .scr _, h | .rdic _, .ins _ _, h | .rdic _, .ref _, h | .rdic _, .gl _, h => by unfold beqV at h; cases h
  | .ins _ _, .non, h | .ins _ _, .bl _, h | .ins _ _, .int _, h | .ins _ _, .str _, h | .ins _ _, .tup _, h | .ins _ _, .scr _, h | .ins _ _, .rdic _, h | .ins _ _, .ref _, h | .ins _ _, .gl _, h => by unfold beqV at h; cases h
  | .ref _, .non, h | .ref _, .bl _, h | .ref _, .int _, h | .ref _, .str _, h | .ref _, .tup _, h | .ref _, .scr _, h | .ref _, .rdic _, h | .ref _, .ins _ _, h | .ref _, .gl _, h => by unfold beqV at h; cases h
  | .gl _, .non, h | .gl _, .bl _, h | .gl _, .int _, h | .gl _, .str _, h | .gl _, .tup _, h | .gl _, .scr _, h | .gl _, .rdic _, h | .gl _, .ins _ _, h | .gl _, .ref _, h => by unfold beqV at h; cases h
  | .exn c a, .exn d b, h => by unfold beqV at h; rw [Bool.and_eq_true] at h; rw [beq_iff_eq.mp h.1, beqF_ok h.2]
  | .exv c a, .exv d b, h => by unfold beqV at h; rw [Bool.and_eq_true] at h; rw [beq_iff_eq.mp h.1, beqF_ok h.2]
  | .non, .exv _ _, h | .bl _, .exv _ _, h | .int _, .exv _ _, h | .str _, .exv _ _, h | .tup _, .exv _ _, h | .scr _, .exv _ _, h | .rdic _, .exv _ _, h | .ins _ _, .exv _ _, h | .ref _, .exv _ _, h | .gl _, .exv _ _, h | .exn _ _, .exv _ _, h => by unfold beqV at h; cases h
  | .exv _ _, .non, h | .exv _ _, .bl _, h | .exv _ _, .int _, h | .exv _ _, .str _, h | .exv _ _, .tup _, h | .exv _ _, .scr _, h | .exv _ _, .rdic _, h | .exv _ _, .ins _ _, h | .exv _ _, .ref _, h | .exv _ _, .gl _, h | .exv _ _, .exn _ _, h => by unfold beqV at h; cases h
  | .non, .exn _ _, h | .bl _, .exn _ _, h | .int _, .exn _ _, h | .str _, .exn _ _, h | .tup _, .exn _ _, h | .scr _, .exn _ _, h | .rdic _, .exn _ _, h | .ins _ _, .exn _ _, h | .ref _, .exn _ _, h | .gl _, .exn _ _, h => by unfold beqV at h; cases h
  | .exn _ _, .non, h | .exn _ _, .bl _, h | .exn _ _, .int _, h | .exn _ _, .str _, h | .exn _ _, .tup _, h | .exn _ _, .scr _, h | .exn _ _, .rdic _, h | .exn _ _, .ins _ _, h | .exn _ _, .ref _, h | .exn _ _, .gl _, h => by unfold beqV at h; cases h
theorem beqVs_ok : ∀ {x y : List PV}, beqVs x y = true → x = y
  | [], [], _ => rfl
  | x :: xs, y :: ys, h => by unfold beqVs at h; rw [Bool.and_eq_true] at h; rw [beqV_ok h.1, beqVs_ok h.2]
  | [], _ :: _, h | _ :: _, [], h => by unfold beqVs at h; cases h
theorem beqK_ok : ∀ {x y : List (PV × PV)}, beqK x y = true → x = y
  | [], [], _ => rfl
  | (a, x) :: xs, (b, y) :: ys, h => by unfold beqK at h; rw [Bool.and_eq_true, Bool.and_eq_true] at h; rw [beqV_ok h.1, beqV_ok h.2.1, beqK_ok h.2.2]
  | [], _ :: _, h | _ :: _, [], h => by unfold beqK at h; cases h
theorem beqF_ok : ∀ {x y : List (Nm × PV)}, beqF x y = true → x = y
  | [], [], _ => rfl
  | (a, x) :: xs, (b, y) :: ys, h => by unfold beqF at h; rw [Bool.and_eq_true, Bool.and_eq_true] at h; rw [beq_iff_eq.mp h.1, beqV_ok h.2.1, beqF_ok h.2.2]
  | [], _ :: _, h | _ :: _, [], h => by unfold beqF at h; cases h
end

/-- objects that must stand as they stood -/
abbrev Wt := List (Nat × List PV)
def watch : Wt → PH → Bool
  | [], _ => true
  | (n, xs) :: r, h => (match h[n]? with
    | some (.lst ys) => beqVs xs ys
    | _ => false) && watch r h
structure Gives (w : Wo) (M : Addr → Prop) (rho : List Addr) (H : Hp) (xs : List PV) (wt : Wt) (J : It) : Prop where
  to : ∀ {M1 : Addr → Prop} {rho1 : List Addr} {H1 : Hp} {h1 : PH}, Step M rho H M1 rho1 H1 → HR w M1 rho1 H1 h1 → watch wt h1 = true → ∀ i,
    (i < xs.length → J.go i H1) ∧ (i = xs.length → J.stop i H1) ∧ ∀ v H', i < xs.length → J.yld i H1 v H' → (∀ b o, H1 b = some o → H' b = some o) ∧ ∃ x, xs[i]? = some x ∧ VR w M1 rho1 H' x v
abbrev MI := En → PH → R (List PV × Wt)
def KI (w : Wo) (Q : It → Hp → Prop) : KC (List PV × Wt) := fun p _ M rho H => ∀ J, Gives w M rho H p.1 p.2 J → Q J H
def tI (w : Wo) (EX : XC) (m : MI) : TI := fun σ H Q => ∃ M rho env h, ER w M rho H env σ ∧ HR w M rho H h ∧ Out w EX M rho H (m env h) (KI w Q)
theorem PI.imp {X : Cx} {tg e : Expr} {t t' : TI} (p : PI X tg e t) (i : ∀ σ H Q, t' σ H Q → t σ H Q) : PI X tg e t' := ⟨fun pins s σ H Q I h => p.run pins s σ H Q I (i σ H Q h)⟩

section
variable {w : Wo} {M M1 : Addr → Prop} {rho rho1 : List Addr} {H H1 : Hp} {h h1 : PH}
theorem gives_list {xs : List PV} {a : Addr} (hs : ∀ {M1 : Addr → Prop} {rho1 : List Addr} {H1 : Hp} {h1 : PH}, Step M rho H M1 rho1 H1 → HR w M1 rho1 H1 h1 → watch wt h1 = true → ∃ vs, SqL w.K H1 a vs ∧ VRs w M1 rho1 H1 xs vs) : Gives w M rho H xs wt (Itl w.K a) := by
  refine ⟨fun {M1 rho1 H1 h1} st hr hw i => ?_⟩
  obtain ⟨vs, q, rv⟩ := hs st hr hw
  have W := walk_list (K := w.K) (a := a) (xs := vs)
  rw [rv.length] at W
  refine ⟨fun hi => W.goes i H1 hi q, fun hi => by subst hi; exact W.stops H1 q, fun v H' hi y => ?_⟩
  obtain ⟨e, ey⟩ := W.yields i H1 v H' hi q y
  subst e
  obtain ⟨x, hx⟩ : ∃ x, xs[i]? = some x := ⟨_, List.getElem?_eq_getElem hi⟩
  obtain ⟨v', e1, r1⟩ := rv.get hx
  rw [ey] at e1
  cases e1
  exact ⟨fun _ _ e => e, x, hx, r1⟩
theorem gives_tup {xs : List PV} {a : Addr} {vs : List V} (hr0 : HR w M rho H h) (q : SqT w.K H a vs) (rv : VRs w M rho H xs vs) : Gives w M rho H xs [] (Itt w.K a) := by
  refine ⟨fun {M1 rho1 H1 h1} st hr hw i => ?_⟩
  have q := st.sqT hr0 q
  have rv := rv.step st hr0
  have W := walk_tup (K := w.K) (a := a) (xs := vs)
  rw [rv.length] at W
  refine ⟨fun hi => W.goes i H1 hi q, fun hi => by subst hi; exact W.stops H1 q, fun v H' hi y => ?_⟩
  obtain ⟨e, ey⟩ := W.yields i H1 v H' hi q y
  subst e
  obtain ⟨x, hx⟩ : ∃ x, xs[i]? = some x := ⟨_, List.getElem?_eq_getElem hi⟩
  obtain ⟨v', e1, r1⟩ := rv.get hx
  rw [ey] at e1
  cases e1
  exact ⟨fun _ _ e => e, x, hx, r1⟩
def signsOf (s : List Nat) : List PV := s.map fun c => .str [c]
theorem gives_str (s : List Nat) : Gives w M rho H (signsOf s) [] (Its ⟨s.toArray⟩) := by
  refine ⟨fun {M1 rho1 H1 h1} st hr hw i => ?_⟩
  have W := walk_str (z := ⟨s.toArray⟩)
  have e0 : (signsOf s).length = s.length := by unfold signsOf; rw [List.length_map]
  have e1 : (⟨s.toArray⟩ : Str).cps.size = s.length := by simp
  rw [e1] at W
  rw [e0]
  refine ⟨fun hi => W.goes i H1 hi True.intro, fun hi => by subst hi; exact W.stops H1 True.intro, fun v H' hi y => ?_⟩
  obtain ⟨e, c, ey, ev⟩ := W.yields i H1 v H' hi True.intro y
  subst e; subst ev
  have ey : s[i]? = some c := by simpa using ey
  refine ⟨fun _ _ e => e, .str [c], by unfold signsOf; rw [List.getElem?_map, ey]; rfl, .str [c]⟩
def seqI (lo : Int) (n : Nat) : List PV := (List.range n).map fun i => .int (lo + (i : Nat))
theorem gives_rng (lo : Int) (n : Nat) : Gives w M rho H (seqI lo n) [] (Itr lo n) := by
  refine ⟨fun {M1 rho1 H1 h1} st hr hw i => ?_⟩
  have W := walk_range (lo := lo) (n := n)
  have e0 : (seqI lo n).length = n := by unfold seqI; rw [List.length_map, List.length_range]
  rw [e0]
  refine ⟨fun hi => W.goes i H1 hi True.intro, fun hi => by subst hi; exact W.stops H1 True.intro, fun v H' hi y => ?_⟩
  obtain ⟨e, ev⟩ := W.yields i H1 v H' hi True.intro y
  subst e; subst ev
  exact ⟨fun _ _ e => e, _, by unfold seqI; rw [List.getElem?_map, List.getElem?_range hi]; rfl, .int _⟩
theorem KRs.at {ks : List (PV × PV)} {gs : List (Key × V)} (r : KRs w M rho H ks gs) : ks.length = gs.length ∧ ∀ {i : Nat} {k : Key} {v : V}, gs[i]? = some (k, v) → ∃ p x, ks[i]? = some (p, x) ∧ VR w M rho H p (kV k) ∧ VR w M rho H x v := by
  match r with
  | .nil => exact ⟨rfl, fun e => by simp at e⟩
  | .cons (k := kp) (j := j) hk hx hr =>
    obtain ⟨h1, h2⟩ := KRs.at hr
    refine ⟨by rw [List.length_cons, List.length_cons, h1], fun {i k v} e => ?_⟩
    cases i with
    | zero =>
      simp at e
      obtain ⟨rfl, rfl⟩ := e
      refine ⟨_, _, rfl, ?_, hx⟩
      cases kp <;> (unfold keyP at hk; cases hk)
      · exact .int _
      · exact .str _
    | succ i => simpa using h2 (i := i) (by simpa using e)
theorem gives_keys {a : Addr} {o : Obj} {ks : List (PV × PV)} {gs : List (Key × V)} (hr0 : HR w M rho H h) (q : H a = some (.frz o (.dK gs))) (rv : KRs w M rho H ks gs) : Gives w M rho H (ks.map (·.1)) [] (Itk a o gs) := by
  refine ⟨fun {M1 rho1 H1 h1} st hr hw i => ?_⟩
  have q := st.frz _ _ _ q
  have rv := rv.step st hr0
  obtain ⟨hl, hg⟩ := rv.at
  have W := walk_keys (d := a) (o := o) (kvs := gs)
  rw [List.length_map, hl]
  refine ⟨fun hi => W.goes i H1 hi q, fun hi => by subst hi; exact W.stops H1 q, fun v H' hi y => ?_⟩
  obtain ⟨e, k, u, ey, ev⟩ := W.yields i H1 v H' hi q y
  subst e; subst ev
  obtain ⟨p, x, e1, e2, _⟩ := hg ey
  exact ⟨fun _ _ e => e, p, by rw [List.getElem?_map, e1]; rfl, e2⟩
theorem watch_one {n : Nat} {xs : List PV} (h : watch [(n, xs)] h1 = true) : h1[n]? = some (.lst xs) := by
  unfold watch at h
  rw [Bool.and_eq_true] at h
  have h := h.1
  split at h
  · rename_i ys e
    rw [e, beqVs_ok h]
  · cases h
end

/-- the items of a value -/
def srcV (h : PH) : PV → Option (List PV × Wt)
  | .tup xs => some (xs, [])
  | .scr xs => some (xs, [])
  | .str s => some (signsOf s, [])
  | .rdic ks => some (ks.map (·.1), [])
  | .ref n => match h[n]? with
    | some (.lst xs) => some (xs, [(n, xs)])
    | _ => none
  | _ => none
/-- the keys of a dict: it is locked, for good -/
def srcD (h : PH) : PV → R (List PV × Wt)
  | .ref n => match h[n]? with
    | some (.dic false kvs) => .ok (kvs.map (·.1), []) (h.set n (.dic true kvs))
    | some (.dic true kvs) => .ok (kvs.map (·.1), []) h
    | _ => .stuck
  | _ => .stuck
def miV (m : ME) : MI := fun env h => (m env h).bind fun x h1 => match srcV h1 x with
  | some p => .ok p h1
  | none => srcD h1 x
section
variable {w : Wo} {EX : XC} {X : Cx} {k : Nat} {tg e : Expr} {m : ME} {p pos : Pos} {ma : MA}
theorem iter_val (C : Cxt w k X) {pins : List (Addr × Obj)} {σ : L2.St} {H : Hp} {s : Shared} {R : It → Hp → Prop} {E : Value → Shared → Prop} {M : Addr → Prop} {rho : List Addr} {h : PH} {x : PV} {v : V} {u : Value} {xs : List PV} {wt : Wt}
    (I : Inv X pins σ H s) (ru : RelV v u) (hr : HR w M rho H h) (rv : VR w M rho H x v) (es : srcV h x = some (xs, wt)) (q : ∀ J, Gives w M rho H xs wt J → R J H) : wpAny (model X.prog X.w) X.A (pyIter u) (PIE X pins σ tg R) E s := by
  have lst : ∀ {a : Addr} {vs : List V}, SqL w.K H a vs → R (Itl w.K a) H → wpAny (model X.prog X.w) X.A (pyIter (.ref a)) (PIE X pins σ tg R) E s := fun {a vs} hq hR => by
    rw [← C.hK] at hq hR
    obtain ⟨its, rv, p, hz⟩ := I.list hq
    exact wpAny_pyIter_list p.isList (pi_one (tk := s.toks) I _ (turn_list a _) ⟨_, Heap.get?_push_size _ rfl, rfl, rfl⟩ hR)
  cases rv with
  | tup sq rs =>
    obtain rfl : u = _ := ru
    cases es
    have hq := sq
    rw [← C.hK] at hq
    obtain ⟨its, rv, p, hz⟩ := I.tuple hq
    refine wpAny_pyIter_tuple (show s.heap.IsTuple _ its.toArray from p) (pi_one (tk := s.toks) I _ (turn_tuple _ _) ⟨_, Heap.get?_push_size _ rfl, rfl, rfl⟩ ?_)
    have := q _ (gives_tup hr sq rs)
    rw [C.hK]; exact this
  | scr sq rs =>
    obtain rfl : u = _ := ru
    cases es
    exact lst sq.sq (q _ (gives_list fun st hr1 _ => ⟨_, (st.scr hr sq).sq, rs.step st hr⟩))
  | str z =>
    obtain ⟨t, rfl⟩ := (show ∃ t, u = Value.str ⟨z.toArray⟩ t from ru)
    cases es
    have hR := q _ (gives_str z)
    cases ha : (⟨z.toArray⟩ : Str).cps.all (· < 128)
    · exact wpAny_pyIter_wide ha (pi_one (tk := s.toks) I _ (turn_str _ ⟨z.toArray⟩ t "str_iterator" (.inr rfl)) ⟨_, Heap.get?_push_size _ rfl, rfl, rfl⟩ hR)
    · exact wpAny_pyIter_ascii ha (pi_one (tk := s.toks) I _ (turn_str _ ⟨z.toArray⟩ t "str_ascii_iterator" (.inl rfl)) ⟨_, Heap.get?_push_size _ rfl, rfl, rfl⟩ hR)
  | @rdic kvs ks a o ha hn rk =>
    obtain rfl : u = Value.ref a := ru
    cases es
    obtain ⟨hs, hgd, hx, es, ep, vs, hdt, hsz, kv, hm⟩ := I.frzK ha
    refine iter_keys hs hgd hx hdt (pi_one (tk := s.toks) I _ (turn_keys _ hdt) ⟨_, Heap.get?_push_size _ rfl, rfl, ?_⟩ (q _ (gives_keys hr ha rk)))
    rw [hsz] <;> rfl
  | @ref n a ha =>
    obtain rfl : u = Value.ref a := ru
    simp only [srcV] at es
    split at es
    · rename_i ys e0
      cases es
      obtain ⟨a', ha', vs, q1, q2⟩ := hr.ob _ _ e0
      rw [ha] at ha'
      cases ha'
      refine lst (.inl (.inl q1)) (q _ (gives_list fun st hr1 hw => ?_))
      obtain ⟨a2, ha2, vs2, z1, z2⟩ := hr1.ob _ _ (watch_one hw)
      rw [st.ext _ _ ha] at ha2
      cases ha2
      exact ⟨vs2, .inl (.inl z1), z2⟩
    · cases es
  | _ => cases es
/-- a dict of the heap is locked -/
theorem lock_dic {pins : List (Addr × Obj)} {σ : L2.St} {H : Hp} {s : Shared} {M : Addr → Prop} {rho : List Addr} {h : PH} {n : Nat} {v : V} {kvs : List (PV × PV)} (I : Inv X pins σ H s) (hr : HR w M rho H h) (rv : VR w M rho H (.ref n) v) (e : h[n]? = some (.dic false kvs)) :
    ∃ a od ks, v = .ref a ∧ Inv X pins σ (upd H a (.frz od (.dK ks))) s ∧ Step M rho H M rho (upd H a (.frz od (.dK ks))) ∧ HR w M rho (upd H a (.frz od (.dK ks))) (h.set n (.dic true kvs)) ∧ KRs w M rho (upd H a (.frz od (.dK ks))) kvs ks := by
  cases rv with
  | @ref n a ha =>
    obtain ⟨a', ha', ks, q1, q2⟩ := hr.ob _ _ e
    rw [ha] at ha'
    cases ha'
    have q1' : H a = some (.dK ks) := q1
    obtain ⟨od, I'⟩ := I.lock q1' True.intro
    have nf : ∀ p u, H a ≠ some (.frz p u) := fun p u z => by rw [q1'] at z; cases z
    have st := Step.write hr (o := .frz od (.dK ks)) ha nf
    have r2 := q2.step st hr
    exact ⟨a, od, ks, rfl, I', st, hr.write ha nf ⟨ks, ⟨od, upd_same⟩, r2⟩, r2⟩
theorem iter_dic {pins : List (Addr × Obj)} {σ : L2.St} {H : Hp} {s : Shared} {R : It → Hp → Prop} {E : Value → Shared → Prop} {M : Addr → Prop} {rho : List Addr} {h : PH} {x : PV} {v : V} {u : Value}
    (I : Inv X pins σ H s) (ru : RelV v u) (hr : HR w M rho H h) (rv : VR w M rho H x v) (o : Out w EX M rho H (srcD h x) (KI w R)) : wpAny (model X.prog X.w) X.A (pyIter u) (PIE X pins σ tg R) E s := by
  cases x <;> try exact (show False from o).elim
  rename_i n
  simp only [srcD] at o
  have go : ∀ {H : Hp} {h : PH} {a : Addr} {od : Obj} {ks : List (Key × V)} {kvs : List (PV × PV)}, Inv X pins σ H s → HR w M rho H h → H a = some (.frz od (.dK ks)) → KRs w M rho H kvs ks → KI w R (kvs.map (·.1), []) h M rho H → wpAny (model X.prog X.w) X.A (pyIter (.ref a)) (PIE X pins σ tg R) E s := by
    intro H h a od ks kvs I hr ha rk q
    obtain ⟨hs, hgd, hx, es, ep, vs, hdt, hsz, kv, hm⟩ := I.frzK ha
    refine iter_keys hs hgd hx hdt (pi_one (tk := s.toks) I _ (turn_keys _ hdt) ⟨_, Heap.get?_push_size _ rfl, rfl, ?_⟩ (q _ (gives_keys hr ha rk)))
    rw [hsz] <;> rfl
  split at o
  · rename_i kvs e0
    obtain ⟨a, od, ks, rfl, I', st, hr', rk⟩ := lock_dic I hr rv e0
    obtain rfl : u = Value.ref a := ru
    exact go I' hr' upd_same rk (o _ _ _ st hr')
  · rename_i kvs e0
    cases rv with
    | @ref n a ha =>
      obtain rfl : u = Value.ref a := ru
      obtain ⟨a', ha', ks, ⟨od, q1⟩, q2⟩ := hr.ob _ _ e0
      rw [ha] at ha'
      cases ha'
      exact go I hr q1 q2 (o.now hr)
  · exact (show False from o).elim
/-- over a value -/
theorem mi_val (C : Cxt w k X) (he : PE X e (tM w EX m)) : PI X tg e (tI w EX (miV m)) := by
  refine ⟨fun pins s σ H R I h => ?_⟩
  obtain ⟨M, rho, env, hh, er, hr, o⟩ := h
  refine thn (he.run pins s σ H (fun v H1 => ∃ M1 rho1 h1 x, HR w M1 rho1 H1 h1 ∧ VR w M1 rho1 H1 x v ∧ Out w EX M1 rho1 H1 (match srcV h1 x with
    | some p => .ok p h1
    | none => srcD h1 x) (KI w R)) I (tM.of er hr (Out.bind o) fun x h1 M1 rho1 H1 v st1 er1 hr1 o1 rv => ⟨M1, rho1, h1, x, hr1, rv, o1⟩)) fun u s1 ⟨v, H1, I1, ru, M1, rho1, h1, x, hr1, rv, o1⟩ => ?_
  split at o1
  · rename_i p ep
    exact iter_val (xs := p.1) (wt := p.2) C I1 ru hr1 rv ep (o1.now hr1)
  · exact iter_dic I1 ru hr1 rv o1
def L62 : Int := 4611686018427387904
theorem l62 : L62 = 2 ^ 62 := by decide
def inR (i : Int) : Bool := decide (-L62 ≤ i) && decide (i < L62)
def miRng1 (ma : MA) : MI := fun env h => (ma env h).bind fun xs h1 => match xs with
  | [.int j] => bif inR j then .ok (seqI 0 j.toNat, []) h1 else .stuck
  | _ => .stuck
theorem inR_ok {i : Int} (h : inR i = true) : -(2 ^ 62) ≤ i ∧ i < 2 ^ 62 := by
  unfold inR at h
  rw [Bool.and_eq_true, decide_eq_true_eq, decide_eq_true_eq, l62] at h
  exact h
theorem mi_rng1 {a : Expr} (hg : Gl X "range") (hm : X.mg "range" = none) (ha : PA X [a] (tA w EX ma)) (hs : starEach [a] X.env = [(false, eval a X.env)] := by rfl) : PI X tg (.Call (.Name "range" p) [a] [] pos) (tI w EX (miRng1 ma)) := by
  refine PI.imp (pi_range1 hg hm ha hs) fun σ H R hh => ?_
  obtain ⟨M, rho, env, h, er, hr, o⟩ := hh
  refine tA.of er hr (Out.bind o) fun xs h1 M1 rho1 H1 vs st1 er1 hr1 o1 rs => ?_
  split at o1
  · rename_i j
    obtain ⟨hj, o2⟩ := Out.bif o1
    cases rs with
    | cons a b =>
      cases a
      cases b
      obtain ⟨p1, p2⟩ := inR_ok hj
      exact ⟨j, rfl, p1, p2, o2.now hr1 _ (gives_rng 0 _)⟩
  · exact (show False from o1).elim
end
end MC

end
section
set_option maxRecDepth 100000
set_option maxHeartbeats 4000000
namespace MC
open PySem PySem.Spec PyProof.Rows L2

theorem Cxt.blk {w : Wo} {k : Nat} {X : Cx} (C : Cxt w k X) (s : Shared) (H : Hp) (scope : Scope) (e : Env) (fp : List Addr) : Cxt w k (X.blk s H scope e fp) := Cxt.mk C.hK C.hW C.calm C.room C.grd PassesOwn.never
theorem Out.back {w : Wo} {EX : XC} {M : Addr → Prop} {rho : List Addr} {H : Hp} {α β : Type} {r : R α} {f : α → PH → R β} {k : KC β} (o : Out w EX M rho H (r.bind f) k) : Out w EX M rho H r fun a h _ _ _ => Out w EX M rho H (f a h) k := by
  cases r with
  | ok a h => exact fun M' rho' H' s _ => o
  | exc c fs h => exact o
  | stuck => exact o

def forL (g : MG) (b : MS) (wt : Wt) : List PV → En → PH → R Fl
  | [], env, h => bif watch wt h then .ok (.nx env) h else .stuck
  | x :: xs, env, h => bif watch wt h then (g x env h).bind fun e h1 => (b e h1).bind fun f h2 => match f with
    | .nx e2 => forL g b wt xs e2 h2
    | .ct e2 => forL g b wt xs e2 h2
    | .bk e2 => .ok (.nx e2) h2
    | .rt v => .ok (.rt v) h2 else .stuck
def mFor (mi : MI) (g : MG) (b : MS) : MS := fun env h => (mi env h).bind fun p h1 => forL g b p.2 p.1 env h1
section
variable {w : Wo} {EX : XC} {X : Cx} {k : Nat} {tg iter : Expr} {body : List Stmt} {pos : Pos} {mi : MI} {g : MG} {b : MS}
theorem ms_for (C : Cxt w k X) (hi : PI X tg iter (tI w EX mi)) (hg : PG X tg (tG w EX g)) (hb : PSs X body (tS w EX b)) (hs : ∀ x, foldedSetIterable iter X.env x = pure x := by intro _; rfl) : PS X (.For tg iter body [] pos) (tS w EX (mFor mi g b)) := by
  refine PS_imp (ps_for C.own C.calm hi hg hb hs) fun D s H hh => ?_
  obtain ⟨M, rho, env, h, er, hr, o⟩ := hh
  refine ⟨M, rho, env, h, er, hr, (Out.bind o).imp fun p h1 M1 rho1 H1 st1 hr1 o1 J gv => ?_⟩
  obtain ⟨xs, wt⟩ := p
  -- from here on the world grows from (M1, rho1, H1)
  refine ⟨fun i m σ H' => m = xs.length - i ∧ i ≤ xs.length ∧ ∃ M2 rho2 env2 h2, Step M1 rho1 H1 M2 rho2 H' ∧ ER w M2 rho2 H' env2 σ ∧ HR w M2 rho2 H' h2 ∧ Out w EX M2 rho2 H' (forL g b wt (xs.drop i) env2 h2) (KS w D),
    ⟨xs.length, by simp, Nat.zero_le _, M1, rho1, env, h1, Step.refl, er.step st1 hr, hr1, o1⟩, ?_⟩
  rintro i m σ H' ⟨rfl, hi, M2, rho2, env2, h2, st2, er2, hr2, o2⟩
  by_cases hlt : i < xs.length
  · rw [List.drop_eq_getElem_cons hlt] at o2
    obtain ⟨hw, o3⟩ := Out.bif (show Out w EX M2 rho2 H' (bif watch wt h2 then (g xs[i] env2 h2).bind fun e h1 => (b e h1).bind fun f h2 => match f with
      | .nx e2 => forL g b wt (xs.drop (i + 1)) e2 h2
      | .ct e2 => forL g b wt (xs.drop (i + 1)) e2 h2
      | .bk e2 => .ok (.nx e2) h2
      | .rt v => .ok (.rt v) h2 else .stuck) (KS w D) from o2)
    obtain ⟨g1, _, g3⟩ := gv.to st2 hr2 hw i
    refine .inr ⟨g1 hlt, fun σ' H' => ∃ M2 rho2 env2 h2, Step M1 rho1 H1 M2 rho2 H' ∧ ER w M2 rho2 H' env2 σ' ∧ HR w M2 rho2 H' h2 ∧ Out w EX M2 rho2 H' (forL g b wt (xs.drop (i + 1)) env2 h2) (KS w D), fun σ' H'' q => ⟨xs.length - (i + 1), by omega, rfl, hlt, q⟩, fun x H3 y => ?_⟩
    obtain ⟨k1, z, ez, rz⟩ := g3 x H3 hlt y
    rw [List.getElem?_eq_getElem hlt] at ez
    cases ez
    have stg : Step M2 rho2 H' M2 rho2 H3 := Step.grow k1
    have hr3 := hr2.grow k1
    refine ⟨M2, rho2, env2, h2, xs[i], er2.step stg hr2, hr3, rz, ((Out.bind o3).step stg).imp fun e h4 M4 rho4 H4 st4 hr4 o4 s4 er4 => ?_⟩
    have st5 := st2.trans (stg.trans st4)
    refine ⟨M4, rho4, e, h4, er4, hr4, (Out.bind o4).imp fun f h5 M5 rho5 H5 st6 hr5 o5 => ?_⟩
    have st7 := st5.trans st6
    cases f with
    | nx e2 => exact fun s5 er5 => ⟨M5, rho5, e2, h5, st7, er5, hr5, o5⟩
    | ct e2 => exact fun s5 er5 => ⟨M5, rho5, e2, h5, st7, er5, hr5, o5⟩
    | bk e2 => exact (show Out w EX M5 rho5 H5 (.ok (.nx e2) h5) (KS w D) from o5).now hr5
    | rt v => exact (show Out w EX M5 rho5 H5 (.ok (.rt v) h5) (KS w D) from o5).now hr5
  · have e : i = xs.length := by omega
    subst e
    rw [List.drop_length] at o2
    obtain ⟨hw, o3⟩ := Out.bif (show Out w EX M2 rho2 H' (bif watch wt h2 then .ok (.nx env2) h2 else .stuck) (KS w D) from o2)
    obtain ⟨_, g2, _⟩ := gv.to st2 hr2 hw xs.length
    exact .inl ⟨g2 rfl, o3.now hr2 _ er2⟩
end

section
variable {w : Wo} {EX : XC} {X : Cx} {k : Nat} {c : Expr} {body : List Stmt} {pos : Pos} {t : MT} {b : MS}
end

mutual
inductive Tg where
  | nm (i : Nat)
  | tp (ts : Tgs)
inductive Tgs where
  | nil
  | cons (t : Tg) (ts : Tgs)
end
mutual
def tgM : Tg → PV → En → Option En
  | .nm i, x, env => some (env.set i (some x))
  | .tp ts, x, env => match x with
    | .tup xs => tgMs ts xs env
    | _ => none
def tgMs : Tgs → List PV → En → Option En
  | .nil, [], env => some env
  | .cons t ts, x :: xs, env => match tgM t x env with
    | some e => tgMs ts xs e
    | none => none
  | _, _, _ => none
end
def tgN : Tgs → Nat
  | .nil => 0
  | .cons _ ts => tgN ts + 1
mutual
def tgG (K : PySem.W.Frag) : Tg → TG
  | .nm i => gName i
  | .tp ts => gTup K (tgN ts) (tgGs K ts)
def tgGs (K : PySem.W.Frag) : Tgs → TGs
  | .nil => gNil
  | .cons t ts => gCons (tgG K t) (tgGs K ts)
end
mutual
def tgI : Tg → List Nat
  | .nm i => [i]
  | .tp ts => tgIs ts
def tgIs : Tgs → List Nat
  | .nil => []
  | .cons t ts => tgI t ++ tgIs ts
end
theorem wipe_set {v : V} {i : Nat} : ∀ {vs : List Nat} (σ : L2.St), i ∈ vs → wipe (σ.set i (some v)) vs = wipe σ vs := by
  have out : ∀ {vs : List Nat} (σ : L2.St) (o : Option V), i ∉ vs → wipe (σ.set i o) vs = (wipe σ vs).set i o := by
    intro vs
    induction vs with
    | nil => intro σ o _; rfl
    | cons u vs ih =>
      intro σ o hn
      have h1 : i ≠ u := fun e => hn (by rw [e]; exact List.mem_cons_self)
      show (wipe (σ.set i o) vs).set u none = ((wipe σ vs).set u none).set i o
      rw [ih σ o fun z => hn (List.mem_cons_of_mem _ z), List.set_comm _ _ h1]
  intro vs
  induction vs with
  | nil => intro σ h; cases h
  | cons u vs ih =>
    intro σ h
    show (wipe (σ.set i (some v)) vs).set u none = (wipe σ vs).set u none
    by_cases h1 : i ∈ vs
    · rw [ih σ h1]
    · have h2 : i = u := (List.mem_cons.mp h).resolve_right h1
      subst h2
      rw [out σ _ h1, List.set_set]
section
variable {w : Wo} {M : Addr → Prop} {rho : List Addr} {H : Hp} {vs : List Nat}
mutual
theorem tg_ok : ∀ (t : Tg) {x : PV} {v : V} {env e : En} {σ : L2.St} {Q : L2.St → Hp → Prop}, tgM t x env = some e → VR w M rho H x v → ER w M rho H env σ → (∀ i ∈ tgI t, i ∈ vs) →
    (∀ σ', ER w M rho H e σ' → wipe σ' vs = wipe σ vs → Q σ' H) → tgG w.K t v σ H Q
  | .nm i, x, v, env, e, σ, Q, h, rv, er, hi, q => by
    unfold tgM at h
    cases h
    exact q _ (er.set rv i) (wipe_set σ (hi i (by unfold tgI; simp)))
  | .tp ts, x, v, env, e, σ, Q, h, rv, er, hi, q => by
    unfold tgM at h
    cases rv <;> dsimp only at h <;> try cases h
    rename_i xs us a sq rs
    unfold tgG
    obtain ⟨hl, hq⟩ := tgs_ok ts h rs er (fun i hi' => hi i (by unfold tgI; exact hi')) q
    exact ⟨a, us, rfl, sq, hl, hq⟩
theorem tgs_ok : ∀ (ts : Tgs) {xs : List PV} {us : List V} {env e : En} {σ : L2.St} {Q : L2.St → Hp → Prop}, tgMs ts xs env = some e → VRs w M rho H xs us → ER w M rho H env σ → (∀ i ∈ tgIs ts, i ∈ vs) →
    (∀ σ', ER w M rho H e σ' → wipe σ' vs = wipe σ vs → Q σ' H) → us.length = tgN ts ∧ tgGs w.K ts us σ H Q
  | .nil, xs, us, env, e, σ, Q, h, rv, er, hi, q => by
    cases rv with
    | nil =>
      unfold tgMs at h
      cases h
      exact ⟨rfl, rfl, q σ er rfl⟩
    | cons _ _ => unfold tgMs at h; cases h
  | .cons t ts, xs, us, env, e, σ, Q, h, rv, er, hi, q => by
    cases rv with
    | nil => unfold tgMs at h; cases h
    | @cons x v xs us r1 r2 =>
      unfold tgMs at h
      split at h
      · rename_i e1 h1
        have hi1 : ∀ i ∈ tgI t, i ∈ vs := fun i z => hi i (by unfold tgIs; exact List.mem_append_left _ z)
        have hi2 : ∀ i ∈ tgIs ts, i ∈ vs := fun i z => hi i (by unfold tgIs; exact List.mem_append_right _ z)
        -- the length first
        have hl : ∀ {σ' : L2.St}, ER w M rho H e1 σ' → us.length = tgN ts := fun {σ'} er' => (tgs_ok (Q := fun _ _ => True) ts h r2 er' hi2 fun _ _ _ => trivial).1
        have key : tgG w.K t v σ H fun σ' H' => us.length = tgN ts ∧ tgGs w.K ts us σ' H' Q := tg_ok t h1 r1 er hi1 fun σ' er' ew => by
          obtain ⟨a, b⟩ := tgs_ok (Q := Q) ts h r2 er' hi2 fun σ2 er2 ew2 => q σ2 er2 (ew2.trans ew)
          exact ⟨a, b⟩
        refine ⟨?_, v, us, rfl, ?_⟩
        · obtain ⟨σ', er'⟩ := (show ∃ σ', ER w M rho H e1 σ' from er_after t h1 r1 er)
          show us.length + 1 = tgN ts + 1
          rw [hl er']
        · exact tg_ok t h1 r1 er hi1 fun σ' er' ew => (tgs_ok (Q := Q) ts h r2 er' hi2 fun σ2 er2 ew2 => q σ2 er2 (ew2.trans ew)).2
      · cases h
theorem er_after : ∀ (t : Tg) {x : PV} {v : V} {env e : En} {σ : L2.St}, tgM t x env = some e → VR w M rho H x v → ER w M rho H env σ → ∃ σ', ER w M rho H e σ'
  | .nm i, x, v, env, e, σ, h, rv, er => by
    unfold tgM at h
    cases h
    exact ⟨_, er.set rv i⟩
  | .tp ts, x, v, env, e, σ, h, rv, er => by
    unfold tgM at h
    cases rv <;> dsimp only at h <;> try cases h
    rename_i xs us a sq rs
    exact ers_after ts h rs er
theorem ers_after : ∀ (ts : Tgs) {xs : List PV} {us : List V} {env e : En} {σ : L2.St}, tgMs ts xs env = some e → VRs w M rho H xs us → ER w M rho H env σ → ∃ σ', ER w M rho H e σ'
  | .nil, xs, us, env, e, σ, h, rv, er => by
    cases rv with
    | nil => unfold tgMs at h; cases h; exact ⟨_, er⟩
    | cons _ _ => unfold tgMs at h; cases h
  | .cons t ts, xs, us, env, e, σ, h, rv, er => by
    cases rv with
    | nil => unfold tgMs at h; cases h
    | cons r1 r2 =>
      unfold tgMs at h
      split at h
      · rename_i e1 h1
        obtain ⟨σ', er'⟩ := er_after t h1 r1 er
        exact ers_after ts h r2 er'
      · cases h
end
end
end MC

end
section
set_option maxRecDepth 100000
set_option maxHeartbeats 4000000
namespace MC
open PySem PySem.Spec PyProof.Rows L2

def noX {α : Type} (r : R α) : R α := match r with
  | .ok a h => .ok a h
  | _ => .stuck
theorem Out.noX {w : Wo} {EX EX2 : XC} {M : Addr → Prop} {rho : List Addr} {H : Hp} {α : Type} {r : R α} {k : KC α} (o : Out w EX M rho H (MC.noX r) k) : Out w EX2 M rho H r k := by
  cases r with
  | ok a h => exact o
  | exc c fs h => exact (show False from o).elim
  | stuck => exact o
def wipeE : En → List Nat → En
  | e, [] => e
  | e, v :: vs => (wipeE e vs).set v none
theorem wipe_wipe (σ : L2.St) : ∀ vs : List Nat, wipe (wipe σ vs) vs = wipe σ vs := by
  have out : ∀ (vs : List Nat) (σ : L2.St) (i : Nat), (wipe (σ.set i none) vs).set i none = (wipe σ vs).set i none := by
    intro vs
    induction vs with
    | nil => intro σ i; show (σ.set i none).set i none = σ.set i none; rw [List.set_set]
    | cons u vs ih =>
      intro σ i
      show ((wipe (σ.set i none) vs).set u none).set i none = ((wipe σ vs).set u none).set i none
      by_cases h : u = i
      · subst h
        rw [ih σ u]
      · rw [List.set_comm _ _ h, ih σ i, List.set_comm _ _ (Ne.symm h)]
  intro vs
  induction vs generalizing σ with
  | nil => rfl
  | cons u vs ih =>
    show (wipe ((wipe σ vs).set u none) vs).set u none = (wipe σ vs).set u none
    rw [out, ih]
section
variable {w : Wo} {M M1 M2 : Addr → Prop} {rho rho1 rho2 : List Addr} {H H1 H2 H' : Hp} {h : PH} {D : Addr}
theorem ER.wipe {e : En} {σ : L2.St} (r : ER w M rho H e σ) : ∀ vs : List Nat, ER w M rho H (wipeE e vs) (wipe σ vs)
  | [] => r
  | v :: vs => (ER.wipe r vs).drop v none
/-- all but lists stands; what is M's stands -/
structure Off (M : Addr → Prop) (H H' : Hp) : Prop where
  pos : ∀ a u, H a = some u → (∀ l, u ≠ .lst l) → H' a = some u
  own : ∀ a, M a → H' a = H a
theorem Off.sqT (f : Off M H H') {K : PySem.W.Frag} {a : Addr} {vs : List V} (q : SqT K H a vs) : SqT K H' a vs := by
  rcases q with (q | ⟨o, q⟩) | q
  · exact .inl (.inl (f.pos a _ q fun _ e => nomatch e))
  · exact .inl (.inr ⟨o, f.pos a _ q fun _ e => nomatch e⟩)
  · exact .inr q
theorem Off.scr (f : Off M H H') {a : Addr} {vs : List V} (q : ScrL w M H a vs) : ScrL w M H' a vs := by
  rcases q with q | ⟨o, q, n⟩
  · exact .inl q
  · exact .inr ⟨o, f.pos a _ q (fun _ e => nomatch e), n⟩
mutual
theorem VR.off (f : Off M H H') : ∀ {x : PV} {v : V}, VR w M rho H x v → VR w M rho H' x v
  | _, _, .non => .non
  | _, _, .bl b => .bl b
  | _, _, .int i => .int i
  | _, _, .str s => .str s
  | _, _, .tup q s => .tup (f.sqT q) (VRs.off f s)
  | _, _, .scr q s => .scr (f.scr q) (VRs.off f s)
  | _, _, .rdic e n s => .rdic (f.pos _ _ e fun _ z => nomatch z) n (KRs.off f s)
  | _, _, .ins c e n s => .ins c (f.pos _ _ e fun _ z => nomatch z) n (FRs.off f s)
  | _, _, .ref e => .ref e
  | _, _, .gl e => .gl e
  | _, _, .exn e1 e2 e3 e4 e5 e6 s => .exn e1 e2 e3 e4 (fun x hx => ⟨f.pos _ _ (e5 x hx).1 (fun _ z => nomatch z), (e5 x hx).2⟩) e6 (FRs.off f s)
  | _, _, .exv e1 e2 e3 e4 e5 s => .exv (f.pos _ _ e1 fun _ z => HO.noConfusion (show HO.ext _ = HO.lst _ from z)) e2 e3 (fun x hx => ⟨f.pos _ _ (e4 x hx).1 (fun _ z => HO.noConfusion (show HO.ext _ = HO.lst _ from z)), (e4 x hx).2⟩) e5 (FRs.off f s)
theorem VRs.off (f : Off M H H') : ∀ {xs : List PV} {vs : List V}, VRs w M rho H xs vs → VRs w M rho H' xs vs
  | _, _, .nil => .nil
  | _, _, .cons a b => .cons (VR.off f a) (VRs.off f b)
theorem FRs.off (f : Off M H H') : ∀ {fs : List (Nm × PV)} {gs : List (Str × V)}, FRs w M rho H fs gs → FRs w M rho H' fs gs
  | _, _, .nil => .nil
  | _, _, .cons a b => .cons (VR.off f a) (FRs.off f b)
theorem KRs.off (f : Off M H H') : ∀ {fs : List (PV × PV)} {gs : List (Key × V)}, KRs w M rho H fs gs → KRs w M rho H' fs gs
  | _, _, .nil => .nil
  | _, _, .cons k a b => .cons k (VR.off f a) (KRs.off f b)
end
theorem TRs.off (f : Off M H H') : ∀ {fs : List (PV × PV)} {gs : List (NestedKey × Addr × Value)}, TRs w M rho H fs gs → TRs w M rho H' fs gs
  | _, _, .nil => .nil
  | _, _, .cons k d a b c q => .cons k d (a.off f) (b.off f) c (TRs.off f q)
theorem OR.off (f : Off M H H') {a : Addr} (m : M a) {o : PO} (q : OR w M rho H a o) : OR w M rho H' a o := by
  have e := f.own a m
  cases o with
  | lst xs => obtain ⟨vs, p, s⟩ := q; exact ⟨vs, e.trans p, s.off f⟩
  | ins c fs => obtain ⟨C, dx, gs, p1, p, s⟩ := q; exact ⟨C, dx, gs, p1, e.trans p, s.off f⟩
  | dic lk kvs =>
    obtain ⟨ks, p, s⟩ := q
    refine ⟨ks, ?_, s.off f⟩
    cases lk with
    | false => exact e.trans p
    | true => obtain ⟨o, p⟩ := p; exact ⟨o, e.trans p⟩
  | dit lk kvs =>
    obtain ⟨ks, p, z1, z2, z3, s⟩ := q
    refine ⟨ks, ?_, z1, z2, z3, s.off f⟩
    cases lk with
    | false => exact e.trans p
    | true => obtain ⟨o, p⟩ := p; exact ⟨o, e.trans p⟩
theorem HR.off (f : Off M H H') (r : HR w M rho H h) : HR w M rho H' h where
  len := r.len
  nd := r.nd
  mem := r.mem
  live := fun b m => by rw [f.own b m]; exact r.live b m
  ob := fun n o q => by
    obtain ⟨a, ha, s⟩ := r.ob n o q
    exact ⟨a, ha, s.off f (r.mem a (List.mem_of_getElem? ha))⟩
  tabs := fun p hp => by
    obtain ⟨ps, h1, h2, h3⟩ := r.tabs p hp
    refine ⟨ps, f.pos _ _ h1 (fun l z => by cases z), h2, fun pos cv hc => ?_⟩
    obtain ⟨c, e1, e2, e3⟩ := h3 pos cv hc
    exact ⟨c, e1, f.pos _ _ e2 (fun l z => by cases (show HO.ext _ = HO.lst l from z)), e3⟩
theorem Off.upd {l : List V} {o : HO} (hD : H D = some (.lst l)) (n : ¬ M D) : Off M H (upd H D o) :=
  ⟨fun a u e z => by rw [upd_ne]; exact e; rintro rfl; rw [hD] at e; cases e; exact z l rfl, fun a m => upd_ne fun e => n (e ▸ m)⟩
theorem Off.hide {l : List V} (hD : H D = some (.lst l)) (n : ¬ M D) : Off M H (fun b => if b = D then none else H b) :=
  ⟨fun a u e z => by
    have : a ≠ D := by rintro rfl; rw [hD] at e; cases e; exact z l rfl
    show (if a = D then none else H a) = some u
    rw [if_neg this]; exact e, fun a m => if_neg fun (z : a = D) => n (by rw [← z]; exact m)⟩
theorem Step.late (st : Step M1 rho1 H1 M rho H) (n : H1 D = none) {o : HO} : Step M1 rho1 H1 M rho (upd H D o) where
  ext := st.ext
  mono := st.mono
  fresh := st.fresh
  new := st.new
  frame := fun b u hb e nt => by
    rw [upd_ne (ne_of_none e n)]
    exact st.frame b u hb e nt
  there := fun b e => by
    by_cases h : b = D
    · subst h; exact absurd n e
    · rw [upd_ne h]; exact st.there b e
  frz := fun b o u e => by
    rw [upd_ne (ne_of_none e n)]
    exact st.frz b o u e
/-- a list that stood apart comes to the heap's end -/
theorem take_lst {xs : List PV} {vs : List V} (st : Step M1 rho1 H1 M rho H) (n : H1 D = none) (hr : HR w M rho H h) (hD : H D = some (.lst vs)) (nD : ¬ M D) (r : VRs w M rho H xs vs) :
    Step M1 rho1 H1 (fun b => M b ∨ b = D) (rho ++ [D]) H ∧ HR w (fun b => M b ∨ b = D) (rho ++ [D]) H (h ++ [.lst xs]) ∧ VR w (fun b => M b ∨ b = D) (rho ++ [D]) H (.ref h.length) (.ref D) := by
  have f := Off.hide hD nD
  have e0 : upd (fun b => if b = D then none else H b) D (.lst vs) = H := by
    funext b
    unfold L2.upd
    by_cases h : b = D
    · rw [if_pos h, h, hD]
    · rw [if_neg h]; exact if_neg h
  have n0 : (fun b => if b = D then none else H b) D = none := if_pos rfl
  have hr0 := hr.off f
  have r0 := (r.off f).step (Step.alloc (o := .lst vs) n0) hr0
  have hr1 := hr0.alloc (o := .lst vs) n0 (po := .lst xs) ⟨vs, upd_same, r0⟩
  rw [e0] at hr1
  refine ⟨⟨fun i a e => ?_, fun b e => .inl (st.mono b e), fun b e => e.elim (st.fresh b) fun z => .inr (by rw [z]; exact n), fun b e => ?_, st.frame, st.there, st.frz⟩, hr1, .ref ?_⟩
  · have q := st.ext i a e
    rw [List.getElem?_append_left (List.getElem?_eq_some_iff.mp q).1]; exact q
  · rcases List.mem_append.mp e with z | z
    · exact st.new b z
    · rw [List.mem_singleton.mp z]; exact .inr n
  · rw [List.getElem?_append_right (by rw [hr.len]; exact Nat.le_refl _), hr.len, Nat.sub_self]
    rfl
end

def lcL (g : Tg) (t : MT) (m : ME) (wt : Wt) (e0 : En) : List PV → List PV → PH → R PV
  | [], acc, h => bif watch wt h then .ok (.ref h.length) (h ++ [.lst acc]) else .stuck
  | x :: xs, acc, h => bif watch wt h then (match tgM g x e0 with
    | some e => (noX (t e h)).bind fun b h1 => bif b then (noX (m e h1)).bind fun y h2 => bif decide (acc.length < LIM) then lcL g t m wt e0 xs (acc ++ [y]) h2 else .stuck else lcL g t m wt e0 xs acc h1
    | none => .stuck) else .stuck
def mLc (mi : MI) (g : Tg) (t : MT) (m : ME) (vs : List Nat) : ME := fun env h => (mi env h).bind fun p h1 => lcL g t m p.2 (wipeE env vs) p.1 [] h1
def mYes : MT := fun _ h => .ok true h
section
variable {w : Wo} {EX EX2 : XC} {X : Cx} {k : Nat} {tg iter elt : Expr} {ifs : List Expr} {scope : Scope} {own : List (Str × Nat)} {pos : Pos} {mi : MI} {g : Tg} {t : MT} {m : ME}
theorem mts_nil : PTs X [] (tT w EX mYes) := ⟨fun pins s σ H Q I h => by
  refine pts_nil.run pins s σ H Q I ?_
  obtain ⟨M, rho, env, h, er, hr, o⟩ := h
  exact o.now hr⟩
theorem lc_reads {vs : List Nat} {σ : L2.St} {H : Hp} {Q : VK} (hvs : (tgI g).all (vs.contains ·) = true) (hh : tM w EX (mLc mi g t m vs) σ H Q) : tLc (tI w EX mi) (tgG w.K g) (tT w EX2 t) (tM w EX2 m) vs σ H Q := by
  have hv : ∀ i ∈ tgI g, i ∈ vs := fun i hi => List.contains_iff_mem.mp (List.all_eq_true.mp hvs i hi)
  obtain ⟨M, rho, env, h, er, hr, o⟩ := hh
  refine ⟨M, rho, env, h, er, hr, (Out.bind o).imp fun p h1 M1 rho1 H1 st1 hr1 o1 J gv => ?_⟩
  obtain ⟨xs, wt⟩ := p
  intro D hD
  have erB : ER w M1 rho1 H1 (wipeE env vs) (wipe σ vs) := (er.step st1 hr).wipe vs
  have nD : ¬ M1 D := fun z => hr1.live D z hD
  refine ⟨fun i m' H' => m' = xs.length - i ∧ i ≤ xs.length ∧ ∃ M2 rho2 acc accV h2, Step M1 rho1 H1 M2 rho2 H' ∧ HR w M2 rho2 H' h2 ∧ H' D = some (.lst accV) ∧ ¬ M2 D ∧ VRs w M2 rho2 H' acc accV ∧ Out w EX M1 rho1 H1 (lcL g t m wt (wipeE env vs) (xs.drop i) acc h2) (KV w Q),
    ⟨xs.length, by simp, Nat.zero_le _, M1, rho1, [], [], h1, Step.grow (same_upd hD), hr1.grow (same_upd hD), upd_same, nD, .nil, o1⟩, ?_⟩
  rintro i m' H' ⟨rfl, hi, M2, rho2, acc, accV, h2, st2, hr2, hD2, nD2, ra, o2⟩
  by_cases hlt : i < xs.length
  · rw [List.drop_eq_getElem_cons hlt] at o2
    obtain ⟨hw, o3⟩ := Out.bif (show Out w EX M1 rho1 H1 (bif watch wt h2 then (match tgM g xs[i] (wipeE env vs) with
      | some e => (noX (t e h2)).bind fun b h1 => bif b then (noX (m e h1)).bind fun y h2 => bif decide (acc.length < LIM) then lcL g t m wt (wipeE env vs) (xs.drop (i + 1)) (acc ++ [y]) h2 else .stuck else lcL g t m wt (wipeE env vs) (xs.drop (i + 1)) acc h1
      | none => .stuck) else .stuck) (KV w Q) from o2)
    obtain ⟨g1, _, g3⟩ := gv.to st2 hr2 hw i
    refine .inr ⟨g1 hlt, fun H' => ∃ M2 rho2 acc accV h2, Step M1 rho1 H1 M2 rho2 H' ∧ HR w M2 rho2 H' h2 ∧ H' D = some (.lst accV) ∧ ¬ M2 D ∧ VRs w M2 rho2 H' acc accV ∧ Out w EX M1 rho1 H1 (lcL g t m wt (wipeE env vs) (xs.drop (i + 1)) acc h2) (KV w Q), fun H'' q => ⟨xs.length - (i + 1), by omega, rfl, hlt, q⟩, fun x H3 y => ?_⟩
    obtain ⟨k1, z, ez, rz⟩ := g3 x H3 hlt y
    rw [List.getElem?_eq_getElem hlt] at ez
    cases ez
    have stg : Step M2 rho2 H' M2 rho2 H3 := Step.grow k1
    have hr3 := hr2.grow k1
    have st3 := st2.trans stg
    split at o3
    · rename_i e he
      refine tg_ok g he rz (erB.step st3 hr1) hv fun σ2 er2 ew => ⟨by rw [ew, wipe_wipe], ?_⟩
      refine tT.of er2 hr3 (Out.noX ((Out.back o3).step st3)) fun b h4 M4 rho4 H4 st4 er4 hr4 o4 => ?_
      have stB := st3.trans st4
      have dr : ∀ {b}, b ∈ rho2 → M2 b := fun {b} hb => hr2.mem b hb
      have hD4 : H4 D = some (.lst accV) := st4.frame D _ (fun z => nD2 (dr z)) (k1 _ _ hD2) (fun ps z => by cases z)
      have nD4 : ¬ M4 D := st4.no (k1 _ _ hD2) nD2
      have ra4 := (ra.step stg hr2).step st4 hr3
      cases b with
      | false => exact iteF ⟨M4, rho4, acc, accV, h4, stB, hr4, hD4, nD4, ra4, o4⟩
      | true =>
        refine iteT (tM.of er4 hr4 (Out.noX ((Out.back (show Out w EX M1 rho1 H1 ((noX (m e h4)).bind fun y h2 => bif decide (acc.length < LIM) then lcL g t m wt (wipeE env vs) (xs.drop (i + 1)) (acc ++ [y]) h2 else .stuck) (KV w Q) from o4)).step stB)) fun y h5 M5 rho5 H5 u st5 er5 hr5 o5 ry => ?_)
        obtain ⟨hl, o6⟩ := Out.bif o5
        have stC := stB.trans st5
        have hD5 : H5 D = some (.lst accV) := st5.frame D _ (fun z => nD4 (hr4.mem D z)) hD4 (fun ps z => by cases z)
        have nD5 : ¬ M5 D := st5.no hD4 nD4
        have ra5 := ra4.step st5 hr4
        have f := Off.upd (o := .lst (accV ++ [u])) hD5 nD5
        exact ⟨accV, hD5, by rw [ra5.length, lim_eq]; exact of_decide_eq_true hl, M5, rho5, acc ++ [y], accV ++ [u], h5, stC.late hD, hr5.off f, upd_same, nD5, (ra5.append (.cons ry .nil)).off f, o6⟩
    · exact (show False from o3).elim
  · have e : i = xs.length := by omega
    subst e
    rw [List.drop_length] at o2
    obtain ⟨hw, o3⟩ := Out.bif (show Out w EX M1 rho1 H1 (bif watch wt h2 then .ok (.ref h2.length) (h2 ++ [.lst acc]) else .stuck) (KV w Q) from o2)
    obtain ⟨_, g2, _⟩ := gv.to st2 hr2 hw xs.length
    obtain ⟨z1, z2, z3⟩ := take_lst st2 hD hr2 hD2 nD2 ra
    exact .inl ⟨g2 rfl, o3 _ _ _ z1 z2 _ z3⟩
theorem me_lc (C : Cxt w k X) (hN : X.N.Nodup) {vs : List Nat} (hi : PI X tg iter (tI w EX mi)) (ok : blkC X.N X.env.scope scope own = true)
    (hg : ∀ (s : Shared) (H : Hp) (A : Addr) (cl : List (Str × Addr)) (fp : List Addr), PG (X.blk s H scope (compEnvC scope cl A X.env) fp) tg (tgG w.K g)) (ht : ∀ (s : Shared) (H : Hp) (A : Addr) (cl : List (Str × Addr)) (fp : List Addr), Cxt w k (X.blk s H scope (compEnvC scope cl A X.env) fp) → PTs (X.blk s H scope (compEnvC scope cl A X.env) fp) ifs (tT w EX2 t))
    (he : ∀ (s : Shared) (H : Hp) (A : Addr) (cl : List (Str × Addr)) (fp : List Addr), Cxt w k (X.blk s H scope (compEnvC scope cl A X.env) fp) → PE (X.blk s H scope (compEnvC scope cl A X.env) fp) elt (tM w EX2 m)) (ev : own.map (·.2) = vs := by rfl) (hvs : (tgI g).all (vs.contains ·) = true := by rfl) (hs : ∀ x, foldedSetIterable iter X.env x = pure x := by intro _; rfl) :
    PE X (.ListComp elt [⟨tg, iter, ifs, 0⟩] scope pos) (tM w EX (mLc mi g t m vs)) := by
  subst ev
  exact PE.imp (pe_lc C.calm hN hi (blkOk_by ok) hg (fun s H A cl fp => ht s H A cl fp (C.blk ..)) (fun s H A cl fp => he s H A cl fp (C.blk ..)) hs) fun σ H Q h => lc_reads hvs h
end
end MC

end
section
set_option maxRecDepth 100000
set_option maxHeartbeats 4000000
namespace MC
open PySem PySem.Spec PyProof.Rows L2

section
variable {w : Wo} {EX : XC} {X : Cx} {k : Nat} {f : Value} {M : Addr → Prop} {rho : List Addr} {H : Hp} {h : PH}
theorem CallR.imp {r r' : List V → Hp → VK → Prop} (c : CallR X f r) (i : ∀ xs H Q, r' xs H Q → r xs H Q) : CallR X f r' := fun pins s σ H xs us Q I rv h => c pins s σ H xs us Q I rv (i xs H Q h)
theorem CallR.orI {r1 r2 r' : List V → Hp → VK → Prop} (c1 : CallR X f r1) (c2 : CallR X f r2) (i : ∀ xs H Q, r' xs H Q → r1 xs H Q ∨ r2 xs H Q) : CallR X f r' := CallR.imp (CallR.or c1 c2) i
/-- the items of a list, a tuple -/
def seqP (h : PH) : PV → Option (List PV)
  | .tup xs => some xs
  | .scr xs => some xs
  | .ref n => match h[n]? with
    | some (.lst xs) => some xs
    | _ => none
  | _ => none
theorem seq_ok (hr : HR w M rho H h) {x : PV} {v : V} {xs : List PV} (r : VR w M rho H x v) (e : seqP h x = some xs) : ∃ a vs, v = .ref a ∧ VRs w M rho H xs vs ∧ (SqL w.K H a vs ∨ (SqT w.K H a vs ∧ x = .tup xs)) := by
  cases r with
  | tup q s => cases e; exact ⟨_, _, rfl, s, .inr ⟨q, rfl⟩⟩
  | scr q s => cases e; exact ⟨_, _, rfl, s, .inl q.sq⟩
  | @ref n a ha =>
    simp only [seqP] at e
    split at e
    · rename_i ys e0
      cases e
      obtain ⟨a', ha', vs, q1, q2⟩ := hr.ob _ _ e0
      rw [ha] at ha'
      cases ha'
      exact ⟨a, vs, rfl, q2, .inl (.inl (.inl q1))⟩
    · cases e
  | _ => cases e
/-- an argument's reading -/
theorem rA1 {op : OC} {xs : List V} {Q : VK} {P : Prop} (hh : rA w EX op xs H Q) (i : ∀ M rho h (ps : List PV), HR w M rho H h → VRs w M rho H ps xs → Out w EX M rho H (op h ps) (MC.KV w Q) → P) : P := by
  obtain ⟨M, rho, h, ps, hr, rs, o⟩ := hh
  exact i M rho h ps hr rs o

def bLen : OC := fun h xs => match xs with
  | [x] => match x with
    | .str s => bif decide (s.length ≤ LIM) then .ok (.int s.length) h else .stuck
    | .rdic ks => .ok (.int ks.length) h
    | x => match seqP h x with
      | some ys => .ok (.int ys.length) h
      | none => match x with
        | .ref n => match h[n]? with
          | some (.dic false ks) => .ok (.int ks.length) h
          | _ => .stuck
        | _ => .stuck
  | _ => .stuck
theorem KRs.len {ks : List (PV × PV)} {gs : List (Key × V)} (r : KRs w M rho H ks gs) : gs.length = ks.length := (KRs.at r).1.symm
def bInt : OC := fun h xs => match xs with
    | [.int i] => .ok (.int i) h
    | [.bl b] => .ok (.int (bif b then 1 else 0)) h
    | _ => .stuck
theorem b_int (C : Cxt w k X) : CallR X (.type "int") (rA w EX bInt) := by
  refine CallR.imp call_int1 fun xs H Q hh => rA1 hh fun M rho h ps hr rs o => ?_
  unfold bInt at o
  split at o
  · cases rs with
    | cons a b => cases a; cases b; exact .inl ⟨_, rfl, o.now hr _ (.int _)⟩
  · rename_i b
    cases rs with
    | cons a c => cases a; cases c; refine .inr ⟨_, rfl, o.now hr _ ?_⟩; cases b <;> exact .int _
  · exact (show False from o).elim
def bAbs : OC := fun h xs => match xs with
    | [.int i] => .ok (.int (if i < 0 then -i else i)) h
    | _ => .stuck
theorem b_abs : CallR X (.builtin "abs") (rA w EX bAbs) := by
  refine CallR.imp call_abs fun xs H Q hh => rA1 hh fun M rho h ps hr rs o => ?_
  unfold bAbs at o
  split at o
  · cases rs with
    | cons a b => cases a; cases b; exact ⟨_, rfl, o.now hr _ (.int _)⟩
  · exact (show False from o).elim
def B30 : Int := 1073741824
def bDivmod : OC := fun h xs => match xs with
    | [.int i, .int j] => bif decide (0 < j) && decide (j < B30) then .ok (.tup [.int (i / j), .int (i % j)]) h else .stuck
    | _ => .stuck
theorem b_divmod : CallR X (.builtin "divmod") (rA w EX bDivmod) := by
  refine CallR.imp call_divmod fun xs H Q hh => rA1 hh fun M rho h ps hr rs o => ?_
  unfold bDivmod at o
  split at o
  · obtain ⟨hj, o⟩ := Out.bif o
    rw [Bool.and_eq_true, decide_eq_true_eq, decide_eq_true_eq] at hj
    cases rs with
    | cons a b => cases b with
      | cons b c => cases a; cases b; cases c; exact ⟨_, _, rfl, hj, KV.tup hr o (.cons (.int _) (.cons (.int _) .nil))⟩
  · exact (show False from o).elim
def bMax2 : OC := fun h xs => match xs with
    | [.int i, .int j] => .ok (.int (if j > i then j else i)) h
    | _ => .stuck
theorem b_max2 (C : Cxt w k X) : CallR X (.builtin "max") (rA w EX bMax2) := by
  refine CallR.imp (call_max2 C.calm) fun xs H Q hh => rA1 hh fun M rho h ps hr rs o => ?_
  unfold bMax2 at o
  split at o
  · cases rs with
    | cons a b => cases b with
      | cons b c => cases a; cases b; cases c; exact ⟨_, _, rfl, o.now hr _ (.int _)⟩
  · exact (show False from o).elim
def bMin2 : OC := fun h xs => match xs with
    | [.int i, .int j] => .ok (.int (if j < i then j else i)) h
    | _ => .stuck
theorem b_min2 (C : Cxt w k X) : CallR X (.builtin "min") (rA w EX bMin2) := by
  refine CallR.imp (call_min2 C.calm) fun xs H Q hh => rA1 hh fun M rho h ps hr rs o => ?_
  unfold bMin2 at o
  split at o
  · cases rs with
    | cons a b => cases b with
      | cons b c => cases a; cases b; cases c; exact ⟨_, _, rfl, o.now hr _ (.int _)⟩
  · exact (show False from o).elim
theorem call_lenR : CallR X (.builtin "len") (fun xs H Q => ∃ a kvs, xs = [V.ref a] ∧ Rd H a (.dK kvs) ∧ Q (.int kvs.length) H) := by
  intro pins s σ H xs us Q I r h
  obtain ⟨a, kvs, rfl, ha, q⟩ := h
  obtain ⟨u, rfl, ru⟩ := vals1 r
  cases ru
  exact d_len I ha fun t s' I' => ⟨.int kvs.length, H, I', ⟨t, rfl⟩, q⟩
theorem vrs1 {x : PV} {xs : List V} (r : VRs w M rho H [x] xs) : ∃ v, xs = [v] ∧ VR w M rho H x v := by
  cases r with
  | cons a b => cases b; exact ⟨_, rfl, a⟩
theorem OR.dic {lk : Bool} {ks : List (PV × PV)} {a : Addr} (q : OR w M rho H a (.dic lk ks)) : ∃ gs, Rd H a (.dK gs) ∧ KRs w M rho H ks gs := by
  obtain ⟨gs, q1, q2⟩ := q
  refine ⟨gs, ?_, q2⟩
  cases lk with
  | false => exact .inl q1
  | true => obtain ⟨o, q1⟩ := q1; exact .inr ⟨o, q1⟩
theorem b_len {hh : Bool} (C : CxtG hh w k X) : CallR X (.builtin "len") (rA w EX bLen) := by
  refine CallR.orI call_len call_lenR fun xs H Q hh => rA1 hh fun M rho h ps hr rs o => ?_
  have seqc : ∀ {x : PV} {v : V} {ys : List PV}, VR w M rho H x v → seqP h x = some ys → Out w EX M rho H (.ok (.int ys.length) h) (MC.KV w Q) → ∃ x n, [v] = [x] ∧ LenV X.K x H n ∧ Q (.int n) H := fun {x v ys} rv e o => by
    obtain ⟨a, vs, rfl, rs, q⟩ := seq_ok hr rv e
    refine ⟨_, vs.length, rfl, ?_, by rw [rs.length]; exact o.now hr _ (.int _)⟩
    rw [C.hK]
    rcases q with q | ⟨q, _⟩
    · exact .inl ⟨vs, q, rfl⟩
    · exact .inr ⟨vs, q, rfl⟩
  unfold bLen at o
  split at o
  · rename_i x
    obtain ⟨v, rfl, rv⟩ := vrs1 rs
    split at o
    · rename_i s
      obtain ⟨hl, o⟩ := Out.bif o
      cases rv
      refine .inl ⟨_, s.length, rfl, ⟨?_, ?_⟩, o.now hr _ (.int _)⟩
      · show (S s).length ≤ _; rw [S_len, lim_eq]; exact of_decide_eq_true hl
      · show _ = (S s).length; rw [S_len]
    · rename_i ks
      cases rv with
      | rdic e n rk => exact .inr ⟨_, _, rfl, .inr ⟨_, e⟩, by rw [rk.len]; exact o.now hr _ (.int _)⟩
    · split at o
      · rename_i ys e
        exact .inl (seqc rv e o)
      · split at o
        · rename_i n _
          split at o
          · rename_i ks e0
            cases rv with
            | ref ha =>
              obtain ⟨a', ha', q⟩ := hr.ob _ _ e0
              rw [ha] at ha'
              cases ha'
              obtain ⟨gs, q1, q2⟩ := q.dic
              exact .inr ⟨_, gs, rfl, q1, by rw [q2.len]; exact o.now hr _ (.int _)⟩
          · exact (show False from o).elim
        · exact (show False from o).elim
  · exact (show False from o).elim
def bTuple : OC := fun h xs => match xs with
  | [x] => match seqP h x with
    | some ys => .ok (.tup ys) h
    | none => .stuck
  | _ => .stuck
/-- all bools, all ints, all texts -/
def blsP : List PV → Option (List Bool)
  | [] => some []
  | .bl b :: r => match blsP r with
    | some bs => some (b :: bs)
    | none => none
  | _ => none
theorem bls_ok : ∀ {xs : List PV} {vs : List V} {bs : List Bool}, VRs w M rho H xs vs → blsP xs = some bs → vs = bs.map V.bl
  | _, _, _, .nil, e => by cases e; rfl
  | _, _, _, .cons a b, e => by
    cases a <;> simp only [blsP, reduceCtorEq] at e
    split at e
    · rename_i bs e2
      cases e
      rw [bls_ok b e2]; rfl
    · cases e
/-- a list (no tuple) of bools, of ints -/
def lstP (h : PH) : PV → Option (List PV)
  | .scr xs => some xs
  | .ref n => match h[n]? with
    | some (.lst xs) => some xs
    | _ => none
  | _ => none
theorem lst_ok (hr : HR w M rho H h) {x : PV} {v : V} {xs : List PV} (r : VR w M rho H x v) (e : lstP h x = some xs) : ∃ a vs, v = .ref a ∧ VRs w M rho H xs vs ∧ SqL w.K H a vs := by
  cases r with
  | scr q s => cases e; exact ⟨_, _, rfl, s, q.sq⟩
  | @ref n a ha =>
    simp only [lstP] at e
    split at e
    · rename_i ys e0
      cases e
      obtain ⟨a', ha', vs, q1, q2⟩ := hr.ob _ _ e0
      rw [ha] at ha'
      cases ha'
      exact ⟨a, vs, rfl, q2, .inl (.inl q1)⟩
    · cases e
  | _ => cases e
def bAll : OC := fun h xs => match xs with
  | [x] => match lstP h x with
    | some ys => match blsP ys with
      | some bs => .ok (.bl (bs.all id)) h
      | none => .stuck
    | none => .stuck
  | _ => .stuck
theorem b_all (C : Cxt w k X) : CallR X (.builtin "all") (rA w EX bAll) := by
  refine CallR.imp (cr_all C.calm) fun xs H Q hh => rA1 hh fun M rho h ps hr rs o => ?_
  unfold bAll at o
  split at o
  · rename_i x
    obtain ⟨v, rfl, rv⟩ := vrs1 rs
    split at o
    · rename_i ys e
      obtain ⟨a, vs, rfl, rs, q⟩ := lst_ok hr rv e
      split at o
      · rename_i bs e2
        exact ⟨a, bs, rfl, by rw [C.hK, ← bls_ok rs e2]; exact q, o.now hr _ (.bl _)⟩
      · exact (show False from o).elim
    · exact (show False from o).elim
  · exact (show False from o).elim
end

/-- the kinds of values: 0 None, 1 bool, 2 int, 3 str, 4 tuple, 5 list, 6 dict -/
def kindN : Nat → String
  | 0 => "NoneType"
  | 1 => "bool"
  | 2 => "int"
  | 3 => "str"
  | 4 => "tuple"
  | 5 => "list"
  | _ => "dict"
def kindP (h : PH) : PV → Option (Nat ⊕ Nat)
  | .non => some (.inl 0)
  | .bl _ => some (.inl 1)
  | .int _ => some (.inl 2)
  | .str _ => some (.inl 3)
  | .tup _ => some (.inl 4)
  | .scr _ => some (.inl 5)
  | .rdic _ => some (.inl 6)
  | .ins c _ => some (.inr c)
  | .ref n => match h[n]? with
    | some (.lst _) => some (.inl 5)
    | some (.dic _ _) => some (.inl 6)
    | some (.ins c _) => some (.inr c)
    | some (.dit _ _) => none
    | none => none
  | .gl _ => none
  | .exn _ _ => none
  | .exv _ _ => none
/-- what isinstance says of a kind, by the tables tb (kinds) and cs (classes) -/
def isiT (tb cs : List (Nat × Bool)) : Nat ⊕ Nat → Option Bool
  | .inl n => tb.lookup n
  | .inr n => cs.lookup n
def mIsi (tb cs : List (Nat × Bool)) (m : ME) : ME := fun env h => (m env h).bind fun x h1 => match kindP h1 x with
  | some k => match isiT tb cs k with
    | some b => .ok (.bl b) h1
    | none => .stuck
  | none => .stuck
/-- what is known of a class for isinstance -/
structure ClsI (K : PySem.W.Frag) (C : Addr) : Prop where
  cl : Cls K C
  ha : PySem.W.findIn K (.ref C) "__class__" = some (some (.builtin "object.__class__"))
  hn : PySem.W.specialIn K (.builtin "object.__class__") "__get__" = some (some (.builtin "getset_descriptor.__get__"))
  htk : PySem.W.takesIn K (.builtin "object.__class__") = some true
  hm : PySem.W.mroIn K C (.type "object") = some true
/-- the tables are right -/
structure IsiOk (w : Wo) (u : Value) (tb cs : List (Nat × Bool)) : Prop where
  ty : ∀ p ∈ tb, PySem.W.kitOne w.K (.type (kindN p.1)) u = some p.2
  own : ∀ p ∈ cs, ∀ C, w.cl p.1 = some C → ClsI w.K C ∧ PySem.W.kitOne w.K (.ref C) u = some p.2
section
variable {w : Wo} {EX : XC} {X : Cx} {k : Nat} {e c : Expr} {m : ME} {p pos : Pos} {M : Addr → Prop} {rho : List Addr} {H : Hp} {h : PH}
end
end MC

end
section
set_option maxRecDepth 100000
set_option maxHeartbeats 4000000
namespace MC
open PySem PySem.Spec PyProof.Rows L2

/-- the receiver's kind: 0 text, 1 list -/
def isTy (h : PH) : Nat → PV → Bool
  | 0, .str _ => true
  | 1, x => (lstP h x).isSome
  | _, _ => false
def mBM (ty : Nat) (op : OC) (mo : ME) (ma : MA) : ME := fun env h => (mo env h).bind fun x h1 => bif isTy h1 ty x then (ma env h1).bind fun xs h2 => op h2 (x :: xs) else .stuck
section
variable {w : Wo} {EX : XC} {X : Cx} {k : Nat} {M : Addr → Prop} {rho : List Addr} {H : Hp} {h : PH}
variable {o e : Expr} {es : List Expr} {mo : ME} {ma : MA} {name : Str} {apos cpos : Pos} {id : String} {op : OC}
theorem MtR.imp {r r' : V → List V → Hp → VK → Prop} (c : MtR X id r) (i : ∀ x xs H Q, r' x xs H Q → r x xs H Q) : MtR X id r' := fun pins s σ H x xs v us Q I rx rs h => c pins s σ H x xs v us Q I rx rs (i x xs H Q h)
def oAppend : OC := fun h xs => match xs with
  | [.ref n, y] => match h[n]? with
    | some (.lst ys) => bif decide (ys.length < LIM) then .ok .non (h.set n (.lst (ys ++ [y]))) else .stuck
    | _ => .stuck
  | _ => .stuck
theorem ref_lst (hr : HR w M rho H h) {n : Nat} {v : V} {ys : List PV} (r : VR w M rho H (.ref n) v) (e : h[n]? = some (.lst ys)) : ∃ a vs, v = .ref a ∧ rho[n]? = some a ∧ H a = some (.lst vs) ∧ VRs w M rho H ys vs := by
  cases r with
  | ref ha =>
    obtain ⟨a', ha', vs, q1, q2⟩ := hr.ob _ _ e
    rw [ha] at ha'
    cases ha'
    exact ⟨_, vs, rfl, ha, q1, q2⟩
end
end MC

end
section
set_option maxRecDepth 100000
set_option maxHeartbeats 4000000
namespace MC
open PySem PySem.Spec PyProof.Rows L2

section
variable {w : Wo} {EX : XC} {X : Cx} {k : Nat} {M : Addr → Prop} {rho : List Addr} {H : Hp} {h : PH}
/-- o[i] = v, by values -/
abbrev O3 := PH → PV → PV → PV → R Unit
def oSetIx : O3 := fun h o i v => match o, i with
  | .ref n, .int j => match h[n]? with
    | some (.lst xs) => match ixN xs.length j with
      | some k => .ok () (h.set n (.lst (xs.set k v)))
      | none => .stuck
    | _ => .stuck
  | _, _ => .stuck
def gSubM (op : O3) (mo mi : ME) : MG := fun x env h => (mo env h).bind fun o h1 => (mi env h1).bind fun i h2 => (op h2 o i x).bind fun _ h3 => .ok env h3
def r3 (w : Wo) (EX : XC) (op : O3) : TSet := fun o i v H Q => ∃ M rho h po pi pv, HR w M rho H h ∧ VR w M rho H po o ∧ VR w M rho H pi i ∧ VR w M rho H pv v ∧ Out w EX M rho H (op h po pi pv) fun _ _ _ _ H' => Q H'
theorem PSet.imp {t t' : TSet} (p : PSet X t) (i : ∀ o j v H Q, t' o j v H Q → t o j v H Q) : PSet X t' := fun pins s σ H o j v ov iv u Q I ro ri rv h => p pins s σ H o j v ov iv u Q I ro ri rv (i o j v H Q h)
theorem p_setIx : PSet X (r3 w EX oSetIx) := by
  refine PSet.imp set_list fun o j v H Q hh => ?_
  obtain ⟨M, rho, h, po, pi, pv, hr, ro, ri, rv, oo⟩ := hh
  unfold oSetIx at oo
  split at oo
  · rename_i n i
    split at oo
    · rename_i xs e0
      obtain ⟨a, vs, rfl, ha, q1, q2⟩ := ref_lst hr ro e0
      cases ri
      split at oo
      · rename_i k ek
        refine ⟨a, vs, i, k, rfl, rfl, q1, by rw [q2.length]; exact ek, ?_⟩
        have r' := q2.set rv k
        have nf : ∀ p u, H a ≠ some (.frz p u) := fun p u z => by rw [q1] at z; cases z
        have st := Step.write hr (o := .lst (vs.set k v)) ha nf
        exact oo _ _ _ st (hr.write ha nf ⟨_, upd_same, r'.step st hr⟩)
      · exact (show False from oo).elim
    · exact (show False from oo).elim
  · exact (show False from oo).elim
theorem mg_sub {o i : Expr} {mo mi : ME} {op : O3} {pos : Pos} (hs : PSet X (r3 w EX op)) (ho : PE X o (tM w EX mo)) (hi : PE X i (tM w EX mi))
    (ha : ∀ v, assign (.Subscript o i pos) X.env v = (do
      let ov ← holding [v] (eval o X.env)
      let iv ← holding [v, ov] (eval i X.env)
      standAt pos
      holding [v, ov, iv] (setItem ov iv v)
      release [v, ov, iv] []) := by intro _; rfl) : PG X (.Subscript o i pos) (tG w EX (gSubM op mo mi)) := by
  refine PG_imp (pg_sub ho hi hs ha) fun v s H Q hh => ?_
  obtain ⟨M, rho, env, h, x, er, hr, rv, oo⟩ := hh
  refine tM.of er hr (Out.bind oo) fun y h1 M1 rho1 H1 u st1 er1 hr1 o1 ry => ?_
  refine tM.of er1 hr1 (Out.bind o1) fun z h2 M2 rho2 H2 u2 st2 er2 hr2 o2 rz => ?_
  refine ⟨M2, rho2, h2, y, z, x, hr2, ry.step st2 hr1, rz, (rv.step st1 hr).step st2 hr1, (Out.bind o2).imp fun _ h3 M3 rho3 H3 st3 hr3 o3 => ?_⟩
  exact o3.now hr3 _ (er2.step st3 hr2)

def putP (f : Nm) (v : PV) : List (Nm × PV) → List (Nm × PV)
  | [] => [(f, v)]
  | (g, x) :: r => bif g == f then (g, v) :: r else (g, x) :: putP f v r
theorem FRs.len : ∀ {fs : List (Nm × PV)} {gs : List (Str × V)}, FRs w M rho H fs gs → gs.length = fs.length
  | _, _, .nil => rfl
  | _, _, .cons a b => by rw [List.length_cons, List.length_cons, b.len]
/-- o.f = e -/
def mSetF (cs : List Nat) (f : Nm) (mo me : ME) : MS := fun env h => (me env h).bind fun v h1 => (mo env h1).bind fun o h2 => match o with
  | .ref n => match h2[n]? with
    | some (.ins c fs) => bif cs.contains c && decide (fs.length < 1000) then .ok (.nx env) (h2.set n (.ins c (putP f v fs))) else .stuck
    | _ => .stuck
  | _ => .stuck
def mAug (i : Nat) (op : O2) (me : ME) : MS := fun env h => match env[i]? with
  | some (some x) => (me env h).bind fun y h1 => (op h1 x y).bind fun z h2 => .ok (.nx (env.set i (some z))) h2
  | _ => .stuck
/-- a, b, c = x, y, z: plain local names -/
def mPar3 (i j l : Nat) (ma mb mc : ME) : MS := fun env h => (ma env h).bind fun x h1 => (mb env h1).bind fun y h2 => (mc env h2).bind fun z h3 => .ok (.nx (((env.set i (some x)).set j (some y)).set l (some z))) h3
end
end MC

end
section
set_option maxRecDepth 100000
set_option maxHeartbeats 4000000
namespace MC
open PySem PySem.Spec PyProof.Rows L2

def reprD (h : PH) (x : PV) : Option (List Nat) := match toD h DEP x with
  | some d => bif PyData.showable d && (!d.hasDict && (decide (d.depth ≤ 60) && decide (d.shown.length ≤ LIM))) then some d.shown.cps.toList else none
  | none => none
def isRefV : PV → Bool
  | .tup _ => true
  | .scr _ => true
  | .ref _ => true
  | _ => false
def bRepr : OC := fun h xs => match xs with
  | [x] => bif isRefV x then (match reprD h x with
    | some s => .ok (.str s) h
    | none => .stuck) else .stuck
  | _ => .stuck
section
variable {w : Wo} {EX : XC} {X : Cx} {k : Nat} {M : Addr → Prop} {rho : List Addr} {H : Hp} {h : PH}
theorem b_repr {hh : Bool} (C : CxtG hh w k X) : CallR X (.builtin "repr") (rA w EX bRepr) := by
  intro pins s σ H xs us Q I r hh
  obtain ⟨M, rho, h, ps, hr, rs, o⟩ := hh
  unfold bRepr at o
  split at o
  · rename_i x
    obtain ⟨v, rfl, rv⟩ := vrs1 rs
    obtain ⟨u, rfl, ru⟩ := vals1 r
    obtain ⟨hx, o⟩ := Out.bif o
    obtain ⟨a, rfl⟩ : ∃ a, v = .ref a := by
      cases rv <;> first | exact ⟨_, rfl⟩ | exact absurd hx (by simp [isRefV])
    obtain rfl : u = Value.ref a := ru
    unfold reprD at o
    split at o
    · rename_i z ez
      split at ez
      · rename_i d ed
        cases hc : (PyData.showable d && (!d.hasDict && (decide (d.depth ≤ 60) && decide (d.shown.length ≤ LIM)))) with
        | false => rw [hc] at ez; cases ez
        | true =>
          rw [hc] at ez
          cases ez
          simp only [Bool.and_eq_true, decide_eq_true_eq, Bool.not_eq_true'] at hc
          obtain ⟨c1, c2, c3, c4⟩ := hc
          have dp := toD_dp hr _ _ _ _ ed rv
          rw [← C.hK] at dp
          obtain ⟨as, rd⟩ := Dp.reads I d _ _ dp (show RelV (V.ref a) (Value.ref a) from rfl)
          have hu := C.units
          refine repr_of_reads' rd c1 (PyData.noDict_hsm c2) C.grd (by omega) (fun _ _ e => e) (fun h' u tk hk => ?_) (by rw [lim_eq]; exact c4)
          exact ⟨.str d.shown, H, I.kept (t' := tk) hk, ⟨u, rfl⟩, by
            have := o.now hr _ (.str _)
            rw [show (⟨d.shown.cps.toList.toArray⟩ : Str) = d.shown from S_of _] at this
            exact this⟩
      · cases ez
    · exact (show False from o).elim
  · exact (show False from o).elim

def mRev (m : ME) : ME := fun env h => (m env h).bind fun x h1 => match x with
  | .str s => bif decide (s.length ≤ LIM) then .ok (.str s.reverse) h1 else .stuck
  | x => match lstP h1 x with
    | some ys => .ok (.ref h1.length) (h1 ++ [.lst ys.reverse])
    | none => .stuck
theorem VRs.reverse {xs : List PV} {vs : List V} (r : VRs w M rho H xs vs) : VRs w M rho H xs.reverse vs.reverse := by
  induction xs generalizing vs with
  | nil => cases r; exact .nil
  | cons x xs ih =>
    cases r with
    | cons a b =>
      rw [List.reverse_cons, List.reverse_cons]
      exact (ih b).append (.cons a .nil)
end
end MC

end
section
set_option maxRecDepth 100000
set_option maxHeartbeats 4000000
namespace MC
open PySem PySem.Spec PyProof.Rows L2

set_option maxHeartbeats 8000000 in
section
variable {prog : Program} {w : World} {A : Around} {E : Value → Shared → Prop} {s : Shared}
end

/-- the pairs of numbers and items -/
def numbered : Nat → List PV → List PV
  | _, [] => []
  | i, x :: r => .tup [.int i, x] :: numbered (i + 1) r
/-- what must stay of a source -/
def wtOf (ys : List PV) : PV → Wt
  | .ref n => [(n, ys)]
  | _ => []
def miEnum (ma : MA) : MI := fun env h => (ma env h).bind fun xs h1 => match xs with
  | [x] => match seqP h1 x with
    | some ys => .ok (numbered 0 ys, wtOf ys x) h1
    | none => .stuck
  | _ => .stuck
section
variable {w : Wo} {EX : XC} {X : Cx} {k : Nat} {M : Addr → Prop} {rho : List Addr} {H : Hp} {h : PH}
end
end MC

end
section
set_option maxRecDepth 100000
set_option maxHeartbeats 4000000
namespace MC
open PySem PySem.Spec PyProof.Rows L2

def pairs : List PV → List PV → List PV
  | x :: xs, y :: ys => .tup [x, y] :: pairs xs ys
  | _, _ => []
def miZip (ma : MA) : MI := fun env h => (ma env h).bind fun xs h1 => match xs with
  | [x, y] => match x, y with
    | .tup xs, .tup ys => .ok (pairs xs ys, []) h1
    | x, y => match lstP h1 x, lstP h1 y with
      | some xs, some ys => .ok (pairs xs ys, wtOf xs x ++ wtOf ys y) h1
      | _, _ => .stuck
  | _ => .stuck
section
variable {w : Wo} {EX : XC} {X : Cx} {k : Nat} {M : Addr → Prop} {rho : List Addr} {H : Hp} {h : PH}
end
end MC

end
section
set_option maxRecDepth 100000
set_option maxHeartbeats 4000000
namespace MC
open PySem PySem.Spec PyProof.Rows L2

theorem kit_ct {K : PySem.W.Frag} {C : Addr} {T : String} {b : Bool} (h1 : PySem.W.kitMeta T = true) (h3 : PySem.W.subIn K (.ref C) (.type T) = some b) : PySem.W.kitOne K (.ref C) (.type T) = some b := by
  unfold PySem.W.kitOne PySem.W.kitCls
  have e : (Value.ref C == Value.type T) = false := rfl
  simp only [e, h1, h3]
  rfl
theorem kit_cc {K : PySem.W.Frag} {C : Addr} : PySem.W.kitOne K (.ref C) (.ref C) = some true := if_pos (beq_self_eq_true _)
abbrev EXF : XC := fun _ _ _ _ _ _ => False
abbrev exF : XK → XC := fun _ => EXF
/-- a call of a def; a class made and taken over as a value -/
@[reducible] def opF (m : MF) (ix : List Nat) (dp : List PV) : OC := fun h xs => callG takeBack m (gI ix (xs ++ dp)) h
@[reducible] def opC (c : Nat) (m : MF) (ix : List Nat) (dp : List PV) : OC := fun h xs => callG takeFrz (initM c m ix dp) xs h
/-- nothing is tracked but the script and the empty tables at Ps -/
def OnlyP (Ps : List Addr) (H : Hp) : Prop := ∀ b, H b = none ∨ (b ∈ Ps ∧ H b = some (.tbl #[])) ∨ ∃ o xs, H b = some (.frz o (.lst xs))
/-- the law's reading: the script is an unchanging list of ints -/
theorem law_reads {w : Wo} {EX : XC} {m : MF} {H : Hp} {a : Addr} {ns : List Int} {Ps : List Addr} (hO : OnlyP Ps H) (hP : ∀ p ∈ w.T, H p.1 = some (.tbl #[])) (hS : SqL w.K H a (ns.map V.int)) (hm : ∃ h, m [.scr (ns.map PV.int)] [] = .ok (.bl true) h) :
    spM w EX m [.ref a] H fun v _ => v = .bl true := by
  obtain ⟨h, hm⟩ := hm
  have rs : ∀ ns : List Int, VRs w (fun _ => False) [] H (ns.map PV.int) (ns.map V.int) := fun ns => by
    induction ns with
    | nil => exact .nil
    | cons n r ih => exact .cons (.int n) ih
  have hL : ScrL w (fun _ => False) H a (ns.map V.int) := by
    rcases hS with (q | ⟨o, q⟩) | q
    · rcases hO a with z | ⟨_, z⟩ | ⟨o, xs, z⟩ <;> (rw [q] at z; cases z)
    · exact .inr ⟨o, q, fun z => z⟩
    · exact .inl q
  refine ⟨fun _ => False, [], [.scr (ns.map PV.int)], [], .cons (.scr hL (rs ns)) .nil, ⟨rfl, List.nodup_nil, (fun _ z => nomatch z), (fun _ z => z.elim), (fun n o z => by simp at z), fun p hp => ⟨#[], hP p hp, True.intro, fun pos cv hc => ?_⟩⟩, ?_⟩
  · simp [codeAmong] at hc
  rw [hm]
  intro M' rho' H' st hr v rv
  cases rv
  rfl
/-- the law called: cs, the code objects that make lambdas, and their tables -/
theorem law_run {P : Program} {W : World} {K : PySem.W.Frag} {mg mb : Str → Option Value} {k : Nat} {fa a : Addr} {cs : List (Addr × Addr)} {fd : FuncData} {x : Str} {m : MF} {s : Shared} {vs : List Value} {ns : List Int}
    (kin : K.In s.heap) (nsG : s.heap.Ns mainGlobals mg) (nsB : s.heap.Ns builtinsNs mb) (isB : ∀ y : Str, y ≠ "__name__" → mb y = bootBuiltins y) (noL : s.heap.NoLimit) (gen0 : s.gens = #[])
    (atT : ∀ p ∈ cs, s.heap.get? p.2 = some { cls := .none, data := .fields #[] }) (noT : ∀ p ∈ cs, K.lookup p.2 = none) (codes : ∀ p ∈ cs, PySem.W.CodeHd s.heap p.1 p.2)
    (bmT : ∃ (bm : Addr) (ob : Obj), mg "__builtins__" = some (.ref bm) ∧ bm ≠ builtinsNs ∧ s.heap.get? bm = some ob ∧ ob.cls = .type "module" ∧ ob.dict = some builtinsNs ∧ ob.data = .plain)
    (at0 : s.heap.get? a = some { cls := .type "list", data := .seq vs.toArray }) (areI : IntsAre vs ns) (le : ns.length ≤ sizeLine) (room : Room k callerA)
    (F : ∀ base : Heap, K.In base → base.Ns mainGlobals mg → (∀ p ∈ cs, LamX.TabB base mg p.1 p.2) → ∃ w : Wo, w.K = K ∧ (∀ p ∈ w.T, p.1 ∈ cs.map (·.2)) ∧ FnM P W w mg base CX0 exF k fa fd [x] m) (bind : ∀ (s : Shared) (u : Value), BindsTo s fd ⟨[u], []⟩ [(x, u)])
    (hm : ∃ h, m [.scr (ns.map PV.int)] [] = .ok (.bl true) h) :
    codeAny (model P W) callerA (.call (.ref fa) ⟨[.ref a], []⟩) (fun r s' => r = .ok (.ret (.bool true)) ∧ OldK s.heap s'.heap ∧ s'.os = s.os ∧ AllBare s'.gens) s := by
  have vals := vals_ints areI
  have sz := areI.length
  have tabAt : ∀ b ∈ cs.map (·.2), s.heap.get? b = some { cls := .none, data := .fields #[] } := fun b hb => by
    obtain ⟨p, hp, rfl⟩ := List.mem_map.mp hb
    exact atT p hp
  have aNo : a ∉ cs.map (·.2) := fun z => by
    have y := tabAt a z
    rw [at0] at y
    exact Data.noConfusion (congrArg Obj.data (Option.some.inj y) : Data.seq vs.toArray _ = Data.fields #[])
  have main : ∀ H : Hp, (∀ b ∈ cs.map (·.2), H b = some (.tbl #[])) → OnlyP (cs.map (·.2)) H → SqL K H a (ns.map V.int) → HOk P W H s.heap → (∀ b, H b ≠ none → b = a ∨ b ∈ cs.map (·.2)) → (H a ≠ none → K.lookup a = none) →
      codeAny (model P W) callerA (.call (.ref fa) ⟨[.ref a], []⟩) (fun r s' => r = .ok (.ret (.bool true)) ∧ OldK s.heap s'.heap ∧ s'.os = s.os ∧ AllBare s'.gens) s := by
    intro H tabs only sq ok onlyA noK
    have none_of : ∀ {b : Addr} {ob : Obj}, s.heap.get? b = some ob → (∀ z n, ob.data ≠ .seq z n) → ob.data ≠ .fields #[] → H b = none := fun {b ob} e n1 n2 => by
      cases q : H b with
      | none => rfl
      | some u =>
        rcases onlyA b (by rw [q]; exact Option.some_ne_none _) with z | z
        · subst z; rw [at0] at e; cases e; exact absurd rfl (n1 _ _)
        · rw [tabAt b z] at e; cases e; exact absurd rfl n2
    have kept : ∀ {b : Addr} {mm : Str → Option Value}, s.heap.Ns b mm → (hidT s.heap H).Ns b mm := fun {b mm} ⟨ob, es, ep, e, d, r⟩ =>
      ⟨ob, es, ep, hidT_get e (none_of e (fun z n y => by rw [d] at y; cases y) fun y => by rw [d] at y; cases y), d, r⟩
    have inK : K.In (hidT s.heap H) := fun b ob e => hidT_get (kin b ob e) (by
      cases q : H b with
      | none => rfl
      | some u =>
        rcases onlyA b (by rw [q]; exact Option.some_ne_none _) with z | z
        · subst z
          rw [noK (by rw [q]; exact Option.some_ne_none _)] at e
          cases e
        · obtain ⟨p, hp, rfl⟩ := List.mem_map.mp z
          rw [noT p hp] at e
          cases e)
    have tb : ∀ p ∈ cs, LamX.TabB (hidT s.heap H) mg p.1 p.2 := fun p hp => by
      have hpT := atT p hp
      refine ⟨?_, ?_, fun z => ?_⟩
      · obtain ⟨o, us, file, tf, flags, tg, inF, text, tt, e1, r1, r2, r3, r⟩ := codes p hp
        refine ⟨o, us, file, tf, flags, tg, inF, text, tt, hidT_get e1 (none_of e1 (fun z n y => by rw [r2] at y; cases y) fun y => ?_), r1, r2, r3, r⟩
        rw [r2] at y
        cases y
        simp at r3
      · obtain ⟨bm, ob, b1, b2, b3, b4, b5, b6⟩ := bmT
        refine ⟨bm, ob, b1, b2, fun q => ?_, fun q => ?_, hidT_get b3 (none_of b3 (fun z n y => by rw [b6] at y; cases y) fun y => by rw [b6] at y; cases y), b4, b5, b6⟩
        · obtain ⟨o, es, ep, e, hd, _⟩ := nsG
          subst q
          rw [e] at b3
          cases b3
          rw [hd] at b6
          cases b6
        · subst q
          rw [hpT] at b3
          cases b3
          cases b6
      · obtain ⟨o, es, ep, e, hd, _⟩ := nsG
        rw [z, hpT] at e
        cases e
        cases hd
    obtain ⟨w, hw, hT, FM⟩ := F _ inK (kept nsG) tb
    have md : Mod K mg (hidT s.heap H) := ⟨inK, kept nsG, ⟨mb, kept nsB, isB⟩, by obtain ⟨mc, z1, z2⟩ := noL; exact ⟨mc, kept z1, z2⟩⟩
    have env : Env0 P W w.K mg (hidT s.heap H) callerA [] s H := by
      rw [hw]
      exact ⟨rfl, md, fun b ob e => of_hidT e, Nat.le_of_eq (hidT_size _ _), trivial, fun b z => by simp [frs] at z, ok, .of_eq gen0⟩
    refine codeAny_mono (FM.run callerA [] s H ⟨[.ref a], []⟩ [.ref a] [.ref a] (fun v _ => v = .bl true) (fun _ _ _ => False) room rfl env (bind s (.ref a)) (.cons rfl .nil) rfl (law_reads only (fun p hp => tabs _ (hT p hp)) (by rw [hw]; exact sq) hm)) fun r s' q => ?_
    rcases r with e | fl
    · exact (show False from q).elim
    · cases fl <;> try exact (show False from q).elim
      rename_i u
      obtain ⟨v, H', e1, e2, un, ok2, rv, ev⟩ := q
      cases (show v = V.bl true from ev)
      cases (show u = Value.bool true from rv)
      have other : ∀ b ob, b ∉ cs.map (·.2) → s.heap.get? b = some ob → s'.heap.get? b = some ob := fun b ob nb e => by
        rcases only b with z | ⟨z, _⟩ | ⟨o2, xs, z⟩
        · exact un.keep b ob e z (fun y => by simp [frs] at y) (by simp)
        · exact absurd z nb
        · obtain ⟨y1, _⟩ := ok b _ z
          obtain ⟨y2, _⟩ := ok2 b _ (un.frzs b o2 _ z)
          rw [e] at y1
          cases y1
          exact y2
      have grew : ∀ p ∈ cs, ∃ more : Array Value, s'.heap.get? p.2 = some { cls := .none, data := .fields more } := fun p hp => by
        obtain ⟨more, z⟩ := un.tbls p.2 #[] (tabs _ (List.mem_map.mpr ⟨p, hp, rfl⟩))
        exact ⟨_, ok2 p.2 _ z⟩
      refine ⟨rfl, ⟨fun b ob e => ?_, fun b ob e => ?_⟩, e1, e2⟩
      · by_cases hb : b ∈ cs.map (·.2)
        · obtain ⟨p, hp, rfl⟩ := List.mem_map.mp hb
          obtain ⟨more, hmm⟩ := grew p hp
          rw [atT p hp] at e
          cases e
          exact .inr (.inl ⟨((codes p hp).tab (atT p hp)).isCodeTable, rfl, #[], more, rfl, by rw [Array.empty_append]; exact hmm⟩)
        · exact .inl (other b ob hb e)
      · by_cases hb : b ∈ cs.map (·.2)
        · obtain ⟨p, hp, rfl⟩ := List.mem_map.mp hb
          obtain ⟨more, hmm⟩ := grew p hp
          exact ⟨_, hmm⟩
        · exact ⟨ob, other b ob hb e⟩
  rcases hk : K.lookup a with _ | o
  · refine main (fun b => if b = a then some (.frz { cls := .type "list", data := .seq vs.toArray } (.lst (ns.map V.int))) else if b ∈ cs.map (·.2) then some (.tbl #[]) else none) (fun b hb => ?_) (fun b => ?_) (.inl (.inr ⟨_, if_pos rfl⟩)) (fun b u z => ?_) (fun b z => ?_) fun _ => hk
    · exact (if_neg (fun z : b = a => aNo (z ▸ hb))).trans (if_pos hb)
    · by_cases e : b = a
      · exact .inr (.inr ⟨_, _, if_pos e⟩)
      · by_cases e2 : b ∈ cs.map (·.2)
        · exact .inr (.inl ⟨e2, (if_neg e).trans (if_pos e2)⟩)
        · exact .inl ((if_neg e).trans (if_neg e2))
    · by_cases e : b = a
      · cases (if_pos e).symm.trans z
        subst e
        exact ⟨at0, by rw [List.length_map]; exact le, vs, _, vals, at0⟩
      · have z := (if_neg e).symm.trans z
        by_cases e2 : b ∈ cs.map (·.2)
        · cases (if_pos e2).symm.trans z
          exact tabAt b e2
        · cases (if_neg e2).symm.trans z
    · by_cases e : b = a
      · exact .inl e
      · by_cases e2 : b ∈ cs.map (·.2)
        · exact .inr e2
        · exact absurd ((if_neg e).trans (if_neg e2)) z
  · have e := kin a o hk
    rw [at0] at e
    cases e
    refine main (fun b => if b ∈ cs.map (·.2) then some (.tbl #[]) else none) (fun b hb => if_pos hb) (fun b => ?_) (.inr ⟨_, vs.toArray, _, hk, rfl, rfl, rfl, by rw [List.size_toArray, sz]; exact le, by simpa using vals⟩) (fun b u z => ?_) (fun b z => ?_) fun z => absurd (if_neg aNo) z
    · by_cases e2 : b ∈ cs.map (·.2)
      · exact .inr (.inl ⟨e2, if_pos e2⟩)
      · exact .inl (if_neg e2)
    · by_cases e2 : b ∈ cs.map (·.2)
      · cases (if_pos e2).symm.trans z
        exact tabAt b e2
      · cases (if_neg e2).symm.trans z
    · by_cases e2 : b ∈ cs.map (·.2)
      · exact .inr e2
      · exact absurd (if_neg e2) z

/-- the walk: from the law's mirror, true on every script; with tables -/
theorem walkMT {l : PySem.W.OpenLaw} {n k : Nat} {q : Program} {loose : List Str} {XP : (Str → Option Value) → Heap → Prop} {YP : World → Heap → Prop} {d : DefRec} {K : Params → PySem.W.Frag} {x : Str} {m : MF}
    (hn : l.most = some n) (le : n ≤ sizeLine) (hdf : d.params.defaults = []) (room : Room k callerA) (hY : ∀ (W : World) (h : Heap), YP W h → (K W.params).In h)
    (F : ∀ (W : World) (mg : Str → Option Value) (fa : Addr) (h : Heap), YP W h → (K W.params).In h → h.Ns mainGlobals mg → mg d.name = some (.ref fa) →
      ∃ (fd : FuncData) (cs : List (Addr × Addr)), (∀ (s : Shared) (u : Value), BindsTo s fd ⟨[u], []⟩ [(x, u)]) ∧ (∀ p ∈ cs, h.get? p.2 = some (PySem.W.tabObj #[]) ∧ (K W.params).lookup p.2 = none ∧ PySem.W.codeHdIn (K W.params) p.1 p.2 = true) ∧
        ∀ base : Heap, (K W.params).In base → base.Ns mainGlobals mg → (∀ p ∈ cs, LamX.TabB base mg p.1 p.2) → ∃ w : Wo, w.K = K W.params ∧ (∀ p ∈ w.T, p.1 ∈ cs.map (·.2)) ∧ FnM l.prog W w mg base CX0 exF k fa fd [x] m)
    (hm : ∀ ns : List Int, ns.length ≤ n → ∃ h, m [.scr (ns.map PV.int)] [] = .ok (.bl true) h) : PySem.W.WalkO q loose XP YP l.row.toRowW d [] (fun f vs => PySem.call f vs) := by
  refine Att.attach_call hn hdf fun W s0 s1 mg mb fa o pm cd doc a vs ns G Y ho hd hcd hmg hobj areI hlen gen0 => ?_
  obtain ⟨fd, cs, hb, hC, hF⟩ := F W mg fa _ Y (hY W _ Y) G.T.g hmg
  exact law_run (hY W _ Y) G.T.g G.T.b G.T.builtins G.T.nolimit gen0 (fun p hp => (hC p hp).1) (fun p hp => (hC p hp).2.1) (fun p hp => PySem.W.codeHd_of_K (hY W _ Y) (hC p hp).2.2) G.T.bmain hobj areI (Nat.le_trans hlen le) room hF hb (hm ns hlen)
/-- .. without -/
theorem walkM {l : PySem.W.OpenLaw} {n k : Nat} {q : Program} {loose : List Str} {XP : (Str → Option Value) → Heap → Prop} {YP : World → Heap → Prop} {d : DefRec} {K : Params → PySem.W.Frag} {x : Str} {m : MF}
    (hn : l.most = some n) (le : n ≤ sizeLine) (hdf : d.params.defaults = []) (room : Room k callerA) (hY : ∀ (W : World) (h : Heap), YP W h → (K W.params).In h)
    (F : ∀ (W : World) (mg : Str → Option Value) (fa : Addr) (h : Heap), (K W.params).In h → h.Ns mainGlobals mg → mg d.name = some (.ref fa) →
      ∃ fd : FuncData, (∀ (s : Shared) (u : Value), BindsTo s fd ⟨[u], []⟩ [(x, u)]) ∧
        ∀ base : Heap, (K W.params).In base → base.Ns mainGlobals mg → ∃ w : Wo, w.K = K W.params ∧ w.T = [] ∧ FnM l.prog W w mg base CX0 exF k fa fd [x] m)
    (hm : ∀ ns : List Int, ns.length ≤ n → ∃ h, m [.scr (ns.map PV.int)] [] = .ok (.bl true) h) : PySem.W.WalkO q loose XP YP l.row.toRowW d [] (fun f vs => PySem.call f vs) := by
  refine walkMT (x := x) hn le hdf room hY (fun W mg fa h _ h1 h2 h3 => ?_) hm
  obtain ⟨fd, hb, hF⟩ := F W mg fa h h1 h2 h3
  refine ⟨fd, [], hb, fun p hp => (nomatch hp), fun base b1 b2 _ => ?_⟩
  obtain ⟨w, e1, e2, e3⟩ := hF base b1 b2
  exact ⟨w, e1, (fun p hp => by rw [e2] at hp; cases hp), e3⟩
end MC

end
section
set_option maxRecDepth 100000
set_option maxHeartbeats 4000000
namespace MC
open PySem PySem.Spec PyProof.Rows L2

section
variable {w : Wo} {EX : XC} {X : Cx} {k : Nat} {M : Addr → Prop} {rho : List Addr} {H : Hp} {h : PH}
theorem KRs.append : ∀ {as bs : List (PV × PV)} {cs ds : List (Key × V)}, KRs w M rho H as cs → KRs w M rho H bs ds → KRs w M rho H (as ++ bs) (cs ++ ds)
  | _, _, _, _, .nil, s => s
  | _, _, _, _, .cons k r t, s => .cons k r (KRs.append t s)
def mDict0 : ME := fun _ h => .ok (.ref h.length) (h ++ [.dic false []])
/-- the pairs, read one behind the other -/
structure PPm (X : Cx) (w : Wo) (EX : XC) (pos : Pos) (keys : List (Option Expr)) (values : List Expr) (m : MA) : Prop where
  run : ∃ trs : List (TE × TE), PPs X pos keys values trs ∧ ∀ (σ : L2.St) (H : Hp) (Q : List (V × V) → Hp → Prop), tA w EX m σ H (fun vs H1 => ∀ ps : List (V × V), vs = ps.flatMap (fun p => [p.1, p.2]) → Q ps H1) → tPairs trs σ H Q
theorem me_dict0 {pos : Pos} : PE X (.Dict [] [] pos) (tM w EX mDict0) := by
  refine PE.imp pe_dnewK fun σ H Q hh => ?_
  obtain ⟨M, rho, env, h, er, hr, o⟩ := hh
  intro p hp
  have st := Step.alloc (M := M) (rho := rho) (o := .dK []) hp
  have hr1 := hr.alloc hp (po := .dic false []) ⟨[], upd_same, .nil⟩
  have hi : (rho ++ [p])[h.length]? = some p := by
    rw [List.getElem?_append_right (by rw [hr.len]; exact Nat.le_refl _), hr.len, Nat.sub_self]; rfl
  exact o _ _ _ st hr1 _ (.ref hi)

end
end MC

end
section
set_option maxRecDepth 100000
set_option maxHeartbeats 4000000
namespace MC
open PySem PySem.Spec PyProof.Rows L2

section
variable {w : Wo} {EX : XC} {X : Cx} {k n c : Nat} {M : Addr → Prop} {rho : List Addr} {H : Hp} {h : PH}
variable {f A : Addr} {ks : List Str} {op : OC} {m : Nm} {pos apos : Pos} {e o : Expr} {es : List Expr} {kws : List Keyword} {ma mk : MA} {mo : ME} {pl : Sem Bool}
end
end MC

end
section
set_option maxRecDepth 100000
set_option maxHeartbeats 4000000
namespace MC
open PySem PySem.Spec PyProof.Rows L2

section
variable {w : Wo} {X : Cx} {k n : Nat} {f : Addr} {fd : FuncData} {ps : List Str} {m : MF} {ix : List Nat} {M : Addr → Prop} {rho : List Addr} {h : PH} {pins : List (Addr × Obj)} {σ : L2.St} {H : Hp} {s : Shared}
end
end MC

end
section
set_option maxRecDepth 100000
set_option maxHeartbeats 4000000
namespace MC
open PySem PySem.Spec PyProof.Rows L2

section
variable {w : Wo} {EX : XC} {X : Cx} {k : Nat} {M : Addr → Prop} {rho : List Addr} {H : Hp} {h : PH}
end
end MC

end
section
set_option maxRecDepth 100000
set_option maxHeartbeats 4000000
namespace MC
open PySem PySem.Spec PyProof.Rows L2

/-- a class's own special method -/
structure SpM (P : Program) (W : World) (w : Wo) (mg : Str → Option Value) (base : Heap) (c : Nat) (nm : Str) (k n : Nat) (m : MF) (ix : List Nat) : Prop where
  ex : ∃ A f fd ps, w.cl c = some A ∧ PySem.W.findIn w.K (.ref A) nm = some (some (.ref f)) ∧ PySem.W.isFn w.K (.ref f) = true ∧ FnM P W w mg base CX0 exF k f fd ps m ∧ Bd w.K fd ps [] n [] ix
section
variable {w : Wo} {EX : XC} {X : Cx} {k c : Nat} {m : MF} {ix : List Nat} {M : Addr → Prop} {rho : List Addr} {H : Hp} {h : PH}
variable {n : Nat} {f A : Addr} {op : OC} {m : Nm} {pos apos : Pos} {e o : Expr} {es : List Expr} {ks : List Str} {kws : List Keyword} {ma mk : MA} {mo : ME} {pl : Sem Bool}
end
end MC

end
section
set_option maxRecDepth 100000
set_option maxHeartbeats 4000000
namespace MC
open PySem PySem.Spec PyProof.Rows L2

def findT (s : List Nat) : List (List Nat × PV) → Option PV
  | [] => none
  | (k, v) :: r => bif k == s then some v else findT s r
/-- the i-th global is a written dict with these rows -/
structure KTab (w : Wo) (W : World) (i : Nat) (rows : List (List Nat × PV)) : Prop where
  ex : ∃ d es n, w.gv i = some (.ref d) ∧ KDict w.K W d es n ∧ ∀ s : List Nat, (findT s rows = none ∧ PySem.W.nsIn w.K d ⟨s.toArray⟩ = some none) ∨
    ∃ y u v, findT s rows = some y ∧ PySem.W.nsIn w.K d ⟨s.toArray⟩ = some (some u) ∧ RelV v u ∧ ∀ M rho H, VR w M rho H y v
section
variable {w : Wo} {EX : XC} {X : Cx} {k : Nat} {rows : List (List Nat × PV)} {i : Nat}
end
/-- the globals by number -/
def gvOf (l : List (Nat × Addr)) : Nat → Option V := fun i => (l.lookup i).map V.ref
theorem gvn_of {l : List (Nat × Addr)} : ∀ i v, gvOf l i = some v → v ≠ .non := fun i v e => by
  unfold gvOf at e
  obtain ⟨a, _, rfl⟩ := Option.map_eq_some_iff.mp e
  exact fun z => nomatch z
inductive RowsOk (w : Wo) : List (Int × Str × Tok × Value) → List (List Nat × PV) → Prop
  | nil : RowsOk w [] []
  | cons {h : Int} {z : Str} {t : Tok} {u : Value} {k : List Nat} {y : PV} {v : V} {r r'} : z = ⟨k.toArray⟩ → RelV v u → (∀ M rho H, VR w M rho H y v) → RowsOk w r r' → RowsOk w ((h, z, t, u) :: r) ((k, y) :: r')
end MC

end
section
set_option maxRecDepth 100000
set_option maxHeartbeats 4000000
namespace MC
open PySem PySem.Spec PyProof.Rows L2

def strI (i : Int) : List Nat := (Str.ofString (toString i)).cps.toList
theorem strI_eq (i : Int) : (⟨(strI i).toArray⟩ : Str) = Str.ofString (toString i) := by unfold strI; simp
def bigI : Nat := 1920
def fitI (i : Int) : Bool := decide (i.natAbs.log2 < bigI)
section
variable {w : Wo} {EX : XC} {X : Cx} {k : Nat} {M : Addr → Prop} {rho : List Addr} {H : Hp} {h : PH}
end
end MC

end
section
set_option maxRecDepth 100000
set_option maxHeartbeats 4000000
namespace MC
open PySem PySem.Spec PyProof.Rows L2 SkE
def trueT : List Nat := [84, 114, 117, 101]
def falseT : List Nat := [70, 97, 108, 115, 101]
def noneT : List Nat := [78, 111, 110, 101]
def reprS (s : List Nat) : List Nat := (reprText (S s)).cps.toList
def bReprA : OC := fun h xs => match xs with
  | [.non] => .ok (.str noneT) h
  | [.bl b] => .ok (.str (bif b then trueT else falseT)) h
  | [.int i] => bif fitI i then .ok (.str (strI i)) h else .stuck
  | [.str s] => bif decide ((reprText (S s)).length ≤ LIM) then .ok (.str (reprS s)) h else .stuck
  | _ => bRepr h xs
section
variable {w : Wo} {EX : XC} {X : Cx} {k : Nat} {M : Addr → Prop} {rho : List Addr} {H : Hp} {h : PH}
theorem b_reprA {hh : Bool} (C : CxtG hh w k X) : CallR X (.builtin "repr") (rA w EX bReprA) := by
  intro pins s σ H xs us Q I r hh
  obtain ⟨M, rho, h, ps, hr, rs, o⟩ := hh
  unfold bReprA at o
  split at o
  · obtain ⟨v, rfl, rv⟩ := vrs1 rs
    cases rv
    obtain ⟨u, rfl, ru⟩ := vals1 r
    obtain rfl : u = Value.none := ru
    exact PySem.P.repr_of_none ⟨.str _, H, I.tok _, ⟨_, rfl⟩, o.now hr _ (.str noneT)⟩
  · rename_i b
    obtain ⟨v, rfl, rv⟩ := vrs1 rs
    cases rv
    obtain ⟨u, rfl, ru⟩ := vals1 r
    obtain rfl : u = Value.bool b := ru
    refine PySem.P.repr_of_bool ⟨.str _, H, I.tok _, ⟨_, rfl⟩, ?_⟩
    have := o.now hr _ (.str (bif b then trueT else falseT))
    cases b <;> exact this
  · rename_i i
    obtain ⟨v, rfl, rv⟩ := vrs1 rs
    cases rv
    obtain ⟨hf, o⟩ := Out.bif o
    obtain ⟨u, rfl, t, rfl⟩ := vals1 r
    exact PySem.P.repr_of_int (of_decide_eq_true hf) ⟨.str _, H, I.tok _, ⟨_, rfl⟩, o.now hr _ (by rw [← strI_eq]; exact .str _)⟩
  · rename_i z
    obtain ⟨v, rfl, rv⟩ := vrs1 rs
    cases rv
    obtain ⟨hf, o⟩ := Out.bif o
    obtain ⟨u, rfl, t, rfl⟩ := vals1 r
    refine PySem.P.repr_of_str ⟨.str _, H, I.tok _, ⟨_, rfl⟩, ?_⟩ (by rw [lim_eq]; exact of_decide_eq_true hf)
    have := o.now hr _ (.str (reprS z))
    unfold reprS at this
    rw [show (⟨(reprText (S z)).cps.toList.toArray⟩ : Str) = reprText (S z) from S_of _] at this
    exact this
  · exact b_repr C pins s σ H xs us Q I r ⟨M, rho, h, ps, hr, rs, o⟩
end
end MC

end
section
set_option maxRecDepth 100000
set_option maxHeartbeats 4000000
namespace MC
open PySem PySem.Spec PyProof.Rows L2
open PySem.W (Looks)
section
variable {w : Wo} {EX : XC} {X : Cx} {k c : Nat} {m : MF} {ix : List Nat} {M : Addr → Prop} {rho : List Addr} {H : Hp} {h : PH} {tb cs : List (Nat × Bool)}
end
end MC

end
section
set_option maxRecDepth 100000
set_option maxHeartbeats 4000000
namespace PySem.W
open PySem PySem.Calls PyProof.Rows Builtin Builtin.ObjectAttr Builtin.Getset_descriptor
section
variable {prog : Program} {w : World} {A : Around} {E : Value → Shared → Prop} {h₀ h : Heap} {g : Array GenState} {d : Drawn} {t : Nat} {os : OsState} {K : Frag} {x C L f : Addr} {m : Str → Option Value} {ox : Obj} {od : Option Obj} {y tb : Value}
end
end PySem.W
namespace MC
open PySem PySem.Spec PyProof.Rows L2
section
variable {w : Wo} {EX : XC} {X : Cx} {k c : Nat} {m : MF} {ix : List Nat}
end
end MC

end
section
set_option maxRecDepth 100000
set_option maxHeartbeats 4000000
namespace PySem.W
open PySem PySem.Calls PyProof.Rows Builtin Builtin.ObjectAttr Builtin.Getset_descriptor
section
variable {prog : Program} {w : World} {A : Around} {E : Value → Shared → Prop} {s : Shared} {K : Frag} {x C L f : Addr} {h₀ : Heap} {m : Str → Option Value} {ox : Obj} {od : Option Obj}
end
end PySem.W
namespace MC
open PySem PySem.Spec PyProof.Rows L2
section
variable {w : Wo} {EX : XC} {X : Cx} {k c : Nat} {m : MF} {ix : List Nat} {M : Addr → Prop} {rho : List Addr} {H : Hp} {h : PH}
end
end MC

end
section
set_option maxRecDepth 100000
set_option maxHeartbeats 4000000
namespace MC
open PySem PySem.Spec PyProof.Rows L2

def eqK (a b : PV) : Bool := match nkP a, nkP b with
  | some x, some y => decide (x = y)
  | _, _ => false
section
variable {w : Wo} {EX : XC} {X : Cx} {k : Nat} {M : Addr → Prop} {rho : List Addr} {H : Hp} {h : PH} {pins : List (Addr × Obj)} {σ : L2.St} {s : Shared}
mutual
theorem VR.nested (I : Inv X pins σ H s) (hK : X.K = w.K) : ∀ {x : PV} {v : V} {nk : NestedKey} {u : Value}, VR w M rho H x v → nkP x = some nk → RelV v u → NestedIs s.heap nk u
  | _, _, _, _, .non, e, r => by cases e; cases r; exact .none
  | _, _, _, _, .bl b, e, r => by cases e; cases r; exact .bool rfl
  | _, _, _, _, .int i, e, r => by cases e; obtain ⟨t, rfl⟩ := r; exact .int _ _
  | _, _, _, _, .str i, e, r => by cases e; obtain ⟨t, rfl⟩ := r; exact .text _ _
  | _, _, _, _, .tup (xs := xs) q s, e, r => by
    cases r
    unfold nkP at e
    cases e1 : nkPs xs with
    | none => rw [e1] at e; cases e
    | some ks =>
      rw [e1] at e; cases e
      rw [← hK] at q
      obtain ⟨its, rv, p, hz⟩ := I.tuple q
      obtain ⟨o, h1, h2, n, h3⟩ := p
      exact .tup h1 h2 h3 (by simpa using VRs.nested I hK s e1 rv)
  | _, _, _, _, .scr _ _, e, r => by cases e
  | _, _, _, _, .rdic _ _ _, e, r => by cases e
  | _, _, _, _, .ins _ _ _ _, e, r => by cases e
  | _, _, _, _, .ref _, e, r => by cases e
  | _, _, _, _, .gl _, e, r => by cases e
  | _, _, _, _, .exn _ _ _ _ _ _ _, e, r => by cases e
  | _, _, _, _, .exv _ _ _ _ _ _, e, r => by cases e
theorem VRs.nested (I : Inv X pins σ H s) (hK : X.K = w.K) : ∀ {x : List PV} {v : List V} {nk : List NestedKey} {u : List Value}, VRs w M rho H x v → nkPs x = some nk → Vals v u → NestedAll s.heap nk u
  | _, _, _, _, .nil, e, r => by cases e; cases r; exact .nil
  | _, _, _, _, .cons (x := x) (xs := xs) a b, e, r => by
    unfold nkPs at e
    cases e1 : nkP x with
    | none => rw [e1] at e; cases e
    | some y =>
      cases e2 : nkPs xs with
      | none => rw [e1, e2] at e; cases e
      | some ys =>
        rw [e1, e2] at e; cases e
        cases r with
        | cons r1 r2 => exact .cons (VR.nested I hK a e1 r1) (VRs.nested I hK b e2 r2)
end
end

section
variable {w : Wo} {EX : XC} {X : Cx} {k : Nat} {M : Addr → Prop} {rho : List Addr} {H : Hp} {h : PH} {pins : List (Addr × Obj)} {σ : L2.St} {s : Shared}
end
end MC

end
section
set_option maxRecDepth 100000
set_option maxHeartbeats 4000000
namespace MC
open PySem PySem.Spec PyProof.Rows L2

section
variable {w : Wo} {EX : XC} {X : Cx} {k : Nat} {M : Addr → Prop} {rho : List Addr} {H : Hp} {h : PH} {pins : List (Addr × Obj)} {σ : L2.St} {s : Shared}
end

section
variable {P : Program} {w : World} {K : PySem.W.Frag} {tg : Expr} {d : Addr} {o : Obj} {es : Array DictEntry} {ep : Nat} {X : Cx} {pins : List (Addr × Obj)} {σ : L2.St} {H : Hp} {s : Shared}
end
section
variable {w : Wo} {EX : XC} {X : Cx} {k : Nat} {M : Addr → Prop} {rho : List Addr} {H : Hp} {h : PH} {pins : List (Addr × Obj)} {σ : L2.St} {s : Shared}
theorem TRs.at : ∀ {kvs : List (PV × PV)} {xs : List (NestedKey × Addr × Value)}, TRs w M rho H kvs xs → ∀ {i : Nat} {q : NestedKey × Addr × Value}, xs[i]? = some q → ∃ p x, kvs[i]? = some (p, x) ∧ nkP p = some q.1 ∧ q.1.depth ≤ 8 ∧ VR w M rho H p (.ref q.2.1) ∧ ∃ v, RelV v q.2.2 ∧ VR w M rho H x v
  | _, _, .nil, i, q, e => by simp at e
  | _, _, .cons h1 h2 h3 h4 h5 h6, i, q, e => by
    cases i with
    | zero => simp at e; subst e; exact ⟨_, _, rfl, h1, h2, h3, _, h5, h4⟩
    | succ i => simpa using TRs.at h6 (i := i) (q := q) (by simpa using e)
/-- values of the entries -/
theorem TRs.vals : ∀ {kvs : List (PV × PV)} {xs : List (NestedKey × Addr × Value)}, TRs w M rho H kvs xs → ∃ vs : List V, (∀ (i : Nat) q, xs[i]? = some q → ∃ v, vs[i]? = some v ∧ RelV v q.2.2) ∧ VRs w M rho H (kvs.map (·.2)) vs
  | _, _, .nil => ⟨[], (fun i q e => by simp at e), .nil⟩
  | _, _, .cons (v := v) h1 h2 h3 h4 h5 h6 => by
    obtain ⟨vs, g, r⟩ := TRs.vals h6
    refine ⟨v :: vs, fun i q e => ?_, .cons h4 r⟩
    cases i with
    | zero => simp at e; subst e; exact ⟨v, rfl, h5⟩
    | succ i => simpa using g i q (by simpa using e)
end
end MC

end
section
set_option maxRecDepth 100000
set_option maxHeartbeats 4000000
namespace MC
open PySem PySem.Spec PyProof.Rows L2

section
variable {P : Program} {w : World} {A : Around} {E : Value → Shared → Prop} {s : Shared}
end

section
variable {w : Wo} {EX : XC} {X : Cx} {k : Nat}
end
end MC

end
section
set_option maxRecDepth 100000
set_option maxHeartbeats 4000000
namespace MC
open PySem PySem.Spec PyProof.Rows L2

section
variable {w : Wo} {EX : XC} {X : Cx} {k : Nat} {M : Addr → Prop} {rho : List Addr} {H : Hp} {h : PH}
end

section
variable {w : Wo} {EX : XC} {X : Cx} {k : Nat} {M : Addr → Prop} {rho : List Addr} {H : Hp} {h : PH} {pins : List (Addr × Obj)} {σ : L2.St} {s : Shared}
end
end MC

end
section
set_option maxRecDepth 100000
set_option maxHeartbeats 4000000
namespace MC
open PySem PySem.Spec PyProof.Rows L2

section
variable {w : Wo} {EX : XC} {X : Cx} {k : Nat} {M : Addr → Prop} {rho : List Addr} {H : Hp} {h : PH} {pins : List (Addr × Obj)} {σ : L2.St} {s : Shared}
theorem TRs.keys : ∀ {kvs : List (PV × PV)} {xs : List (NestedKey × Addr × Value)}, TRs w M rho H kvs xs → VRs w M rho H (kvs.map (·.1)) (xs.map fun x => V.ref x.2.1)
  | _, _, .nil => .nil
  | _, _, .cons _ _ h3 _ _ h6 => .cons h3 (TRs.keys h6)
end
end MC

end
section
set_option maxRecDepth 100000
set_option maxHeartbeats 4000000
namespace MC
open PySem PySem.Spec PyProof.Rows L2

abbrev IsZipF (h : Heap) (z TI TO : Addr) (f0 : Value) (f : Bool) : Prop :=
  h.get? z = some { cls := .type "zip", dict := none, data := .fields #[f0, .bool f, .bool false, .ref TI, .ref TO], slots := #[] }
def ZF (f0 : Value) : Prop := f0 = .none ∨ ∃ T : Nat, f0 = rawInt T
section
variable {prog : Program} {w : World} {A : Around} {E : Value → Shared → Prop} {s : Shared} {z TI TO i1 i2 : Addr} {fp1 fp2 : List Addr} {n1 n2 i : Nat} {P1 P2 : Nat → Value → Prop} {St1 St2 : Nat → Heap → Prop} {a1 a2 f0 : Value} {f : Bool}
/-- behind a turn -/
structure ZGo (s : Shared) (z TI TO i1 i2 : Addr) (St1 St2 : Nat → Heap → Prop) (i : Nat) (x1 x2 : Value) (h' : Heap) : Prop where
  zz : ∃ f0 f, ZF f0 ∧ IsZipF h' z TI TO f0 f
  to : ∃ b1 b2, IsTupOf2 h' TO b1 b2
  s1 : St1 (i + 1) h'
  s2 : St2 (i + 1) h'
  new : IsTupOf2 h' s.heap.objs.size x1 x2
  kept : ∀ c o, c ≠ z → c ≠ TO → c ≠ i1 → c ≠ i2 → s.heap.get? c = some o → h'.get? c = some o
end
section
variable {P : Program} {w : World} {K : PySem.W.Frag} {z TI TO i1 i2 : Addr} {x y : Str} {t u : Tok} {nm : Str} {tpos : Pos}
end
section
variable {w : Wo} {EX : XC} {X : Cx} {k : Nat} {M : Addr → Prop} {rho : List Addr} {H : Hp} {h : PH}
end
end MC

end
section
set_option maxRecDepth 100000
set_option maxHeartbeats 4000000
namespace MC
open PySem PySem.Spec PyProof.Rows L2
section
variable {prog : Program} {w : World} {A : Around} {E : Value → Shared → Prop} {s : Shared}
end
section
variable {w : Wo} {EX : XC} {X : Cx} {k : Nat} {M : Addr → Prop} {rho : List Addr} {H : Hp} {h : PH} {pins : List (Addr × Obj)} {σ : L2.St} {s : Shared}
end
end MC

end
section
set_option maxRecDepth 100000
set_option maxHeartbeats 4000000
namespace MC
open PySem PySem.Spec PyProof.Rows L2
section
open HT
variable {prog : Program} {w : World} {A : Around} {E : Value → Shared → Prop} {s : Shared}
end
section
variable {w : Wo} {EX : XC} {X : Cx} {k : Nat} {M : Addr → Prop} {rho : List Addr} {H : Hp} {h : PH}
end
end MC

end
section
set_option maxRecDepth 100000
set_option maxHeartbeats 4000000
namespace MC
open PySem PySem.Spec PyProof.Rows L2
section
variable {w : Wo} {EX : XC} {X : Cx} {k : Nat}
end
end MC

end
section
set_option maxRecDepth 100000
namespace MM
open PySem L2 MC
end MM

end
section
set_option maxRecDepth 100000
set_option maxHeartbeats 4000000
namespace MC
open PySem PySem.Spec PyProof.Rows L2
section
variable {w : Wo} {EX : XC} {X : Cx} {k : Nat} {pos : Pos}
end
end MC

end
section
set_option maxRecDepth 100000
set_option maxHeartbeats 4000000
namespace MC
open PySem PySem.Spec PyProof.Rows L2
open PySem.W (EachIs)
section
variable {w : Wo} {EX : XC} {X : Cx} {k : Nat} {M : Addr → Prop} {rho : List Addr} {H : Hp} {h : PH}
end
end MC

end
section
set_option maxRecDepth 100000
set_option maxHeartbeats 4000000
namespace MC
open PySem PySem.Spec PyProof.Rows L2
section
variable {w : Wo} {EX : XC} {X : Cx} {k : Nat}
end
end MC

end
section
set_option maxRecDepth 100000
set_option maxHeartbeats 4000000
namespace MC
open PySem PySem.Spec PyProof.Rows L2
section
variable {w : Wo} {EX : XC} {X : Cx} {k : Nat} {M : Addr → Prop} {rho : List Addr} {H : Hp} {h : PH}
end
end MC

end
section
set_option maxRecDepth 100000
namespace MM
open PySem L2 MC
end MM

end
section
set_option maxRecDepth 100000
namespace MM
open PySem L2 MC
end MM

end
section
set_option maxRecDepth 100000
set_option maxHeartbeats 4000000
namespace MC
open PySem PySem.Spec PyProof.Rows L2

section
variable {w : Wo} {EX : XC} {X : Cx} {k : Nat} {M : Addr → Prop} {rho : List Addr} {H : Hp} {h : PH} {pins : List (Addr × Obj)} {σ : L2.St} {s : Shared}
end

section
variable {K : Type} [DecidableEq K] {prog : Program} {w : World} {knd : HeapKind prog w K}
end
def dropT (x : PV) (kvs : List (PV × PV)) : List (PV × PV) := kvs.filter fun p => !eqK p.1 x
section
variable {w : Wo} {EX : XC} {X : Cx} {k : Nat} {M : Addr → Prop} {rho : List Addr} {H : Hp} {h : PH} {pins : List (Addr × Obj)} {σ : L2.St} {s : Shared}
theorem TRs.drop {q : PV} {nk : NestedKey} (hq : nkP q = some nk) {kvs : List (PV × PV)} {xs : List (NestedKey × Addr × Value)} (r : TRs w M rho H kvs xs) : TRs w M rho H (dropT q kvs) (DT.dropH xs nk) := by
  induction r with
  | nil => exact .nil
  | @cons kk y nk' a' u' v' fs gs h1 h2 h3 h4 h5 h6 ih =>
    have e : eqK kk q = decide (nk' = nk) := by unfold eqK; rw [h1, hq]
    by_cases z : nk' = nk
    · have z1 : dropT q ((kk, y) :: fs) = dropT q fs := List.filter_cons_of_neg (by simp [e, z])
      have z2 : DT.dropH ((nk', a', u') :: gs) nk = DT.dropH gs nk := List.filter_cons_of_neg (by simp [z])
      rw [z1, z2]; exact ih
    · have z1 : dropT q ((kk, y) :: fs) = (kk, y) :: dropT q fs := List.filter_cons_of_pos (by simp [e, z])
      have z2 : DT.dropH ((nk', a', u') :: gs) nk = (nk', a', u') :: DT.dropH gs nk := List.filter_cons_of_pos (by simp [z])
      rw [z1, z2]; exact .cons h1 h2 h3 h4 h5 ih
end
end MC

end
section
set_option maxRecDepth 100000
set_option maxHeartbeats 4000000
namespace MC
open PySem PySem.Spec PyProof.Rows L2
section
variable {w : Wo} {EX : XC} {X : Cx} {k : Nat} {M : Addr → Prop} {rho : List Addr} {H : Hp} {h : PH}
end
end MC

end
section
set_option maxRecDepth 100000
set_option maxHeartbeats 4000000
namespace MC
open PySem PySem.Spec PyProof.Rows L2
section
variable {w : Wo} {EX : XC} {X : Cx} {k : Nat} {M : Addr → Prop} {rho : List Addr} {H : Hp} {h : PH} {pins : List (Addr × Obj)} {σ : L2.St} {s : Shared}
end
end MC

end
section
set_option maxRecDepth 100000
set_option maxHeartbeats 4000000
namespace MC
open PySem PySem.Spec PyProof.Rows L2

section
variable {w : Wo} {M : Addr → Prop} {rho : List Addr} {H : Hp} {h : PH} {a : Addr} {od : Obj} {φ : Heap → Prop} {u : HO}
theorem sqT_thaw (e : H a = some (.frz od (.ext φ))) {K : PySem.W.Frag} {b : Addr} {vs : List V} (q : SqT K H b vs) : SqT K (upd H a u) b vs := by
  rcases q with (q | ⟨o, q⟩) | q
  · refine .inl (.inl ?_)
    rw [upd_ne]
    · exact q
    · rintro rfl; rw [e] at q; cases q
  · refine .inl (.inr ⟨o, ?_⟩)
    rw [upd_ne]
    · exact q
    · rintro rfl; rw [e] at q; cases q
  · exact .inr q
theorem scrL_thaw (e : H a = some (.frz od (.ext φ))) {b : Addr} {vs : List V} (q : ScrL w M H b vs) : ScrL w M (upd H a u) b vs := by
  rcases q with q | ⟨o, q, n⟩
  · exact .inl q
  · refine .inr ⟨o, ?_, n⟩
    rw [upd_ne]
    · exact q
    · rintro rfl; rw [e] at q; cases q
mutual
theorem VR.thaw (e : H a = some (.frz od (.ext φ))) : ∀ {x : PV} {v : V}, VR w M rho H x v → VR w M rho (upd H a u) x v
  | _, _, .non => .non
  | _, _, .bl b => .bl b
  | _, _, .int i => .int i
  | _, _, .str s => .str s
  | _, _, .tup q s => .tup (sqT_thaw e q) (VRs.thaw e s)
  | _, _, .scr q s => .scr (scrL_thaw e q) (VRs.thaw e s)
  | _, _, .rdic (a := b) q n s => .rdic (by
      rw [upd_ne]
      · exact q
      · rintro rfl; rw [e] at q; cases q) n (KRs.thaw e s)
  | _, _, .ins (a := b) c q n s => .ins c (by
      rw [upd_ne]
      · exact q
      · rintro rfl; rw [e] at q; cases q) n (FRs.thaw e s)
  | _, _, .ref e1 => .ref e1
  | _, _, .gl e1 => .gl e1
  | _, _, .exn e1 e2 e3 e4 e5 e6 s => .exn e1 e2 e3 e4 (fun x hx => by
      have y := (e5 x hx).1
      refine ⟨?_, (e5 x hx).2⟩
      rw [upd_ne]
      · exact y
      · rintro rfl
        rw [e] at y; cases y) e6 (FRs.thaw e s)
  | _, _, .exv (a := b) e1 e2 e3 e4 e5 s => .exv (by
      rw [upd_ne]
      · exact e1
      · rintro rfl; rw [e] at e1; exact HO.noConfusion (show HO.frz od (.ext φ) = HO.ext _ from Option.some.inj e1)) e2 e3 (fun x hx => by
      have y := (e4 x hx).1
      refine ⟨?_, (e4 x hx).2⟩
      rw [upd_ne]
      · exact y
      · rintro rfl
        rw [e] at y; exact HO.noConfusion (show HO.frz od (.ext φ) = HO.ext _ from Option.some.inj y)) e5 (FRs.thaw e s)
theorem VRs.thaw (e : H a = some (.frz od (.ext φ))) : ∀ {xs : List PV} {vs : List V}, VRs w M rho H xs vs → VRs w M rho (upd H a u) xs vs
  | _, _, .nil => .nil
  | _, _, .cons p q => .cons (VR.thaw e p) (VRs.thaw e q)
theorem FRs.thaw (e : H a = some (.frz od (.ext φ))) : ∀ {fs : List (Nm × PV)} {gs : List (Str × V)}, FRs w M rho H fs gs → FRs w M rho (upd H a u) fs gs
  | _, _, .nil => .nil
  | _, _, .cons p q => .cons (VR.thaw e p) (FRs.thaw e q)
theorem KRs.thaw (e : H a = some (.frz od (.ext φ))) : ∀ {fs : List (PV × PV)} {gs : List (Key × V)}, KRs w M rho H fs gs → KRs w M rho (upd H a u) fs gs
  | _, _, .nil => .nil
  | _, _, .cons k p q => .cons k (VR.thaw e p) (KRs.thaw e q)
end
theorem TRs.thaw (e : H a = some (.frz od (.ext φ))) : ∀ {fs : List (PV × PV)} {gs : List (NestedKey × Addr × Value)}, TRs w M rho H fs gs → TRs w M rho (upd H a u) fs gs
  | _, _, .nil => .nil
  | _, _, .cons k d p q c r => .cons k d (p.thaw e) (q.thaw e) c (TRs.thaw e r)
theorem ER.thaw (e : H a = some (.frz od (.ext φ))) : ∀ {es : List (Option PV)} {s : Sl}, ER w M rho H es s → ER w M rho (upd H a u) es s
  | _, _, .nil => .nil
  | _, _, .has p q => .has (p.thaw e) (ER.thaw e q)
  | _, _, .no q => .no (ER.thaw e q)
theorem or_thaw (e : H a = some (.frz od (.ext φ))) {b : Addr} (n : b ≠ a) {o : PO} (q : OR w M rho H b o) : OR w M rho (upd H a u) b o := by
  have e1 : (upd H a u) b = H b := upd_ne n
  cases o with
  | lst xs => obtain ⟨vs, p, s⟩ := q; exact ⟨vs, e1.trans p, s.thaw e⟩
  | ins c fs => obtain ⟨C, dx, gs, p1, p, s⟩ := q; exact ⟨C, dx, gs, p1, e1.trans p, s.thaw e⟩
  | dic lk kvs =>
    obtain ⟨ks, p, s⟩ := q
    refine ⟨ks, ?_, s.thaw e⟩
    cases lk with
    | false => exact e1.trans p
    | true => obtain ⟨o, p⟩ := p; exact ⟨o, e1.trans p⟩
  | dit lk kvs =>
    obtain ⟨ks, p, z1, z2, z3, s⟩ := q
    refine ⟨ks, ?_, z1, z2, z3, s.thaw e⟩
    cases lk with
    | false => exact e1.trans p
    | true => obtain ⟨o, p⟩ := p; exact ⟨o, e1.trans p⟩
theorem HR.thaw (r : HR w M rho H h) (e : H a = some (.frz od (.ext φ))) {n : Nat} (ha : rho[n]? = some a) {po : PO} (q : OR w M rho (upd H a u) a po) : HR w M rho (upd H a u) (h.set n po) where
  len := by rw [List.length_set]; exact r.len
  nd := r.nd
  mem := r.mem
  live := fun b hb => by
    by_cases z : b = a
    · subst z; rw [upd_same]; exact Option.some_ne_none _
    · rw [upd_ne z]; exact r.live b hb
  ob := fun i o z => by
    by_cases hi : i = n
    · subst hi
      have hl : i < h.length := by
        have := (List.getElem?_eq_some_iff.mp z).1
        rwa [List.length_set] at this
      rw [List.getElem?_set_self hl] at z
      cases z
      exact ⟨a, ha, q⟩
    · rw [List.getElem?_set_ne (Ne.symm hi)] at z
      obtain ⟨b, hb, s⟩ := r.ob i o z
      refine ⟨b, hb, or_thaw e ?_ s⟩
      rintro rfl
      obtain ⟨h1, e1⟩ := List.getElem?_eq_some_iff.mp hb
      obtain ⟨h2, e2⟩ := List.getElem?_eq_some_iff.mp ha
      exact hi ((List.getElem_inj r.nd).mp (e1.trans e2.symm))
  tabs := fun p hp => by
    obtain ⟨ps, h1, h2, h3⟩ := r.tabs p hp
    refine ⟨ps, ?_, h2, fun pos cv hc => ?_⟩
    · rw [upd_ne]
      · exact h1
      · intro z; rw [z, e] at h1; cases h1
    · obtain ⟨c, y1, y2, y3⟩ := h3 pos cv hc
      refine ⟨c, y1, ?_, y3⟩
      rw [upd_ne]
      · exact y2
      · intro z; rw [z, e] at y2; cases y2
theorem Step.thaw {M2 : Addr → Prop} {rho2 : List Addr} {H2 : Hp} (st : Step M rho H M2 rho2 H2) {n : Nat} (ha : rho[n]? = some a) (nf : ∀ p v, H a ≠ some (.frz p v)) : Step M rho H M2 rho2 (upd H2 a u) where
  ext := st.ext
  mono := st.mono
  fresh := st.fresh
  new := st.new
  frame := fun b o nb q nt => by
    rw [upd_ne]
    · exact st.frame b o nb q nt
    · rintro rfl; exact nb (List.mem_of_getElem? ha)
  there := fun b q => by
    by_cases z : b = a
    · subst z; rw [upd_same]; exact Option.some_ne_none _
    · rw [upd_ne z]; exact st.there b q
  frz := fun b p v q => by
    rw [upd_ne]
    · exact st.frz b p v q
    · rintro rfl; exact nf p v q
end

section
variable {w : Wo} {EX : XC} {X : Cx} {k : Nat}
end
end MC

end
section
set_option maxRecDepth 100000
set_option maxHeartbeats 4000000
namespace MC
open PySem PySem.Spec PyProof.Rows L2
section
variable {w : Wo} {EX : XC} {X : Cx} {k : Nat} {M : Addr → Prop} {rho : List Addr} {H : Hp} {h : PH}
end
end MC

end
section
set_option maxRecDepth 100000
namespace MM
open PySem L2 MC
end MM

end
section
set_option maxRecDepth 100000
set_option maxHeartbeats 4000000
namespace MC
open PySem PySem.Spec PyProof.Rows L2
section
variable {w : Wo} {EX : XC} {X : Cx} {k : Nat}
end
end MC

end
section
set_option maxRecDepth 100000
namespace MM
open PySem L2 MC
end MM

end
section
set_option maxRecDepth 100000
set_option maxHeartbeats 4000000
namespace MC
open PySem PySem.Spec PyProof.Rows L2

section
variable {P : Program} {W : World} {w : Wo} {mg : Str → Option Value} {base : Heap} {k : Nat}
end

/-- what an exception bears is taken over as an answer is -/
def excBack (h : PH) (fp : List Nat) (c : Nat) (fs : List (Nm × PV)) (g : PH) : R PV := match takeL h fp (fs.map (·.2)) g with
  | some (_, us, h2) => .exc c ((fs.map (·.1)).zip us) h2
  | none => .stuck
def callX (tb : PH → List Nat → PV → PH → R PV) (m : MF) (args : List PV) (h : PH) : R PV := match reach h FUEL (refsVs args) [] with
  | some fp => match renVs (idx fp) args, mapO (pick h (idx fp)) fp with
    | some as, some hc => match m as hc with
      | .ok v g => tb h fp v g
      | .exc c fs g => excBack h fp c fs g
      | .stuck => .stuck
    | _, _ => .stuck
  | none => .stuck
@[reducible] def opX (m : MF) (ix : List Nat) (dp : List PV) : OC := fun h xs => callX takeBack m (gI ix (xs ++ dp)) h
@[reducible] def opXC (c : Nat) (m : MF) (ix : List Nat) (dp : List PV) : OC := fun h xs => callX takeFrz (initM c m ix dp) xs h
@[reducible] def opXM (c : Nat) (m : MF) (ix : List Nat) (dp : List PV) : OC := fun h xs => callX takeBack (initM c m ix dp) xs h
section
variable {w : Wo} {EX : XC} {M : Addr → Prop} {rho : List Addr} {H : Hp} {h : PH}
end
section
variable {w : Wo} {EX : XC} {X : Cx} {k j : Nat} {f : Addr} {fd : FuncData} {ps ks : List Str} {m : MF} {p pos apos : Pos} {z : Str}
  {ds : List Value} {dv : List V} {dp : List PV} {n : Nat} {ix : List Nat}
end

/-- a class of errors: its __init__ keeps its one argument as f -/
structure XcOk (K : PySem.W.Frag) (mg : Str → Option Value) (x : Str) (C : Addr) (f : Str) (P : Program) (W : World) (base : Heap) : Prop where
  T : OexC K C
  gC : mg x = some (.ref C)
  no : PySem.W.findIn K (.ref C) f = some none
  init : ∃ (fI : Addr) (fd : FuncData) (sp : Sp), PySem.W.findIn K (.ref C) "__init__" = some (some (.ref fI)) ∧ PySem.W.typeIn K (.ref fI) = some (.type "function") ∧ FnOk P W K mg base CX0 1 fI fd ["self", f] sp ∧ Binds K fd ["self", f] [] ∧
    ∀ (a : Addr) (v : V) (H : Hp) (Q : VK), H a = some (exo a C none) → (∀ dx, H dx = none → dx ≠ a → Q .non (upd (upd H dx (exd dx [(f, v)])) a (exo a C (some dx)))) → sp [.ref a, v] H Q fun _ _ _ => False
section
variable {X : Cx} {e : Expr} {ta : TA} {p pos : Pos} {x f : Str} {C : Addr}
end
def mRaise (c : Nat) (f : Nm) (m : ME) : MS := fun env h => (m env h).bind fun x h1 => .exc c [(f, x)] h1
def mRaise0 (c : Nat) : MS := fun _ h => .exc c [] h
section
variable {w : Wo} {EX : XC} {X : Cx} {k : Nat} {e : Expr} {p pos pos' : Pos} {x : Str} {A : Addr} {m : ME}
end
end MC

end
section
set_option maxRecDepth 100000
set_option maxHeartbeats 4000000
namespace MC
open PySem PySem.Spec PyProof.Rows L2

/-- a clause's classes: whether an error of the class cls is taken -/
def TstM (X : Cx) (t : Expr) (cls : Value) (b : Bool) : Prop := ∀ (a : Addr) (pn pins : List (Addr × Obj)) (σ : L2.St) (H : Hp) (s : Shared) (Q : Bool → Shared → Prop) (E : Value → Shared → Prop), Inv (X.suite a pn) pins σ H s → PySem.W.Looks (model X.prog X.w) s.heap (typeOf (.ref a)) cls →
  (∀ h', (∀ q o, s.heap.get? q = some o → h'.get? q = some o) → Q b { s with heap := h' }) → wpAny (model X.prog X.w) (X.A.mark (some (.ref a))) (eval t X.env) (fun c s₁ => wpAny (model X.prog X.w) (X.A.mark (some (.ref a))) (excMatches (.ref a) c) Q E s₁) E s
section
variable {X : Cx} {x y z : Str} {c1 c2 c3 cls : Value} {b : Bool} {p1 p2 p3 pos : Pos}
end
/-- a clause: what it takes, its name's slot, its suite's reading -/
structure ClR where
  ok : Value → Bool → Prop
  nm : Option Nat
  ts : Addr → Obj → Value → Option Addr → TS
inductive ClsOk (X : Cx) : List ExceptHandler → List ClR → Prop
  | nil : ClsOk X [] []
  | no {t : Expr} {q : ClR} {b₀ : Stmt} {suite : List Stmt} {pos' : Pos} {hds : List ExceptHandler} {l : List ClR} (hn : q.nm = none) (hc : ∀ cls b, q.ok cls b → TstM X t cls b)
      (hsu : ∀ (a : Addr) (oe : Obj) (cls : Value) (d : Option Addr) (pn : List (Addr × Obj)), L2N.Zn cls d oe → (∃ vs, oe.data = .fields vs) → PSs (X.suite a ((a, oe) :: pn)) (b₀ :: suite) (q.ts a oe cls d)) (r : ClsOk X hds l) :
      ClsOk X (.ExceptHandler (some t) none (b₀ :: suite) pos' :: hds) (q :: l)
  | as {t : Expr} {q : ClR} {n : Str} {i : Nat} {b₀ : Stmt} {suite : List Stmt} {pos' : Pos} {hds : List ExceptHandler} {l : List ClR} (hn : q.nm = some i) (hN : X.N.Nodup) (hi : X.N[i]? = some n) (hln : X.env.kindOf n = some .local) (hc : ∀ cls b, q.ok cls b → TstM X t cls b)
      (hsu : ∀ (a : Addr) (oe : Obj) (cls : Value) (d : Option Addr) (pn : List (Addr × Obj)), L2N.Zn cls d oe → (∃ vs, oe.data = .fields vs) → PSs (X.suite a ((a, oe) :: pn)) (b₀ :: suite) (q.ts a oe cls d)) (r : ClsOk X hds l) :
      ClsOk X (.ExceptHandler (some t) (some n) (b₀ :: suite) pos' :: hds) (q :: l)
section
variable {X : Cx} {body : List Stmt} {h₀ : ExceptHandler} {hds : List ExceptHandler} {l : List ClR} {pos : Pos} {tb : WX → TS} {Wout : WX}
end
end MC

end
section
set_option maxRecDepth 100000
set_option maxHeartbeats 4000000
namespace MC
open PySem PySem.Spec PyProof.Rows L2

/-- where an exception is handled -/
@[reducible] def Wo.hot (w : Wo) (p : Addr × Obj) : Wo := { w with ex := some p }

mutual
def nxV : PV → Bool
  | .exn _ _ => false
  | .exv _ fs => nxF fs
  | .tup xs => nxVs xs
  | .scr xs => nxVs xs
  | .rdic kvs => nxK kvs
  | .ins _ fs => nxF fs
  | .non => true
  | .bl _ => true
  | .int _ => true
  | .str _ => true
  | .ref _ => true
  | .gl _ => true
def nxVs : List PV → Bool
  | [] => true
  | x :: xs => nxV x && nxVs xs
def nxK : List (PV × PV) → Bool
  | [] => true
  | (_, x) :: xs => nxV x && nxK xs
def nxF : List (Nm × PV) → Bool
  | [] => true
  | (_, x) :: xs => nxV x && nxF xs
end
section
variable {w : Wo} {p : Addr × Obj} {M : Addr → Prop} {rho : List Addr} {H : Hp}
mutual
theorem VR.nx (e0 : w.ex = none) : ∀ {x : PV} {v : V}, VR w M rho H x v → nxV x = true
  | _, _, .non | _, _, .bl _ | _, _, .int _ | _, _, .str _ | _, _, .ref _ | _, _, .gl _ => by unfold nxV; rfl
  | _, _, .tup _ s => by unfold nxV; exact VRs.nx e0 s
  | _, _, .scr _ s => by unfold nxV; exact VRs.nx e0 s
  | _, _, .rdic _ _ s => by unfold nxV; exact KRs.nx e0 s
  | _, _, .ins _ _ _ s => by unfold nxV; exact FRs.nx e0 s
  | _, _, .exn e1 _ _ _ _ _ _ => by rw [e0] at e1; cases e1
  | _, _, .exv _ _ _ _ _ s => by unfold nxV; exact FRs.nx e0 s
theorem VRs.nx (e0 : w.ex = none) : ∀ {xs : List PV} {vs : List V}, VRs w M rho H xs vs → nxVs xs = true
  | _, _, .nil => by unfold nxVs; rfl
  | _, _, .cons a b => by unfold nxVs; rw [VR.nx e0 a, VRs.nx e0 b]; rfl
theorem FRs.nx (e0 : w.ex = none) : ∀ {fs : List (Nm × PV)} {gs : List (Str × V)}, FRs w M rho H fs gs → nxF fs = true
  | _, _, .nil => by unfold nxF; rfl
  | _, _, .cons a b => by unfold nxF; rw [VR.nx e0 a, FRs.nx e0 b]; rfl
theorem KRs.nx (e0 : w.ex = none) : ∀ {fs : List (PV × PV)} {gs : List (Key × V)}, KRs w M rho H fs gs → nxK fs = true
  | _, _, .nil => by unfold nxK; rfl
  | _, _, .cons _ a b => by unfold nxK; rw [VR.nx e0 a, KRs.nx e0 b]; rfl
end
mutual
theorem VR.heat (e0 : w.ex = none) : ∀ {x : PV} {v : V}, VR w M rho H x v → VR (w.hot p) M rho H x v
  | _, _, .non => .non
  | _, _, .bl b => .bl b
  | _, _, .int i => .int i
  | _, _, .str s => .str s
  | _, _, .ref e => .ref e
  | _, _, .gl e => .gl e
  | _, _, .tup q s => .tup q (VRs.heat e0 s)
  | _, _, .scr q s => .scr q (VRs.heat e0 s)
  | _, _, .rdic a b s => .rdic a b (KRs.heat e0 s)
  | _, _, .ins a b c s => .ins a b c (FRs.heat e0 s)
  | _, _, .exn e1 _ _ _ _ _ _ => by rw [e0] at e1; cases e1
  | _, _, .exv e1 e2 e3 e4 e5 s => .exv e1 e2 e3 e4 e5 (FRs.heat e0 s)
theorem VRs.heat (e0 : w.ex = none) : ∀ {xs : List PV} {vs : List V}, VRs w M rho H xs vs → VRs (w.hot p) M rho H xs vs
  | _, _, .nil => .nil
  | _, _, .cons a b => .cons (VR.heat e0 a) (VRs.heat e0 b)
theorem FRs.heat (e0 : w.ex = none) : ∀ {fs : List (Nm × PV)} {gs : List (Str × V)}, FRs w M rho H fs gs → FRs (w.hot p) M rho H fs gs
  | _, _, .nil => .nil
  | _, _, .cons a b => .cons (VR.heat e0 a) (FRs.heat e0 b)
theorem KRs.heat (e0 : w.ex = none) : ∀ {fs : List (PV × PV)} {gs : List (Key × V)}, KRs w M rho H fs gs → KRs (w.hot p) M rho H fs gs
  | _, _, .nil => .nil
  | _, _, .cons k a b => .cons k (VR.heat e0 a) (KRs.heat e0 b)
end
mutual
theorem VR.cool : ∀ {x : PV} {v : V}, VR (w.hot p) M rho H x v → nxV x = true → VR w M rho H x v
  | _, _, .non, _ => .non
  | _, _, .bl b, _ => .bl b
  | _, _, .int i, _ => .int i
  | _, _, .str s, _ => .str s
  | _, _, .ref e, _ => .ref e
  | _, _, .gl e, _ => .gl e
  | _, _, .tup q s, n => .tup q (VRs.cool s (by unfold nxV at n; exact n))
  | _, _, .scr q s, n => .scr q (VRs.cool s (by unfold nxV at n; exact n))
  | _, _, .rdic a b s, n => .rdic a b (KRs.cool s (by unfold nxV at n; exact n))
  | _, _, .ins a b c s, n => .ins a b c (FRs.cool s (by unfold nxV at n; exact n))
  | _, _, .exn _ _ _ _ _ _ _, n => by unfold nxV at n; cases n
  | _, _, .exv e1 e2 e3 e4 e5 s, n => .exv e1 e2 e3 e4 e5 (FRs.cool s (by unfold nxV at n; exact n))
theorem VRs.cool : ∀ {xs : List PV} {vs : List V}, VRs (w.hot p) M rho H xs vs → nxVs xs = true → VRs w M rho H xs vs
  | _, _, .nil, _ => .nil
  | _, _, .cons a b, n => by
    unfold nxVs at n
    rw [Bool.and_eq_true] at n
    exact .cons (VR.cool a n.1) (VRs.cool b n.2)
theorem FRs.cool : ∀ {fs : List (Nm × PV)} {gs : List (Str × V)}, FRs (w.hot p) M rho H fs gs → nxF fs = true → FRs w M rho H fs gs
  | _, _, .nil, _ => .nil
  | _, _, .cons a b, n => by
    unfold nxF at n
    rw [Bool.and_eq_true] at n
    exact .cons (VR.cool a n.1) (FRs.cool b n.2)
theorem KRs.cool : ∀ {fs : List (PV × PV)} {gs : List (Key × V)}, KRs (w.hot p) M rho H fs gs → nxK fs = true → KRs w M rho H fs gs
  | _, _, .nil, _ => .nil
  | _, _, .cons k a b, n => by
    unfold nxK at n
    rw [Bool.and_eq_true] at n
    exact .cons k (VR.cool a n.1) (KRs.cool b n.2)
end
mutual
theorem nk_nx : ∀ (x : PV) (k : NestedKey), nkP x = some k → nxV x = true
  | .non, _, _ | .bl _, _, _ | .int _, _, _ | .str _, _, _ => by unfold nxV; rfl
  | .tup xs, k, e => by
    unfold nkP at e
    cases q : nkPs xs with
    | none => rw [q] at e; cases e
    | some ks => unfold nxV; exact nks_nx xs ks q
  | .scr _, _, e | .rdic _, _, e | .ins _ _, _, e | .ref _, _, e | .gl _, _, e | .exn _ _, _, e | .exv _ _, _, e => by unfold nkP at e; cases e
theorem nks_nx : ∀ (x : List PV) (k : List NestedKey), nkPs x = some k → nxVs x = true
  | [], _, _ => by unfold nxVs; rfl
  | x :: xs, k, e => by
    unfold nkPs at e
    cases q : nkP x with
    | none => rw [q] at e; cases e
    | some y =>
      cases q2 : nkPs xs with
      | none => rw [q, q2] at e; cases e
      | some ys => unfold nxVs; rw [nk_nx x y q, nks_nx xs ys q2]; rfl
end
theorem TRs.heat (e0 : w.ex = none) : ∀ {fs : List (PV × PV)} {gs : List (NestedKey × Addr × Value)}, TRs w M rho H fs gs → TRs (w.hot p) M rho H fs gs
  | _, _, .nil => .nil
  | _, _, .cons k d a b c q => .cons k d (a.heat e0) (b.heat e0) c (TRs.heat e0 q)
theorem TRs.nx (e0 : w.ex = none) : ∀ {fs : List (PV × PV)} {gs : List (NestedKey × Addr × Value)}, TRs w M rho H fs gs → nxK fs = true
  | _, _, .nil => by unfold nxK; rfl
  | _, _, .cons k d a b c q => by unfold nxK; rw [b.nx e0, TRs.nx e0 q]; rfl
theorem TRs.cool : ∀ {fs : List (PV × PV)} {gs : List (NestedKey × Addr × Value)}, TRs (w.hot p) M rho H fs gs → nxK fs = true → TRs w M rho H fs gs
  | _, _, .nil, _ => .nil
  | _, _, .cons k d a b c q, n => by
    unfold nxK at n
    rw [Bool.and_eq_true] at n
    exact .cons k d (a.cool (nk_nx _ _ k)) (b.cool n.1) c (TRs.cool q n.2)
theorem ER.heat (e0 : w.ex = none) : ∀ {e : List (Option PV)} {s : Sl}, ER w M rho H e s → ER (w.hot p) M rho H e s
  | _, _, .nil => .nil
  | _, _, .has a b => .has (a.heat e0) (ER.heat e0 b)
  | _, _, .no b => .no (ER.heat e0 b)
def nxO : PO → Bool
  | .lst xs => nxVs xs
  | .ins _ fs => nxF fs
  | .dic _ kvs => nxK kvs
  | .dit _ kvs => nxK kvs
theorem OR.nx (e0 : w.ex = none) {a : Addr} {o : PO} (q : OR w M rho H a o) : nxO o = true := by
  cases o with
  | lst xs => obtain ⟨vs, p, s⟩ := q; exact s.nx e0
  | ins c fs => obtain ⟨C, dx, gs, p1, p, s⟩ := q; exact s.nx e0
  | dic lk kvs => obtain ⟨ks, p, s⟩ := q; exact s.nx e0
  | dit lk kvs => obtain ⟨ks, p, z1, z2, z3, s⟩ := q; exact s.nx e0
theorem OR.heat (e0 : w.ex = none) {a : Addr} {o : PO} (q : OR w M rho H a o) : OR (w.hot p) M rho H a o := by
  cases o with
  | lst xs => obtain ⟨vs, p, s⟩ := q; exact ⟨vs, p, s.heat e0⟩
  | ins c fs => obtain ⟨C, dx, gs, p1, p, s⟩ := q; exact ⟨C, dx, gs, p1, p, s.heat e0⟩
  | dic lk kvs => obtain ⟨ks, p, s⟩ := q; exact ⟨ks, p, s.heat e0⟩
  | dit lk kvs => obtain ⟨ks, p, z1, z2, z3, s⟩ := q; exact ⟨ks, p, z1, z2, z3, s.heat e0⟩
theorem OR.cool {a : Addr} {o : PO} (q : OR (w.hot p) M rho H a o) (n : nxO o = true) : OR w M rho H a o := by
  cases o with
  | lst xs => obtain ⟨vs, p, s⟩ := q; exact ⟨vs, p, s.cool n⟩
  | ins c fs => obtain ⟨C, dx, gs, p1, p, s⟩ := q; exact ⟨C, dx, gs, p1, p, s.cool n⟩
  | dic lk kvs => obtain ⟨ks, p, s⟩ := q; exact ⟨ks, p, s.cool n⟩
  | dit lk kvs => obtain ⟨ks, p, z1, z2, z3, s⟩ := q; exact ⟨ks, p, z1, z2, z3, s.cool n⟩
theorem HR.heat (e0 : w.ex = none) {h : PH} (r : HR w M rho H h) : HR (w.hot p) M rho H h :=
  ⟨r.len, r.nd, r.mem, r.live, fun n o e => (r.ob n o e).elim fun a ha => ⟨a, ha.1, ha.2.heat e0⟩, r.tabs⟩
theorem HR.nx (e0 : w.ex = none) {h : PH} (r : HR w M rho H h) {n : Nat} {o : PO} (e : h[n]? = some o) : nxO o = true := by
  obtain ⟨a, _, q⟩ := r.ob n o e
  exact q.nx e0
theorem HR.cool {h : PH} (r : HR (w.hot p) M rho H h) (n : ∀ (i : Nat) (o : PO), h[i]? = some o → nxO o = true) : HR w M rho H h :=
  ⟨r.len, r.nd, r.mem, r.live, fun i o e => (r.ob i o e).elim fun a ha => ⟨a, ha.1, ha.2.cool (n i o e)⟩, r.tabs⟩
end

def beqO : PO → PO → Bool
  | .lst a, .lst b => beqVs a b
  | .ins c a, .ins d b => c == d && beqF a b
  | .dic l a, .dic m b => l == m && beqK a b
  | .dit l a, .dit m b => l == m && beqK a b
  | _, _ => false
def beqH : PH → PH → Bool
  | [], [] => true
  | a :: x, b :: y => beqO a b && beqH x y
  | _, _ => false
structure Hd where
  tb : List (Nat × Bool)
  nm : Option Nat
  su : MS
/-- a value that was there, or one of the exception's -/
def okx (fs : List (Nm × PV)) (x : PV) : Bool := nxV x || fs.any fun p => beqV p.2 x
def okO (fs : List (Nm × PV)) : PO → Bool
  | .lst xs => xs.all (okx fs)
  | _ => false
/-- behind a suite that has the exception's name: what was there stands, new lists hold no exception -/
def coldR (fs : List (Nm × PV)) (h : PH) : R Fl → R Fl
  | .ok (.rt x) h2 => bif okx fs x && beqH h (h2.take h.length) && (h2.drop h.length).all (okO fs) then .ok (.rt x) h2 else .stuck
  | _ => .stuck
def rtR : R Fl → R Fl
  | .ok (.rt x) h2 => .ok (.rt x) h2
  | _ => .stuck
def hdR (N : Nat) (q : Hd) (c : Nat) (fs : List (Nm × PV)) (h : PH) : R Fl := match q.nm with
  | none => rtR (q.su (List.replicate N none) h)
  | some i => coldR fs h (q.su ((List.replicate N none).set i (some (.exn c fs))) h)
def hdsR (N : Nat) : List Hd → Nat → List (Nm × PV) → PH → R Fl
  | [], c, fs, h => .exc c fs h
  | q :: r, c, fs, h => match q.tb.lookup c with
    | some true => hdR N q c fs h
    | some false => hdsR N r c fs h
    | none => .stuck
@[reducible] def RTt {β : Type} (_ : Nat → List (Nm × PV) → PH → R β) : Type := R β
/-- what is known of a clause -/
inductive HdsM (w : Wo) (k : Nat) (X : Cx) : List ExceptHandler → List Hd → Prop
  | nil : HdsM w k X [] []
  | no {t : Expr} {tb : List (Nat × Bool)} {su : MS} {b₀ : Stmt} {suite : List Stmt} {pos' : Pos} {hds : List ExceptHandler} {l : List Hd} (hc : ∀ p ∈ tb, ∀ A, w.cl p.1 = some A → TstM X t (.ref A) p.2)
      (hsu : ∀ (a : Addr) (oe : Obj) (pn : List (Addr × Obj)), PSs (X.suite a ((a, oe) :: pn)) (b₀ :: suite) (tS w EXF su)) (r : HdsM w k X hds l) : HdsM w k X (.ExceptHandler (some t) none (b₀ :: suite) pos' :: hds) (⟨tb, none, su⟩ :: l)
  | as {t : Expr} {tb : List (Nat × Bool)} {su : MS} {n : Str} {i : Nat} {b₀ : Stmt} {suite : List Stmt} {pos' : Pos} {hds : List ExceptHandler} {l : List Hd} (hc : ∀ p ∈ tb, ∀ A, w.cl p.1 = some A → TstM X t (.ref A) p.2)
      (hN : X.N.Nodup) (hi : X.N[i]? = some n) (hln : X.env.kindOf n = some .local)
      (hsu : ∀ (a : Addr) (oe : Obj) (pn : List (Addr × Obj)), CxtG true (w.hot (a, oe)) k (X.suite a ((a, oe) :: pn)) → PSs (X.suite a ((a, oe) :: pn)) (b₀ :: suite) (tS (w.hot (a, oe)) EXF su)) (r : HdsM w k X hds l) :
      HdsM w k X (.ExceptHandler (some t) (some n) (b₀ :: suite) pos' :: hds) (⟨tb, some i, su⟩ :: l)
def clOf (w : Wo) (k : Nat) (X : Cx) (q : Hd) : ClR where
  ok := fun cls b => ∃ c A, cls = .ref A ∧ w.cl c = some A ∧ q.tb.lookup c = some b
  nm := q.nm
  ts := fun a oe cls d => match q.nm with
    | none => tS w EXF q.su
    | some i => tS (w.hot (a, oe)) EXF q.su
theorem mem_look {α β : Type} [BEq α] [LawfulBEq α] : ∀ {l : List (α × β)} {a : α} {b : β}, l.lookup a = some b → (a, b) ∈ l
  | [], _, _, e => by cases e
  | (c, d) :: l, a, b, e => by
    rw [List.lookup_cons] at e
    cases q : a == c with
    | true => rw [q] at e; cases e; rw [beq_iff_eq.mp q]; exact List.mem_cons_self
    | false => rw [q] at e; exact List.mem_cons_of_mem _ (mem_look e)
theorem suite_cxt {w : Wo} {k : Nat} {X : Cx} (C : Cxt w k X) {a : Addr} {oe : Obj} {pn : List (Addr × Obj)} {cls : Value} {d : Option Addr} (hz : L2N.Zn cls d oe) (hf : ∃ vs, oe.data = .fields vs) : CxtG true (w.hot (a, oe)) k (X.suite a ((a, oe) :: pn)) := by
  obtain ⟨vs, hv⟩ := hf
  exact ⟨C.hK, C.hW, fun z => (nomatch z), fun _ => ⟨(a, oe), rfl, List.mem_cons_self, rfl, vs, hv, hz.2.2 vs hv⟩, ⟨C.roomH.dp, C.roomH.un⟩, C.grd, PassesOwn.never⟩
section
variable {w : Wo} {EX : XC} {X : Cx} {k : Nat}
theorem HdsM.cls (C : Cxt w k X) {hds : List ExceptHandler} {l : List Hd} (h : HdsM w k X hds l) : ClsOk X hds (l.map (clOf w k X)) := by
  induction h with
  | nil => exact .nil
  | @no t tb su b₀ suite pos' hds l hc hsu r ih =>
    refine .no (q := clOf w k X ⟨tb, none, su⟩) rfl (fun cls b ⟨c, A, e1, e2, e3⟩ => ?_) (fun a oe cls d pn _ _ => hsu a oe pn) ih
    subst e1
    exact hc (c, b) (mem_look e3) A e2
  | @as t tb su n i b₀ suite pos' hds l hc hN hi hln hsu r ih =>
    refine .as (q := clOf w k X ⟨tb, some i, su⟩) rfl hN hi hln (fun cls b ⟨c, A, e1, e2, e3⟩ => ?_) (fun a oe cls d pn hz hf => hsu a oe pn (suite_cxt C hz hf)) ih
    subst e1
    exact hc (c, b) (mem_look e3) A e2
end
end MC

end
section
set_option maxRecDepth 100000
set_option maxHeartbeats 4000000
namespace MC
open PySem PySem.Spec PyProof.Rows L2
section
variable {w : Wo} {EX : XC} {X : Cx} {k : Nat}
end
end MC

end
section
namespace MM
open MC
def xcs_value : List Nat := [11, 12, 13, 14, 15, 16, 17, 18]
def xcs_index : List Nat := [19, 20, 21, 22, 23]
def xcs_limit : List Nat := [26]
def xit_InputError : List (Nat × Bool) := [(8, true), (9, false), (10, false), (11, true), (12, true), (13, true), (14, true), (15, true), (16, true), (17, true), (18, true), (19, true), (20, true), (21, true), (22, true), (23, true), (24, false), (25, false), (26, false)]
def xit_StateError : List (Nat × Bool) := [(8, false), (9, true), (10, false), (11, false), (12, false), (13, false), (14, false), (15, false), (16, false), (17, false), (18, false), (19, false), (20, false), (21, false), (22, false), (23, false), (24, true), (25, true), (26, false)]
def xit_SizeError : List (Nat × Bool) := [(8, false), (9, false), (10, true), (11, false), (12, false), (13, false), (14, false), (15, false), (16, false), (17, false), (18, false), (19, false), (20, false), (21, false), (22, false), (23, false), (24, false), (25, false), (26, true)]
def xit_NotAMachine : List (Nat × Bool) := [(8, false), (9, false), (10, false), (11, true), (12, false), (13, false), (14, false), (15, false), (16, false), (17, false), (18, false), (19, false), (20, false), (21, false), (22, false), (23, false), (24, false), (25, false), (26, false)]
def xit_NotADesk : List (Nat × Bool) := [(8, false), (9, false), (10, false), (11, false), (12, true), (13, false), (14, false), (15, false), (16, false), (17, false), (18, false), (19, false), (20, false), (21, false), (22, false), (23, false), (24, false), (25, false), (26, false)]
def xit_InvalidText : List (Nat × Bool) := [(8, false), (9, false), (10, false), (11, false), (12, false), (13, true), (14, false), (15, false), (16, false), (17, false), (18, false), (19, false), (20, false), (21, false), (22, false), (23, false), (24, false), (25, false), (26, false)]
def xit_InvalidCount : List (Nat × Bool) := [(8, false), (9, false), (10, false), (11, false), (12, false), (13, false), (14, true), (15, false), (16, false), (17, false), (18, false), (19, false), (20, false), (21, false), (22, false), (23, false), (24, false), (25, false), (26, false)]
def xit_InvalidLetter : List (Nat × Bool) := [(8, false), (9, false), (10, false), (11, false), (12, false), (13, false), (14, false), (15, true), (16, false), (17, false), (18, false), (19, false), (20, false), (21, false), (22, false), (23, false), (24, false), (25, false), (26, false)]
def xit_InvalidStand : List (Nat × Bool) := [(8, false), (9, false), (10, false), (11, false), (12, false), (13, false), (14, false), (15, false), (16, true), (17, false), (18, false), (19, false), (20, false), (21, false), (22, false), (23, false), (24, false), (25, false), (26, false)]
def xit_InvalidWord : List (Nat × Bool) := [(8, false), (9, false), (10, false), (11, false), (12, false), (13, false), (14, false), (15, false), (16, false), (17, true), (18, false), (19, false), (20, false), (21, false), (22, false), (23, false), (24, false), (25, false), (26, false)]
def xit_InvalidLine : List (Nat × Bool) := [(8, false), (9, false), (10, false), (11, false), (12, false), (13, false), (14, false), (15, false), (16, false), (17, false), (18, true), (19, false), (20, false), (21, false), (22, false), (23, false), (24, false), (25, false), (26, false)]
def xit_InvalidArrows : List (Nat × Bool) := [(8, false), (9, false), (10, false), (11, false), (12, false), (13, false), (14, false), (15, false), (16, false), (17, false), (18, false), (19, true), (20, false), (21, false), (22, false), (23, false), (24, false), (25, false), (26, false)]
def xit_InvalidEnds : List (Nat × Bool) := [(8, false), (9, false), (10, false), (11, false), (12, false), (13, false), (14, false), (15, false), (16, false), (17, false), (18, false), (19, false), (20, true), (21, false), (22, false), (23, false), (24, false), (25, false), (26, false)]
def xit_InvalidBook : List (Nat × Bool) := [(8, false), (9, false), (10, false), (11, false), (12, false), (13, false), (14, false), (15, false), (16, false), (17, false), (18, false), (19, false), (20, false), (21, true), (22, false), (23, false), (24, false), (25, false), (26, false)]
def xit_InvalidTexts : List (Nat × Bool) := [(8, false), (9, false), (10, false), (11, false), (12, false), (13, false), (14, false), (15, false), (16, false), (17, false), (18, false), (19, false), (20, false), (21, false), (22, true), (23, false), (24, false), (25, false), (26, false)]
def xit_InvalidDeeds : List (Nat × Bool) := [(8, false), (9, false), (10, false), (11, false), (12, false), (13, false), (14, false), (15, false), (16, false), (17, false), (18, false), (19, false), (20, false), (21, false), (22, false), (23, true), (24, false), (25, false), (26, false)]
def xit_NothingToUndo : List (Nat × Bool) := [(8, false), (9, false), (10, false), (11, false), (12, false), (13, false), (14, false), (15, false), (16, false), (17, false), (18, false), (19, false), (20, false), (21, false), (22, false), (23, false), (24, true), (25, false), (26, false)]
def xit_Busy : List (Nat × Bool) := [(8, false), (9, false), (10, false), (11, false), (12, false), (13, false), (14, false), (15, false), (16, false), (17, false), (18, false), (19, false), (20, false), (21, false), (22, false), (23, false), (24, false), (25, true), (26, false)]
def xit_TooMany : List (Nat × Bool) := [(8, false), (9, false), (10, false), (11, false), (12, false), (13, false), (14, false), (15, false), (16, false), (17, false), (18, false), (19, false), (20, false), (21, false), (22, false), (23, false), (24, false), (25, false), (26, true)]
def xit_ArithmeticError : List (Nat × Bool) := [(8, false), (9, false), (10, true), (11, false), (12, false), (13, false), (14, false), (15, false), (16, false), (17, false), (18, false), (19, false), (20, false), (21, false), (22, false), (23, false), (24, false), (25, false), (26, true)]
def xit_LookupError : List (Nat × Bool) := [(8, false), (9, true), (10, false), (11, false), (12, false), (13, false), (14, false), (15, false), (16, false), (17, false), (18, false), (19, false), (20, false), (21, false), (22, false), (23, false), (24, true), (25, true), (26, false)]
def xit_ValueError : List (Nat × Bool) := [(8, true), (9, false), (10, false), (11, true), (12, true), (13, true), (14, true), (15, true), (16, true), (17, true), (18, true), (19, true), (20, true), (21, true), (22, true), (23, true), (24, false), (25, false), (26, false)]
end MM

end
section
set_option maxRecDepth 100000
set_option maxHeartbeats 4000000
namespace MC
open PySem PySem.Spec PyProof.Rows L2

section
variable {X : Cx} {pins : List (Addr × Obj)} {σ : L2.St} {H HZ : Hp} {s s1 : Shared}
end

def finR : R Fl → R PV
  | .ok (.rt x) h => .ok x h
  | .ok (.nx _) h => .ok .non h
  | _ => .stuck
def finT : R Fl → R PV
  | .ok (.rt x) h => .ok x h
  | _ => .stuck
/-- what the def makes of the lambda's outcome: N its names, i the slot of what it gave, b what comes behind the try -/
def outR (N i : Nat) (hds : List Hd) (b : MS) : R PV → R PV
  | .ok v h => finR (b ((List.replicate N none).set i (some v)) h)
  | .exc c fs h => finT (hdsR N hds c fs h)
  | .stuck => .stuck
def mLam (N i : Nat) (hds : List Hd) (b : MS) (m : ME) : ME := fun env h => outR N i hds b (m env h)
/-- what is known of the def -/
structure LamF (P : Program) (W : World) (w : Wo) (mg : Str → Option Value) (base : Heap) (k : Nat) (x : Str) (N i : Nat) (hds : List Hd) (b : MS) : Prop where
  ex : ∃ (g : Addr) (fd : FuncData) (st : Stmt) (a y : Str) (Ng : List Str) (h₀ : ExceptHandler) (hs : List ExceptHandler) (rest : List Stmt) (q1 q2 q3 q4 q5 : Pos), mg x = some (.ref g) ∧ Fun w.K x x st g fd ∧ FnScope Ng [a] (defScope st) ∧ Ng.length = N ∧ Ng.Nodup ∧
    Binds w.K fd [a] [] ∧ Ng[0]? = some a ∧ Vis (defScope st) a ∧ (a == ("__debug__" : Str)) = false ∧ (a == ("__classdict__" : Str)) = false ∧ Ng[i]? = some y ∧ (defScope st).names.lookup y = some .local ∧
    defBody st = .Try [.Assign [.Name y q1] (.Call (.Name a q2) [] [] q3) q4] (h₀ :: hs) [] [] q5 :: rest ∧ (∀ env : Env, swapsWith (.Call (.Name a q2) [] [] q3) (some (.Name y q1)) q4.line env = pure false) ∧
    ∀ (cdv : Value) (A : Around) (outer : List Env) (s : Shared) (H : Hp) (E : XK), Cxt w k (cxOf CX0 P W w.K mg base Ng x (defScope st) g cdv A outer s H E).nox →
      HdsM w k (cxOf CX0 P W w.K mg base Ng x (defScope st) g cdv A outer s H E).nox (h₀ :: hs) hds ∧ PSs (cxOf CX0 P W w.K mg base Ng x (defScope st) g cdv A outer s H E).nox rest (tS w EXF b)
section
variable {w : Wo} {EX : XC} {X : Cx} {k : Nat}
end
end MC
namespace MC
open PySem PySem.Spec PyProof.Rows L2
theorem CxtG.mono {hh : Bool} {w : Wo} {j k : Nat} {X : Cx} (C : CxtG hh w k X) (h : j ≤ k) : CxtG hh w j X := ⟨C.hK, C.hW, C.calmP, C.pinP, C.roomH.mono h, C.grd, C.own⟩
theorem HdsM.mono {w : Wo} {j k : Nat} {X : Cx} (h : j ≤ k) {hds : List ExceptHandler} {l : List Hd} (q : HdsM w j X hds l) : HdsM w k X hds l := by
  induction q with
  | nil => exact .nil
  | no hc hsu r ih => exact .no hc hsu ih
  | as hc hN hi hln hsu r ih => exact .as hc hN hi hln (fun a oe pn C => hsu a oe pn (C.mono h)) ih
theorem LamF.mono {P : Program} {W : World} {w : Wo} {mg : Str → Option Value} {base : Heap} {j k : Nat} {x : Str} {N i : Nat} {hds : List Hd} {b : MS} (F : LamF P W w mg base j x N i hds b) (h : j ≤ k) : LamF P W w mg base k x N i hds b := by
  obtain ⟨g, fd, st, a, y, Ng, h₀, hs, rest, q1, q2, q3, q4, q5, hm, Fn, Sg, hNg, nd, hb, hN0, hva, hda, hca, hNi, hyl, hbd, hsw, walk⟩ := F.ex
  exact ⟨g, fd, st, a, y, Ng, h₀, hs, rest, q1, q2, q3, q4, q5, hm, Fn, Sg, hNg, nd, hb, hN0, hva, hda, hca, hNi, hyl, hbd, hsw, fun cdv A outer s H E C => ⟨(walk cdv A outer s H E (C.mono h)).1.mono h, (walk cdv A outer s H E (C.mono h)).2⟩⟩
/-- a def of the text whose code object stands at c -/
structure FunC (K : PySem.W.Frag) (x qual : Str) (st : Stmt) (f : Addr) (fd : FuncData) (c : Addr) : Prop where
  F : Fun K x qual st f fd
  ex : ∃ (oc : Value) (od : Option Addr) (kV doc pm : Value) (an : Option Addr) (ct : Value) (osl : Array (Option Value)),
    fd = PySem.W.fnOf x qual (defArgs st) (defBody st) (defScope st) .none kV doc pm an (.ref c) ct ∧ K.lookup f = some ⟨oc, od, .func fd, osl⟩ ∧ PySem.W.codeIn K (.ref c) qual = true
section
variable {P : Program} {W : World} {w : Wo} {mg : Str → Option Value} {base : Heap} {CX : CXT} {ex : XK → XC} {k : Nat}
end
end MC

end
section
set_option maxRecDepth 100000
set_option maxHeartbeats 4000000
namespace MC
open PySem PySem.Spec PyProof.Rows L2

theorem CxtG.pin {w : Wo} {k : Nat} {X : Cx} (C : CxtG true w k X) {a : Addr} {oe : Obj} (e : w.ex = some (a, oe)) : (a, oe) ∈ X.pn := by
  obtain ⟨p, e1, e2, _⟩ := C.pinP rfl
  rw [e] at e1
  cases e1
  exact e2
/-- e.f, e the exception -/
def mXf (cs : List Nat) (f : Nm) (m : ME) : ME := fun env h => (m env h).bind fun x h1 => match x with
  | .exn c fs => bif cs.contains c then (match lookF f fs with
    | some v => .ok v h1
    | none => .stuck) else .stuck
  | _ => .stuck
def XFld (w : Wo) (cs : List Nat) (f : Nm) : Prop := ∀ c A, c ∈ cs → w.cl c = some A → XfC w.K A ∧ PySem.W.findIn w.K (.ref A) (nmS f) = some none
section
variable {w : Wo} {EX : XC} {X : Cx} {k : Nat} {e : Expr} {m : ME} {p pos : Pos}
def mXi (tb : List (Nat × Bool)) (m : ME) : ME := fun env h => (m env h).bind fun x h1 => match x with
  | .exn c _ => (match tb.lookup c with
    | some b => .ok (.bl b) h1
    | none => .stuck)
  | _ => .stuck
/-- what is known of the classes of errors -/
def XiOk (w : Wo) (u : Value) (tb : List (Nat × Bool)) : Prop := ∀ p ∈ tb, ∀ A, w.cl p.1 = some A → ExcC w.K A ∧ PySem.W.kitOne w.K (.ref A) u = some p.2
end
end MC

end
section
set_option maxRecDepth 100000
set_option maxHeartbeats 4000000
namespace MC
open PySem PySem.Spec PyProof.Rows L2

/-- what is known of the class -/
structure WithC (w : Wo) (X : Cx) (EX : XC) (c : Nat) (opE opX : OC) : Prop where
  ex : ∃ A fe fx, w.cl c = some A ∧ PySem.W.findIn w.K (.ref A) "__enter__" = some (some (.ref fe)) ∧ PySem.W.isFn w.K (.ref fe) = true ∧ PySem.W.findIn w.K (.ref A) "__exit__" = some (some (.ref fx)) ∧ PySem.W.isFn w.K (.ref fx) = true ∧
    Clb X w EX (.ref fe) 1 [] opE ∧ Clb X w EX (.ref fx) 4 [] opX
section
variable {w : Wo} {EX : XC} {X : Cx} {k c : Nat} {opE opX : OC} {M : Addr → Prop} {rho : List Addr} {H : Hp} {h : PH}
end
end MC

end
section
set_option maxRecDepth 100000
set_option maxHeartbeats 4000000
namespace MC
open PySem PySem.Spec PyProof.Rows L2

/-- such a def as it stands: D its keyword-only defaults -/
structure FunK (K : PySem.W.Frag) (x qual : Str) (st : Stmt) (f : Addr) (fd : FuncData) (D : Addr) (pk : Str) : Prop where
  ex : ∃ (oc : Value) (od : Option Addr) (doc pm : Value) (an : Option Addr) (cdv ct : Value) (osl : Array (Option Value)),
    fd = PySem.W.fnOf x qual (defArgs st) (defBody st) (defScope st) .none (.ref D) doc pm an cdv ct ∧ K.lookup f = some ⟨oc, od, .func fd, osl⟩ ∧ PySem.W.codeIn K cdv qual = true
  kp : PySem.W.keepIn K (.ref f) = true
  df : PySem.W.nsIn K D pk = some (some .none)
/-- what such a def promises -/
structure FnMS (P : Program) (W : World) (w : Wo) (mg : Str → Option Value) (base : Heap) (CX : CXT) (ex : XK → XC) (k : Nat) (f : Addr) (m : MF) : Prop where
  run : ∀ (A : Around) (outer : List Env) (s : Shared) (H : Hp) (u0 : Value) (us : List Value) (v0 : V) (vs : List V) (Q : VK) (E : XK), Room k A → A.guards = some [] → Env0 P W w.K mg base A outer s H → RelV v0 u0 → Vals vs us → vs.length ≤ 1000 →
    (∀ p, H p = none → spM w (ex E) m [v0, .non, .ref p] (upd H p (.tup vs)) Q) → codeAny (model P W) A (.call (.ref f) ⟨u0 :: us, []⟩) (CR CX outer P W H s Q E) s
theorem FnMS.mono {P : Program} {W : World} {w : Wo} {mg : Str → Option Value} {base : Heap} {CX : CXT} {ex : XK → XC} {i j : Nat} {f : Addr} {m : MF} (F : FnMS P W w mg base CX ex i f m) (h : i ≤ j) : FnMS P W w mg base CX ex j f m :=
  ⟨fun A outer s H u0 us v0 vs Q E r => F.run A outer s H u0 us v0 vs Q E (r.mono h)⟩
section
variable {P : Program} {W : World} {w : Wo} {mg : Str → Option Value} {base : Heap} {CX : CXT} {ex : XK → XC} {k : Nat}
end
section
variable {w : Wo} {EX : XC} {X : Cx} {k : Nat} {CX : CXT} {ex : XK → XC} {f : Addr} {m : MF} {E : XK} {n : Nat}
end
end MC

end
section
set_option maxRecDepth 100000
set_option maxHeartbeats 4000000
namespace MC
open PySem PySem.Spec PyProof.Rows L2

section
variable {w : Wo} {EX : XC} {X : Cx} {k i : Nat} {rows : List (List Nat × PV)}
end
end MC
namespace MC
end MC

end
section
set_option maxRecDepth 100000
set_option maxHeartbeats 4000000
namespace MC
open PySem PySem.Spec PyProof.Rows L2
section
variable {w : Wo} {EX : XC} {X : Cx} {k : Nat} {M : Addr → Prop} {rho : List Addr} {H : Hp} {h : PH}
end
end MC

end
section
set_option maxRecDepth 100000
set_option maxHeartbeats 4000000
namespace MC
open PySem PySem.Spec PyProof.Rows L2
section
variable {w : Wo} {EX : XC} {X : Cx} {k : Nat}
end
end MC

end
section
set_option maxRecDepth 100000
set_option maxHeartbeats 4000000
namespace MC
open PySem PySem.Spec PyProof.Rows L2

/-- what a def promises there: p the exception that is handled -/
structure FnMH (P : Program) (W : World) (w : Wo) (mg : Str → Option Value) (base : Heap) (k : Nat) (f : Addr) (fd : FuncData) (ps : List Str) (m : MF) : Prop where
  run : ∀ (p : Addr × Obj) (A : Around) (outer : List Env) (s : Shared) (H : Hp) (args : Args) (us : List Value) (vs : List V) (Q : VK) (E : XK), L2H.RoomH k A → L2H.Hot1 A p → L2H.PinOk outer H s p → A.guards = some [] → Env0 P W w.K mg base A outer s H →
    BindsTo s fd args (ps.zip us) → Vals vs us → vs.length = ps.length → spM (w.hot p) EXF m vs H Q → codeAny (model P W) A (.call (.ref f) args) (CR CX0 outer P W H s Q E) s
theorem FnMH.mono {P : Program} {W : World} {w : Wo} {mg : Str → Option Value} {base : Heap} {i j : Nat} {f : Addr} {fd : FuncData} {ps : List Str} {m : MF} (F : FnMH P W w mg base i f fd ps m) (h : i ≤ j) : FnMH P W w mg base j f fd ps m :=
  ⟨fun p A outer s H args us vs Q E r => F.run p A outer s H args us vs Q E (r.mono h)⟩
section
variable {P : Program} {W : World} {w : Wo} {mg : Str → Option Value} {base : Heap} {k : Nat}
end
section
variable {w : Wo} {EX : XC} {X : Cx} {k : Nat} {f : Addr} {fd : FuncData} {ps ks : List Str} {m : MF} {ds : List Value} {dv : List V} {dp : List PV} {n : Nat} {ix : List Nat} {q : Addr × Obj}
end
end MC

end
section
set_option maxRecDepth 100000
set_option maxHeartbeats 4000000
namespace MC
open PySem PySem.Spec PyProof.Rows L2
section
variable {P : Program} {W : World} {A : Around} {E : Value → Shared → Prop} {s : Shared} {env : Env} {F : PySem.W.Frag} {x C fe fx : Addr} {ox : Obj} {od : Option Obj} {pos : Pos}
end
/-- some of the arguments may be told alone; the rest is not looked at -/
structure FnMT (P : Program) (W : World) (w : Wo) (mg : Str → Option Value) (base : Heap) (k : Nat) (f : Addr) (fd : FuncData) (ps : List Str) (m : MF) : Prop where
  run : ∀ (p : Addr × Obj) (A : Around) (outer : List Env) (s : Shared) (H : Hp) (args : Args) (us : List Value) (vs : List V) (Q : VK) (E : XK), L2H.RoomH k A → L2H.Hot1 A p → L2H.PinOk outer H s p → A.guards = some [] → Env0 P W w.K mg base A outer s H →
    BindsTo s fd args (ps.zip us) → Vals vs us → vs.length = ps.length → (∃ M rho as h, VRs (w.hot p) M rho H as (vs.take as.length) ∧ as.length ≤ vs.length ∧ HR (w.hot p) M rho H h ∧ Out (w.hot p) EXF M rho H (m as h) (KV (w.hot p) Q)) →
    codeAny (model P W) A (.call (.ref f) args) (CR CX0 outer P W H s Q E) s
theorem FnMT.mono {P : Program} {W : World} {w : Wo} {mg : Str → Option Value} {base : Heap} {i j : Nat} {f : Addr} {fd : FuncData} {ps : List Str} {m : MF} (F : FnMT P W w mg base i f fd ps m) (h : i ≤ j) : FnMT P W w mg base j f fd ps m :=
  ⟨fun p A outer s H args us vs Q E r => F.run p A outer s H args us vs Q E (r.mono h)⟩
section
variable {w : Wo} {M : Addr → Prop} {rho : List Addr} {H : Hp}
end
section
variable {P : Program} {W : World} {w : Wo} {mg : Str → Option Value} {base : Heap} {k : Nat}
end
end MC

end
section
set_option maxRecDepth 100000
set_option maxHeartbeats 4000000
namespace MC
open PySem PySem.Spec PyProof.Rows L2
/-- what is known of the class -/
structure WithCX (w : Wo) (X : Cx) (EX : XC) (k c : Nat) (opE opX : OC) (m : MF) : Prop where
  ex : ∃ A fe fx fd ps, w.cl c = some A ∧ PySem.W.findIn w.K (.ref A) "__enter__" = some (some (.ref fe)) ∧ PySem.W.isFn w.K (.ref fe) = true ∧ PySem.W.findIn w.K (.ref A) "__exit__" = some (some (.ref fx)) ∧ PySem.W.isFn w.K (.ref fx) = true ∧
    Clb X w EX (.ref fe) 1 [] opE ∧ Clb X w EX (.ref fx) 4 [] opX ∧ FnMT X.prog X.w w X.mg X.base k fx fd ps m ∧ Bd w.K fd ps [] 4 [] [0, 1, 2, 3]
section
variable {w : Wo} {EX : XC} {X : Cx} {k c : Nat} {M : Addr → Prop} {rho : List Addr} {H : Hp} {h : PH}
end
section
variable {w : Wo} {EX : XC} {X : Cx} {k c : Nat} {opE opX : OC} {m : MF} {ks : List Nat} {kq : Nat} {M : Addr → Prop} {rho : List Addr} {H : Hp} {h : PH}
end
end MC

end
section
set_option maxRecDepth 100000
set_option maxHeartbeats 4000000
namespace MC
open PySem PySem.Spec PyProof.Rows L2
section
variable {P : Program} {W : World} {w : Wo} {mg : Str → Option Value} {base : Heap} {k : Nat}
end
section
variable {w : Wo} {EX : XC} {X : Cx} {k : Nat} {f : Addr} {m : MF} {n : Nat}
end
end MC

end
section
set_option maxRecDepth 100000
namespace MM
open PySem L2 MC
end MM

end
section
set_option maxRecDepth 100000
namespace MM
open PySem L2 MC
end MM

end
section
set_option maxRecDepth 100000
namespace MM
open PySem L2 MC
end MM

end
section
set_option maxRecDepth 100000
set_option maxHeartbeats 4000000
namespace MC
open PySem PySem.Spec PyProof.Rows L2
section
variable {P : Program} {w : World} {K : PySem.W.Frag} {z TI TO i1 i2 b : Addr} {x : Str} {t : Tok} {elts : List Expr} {kk : Nat} {tpos : Pos}
end
section
variable {w : Wo} {EX : XC} {X : Cx} {k : Nat} {M : Addr → Prop} {rho : List Addr} {H : Hp} {h : PH}
end
end MC

end
section
set_option maxRecDepth 100000
namespace MM
open PySem L2 MC
end MM

end
section
set_option maxRecDepth 100000
set_option maxHeartbeats 4000000
namespace MC
open PySem PySem.Spec PyProof.Rows L2

mutual
/-- a value read as data; a dict in it is empty and no dict of the machine's own -/
inductive RdQ (h : Heap) : Value → PyData → Prop
  | non : RdQ h .none .none
  | bl (b : Bool) : RdQ h (.bool b) (.bool b)
  | int (i : Int) (t : Tok) : RdQ h (.int i t) (.int i)
  | str (x : Str) (t : Tok) : RdQ h (.str x t) (.str x)
  | lst {p : Addr} {ob : Obj} {us : Array Value} {m : Nat} {ds : List PyData} : h.get? p = some ob → ob.cls = .type "list" → ob.data = .seq us m → RdQs h us.toList ds → RdQ h (.ref p) (.list ds)
  | tup {p : Addr} {ob : Obj} {us : Array Value} {m : Nat} {ds : List PyData} : h.get? p = some ob → ob.cls = .type "tuple" → ob.data = .seq us m → RdQs h us.toList ds → RdQ h (.ref p) (.tuple ds)
  | dic {p : Addr} {ob : Obj} {m : Nat} : h.get? p = some ob → ob.cls = .type "dict" → ob.data = .dict #[] m → (p == sysModules) = false → RdQ h (.ref p) (.dict [])
inductive RdQs (h : Heap) : List Value → List PyData → Prop
  | nil : RdQs h [] []
  | cons {u : Value} {us : List Value} {d : PyData} {ds : List PyData} : RdQ h u d → RdQs h us ds → RdQs h (u :: us) (d :: ds)
end
section
variable {h : Heap} {P : Program} {W : World}
mutual
theorem RdQ.reads : ∀ {u : Value} {d : PyData}, RdQ h u d → ∃ bs, Reads h u d bs
  | _, _, .non => ⟨_, .none⟩
  | _, _, .bl b => ⟨_, .bool b⟩
  | _, _, .int i t => ⟨_, .int i t⟩
  | _, _, .str x t => ⟨_, .str x t⟩
  | _, _, .lst e1 e2 e3 q => let ⟨_, z⟩ := RdQs.reads q; ⟨_, .list e1 e2 e3 z⟩
  | _, _, .tup e1 e2 e3 q => let ⟨_, z⟩ := RdQs.reads q; ⟨_, .tuple e1 e2 e3 z⟩
  | _, _, .dic e1 e2 e3 _ => ⟨_, .dict e1 e2 e3 .nil .nil⟩
theorem RdQs.reads : ∀ {us : List Value} {ds : List PyData}, RdQs h us ds → ∃ bs, ReadsAll h us ds bs
  | _, _, .nil => ⟨_, .nil⟩
  | _, _, .cons q r => let ⟨_, z⟩ := RdQ.reads q; let ⟨_, y⟩ := RdQs.reads r; ⟨_, .cons z y⟩
end
theorem dic_sys {p : Addr} (n : (p == sysModules) = false) : sysModules ∉ p :: [] ++ [] := fun z => by
  have q := (List.mem_cons.mp z).resolve_right fun y => nomatch y
  rw [q] at n
  simp at n
mutual
/-- the text that such a value shows as, wherever the heap has grown -/
theorem RdQ.rk : ∀ {u : Value} {d : PyData}, RdQ h u d → PyData.showable d = true → (PyData.shown d).length ≤ sizeLine → ∃ l, ReadAtMost h (PyData.depth d) l ∧ ReprK P W l h (PyData.depth d) u (PyData.shown d)
  | _, _, .non, g, z => ReprK.of_reads Reads.none g (fun q => nomatch q) z
  | _, _, .bl b, g, z => ReprK.of_reads (Reads.bool b) g (fun q => nomatch q) z
  | _, _, .int i t, g, z => ReprK.of_reads (Reads.int i t) g (fun q => nomatch q) z
  | _, _, .str x t, g, z => ReprK.of_reads (Reads.str x t) g (fun q => nomatch q) z
  | _, _, .dic e1 e2 e3 n, g, z => ReprK.of_reads (Reads.dict e1 e2 e3 .nil .nil) g (fun _ => dic_sys n) z
  | _, _, .lst (p := p) (us := us) (ds := ds) e1 e2 e3 q, g, z => by
    obtain ⟨cs, zs⟩ := q.reads
    have whole : Reads h (.ref p) (.list ds) _ := .list e1 e2 e3 zs
    obtain ⟨l, m, k⟩ := RdQs.rk q (by simpa [PyData.showable] using g) fun t ht => Nat.le_trans (listText_mem_le ht) (by simpa only [PyData.shown] using z)
    have out : p ∉ l := not_mem_of_deeper whole (Nat.lt_of_le_of_lt (Nat.le_refl _) (by simp only [PyData.depth]; omega)) m
    refine ⟨p :: l, .cons whole (Nat.le_refl _) fun b hb => ?_, ?_⟩
    · obtain ⟨d', as', r', hd'⟩ := m b hb
      exact ⟨d', as', r', by simp only [PyData.depth]; omega⟩
    · rw [show PyData.depth (.list ds) = PyData.depthAll ds + 1 from by simp only [PyData.depth], show PyData.shown (.list ds) = listText (PyData.shownAll ds) from by simp only [PyData.shown]]
      cases us with
      | mk ul =>
        cases ul with
        | nil =>
          cases q
          rw [show PyData.shownAll [] = [] from rfl, listText_nil]
          exact ReprK.listEmpty e1 e2 e3
        | cons y ys => exact ReprK.list e1 e2 e3 out (by have := k.length_eq; simpa using this) fun i w e => k.item i w (by simpa using e)
  | _, _, .tup (p := p) (us := us) (ds := ds) e1 e2 e3 q, g, z => by
    obtain ⟨cs, zs⟩ := q.reads
    have whole : Reads h (.ref p) (.tuple ds) _ := .tuple e1 e2 e3 zs
    obtain ⟨l, m, k⟩ := RdQs.rk q (by simpa [PyData.showable] using g) fun t ht => Nat.le_trans (tupleText_mem_le ht) (by simpa only [PyData.shown] using z)
    have out : p ∉ l := not_mem_of_deeper whole (Nat.lt_of_le_of_lt (Nat.le_refl _) (by simp only [PyData.depth]; omega)) m
    refine ⟨p :: l, .cons whole (Nat.le_refl _) fun b hb => ?_, ?_⟩
    · obtain ⟨d', as', r', hd'⟩ := m b hb
      exact ⟨d', as', r', by simp only [PyData.depth]; omega⟩
    · rw [show PyData.depth (.tuple ds) = PyData.depthAll ds + 1 from by simp only [PyData.depth], show PyData.shown (.tuple ds) = tupleText (PyData.shownAll ds) from by simp only [PyData.shown]]
      exact ReprK.tuple e1 e2 e3 out k
theorem RdQs.rk : ∀ {us : List Value} {ds : List PyData}, RdQs h us ds → PyData.showableAll ds = true → (∀ t ∈ PyData.shownAll ds, t.length ≤ sizeLine) → ∃ l, ReadAtMost h (PyData.depthAll ds) l ∧ ReprAllK P W l h (PyData.depthAll ds) us (PyData.shownAll ds)
  | _, _, .nil, _, _ => ⟨[], (fun _ q => nomatch q), .nil⟩
  | _, _, .cons (d := d) (ds := ds) q r, g, z => by
    unfold PyData.showableAll at g
    rw [Bool.and_eq_true] at g
    unfold PyData.shownAll at z ⊢
    unfold PyData.depthAll
    obtain ⟨l1, m1, k1⟩ := RdQ.rk q g.1 (z _ List.mem_cons_self)
    obtain ⟨l2, m2, k2⟩ := RdQs.rk r g.2 fun t ht => z t (List.mem_cons_of_mem _ ht)
    refine ⟨l1 ++ l2, fun b hb => (List.mem_append.mp hb).elim (fun y => ?_) fun y => ?_, .cons ((k1.more fun b y => List.mem_append_left _ y).level_le (Nat.le_max_left ..)) (k2.more_le (fun b y => List.mem_append_right _ y) (Nat.le_max_right ..))⟩
    · obtain ⟨d', as', r', hd'⟩ := m1 b y
      exact ⟨d', as', r', Nat.le_trans hd' (Nat.le_max_left ..)⟩
    · obtain ⟨d', as', r', hd'⟩ := m2 b y
      exact ⟨d', as', r', Nat.le_trans hd' (Nat.le_max_right ..)⟩
end
theorem repr_q {A : Around} {E : Value → Shared → Prop} {s : Shared} {Q : Value → Shared → Prop} {a : Addr} {d : PyData} (r : RdQ s.heap (.ref a) d) (g : d.showable = true) (hg : A.guards = some []) (hu : A.units + (d.depth + 1) < cLine) (z : d.shown.length ≤ sizeLine)
    (k : ∀ h' t tk, (∀ b o, s.heap.get? b = some o → h'.get? b = some o) → Q (.str d.shown t) { s with heap := h', toks := tk }) : wpAny (model P W) A (call (.builtin "repr") [.ref a]) Q E s := by
  cases r with
  | dic e1 e2 e3 n => exact repr_of_reads' (Reads.dict e1 e2 e3 .nil .nil) g (fun _ => dic_sys n) hg hu (fun _ _ y => y) (fun h' u tk y => k h' u tk y) z
  | @lst p ob us m ds e1 e2 e3 q =>
    obtain ⟨cs, zs⟩ := q.reads
    obtain ⟨l, m, kk⟩ := RdQs.rk (P := P) (W := W) q (by simpa [PyData.showable] using g) fun t ht => Nat.le_trans (listText_mem_le ht) (by simpa only [PyData.shown] using z)
    have out : a ∉ l := not_mem_of_deeper (Reads.list e1 e2 e3 zs) (by simp only [PyData.depth]; omega) m
    rw [show PyData.depth (.list ds) = PyData.depthAll ds + 1 from by simp only [PyData.depth]] at hu
    have e : PyData.shown (.list ds) = listText (PyData.shownAll ds) := by simp only [PyData.shown]
    rw [e] at k z
    refine call_repr_slot (by omega) ⟨ob, e1, e2⟩ F.slot_list_repr.toG ?_
    cases us with
    | mk ul =>
      cases ul with
      | nil =>
        cases q
        rw [show PyData.shownAll [] = [] from rfl, listText_nil] at k
        exact call_list_repr_empty ⟨ob, e1, e2⟩ e1 e3 ⟨_, _, rfl, k _ _ _ fun _ _ y => y⟩
      | cons y ys => exact call_list_reprK e1 e2 e3 out (by have := kk.length_eq; simpa using this) (fun i w e => kk.item i w (by simpa using e)) hg (fun b _ => Clear.nil b) (by show A.units + 1 + _ < cLine; omega) (fun _ _ y => y) (fun h' u tk y => ⟨_, _, rfl, k h' u tk y⟩) z
  | @tup p ob us m ds e1 e2 e3 q =>
    obtain ⟨cs, zs⟩ := q.reads
    obtain ⟨l, m, kk⟩ := RdQs.rk (P := P) (W := W) q (by simpa [PyData.showable] using g) fun t ht => Nat.le_trans (tupleText_mem_le ht) (by simpa only [PyData.shown] using z)
    have out : a ∉ l := not_mem_of_deeper (Reads.tuple e1 e2 e3 zs) (by simp only [PyData.depth]; omega) m
    rw [show PyData.depth (.tuple ds) = PyData.depthAll ds + 1 from by simp only [PyData.depth]] at hu
    have e : PyData.shown (.tuple ds) = tupleText (PyData.shownAll ds) := by simp only [PyData.shown]
    rw [e] at k z
    exact call_repr_slot (by omega) ⟨ob, e1, e2⟩ F.slot_tuple_repr (call_tuple_reprK e1 e2 e3 out kk hg (fun b _ => Clear.nil b) (by show A.units + 1 + _ < cLine; omega) (fun _ _ y => y) (fun h' u tk y => ⟨_, _, rfl, k h' u tk y⟩) z)
end

def toDq (h : PH) : Nat → PV → Option PyData
  | 0, _ => none
  | n + 1, x => match x with
    | .non => some .none
    | .bl b => some (.bool b)
    | .int i => some (.int i)
    | .str s => some (.str (S s))
    | .tup xs => (mapO (toDq h n) xs).map .tuple
    | .ref m => match h[m]? with
      | some (.lst xs) => (mapO (toDq h n) xs).map .list
      | some (.dic false []) => some (.dict [])
      | _ => none
    | _ => none
mutual
inductive Dq (K : PySem.W.Frag) (H : Hp) : V → PyData → Prop
  | non : Dq K H .non .none
  | bl (b : Bool) : Dq K H (.bl b) (.bool b)
  | int (i : Int) : Dq K H (.int i) (.int i)
  | str (x : Str) : Dq K H (.str x) (.str x)
  | lst {a : Addr} {xs : List V} {ds : List PyData} : SqL K H a xs → Dqs K H xs ds → Dq K H (.ref a) (.list ds)
  | tup {a : Addr} {xs : List V} {ds : List PyData} : SqT K H a xs → Dqs K H xs ds → Dq K H (.ref a) (.tuple ds)
  | dic {a : Addr} : H a = some (.dK []) → Dq K H (.ref a) (.dict [])
inductive Dqs (K : PySem.W.Frag) (H : Hp) : List V → List PyData → Prop
  | nil : Dqs K H [] []
  | cons {v : V} {vs : List V} {d : PyData} {ds : List PyData} : Dq K H v d → Dqs K H vs ds → Dqs K H (v :: vs) (d :: ds)
end
section
variable {X : Cx} {pins : List (Addr × Obj)} {σ : Sl} {H : Hp} {s : Shared}
theorem dkq_nil {a : Addr} (I : Inv X pins σ H s) (e : H a = some (.dK [])) : ∃ ob m, s.heap.get? a = some ob ∧ ob.cls = .type "dict" ∧ ob.data = .dict #[] m ∧ (a == sysModules) = false := by
  obtain ⟨_, n, vs, kv, ob, es, ep, e1, e2, e3, e4, e5, _⟩ := dk_of I.hok e
  cases kv
  cases hes : es.toList with
  | nil =>
    have : es = #[] := by cases es with | mk l => simp at hes; rw [hes]
    rw [this] at e3
    exact ⟨ob, ep, e1, e2.1, e3, n⟩
  | cons y ys => rw [hes] at e5; cases e5
mutual
theorem Dq.rd (I : Inv X pins σ H s) : ∀ {d : PyData} {v : V} {u : Value}, Dq X.K H v d → RelV v u → RdQ s.heap u d
  | _, _, _, .non, r => by cases r; exact .non
  | _, _, _, .bl b, r => by cases r; exact .bl b
  | _, _, _, .int i, r => by obtain ⟨t, rfl⟩ := r; exact .int i t
  | _, _, _, .str x, r => by obtain ⟨t, rfl⟩ := r; exact .str x t
  | _, _, _, .lst hs ha, r => by
    cases r
    obtain ⟨its, rv, ⟨o, n, ho, hc, _, hd⟩, _⟩ := I.list hs
    exact .lst ho hc hd (Dqs.rd I ha rv)
  | _, _, _, .tup hs ha, r => by
    cases r
    obtain ⟨its, rv, ⟨o, ho, hc, n, hd⟩, _⟩ := I.tuple hs
    exact .tup ho hc hd (Dqs.rd I ha rv)
  | _, _, _, .dic e, r => by
    cases r
    obtain ⟨ob, m, e1, e2, e3, e4⟩ := dkq_nil I e
    exact .dic e1 e2 e3 e4
theorem Dqs.rd (I : Inv X pins σ H s) : ∀ {ds : List PyData} {vs : List V} {us : List Value}, Dqs X.K H vs ds → Vals vs us → RdQs s.heap us ds
  | _, _, _, .nil, r => by cases r; exact .nil
  | _, _, _, .cons a b, r => by cases r with | cons r1 r2 => exact .cons (Dq.rd I a r1) (Dqs.rd I b r2)
end
end
section
variable {w : Wo} {EX : XC} {X : Cx} {k : Nat} {M : Addr → Prop} {rho : List Addr} {H : Hp} {h : PH}
theorem mapO_dq {f : PV → Option PyData} (hf : ∀ x d v, f x = some d → VR w M rho H x v → Dq w.K H v d) : ∀ {xs : List PV} {vs : List V} {ds : List PyData}, mapO f xs = some ds → VRs w M rho H xs vs → Dqs w.K H vs ds
  | [], _, _, e, r => by cases r; cases e; exact .nil
  | x :: xs, _, ds, e, r => by
    cases r with
    | cons r1 r2 =>
      unfold mapO at e
      cases e1 : f x with
      | none => rw [e1] at e; cases e
      | some d =>
        rw [e1] at e
        cases e2 : mapO f xs with
        | none => simp only [e2] at e; cases e
        | some ds' => simp only [e2] at e; cases e; exact .cons (hf x d _ e1 r1) (mapO_dq hf e2 r2)
theorem toDq_dq (hr : HR w M rho H h) : ∀ (n : Nat) (x : PV) (d : PyData) (v : V), toDq h n x = some d → VR w M rho H x v → Dq w.K H v d := by
  intro n
  induction n with
  | zero => intro x d v e; cases e
  | succ n ih =>
    intro x d v e r
    cases r with
    | non => cases e; exact .non
    | bl b => cases e; exact .bl b
    | int i => cases e; exact .int i
    | str s => cases e; exact .str _
    | @tup xs vs A ha sa =>
      have e' : (mapO (toDq h n) xs).map PyData.tuple = some d := e
      cases e2 : mapO (toDq h n) xs with
      | none => rw [e2] at e'; cases e'
      | some ds => rw [e2] at e'; cases e'; exact .tup ha (mapO_dq ih e2 sa)
    | @ref m A ha =>
      have e' : (match h[m]? with
        | some (.lst xs) => (mapO (toDq h n) xs).map PyData.list
        | some (.dic false []) => some (.dict [])
        | _ => none) = some d := e
      split at e'
      · rename_i xs e1
        obtain ⟨vs, h4, s1⟩ := hr.lst e1 ha
        cases e2 : mapO (toDq h n) xs with
        | none => rw [e2] at e'; cases e'
        | some ds => rw [e2] at e'; cases e'; exact .lst (SqL.of h4) (mapO_dq ih e2 s1)
      · rename_i e1
        cases e'
        obtain ⟨A', hA, q⟩ := hr.ob m _ e1
        obtain rfl : A' = A := Option.some.inj (hA.symm.trans ha)
        obtain ⟨ks, q1, q2⟩ := q
        cases q2
        exact .dic q1
      · cases e'
    | _ => cases e
/-- repr of None, a truth, a number, a text, a list, a tuple, an empty dict, and of lists and tuples of these -/
def reprDq (h : PH) (x : PV) : Option (List Nat) := match toDq h DEP x with
  | some d => bif PyData.showable d && (decide (d.depth ≤ 60) && decide (d.shown.length ≤ LIM)) then some d.shown.cps.toList else none
  | none => none
def bReprQ : OC := fun h xs => match xs with
  | [.non] => .ok (.str noneT) h
  | [.bl b] => .ok (.str (bif b then trueT else falseT)) h
  | [.int i] => bif fitI i then .ok (.str (strI i)) h else .stuck
  | [.str s] => bif decide ((reprText (S s)).length ≤ LIM) then .ok (.str (reprS s)) h else .stuck
  | [x] => bif isRefV x then (match reprDq h x with
    | some s => .ok (.str s) h
    | none => .stuck) else .stuck
  | _ => .stuck
theorem b_reprQ {hh : Bool} (C : CxtG hh w k X) : CallR X (.builtin "repr") (rA w EX bReprQ) := by
  intro pins s σ H xs us Q I r hh
  have old : rA w EX bReprA xs H Q → wpAny (model X.prog X.w) X.A (call (.builtin "repr") us) (fun u s' => ∃ v H', Inv X pins σ H' s' ∧ RelV v u ∧ Q v H') X.xe s := fun z => b_reprA C pins s σ H xs us Q I r z
  obtain ⟨M, rho, h, ps, hr, rs, o⟩ := hh
  unfold bReprQ at o
  split at o
  · exact old ⟨M, rho, h, _, hr, rs, o⟩
  · exact old ⟨M, rho, h, _, hr, rs, o⟩
  · exact old ⟨M, rho, h, _, hr, rs, o⟩
  · exact old ⟨M, rho, h, _, hr, rs, o⟩
  · rename_i x _ _ _ _
    obtain ⟨v, rfl, rv⟩ := vrs1 rs
    obtain ⟨u, rfl, ru⟩ := vals1 r
    obtain ⟨hx, o⟩ := Out.bif o
    obtain ⟨a, rfl⟩ : ∃ a, v = .ref a := by
      cases rv <;> first | exact ⟨_, rfl⟩ | exact absurd hx (by simp [isRefV])
    obtain rfl : u = Value.ref a := ru
    unfold reprDq at o
    split at o
    · rename_i z ez
      split at ez
      · rename_i d ed
        cases hc : (PyData.showable d && (decide (d.depth ≤ 60) && decide (d.shown.length ≤ LIM))) with
        | false => rw [hc] at ez; cases ez
        | true =>
          rw [hc] at ez
          cases ez
          simp only [Bool.and_eq_true, decide_eq_true_eq] at hc
          obtain ⟨c1, c3, c4⟩ := hc
          have dp := toDq_dq hr _ _ _ _ ed rv
          rw [← C.hK] at dp
          have hu := C.units
          refine repr_q (dp.rd I (show RelV (V.ref a) (Value.ref a) from rfl)) c1 C.grd (by omega) (by rw [lim_eq]; exact c4) fun h' u tk hk => ?_
          exact ⟨.str d.shown, H, I.kept (t' := tk) hk, ⟨u, rfl⟩, by
            have := o.now hr _ (.str _)
            rw [show (⟨d.shown.cps.toList.toArray⟩ : Str) = d.shown from S_of _] at this
            exact this⟩
      · cases ez
    · exact (show False from o).elim
  · exact (show False from o).elim
end
end MC

end
section
set_option maxRecDepth 100000
set_option maxHeartbeats 4000000
namespace MC
open PySem PySem.Spec PyProof.Rows L2

/-- what is around a repr within a repr -/
structure GA (X : Cx) (U D : Nat) (bs : List Addr) (d : Nat) (A : Around) (g : List Code) : Prop where
  gs : A.guards = some g
  cl : ∀ b ∈ bs, Clear g b
  hd : A.handled = X.A.handled
  fr : A.frames = X.A.frames
  un : A.units + d ≤ U
  dp : A.depth + d ≤ D
theorem GA.inner {X : Cx} {U D : Nat} {bs : List Addr} {d : Nat} {A : Around} {g : List Code} {a : Addr} {id : String} {rest : List Value} {kw : List (Str × Value)} (q : GA X U D (a :: bs) (d + 1) A g) (na : a ∉ bs)
    (ig : (Code.builtin id ⟨.ref a :: rest, kw⟩).isGuard = true) (hu : (Code.builtin id ⟨.ref a :: rest, kw⟩).cUnits = 1) (hw : (Code.builtin id ⟨.ref a :: rest, kw⟩).weight = 1) : GA X U D bs d (A.under (.builtin id ⟨.ref a :: rest, kw⟩)) (.builtin id ⟨.ref a :: rest, kw⟩ :: g) := by
  refine ⟨guards_under_guard ig q.gs, fun b hb => (q.cl b (List.mem_cons_of_mem _ hb)).cons fun e => na (e ▸ hb), q.hd, ?_, ?_, ?_⟩
  · simp only [Around.under]
    have : (Code.builtin id ⟨.ref a :: rest, kw⟩).envs = [] := by simp [Code.envs, Code.isFrame]
    rw [this]
    exact q.fr
  · simp only [Around.under]
    rw [hu]; have := q.un; omega
  · simp only [Around.under]
    rw [hw]; have := q.dp; omega
theorem w_loop (args : Args) : (Code.builtin "list.__repr__.loop" args).weight = 1 := by
  have e : (Code.builtin "list.__repr__.loop" args).frames = 0 := rfl
  simp [Code.weight, e, Code.isCreation, Code.isCaller, isGuard_list_loop]
theorem w_tupU (args : Args) : (Code.builtin "tuple.__repr__.under" args).weight = 1 := by
  have e : (Code.builtin "tuple.__repr__.under" args).frames = 0 := rfl
  simp [Code.weight, e, Code.isCreation, Code.isCaller, isGuard_tuple_repr_under]
/-- the value shows as this text, wherever it is asked -/
def RpV (X : Cx) (σ : Sl) (H : Hp) (U D : Nat) (bs : List Addr) (d : Nat) (v : V) (t : Str) : Prop :=
  ∀ (u : Value), RelV v u → ∀ (base : Nat), base + t.length ≤ sizeLine → ∀ (A : Around) (g : List Code) (E : Value → Shared → Prop) (s : Shared) (pins : List (Addr × Obj)) (Q : Str → Shared → Prop), GA X U D bs d A g → Inv X pins σ H s →
    (∀ s', Inv X pins σ H s' → Q t s') → wpAny (model X.prog X.w) A (pyReprUnder base u) Q E s
inductive RpVs (X : Cx) (σ : Sl) (H : Hp) (U D : Nat) (bs : List Addr) (d : Nat) : List V → List Str → Prop
  | nil : RpVs X σ H U D bs d [] []
  | cons {v : V} {t : Str} {vs : List V} {ts : List Str} : RpV X σ H U D bs d v t → RpVs X σ H U D bs d vs ts → RpVs X σ H U D bs d (v :: vs) (t :: ts)
section
variable {X : Cx} {σ : Sl} {H : Hp} {U D : Nat} {bs : List Addr} {d : Nat} {A : Around} {g : List Code}
theorem RpVs.len : ∀ {vs : List V} {ts : List Str}, RpVs X σ H U D bs d vs ts → ts.length = vs.length
  | _, _, .nil => rfl
  | _, _, .cons _ r => congrArg (· + 1) r.len
theorem RpVs.at : ∀ {vs : List V} {ts : List Str}, RpVs X σ H U D bs d vs ts → ∀ (i : Nat) (v : V), vs[i]? = some v → ∃ t, ts[i]? = some t ∧ RpV X σ H U D bs d v t
  | _, _, .nil, i, v, e => by simp at e
  | _, _, .cons a _, 0, v, e => by simp at e; subst e; exact ⟨_, rfl, a⟩
  | _, _, .cons _ b, i + 1, v, e => by obtain ⟨t, h1, h2⟩ := b.at i v (by simpa using e); exact ⟨t, by simpa using h1, h2⟩
theorem vals_at : ∀ {vs : List V} {us : List Value} (i : Nat) (v : V), Vals vs us → vs[i]? = some v → ∃ u, us[i]? = some u ∧ RelV v u
  | _, _, i, v, .nil, e => by simp at e
  | _, _, 0, v, .cons a _, e => by simp at e; subst e; exact ⟨_, rfl, a⟩
  | _, _, i + 1, v, .cons _ b, e => by obtain ⟨u, h1, h2⟩ := vals_at i v b (by simpa using e); exact ⟨u, by simpa using h1, h2⟩

/-- the texts of a list's things, one after the other -/
theorem loop_lst {R : Result → Shared → Prop} {a L : Addr} {xs : List V} {ts : List Str} {base : Nat} {pins : List (Addr × Obj)} (hne : a ≠ L) (hs : SqL X.K H a xs) (G : GA X U D (a :: bs) (d + 1) A g) (na : a ∉ bs)
    (l0 : X.s_0.heap.objs.size ≤ L) (l1 : L ≠ X.env.locals) (l2 : ∀ x c, X.env.cells.lookup x = some c → c ≠ L) (l3 : H L = none) (l4 : L ∉ X.fs) (l5 : ∀ p ∈ X.pn ++ pins, p.1 ≠ L) (hl : ts.length = xs.length)
    (hT : ∀ (i : Nat) (v : V), xs[i]? = some v → ∃ t, ts[i]? = some t ∧ RpV X σ H U D bs d v t) (hz : base + (listText ts).length ≤ sizeLine) :
    ∀ (k i : Nat) (s : Shared) (acc : Array Value) (c : Nat) (done : List (Str × Tok)), xs.length - i = k → i ≤ xs.length → Inv X pins σ H s → s.heap.get? L = some { cls := .type "list", dict := none, data := .seq acc c, slots := #[] } →
    acc.toList = strValues done → done.map (·.1) = ts.take i → (∀ s' u, Inv X pins σ H s' → R (.ok (.ret (.str (listText ts) u))) s') →
    codeAny (model X.prog X.w) A (.builtin "list.__repr__.loop" ⟨[.ref a, rawInt i, .ref L, rawInt ((base + piled (ts.take i) : Nat) : Int)], []⟩) R s := by
  have z0 : (listText ts).length = (textFrom 0 "[" ts).length + 1 := by
    show (textFrom 0 "[" ts ++ "]").length = _
    rw [strLen_append]; rfl
  have zl := textFrom_len ts 0 "["
  have z1 : xs.length ≤ sizeLine := by have q := zl.1; rw [if_neg (Nat.lt_irrefl 0)] at q; omega
  have z2 : ∀ t ∈ ts, t.length ≤ sizeLine := fun t ht => by have q := zl.2.1 t ht; omega
  have z3 : (listText ts).length ≤ sizeLine := by omega
  have z4 := piled_le_listText ts
  intro k
  induction k with
  | zero =>
    intro i s acc c done hk hi I hL hacc hdone hR
    have ei : i = xs.length := by omega
    obtain ⟨its, rv, ⟨o, n, ho, _, _, hdt⟩, _⟩ := I.list hs
    refine codeAny_builtin F.entry_list_repr_loop ?_; show wpAny _ _ (Builtin.«list.__repr__.loop» ⟨[.ref a, .int i 0, .ref L, .int ((base + piled (ts.take i) : Nat) : Int) 0], []⟩) _ _ s
    rw [repr_loop_tree]; refine wpAny_bind (wpAny_listItems ho hdt ?_)
    have no : its.toArray[(i : Int).toNat]? = none := by have := rv.length; simp [ei, this]
    simp only [no]; unfold reprEnd
    refine wpAny_bind (wpAny_listItems hL rfl ?_); rw [hacc, repr_fold]
    have al : done.map (·.1) = ts := by rw [hdone, ei, ← hl, List.take_length]
    refine wpAny_bind (wpAny_pure ?_); rw [al]
    refine wpAny_bind (wpAny_mkStr (wpAny_pure ?_) z3); exact hR _ _ (I.tok _)
  | succ k ih =>
    intro i s acc c done hk hi I hL hacc hdone hR
    have lt : i < xs.length := by omega
    obtain ⟨v, ev⟩ : ∃ v, xs[i]? = some v := ⟨xs[i], by simp [lt]⟩
    obtain ⟨t, ht, hrep⟩ := hT i v ev
    obtain ⟨its, rv, ⟨o, n, ho, _, _, hdt⟩, _⟩ := I.list hs
    obtain ⟨u, eu, ru⟩ := vals_at i v rv ev
    have p1 := piled_take_succ ht
    have p2 := piled_take_le ts (i + 1)
    refine codeAny_builtin F.entry_list_repr_loop ?_; show wpAny _ _ (Builtin.«list.__repr__.loop» ⟨[.ref a, .int i 0, .ref L, .int ((base + piled (ts.take i) : Nat) : Int) 0], []⟩) _ _ s
    rw [repr_loop_tree]; refine wpAny_bind (wpAny_listItems ho hdt ?_)
    have so : its.toArray[(i : Int).toNat]? = some u := by simpa using eu
    simp only [so]; rw [Int.toNat_natCast]
    have J : Inv X ((L, { cls := .type "list", dict := none, data := .seq acc c, slots := #[] }) :: pins) σ H s := I.pins_of fun p hp => by
      rcases List.mem_cons.mp hp with e | hp
      · subst e; exact ⟨hL, l3, l1, l4, fun v z => nomatch z⟩
      · exact I.pin p (List.mem_append_right _ hp)
    refine wpAny_bind (wpAny_holding (hrep u ru (base + piled (ts.take i) + 1) (by omega) _ _ _ _ _ _ (G.inner na (isGuard_list_loop _) rfl (w_loop _)) J fun s' J' => ?_))
    have hL' : s'.heap.get? L = some { cls := .type "list", dict := none, data := .seq acc c, slots := #[] } := (J'.pin _ (List.mem_append_right _ List.mem_cons_self)).1
    have I' : Inv X pins σ H s' := J'.pins_of fun p hp => J'.pin p (List.mem_append_right _ (List.mem_cons_of_mem _ hp))
    refine wpAny_bind (wpAny_mkStr ?_ (z2 t (List.mem_of_getElem? ht))); refine wpAny_bind ?_
    show wpAny _ _ (updateSeq L _) _ _ _
    have az : acc.size ≤ sizeLine := by
      have e1 : acc.toList.length = acc.size := by simp
      have e2 : (strValues done).length = done.length := by simp [strValues]
      have e3 : done.length = (ts.take i).length := by rw [← hdone, List.length_map]
      have e4 : (ts.take i).length ≤ i := by rw [List.length_take]; omega
      rw [hacc] at e1; omega
    refine wpAny_updateSeq hL' rfl (wpAny_pure ⟨F.quiet_list_repr_loop _, ?_⟩) az
    have e1 : ((i : Int) + 1) = ((i + 1 : Nat) : Int) := by omega
    have e2 : base + piled (ts.take i) + (t.length + 2) = base + piled (ts.take (i + 1)) := by omega
    rw [e1, e2]
    exact ih (i + 1) _ (acc.push (.str t s'.toks)) _ (done ++ [(t, s'.toks)]) (by omega) lt ((I'.tok _).turned (fun b o hb e => (Heap.get?_update_other _ _ (fun h : L = b => hb h.symm)).trans e) l3 l1 (.inr l0) l2 l5) (Heap.get?_update_self _ hL' rfl) (by simp [hacc, strValues]) (by simp [List.take_add_one, ht, hdone]) hR
theorem inv_fresh {pins : List (Addr × Obj)} {s : Shared} (I : Inv X pins σ H s) : X.s_0.heap.objs.size ≤ s.heap.objs.size ∧ s.heap.objs.size ≠ X.env.locals ∧ (∀ x c, X.env.cells.lookup x = some c → c ≠ s.heap.objs.size) ∧ H s.heap.objs.size = none ∧ s.heap.objs.size ∉ X.fs ∧ ∀ p ∈ X.pn ++ pins, p.1 ≠ s.heap.objs.size :=
  ⟨I.sz, fun e => absurd I.lt (by rw [← e]; exact Nat.lt_irrefl _), fun x c e z => by
    obtain ⟨v, hv⟩ := I.cell x c e
    have q := hv.lt
    rw [z] at q
    exact Nat.lt_irrefl _ q, I.hok.fresh (Nat.le_refl _), I.nofs (Nat.le_refl _), fun p hp e => by
    have q := Heap.lt_size (I.pin p hp).1
    rw [e] at q
    exact Nat.lt_irrefl _ q⟩
theorem at_lst {R : Result → Shared → Prop} {a : Addr} {xs : List V} {ts : List Str} {base : Nat} {pins : List (Addr × Obj)} {s : Shared} (hs : SqL X.K H a xs) (na : a ∉ bs) (he : xs ≠ []) (r : RpVs X σ H U D bs d xs ts) (G : GA X U D (a :: bs) (d + 1) A g)
    (I : Inv X pins σ H s) (hR : ∀ s' u, Inv X pins σ H s' → R (.ok (.ret (.str (listText ts) u))) s') (hz : base + (listText ts).length ≤ sizeLine) :
    wpAny (model X.prog X.w) A.in1 (Builtin.listReprAt base ⟨[.ref a], []⟩) (fun fin s' => match fin with | .done f => R (.ok f) s' | .again c' => c'.quiet = true ∧ codeAny (model X.prog X.w) A c' R s') (fun e s' => R (.error e) s') s := by
  obtain ⟨its, rv, ⟨o, n, ho, _, _, hdt⟩, _⟩ := I.list hs
  cases its with
  | nil => cases rv; exact absurd rfl he
  | cons x l =>
    refine wpAny_list_repr_head (A := A.in1) (x := x) (l := l) G.gs (fun v rest kw hm => listSameRef_of_ne (G.cl a List.mem_cons_self _ _ _ _ hm)) ho hdt ?_
    refine wpAny_bind (m := newList []) (wpAny_newObj_type ?_)
    obtain ⟨f0, f1, f2, f3, f4, f5⟩ := inv_fresh I
    refine wpAny_pure ⟨F.quiet_list_repr_loop _, ?_⟩
    exact loop_lst (L := s.heap.objs.size) (Nat.ne_of_lt (Heap.lt_size ho)) hs G na f0 f1 f2 f3 f4 f5 r.len (fun i v e => r.at i v e) hz _ 0 _ #[] _ [] rfl (Nat.zero_le _)
      (I.kept fun b o e => Heap.get?_push_of_some _ e) (Heap.get?_push_size _ rfl) rfl (by simp) hR
theorem RpV.lst {a : Addr} {xs : List V} {ts : List Str} (hU : U < cLine) (hs : SqL X.K H a xs) (na : a ∉ bs) (he : xs ≠ []) (r : RpVs X σ H U D bs d xs ts) : RpV X σ H U D (a :: bs) (d + 1) (.ref a) (listText ts) := by
  intro u ru base hb A g E s pins Q G I hQ
  obtain rfl : u = Value.ref a := ru
  obtain ⟨its, rv, ⟨o, n, ho, hc, _, hdt⟩, _⟩ := I.list hs
  have ty : s.TypeIs (.ref a) "list" := ⟨o, ho, hc⟩
  refine wpAny_pyReprUnder_ref (by omega) (wpAny_pyReprObjUnder_twin (twin := "list.__repr__.under") ty F.slot_list_repr.toG rfl (by have := G.un; omega) ?_)
  exact call_twin_plain F.plain_list_repr_under F.entry_list_repr_under F.check_list_repr_under ty F.slot_list_repr.toG (F.args_list_repr_1 _)
    (at_lst (R := callEnd (fun v s' => (∃ x u, v = .str x u) ∧ ∃ x u, v = .str x u ∧ Q x s') E) hs na he r G I (fun s' u I' => ⟨⟨_, _, rfl⟩, _, _, rfl, hQ s' I'⟩) hb)
theorem fold_tup {E : Value → Shared → Prop} {pins : List (Addr × Obj)} (G : GA X U D bs d A g) : ∀ (vs : List V) (us : List Value) (ts : List Str) (acc : Array Str) (n : Nat) (s : Shared) (Q : (Array Str × Nat) → Shared → Prop), RpVs X σ H U D bs d vs ts → Vals vs us → n + piled ts ≤ sizeLine → Inv X pins σ H s →
    (∀ s', Inv X pins σ H s' → Q ⟨acc ++ ts.toArray, n + piled ts⟩ s') → wpAny (model X.prog X.w) A (forIn us (⟨acc, n⟩ : (Array Str × Nat)) tupBody) Q E s
  | _, _, _, acc, n, s, Q, .nil, .nil, _, I, h => by
    have h0 := h s I
    simp only [List.forIn_nil]; exact wpAny_pure (by simpa [piled] using h0)
  | _, _, _, acc, n, s, Q, .cons (t := t) (ts := ts) r1 r2, .cons (l₂ := us) q1 q2, hn, I, h => by
    rw [piled_cons] at hn
    rw [List.forIn_cons]
    refine wpAny_bind (wpAny_bind (r1 _ q1 (n + 1) (by omega) _ _ _ _ _ _ G I fun s' I' => wpAny_pure ?_))
    refine fold_tup G _ us ts (acc.push t) (n + (t.length + 2)) s' Q r2 q2 (by omega) I' fun s2 I2 => ?_
    have h1 := h s2 I2
    have e : n + piled (t :: ts) = n + (t.length + 2) + piled ts := by rw [piled_cons]; omega
    rw [e] at h1; simpa using h1
theorem at_tup {R : Result → Shared → Prop} {a : Addr} {xs : List V} {ts : List Str} {base : Nat} {pins : List (Addr × Obj)} {s : Shared} {id : String} {rest : List Value} (hs : SqT X.K H a xs) (na : a ∉ bs) (r : RpVs X σ H U D bs d xs ts) (G : GA X U D (a :: bs) (d + 1) A g)
    (ig : (Code.builtin id ⟨.ref a :: rest, []⟩).isGuard = true) (hu : (Code.builtin id ⟨.ref a :: rest, []⟩).cUnits = 1) (hw : (Code.builtin id ⟨.ref a :: rest, []⟩).weight = 1)
    (I : Inv X pins σ H s) (hR : ∀ s' u, Inv X pins σ H s' → R (.ok (.ret (.str (tupleText ts) u))) s') (hz : base + (tupleText ts).length ≤ sizeLine) :
    wpOwn (model X.prog X.w) A (.builtin id ⟨.ref a :: rest, []⟩) (Builtin.tupleReprAt base ⟨[.ref a], []⟩) (fun fin s' => match fin with | .done f => R (.ok f) s' | .again c' => c'.quiet = true ∧ codeAny (model X.prog X.w) A c' R s') (fun e s' => R (.error e) s') s := by
  obtain ⟨its, rv, ⟨o, ho, _, n, hdt⟩, _⟩ := I.tuple hs
  have ca : Clear g a := G.cl a List.mem_cons_self
  have le : ts.length = its.toArray.size := by rw [r.len, rv.length]; simp
  have z4 := piled_le_tupleText ts
  have z0 : (tupleText ts).length ≤ sizeLine := by omega
  rw [tuple_repr_tree, tupleReprUnderWay_eq]; refine wpOwn_bind (wpOwn_stackTailAny G.gs (tupGuardF_off _) (tupGuardF_pos _) ?_)
  have no : (g.any fun c => tupGuardF (.ref a) (c, default)) = false := by
    rw [List.any_eq_false]; intro c hc; rw [tupGuardF_of_clear ca c hc]; exact Bool.false_ne_true
  rw [no]; refine wpOwn_of_wpAny ?_; show wpAny _ _ (tupleReprRest base (.ref a)) _ _ s
  unfold tupleReprRest Builtin.Tuple.tupleItemsOf; refine wpAny_bind (wpAny_bind (wpAny_seqItems ho hdt (wpAny_pure ?_)))
  rw [← Array.forIn_toList]
  refine wpAny_bind (fold_tup (G.inner na ig hu hw) xs its ts _ _ _ _ r rv (by omega) I fun s' I' => ?_)
  refine wpAny_bind (wpAny_mkStr (wpAny_pure ?_) (by simpa [tupleText, le] using z0))
  have h1 := hR _ s'.toks (I'.tok (s'.toks + 1))
  simpa [tupleText, le] using h1
theorem RpV.tup {a : Addr} {xs : List V} {ts : List Str} (hU : U < cLine) (hs : SqT X.K H a xs) (na : a ∉ bs) (r : RpVs X σ H U D bs d xs ts) : RpV X σ H U D (a :: bs) (d + 1) (.ref a) (tupleText ts) := by
  intro u ru base hb A g E s pins Q G I hQ
  obtain rfl : u = Value.ref a := ru
  obtain ⟨its, rv, ⟨o, ho, hc, n, hdt⟩, _⟩ := I.tuple hs
  have ty : s.TypeIs (.ref a) "tuple" := ⟨o, ho, hc⟩
  refine wpAny_pyReprUnder_ref (by omega) (wpAny_pyReprObjUnder_twin (twin := "tuple.__repr__.under") ty F.slot_tuple_repr rfl (by have := G.un; omega) ?_)
  exact call_twin_own (F.quiet_tuple_repr_under _) F.entry_tuple_repr_under F.check_tuple_repr_under ty F.slot_tuple_repr (F.args_tuple_repr_1 _)
    (at_tup (R := callEnd (fun v s' => (∃ x u, v = .str x u) ∧ ∃ x u, v = .str x u ∧ Q x s') E) hs na r G (isGuard_tuple_repr_under _) rfl (w_tupU _) I (fun s' u I' => ⟨⟨_, _, rfl⟩, _, _, rfl, hQ s' I'⟩) hb)
/-- a plain value -/
theorem RpV.leaf {v : V} {t : Str} (h : ∀ u, RelV v u → ReprIs X.prog X.w u t) : RpV X σ H U D bs d v t := fun u ru base hb A g E s pins Q G I hQ =>
  h u ru base hb A E s Q fun tk => hQ _ (I.tok tk)
/-- an empty list, an empty dict -/
theorem RpV.nil {a : Addr} (hU : U < cLine) (hs : SqL X.K H a []) : RpV X σ H U D bs (d + 1) (.ref a) (S [91, 93]) := by
  intro u ru base hb A g E s pins Q G I hQ
  obtain rfl : u = Value.ref a := ru
  obtain ⟨its, rv, ⟨o, n, ho, hc, _, hdt⟩, _⟩ := I.list hs
  cases rv
  exact wpAny_pyReprUnder_ref (by omega) (wpAny_pyReprObjUnder_list_empty ⟨o, ho, hc⟩ (by have := G.un; omega) ho hdt ⟨_, _, rfl, hQ _ (I.tok _)⟩)
theorem RpV.dic {a : Addr} (hU : U < cLine) (he : H a = some (.dK [])) : RpV X σ H U D (a :: bs) (d + 1) (.ref a) (dictText []) := by
  intro u ru base hb A g E s pins Q G I hQ
  obtain rfl : u = Value.ref a := ru
  obtain ⟨ob, m, e1, e2, e3, e4⟩ := dkq_nil I he
  exact (ReprK.dict (as := []) (d := 0) (h₀ := s.heap) e1 e2 e3 e4 (fun z => nomatch z) .nil) base hb A g E s Q G.gs (fun b hb' => G.cl b (by rw [List.mem_singleton.mp hb']; exact List.mem_cons_self)) (by have := G.un; omega) (fun _ _ z => z) fun h' tk hk => hQ _ (I.kept hk)
end
end MC

end
section
set_option maxRecDepth 100000
set_option maxHeartbeats 4000000
namespace MC
open PySem PySem.Spec PyProof.Rows L2

/-- a class's own __repr__: its text from the fields, whatever is handled or shown around -/
structure FnT (P : Program) (W : World) (w : Wo) (mg : Str → Option Value) (base : Heap) (c : Nat) (f : Addr) (tx : List (Nm × PV) → Option (List Nat)) : Prop where
  run : ∀ (A : Around) (outer : List Env) (s : Shared) (H : Hp) (a C : Addr) (dx : Addr) (gs : List (Str × V)) (fs : List (Nm × PV)) (t : List Nat), L2H.RoomH 1 A → (A.handled = none ∨ ∃ p, L2H.Hot1 A p ∧ L2H.PinOk outer H s p) → Env0 P W w.K mg base A outer s H →
    w.cl c = some C → H a = some (.ins C dx gs) → (∃ (w' : Wo) (M : Addr → Prop) (rho : List Addr), w'.K = w.K ∧ FRs w' M rho H fs gs) → tx fs = some t →
    codeAny (model P W) A (.call (.ref f) ⟨[.ref a], []⟩) (CR CX0 outer P W H s (fun v H' => v = .str (S t) ∧ H' = H) (fun _ _ _ => False)) s
section
variable {P : Program} {W : World} {w : Wo} {mg : Str → Option Value} {base : Heap}
end
end MC

end
section
set_option maxRecDepth 100000
set_option maxHeartbeats 4000000
namespace MC
open PySem PySem.Spec PyProof.Rows L2

section
variable {P : Program} {W : World} {w : Wo} {mg : Str → Option Value} {base : Heap}
end
end MC

end
section
set_option maxRecDepth 100000
set_option maxHeartbeats 4000000
namespace MC
open PySem PySem.Spec PyProof.Rows L2

/-- a class with a __repr__ of its own -/
structure SpT (P : Program) (W : World) (w : Wo) (mg : Str → Option Value) (base : Heap) (c : Nat) (tx : List (Nm × PV) → Option (List Nat)) : Prop where
  ex : ∃ A f, w.cl c = some A ∧ PySem.W.findIn w.K (.ref A) "__repr__" = some (some (.ref f)) ∧ PySem.W.isFn w.K (.ref f) = true ∧ FnT P W w mg base c f tx
theorem SpT.hot {P : Program} {W : World} {w : Wo} {mg : Str → Option Value} {base : Heap} {c : Nat} {tx : List (Nm × PV) → Option (List Nat)} (S : SpT P W w mg base c tx) (p : Addr × Obj) : SpT P W (w.hot p) mg base c tx := by
  obtain ⟨A, f, h1, h2, h3, F⟩ := S.ex
  exact ⟨A, f, h1, h2, h3, ⟨F.run⟩⟩
section
variable {X : Cx} {σ : Sl} {H : Hp} {U D : Nat} {bs : List Addr} {d : Nat} {A : Around} {g : List Code} {w : Wo} {k : Nat}
theorem RpV.ins {hh : Bool} {c : Nat} {tx : List (Nm × PV) → Option (List Nat)} (C : CxtG hh w k X) (T : SpT X.prog X.w w X.mg X.base c tx) (hU : U + 216 < cLine) (hD : D + 8 < recursionLimit) {a B dx : Addr} {gs : List (Str × V)} {fs : List (Nm × PV)} {t : List Nat} {M : Addr → Prop} {rho : List Addr}
    (hB : w.cl c = some B) (ha : H a = some (.ins B dx gs)) (hf : FRs w M rho H fs gs) (ht : tx fs = some t) : RpV X σ H U D bs d (.ref a) (S t) := by
  obtain ⟨B', f, hA, hs, hfn, F⟩ := T.ex
  rw [hB] at hA
  cases hA
  intro u ru base hb A g E s pins Q G I hQ
  obtain rfl : u = Value.ref a := ru
  have gu := G.un
  have gd := G.dp
  obtain ⟨mA, J, _⟩ := ins_get I.hok ha
  obtain ⟨od, J, _⟩ := J.look
  have hs' : PySem.W.findIn X.K (.ref B) "__repr__" = some (some (.ref f)) := by rw [C.hK]; exact hs
  have hfn' : PySem.W.isFn X.K (.ref f) = true := by rw [C.hK]; exact hfn
  have e0 : Env0 X.prog X.w w.K X.mg X.base X.A X.stack s H := by rw [← C.hK]; exact I.env0
  have e1 : Env0 X.prog X.w w.K X.mg X.base A X.stack s H := ⟨G.fr.trans e0.frames, e0.mod, e0.bs, e0.bsz, e0.funs, e0.frf, e0.hok, e0.bare⟩
  have hot : A.handled = none ∨ ∃ p, L2H.Hot1 A p ∧ L2H.PinOk X.stack H s p := by
    cases hh with
    | false => exact .inl (G.hd.trans (C.calmP rfl).2)
    | true =>
      obtain ⟨p, ep, hpn, h1⟩ := C.pinP rfl
      have P1 := I.pin p (List.mem_append_left _ hpn)
      exact .inr ⟨p, ⟨G.hd.trans h1.1, h1.2⟩, ⟨P1.1, P1.2.1, fun hm => (List.mem_cons.mp (I.stkSub p.1 hm)).elim P1.2.2.1 P1.2.2.2.1, P1.2.2.2.2⟩⟩
  have run := F.run A X.stack s H a B dx gs fs t ⟨by omega, by omega⟩ hot e1 hB ha ⟨w, M, rho, rfl, hf⟩ ht
  have called : wpAny (model X.prog X.w) A (call (.ref f) [.ref a]) (fun v s' => ∃ y, v = .str (S t) y ∧ Inv X pins σ H s') E s := by
    refine wpAny_call (codeAny_mono run fun rs s' q => ?_)
    cases rs with
    | error e => exact (show False from q).elim
    | ok fl =>
      cases fl with
      | ret u =>
        obtain ⟨v, H1, I1, ru, rfl, rfl⟩ := I.after q
        obtain ⟨y, rfl⟩ := (show ∃ y, u = Value.str (S t) y from ru)
        exact ⟨y, rfl, I1⟩
      | next => exact (show False from q).elim
      | brk => exact (show False from q).elim
      | cont => exact (show False from q).elim
  refine wpAny_pyReprUnder_ref (by omega) ?_
  unfold pyReprObjUnder pyReprObjBy
  refine wpAny_bind (wpAny_cRoomFor (by omega) ?_)
  refine wpAny_bind (wpAny_bind (J.type.here ((PySem.W.looks_findIn I.kIn hs').here ?_)))
  show wpAny _ _ (if (some (Value.ref f)).isNone = true then _ else _) _ _ _
  rw [if_neg (by simp)]
  have bound : ∀ (Q' : Option Value → Shared → Prop), (∀ y s', Inv X pins σ H s' → Q' (some (.str (S t) y)) s') → wpAny (model X.prog X.w) A (callSpecialIfBoundBy? (fun g first => match reprUnder? g, first with
      | some twin, [self] => call twin [self, rawInt base]
      | _, _ => call g (first ++ [])) (.ref a) (Str.ofString "__repr__")) Q' E s := fun Q' hQ' => by
    simp only [callSpecialIfBoundBy?, bindSpecialIfBound?]
    refine wpAny_holding (wpAny_bind (wpAny_bind (wpAny_bind (J.type.here ((PySem.W.looks_findIn I.kIn hs').here ?_)))))
    refine wpAny_bind (wpAny_askSetting (wpAny_ite ?_))
    have fin : wpAny (model X.prog X.w) A (call (.ref f) ([.ref a] ++ []) >>= fun v => pure (some v)) Q' E s := wpAny_bind (wpAny_mono called (fun v s' h' => by
      obtain ⟨y, rfl, I'⟩ := h'
      exact wpAny_pure (hQ' y s' I')) fun _ _ h' => h')
    split
    · exact wpAny_bind ((PySem.W.bind_fn I.kIn _ (beq_iff_eq.mp hfn')).here (wpAny_pure (by exact fin)))
    · exact wpAny_tryCatch (wpAny_bind ((PySem.W.bind_fn I.kIn _ (beq_iff_eq.mp hfn')).here (wpAny_pure (by exact fin))))
  refine wpAny_bind (bound _ fun y s' I' => ?_)
  refine wpAny_bind (wpAny_isInstance (T := "str") (b := true) rfl isSubtype_str_str ?_)
  exact wpAny_pure ⟨_, _, rfl, hQ s' I'⟩
end
end MC

end
section
set_option maxRecDepth 100000
set_option maxHeartbeats 4000000
namespace MC
open PySem PySem.Spec PyProof.Rows L2

mutual
/-- how deep a value is, as far as lists, tuples and empty dicts go -/
inductive RdN (h : Heap) : Value → Nat → Prop
  | leaf {u : Value} : (∀ a, u ≠ .ref a) → RdN h u 0
  | ins {p B : Addr} {ob : Obj} : h.get? p = some ob → ob.cls = .ref B → RdN h (.ref p) 0
  | dic {p : Addr} {ob : Obj} : h.get? p = some ob → ob.cls = .type "dict" → RdN h (.ref p) 1
  | lst {p : Addr} {ob : Obj} {us : List Value} {m n : Nat} : h.get? p = some ob → ob.cls = .type "list" → ob.data = .seq us.toArray m → RdNs h us n → RdN h (.ref p) (n + 1)
  | tup {p : Addr} {ob : Obj} {us : List Value} {m n : Nat} : h.get? p = some ob → ob.cls = .type "tuple" → ob.data = .seq us.toArray m → RdNs h us n → RdN h (.ref p) (n + 1)
inductive RdNs (h : Heap) : List Value → Nat → Prop
  | nil : RdNs h [] 0
  | cons {u : Value} {us : List Value} {n m : Nat} : RdN h u n → RdNs h us m → RdNs h (u :: us) (max n m)
end
section
variable {h : Heap}
mutual
theorem RdN.det : ∀ {u : Value} {n : Nat}, RdN h u n → ∀ {m : Nat}, RdN h u m → n = m
  | _, _, .leaf z, m, r => by
    cases r with
    | leaf _ => rfl
    | ins e _ => exact absurd rfl (z _)
    | dic e _ => exact absurd rfl (z _)
    | lst e _ _ _ => exact absurd rfl (z _)
    | tup e _ _ _ => exact absurd rfl (z _)
  | _, _, .ins e1 e2, m, r => by
    cases r with
    | leaf z => exact absurd rfl (z _)
    | ins e _ => rfl
    | dic f1 f2 => rw [e1] at f1; cases f1; rw [e2] at f2; exact absurd f2 (by simp)
    | lst f1 f2 _ _ => rw [e1] at f1; cases f1; rw [e2] at f2; exact absurd f2 (by simp)
    | tup f1 f2 _ _ => rw [e1] at f1; cases f1; rw [e2] at f2; exact absurd f2 (by simp)
  | _, _, .dic e1 e2, m, r => by
    cases r with
    | leaf z => exact absurd rfl (z _)
    | ins f1 f2 => rw [e1] at f1; cases f1; rw [e2] at f2; exact absurd f2 (by simp)
    | dic f1 f2 => rfl
    | lst f1 f2 _ _ => rw [e1] at f1; cases f1; rw [e2] at f2; exact absurd f2 (by simp)
    | tup f1 f2 _ _ => rw [e1] at f1; cases f1; rw [e2] at f2; exact absurd f2 (by simp)
  | _, _, .lst e1 e2 e3 q, m, r => by
    cases r with
    | leaf z => exact absurd rfl (z _)
    | ins f1 f2 => rw [e1] at f1; cases f1; rw [e2] at f2; exact absurd f2 (by simp)
    | dic f1 f2 => rw [e1] at f1; cases f1; rw [e2] at f2; exact absurd f2 (by simp)
    | lst f1 f2 f3 q' =>
      rw [e1] at f1; cases f1; rw [e3] at f3
      injection f3 with f3 _
      have f3 := congrArg Array.toList f3
      simp only at f3
      subst f3
      rw [RdNs.det q q']
    | tup f1 f2 _ _ => rw [e1] at f1; cases f1; rw [e2] at f2; exact absurd f2 (by simp)
  | _, _, .tup e1 e2 e3 q, m, r => by
    cases r with
    | leaf z => exact absurd rfl (z _)
    | ins f1 f2 => rw [e1] at f1; cases f1; rw [e2] at f2; exact absurd f2 (by simp)
    | dic f1 f2 => rw [e1] at f1; cases f1; rw [e2] at f2; exact absurd f2 (by simp)
    | lst f1 f2 _ _ => rw [e1] at f1; cases f1; rw [e2] at f2; exact absurd f2 (by simp)
    | tup f1 f2 f3 q' =>
      rw [e1] at f1; cases f1; rw [e3] at f3
      injection f3 with f3 _
      have f3 := congrArg Array.toList f3
      simp only at f3
      subst f3
      rw [RdNs.det q q']
theorem RdNs.det : ∀ {us : List Value} {n : Nat}, RdNs h us n → ∀ {m : Nat}, RdNs h us m → n = m
  | _, _, .nil, m, r => by cases r; rfl
  | _, _, .cons a b, m, r => by
    cases r with
    | cons a' b' => rw [RdN.det a a', RdNs.det b b']
end
end
def AtmN (h : Heap) (bs : List Addr) (n : Nat) : Prop := ∀ b ∈ bs, ∃ m, RdN h (.ref b) m ∧ m ≤ n
theorem AtmN.out {h : Heap} {bs : List Addr} {n m : Nat} {a : Addr} (q : AtmN h bs n) (r : RdN h (.ref a) m) (l : n < m) : a ∉ bs := fun z => by
  obtain ⟨m', r', l'⟩ := q a z
  have := r.det r'
  omega

mutual
inductive DmI (X : Cx) (σ : Sl) (H : Hp) (U D : Nat) : V → Nat → Str → Prop
  | leaf {v : V} {t : Str} : (∀ u, RelV v u → (∀ a, u ≠ .ref a) ∧ ReprIs X.prog X.w u t) → DmI X σ H U D v 0 t
  | ins {a B dx : Addr} {gs : List (Str × V)} {t : Str} : H a = some (.ins B dx gs) → (∀ bs d, RpV X σ H U D bs d (.ref a) t) → DmI X σ H U D (.ref a) 0 t
  | dic {a : Addr} : H a = some (.dK []) → DmI X σ H U D (.ref a) 1 (dictText [])
  | lst {a : Addr} {xs : List V} {n : Nat} {ts : List Str} : SqL X.K H a xs → DmIs X σ H U D xs n ts → DmI X σ H U D (.ref a) (n + 1) (listText ts)
  | tup {a : Addr} {xs : List V} {n : Nat} {ts : List Str} : SqT X.K H a xs → DmIs X σ H U D xs n ts → DmI X σ H U D (.ref a) (n + 1) (tupleText ts)
inductive DmIs (X : Cx) (σ : Sl) (H : Hp) (U D : Nat) : List V → Nat → List Str → Prop
  | nil : DmIs X σ H U D [] 0 []
  | cons {v : V} {vs : List V} {n m : Nat} {t : Str} {ts : List Str} : DmI X σ H U D v n t → DmIs X σ H U D vs m ts → DmIs X σ H U D (v :: vs) (max n m) (t :: ts)
end
section
variable {X : Cx} {σ : Sl} {H : Hp} {U D : Nat} {bs bs' : List Addr} {d d' : Nat} {A : Around} {g : List Code} {pins : List (Addr × Obj)} {s : Shared}
theorem GA.less (q : GA X U D bs' d' A g) (hb : ∀ b ∈ bs, b ∈ bs') (hd : d ≤ d') : GA X U D bs d A g :=
  ⟨q.gs, fun b z => q.cl b (hb b z), q.hd, q.fr, by have := q.un; omega, by have := q.dp; omega⟩
theorem RpV.more {v : V} {t : Str} (r : RpV X σ H U D bs d v t) (hb : ∀ b ∈ bs, b ∈ bs') (hd : d ≤ d') : RpV X σ H U D bs' d' v t :=
  fun u ru base hz A g E s pins Q G I hQ => r u ru base hz A g E s pins Q (G.less hb hd) I hQ
theorem RpVs.more : ∀ {vs : List V} {ts : List Str}, RpVs X σ H U D bs d vs ts → (∀ b ∈ bs, b ∈ bs') → d ≤ d' → RpVs X σ H U D bs' d' vs ts
  | _, _, .nil, _, _ => .nil
  | _, _, .cons a b, hb, hd => .cons (a.more hb hd) (b.more hb hd)
mutual
theorem DmI.rp (hU : U < cLine) (I : Inv X pins σ H s) : ∀ {v : V} {n : Nat} {t : Str}, DmI X σ H U D v n t → ∀ {u : Value}, RelV v u → RdN s.heap u n ∧ ∃ bs, AtmN s.heap bs n ∧ RpV X σ H U D bs n v t
  | _, _, _, .leaf z, u, r => ⟨.leaf (z u r).1, [], (fun _ q => nomatch q), RpV.leaf fun u ru => (z u ru).2⟩
  | _, _, _, .ins (a := a) e k, u, r => by
    obtain rfl : u = Value.ref a := r
    obtain ⟨mA, J, _⟩ := ins_get I.hok e
    obtain ⟨ho, _, _⟩ := J
    exact ⟨.ins ho rfl, [], (fun _ q => nomatch q), k _ _⟩
  | _, _, _, .dic (a := a) e, u, r => by
    obtain rfl : u = Value.ref a := r
    obtain ⟨ob, m, e1, e2, e3, e4⟩ := dkq_nil I e
    have whole : RdN s.heap (.ref a) 1 := .dic e1 e2
    exact ⟨whole, [a], fun b hb => ⟨1, by rw [List.mem_singleton.mp hb]; exact whole, Nat.le_refl _⟩, RpV.dic hU e⟩
  | _, _, _, .lst (a := a) (xs := xs) (n := n) hs q, u, r => by
    obtain rfl : u = Value.ref a := r
    obtain ⟨its, rv, ⟨o, m, ho, hc, _, hd⟩, _⟩ := I.list hs
    obtain ⟨r1, bs, r2, r3⟩ := DmIs.rp hU I q rv
    have whole : RdN s.heap (.ref a) (n + 1) := .lst ho hc hd r1
    refine ⟨whole, a :: bs, fun b hb => ?_, ?_⟩
    · rcases List.mem_cons.mp hb with rfl | hb
      · exact ⟨n + 1, whole, Nat.le_refl _⟩
      · obtain ⟨k, h1, h2⟩ := r2 b hb
        exact ⟨k, h1, by omega⟩
    · have out := r2.out whole (by omega)
      by_cases he : xs = []
      · subst he
        cases q
        have z : RpV X σ H U D bs (0 + 1) (.ref a) (S [91, 93]) := RpV.nil hU hs
        rw [show (listText [] : Str) = S [91, 93] from by rw [listText_nil]; rfl]
        exact z.more (fun b hb => List.mem_cons_of_mem _ hb) (Nat.le_refl _)
      · exact RpV.lst hU hs out he r3
  | _, _, _, .tup (a := a) (xs := xs) (n := n) hs q, u, r => by
    obtain rfl : u = Value.ref a := r
    obtain ⟨its, rv, ⟨o, ho, hc, m, hd⟩, _⟩ := I.tuple hs
    obtain ⟨r1, bs, r2, r3⟩ := DmIs.rp hU I q rv
    have whole : RdN s.heap (.ref a) (n + 1) := .tup ho hc hd r1
    refine ⟨whole, a :: bs, fun b hb => ?_, RpV.tup hU hs (r2.out whole (by omega)) r3⟩
    rcases List.mem_cons.mp hb with rfl | hb
    · exact ⟨n + 1, whole, Nat.le_refl _⟩
    · obtain ⟨k, h1, h2⟩ := r2 b hb
      exact ⟨k, h1, by omega⟩
theorem DmIs.rp (hU : U < cLine) (I : Inv X pins σ H s) : ∀ {vs : List V} {n : Nat} {ts : List Str}, DmIs X σ H U D vs n ts → ∀ {us : List Value}, Vals vs us → RdNs s.heap us n ∧ ∃ bs, AtmN s.heap bs n ∧ RpVs X σ H U D bs n vs ts
  | _, _, _, .nil, us, r => by cases r; exact ⟨.nil, [], (fun _ q => nomatch q), .nil⟩
  | _, _, _, .cons (n := n) (m := m) a b, us, r => by
    cases r with
    | cons ra rb =>
      obtain ⟨r1, b1, m1, k1⟩ := DmI.rp hU I a ra
      obtain ⟨r2, b2, m2, k2⟩ := DmIs.rp hU I b rb
      refine ⟨.cons r1 r2, b1 ++ b2, fun x hx => ?_, .cons (k1.more (fun x y => List.mem_append_left _ y) (Nat.le_max_left ..)) (k2.more (fun x y => List.mem_append_right _ y) (Nat.le_max_right ..))⟩
      rcases List.mem_append.mp hx with hx | hx
      · obtain ⟨k, h1, h2⟩ := m1 x hx
        exact ⟨k, h1, Nat.le_trans h2 (Nat.le_max_left ..)⟩
      · obtain ⟨k, h1, h2⟩ := m2 x hx
        exact ⟨k, h1, Nat.le_trans h2 (Nat.le_max_right ..)⟩
end
end

section
variable {w : Wo} {EX : XC} {X : Cx} {k : Nat} {M : Addr → Prop} {rho : List Addr} {H : Hp} {h : PH} {σ : Sl} {U D : Nat} {tbl : List (Nat × (List (Nm × PV) → Option (List Nat)))}
end
end MC

end
section
set_option maxRecDepth 100000
namespace MM
open PySem L2 MC
end MM

end
section
set_option maxRecDepth 100000
namespace MM
open PySem L2 MC
def b__law_pinch : MS := (mSeq (mAsg (mOp opAdd (mOp opIx (mVar 0) (mC (.int 0))) (mC (.int 4))) (gSubM oSetIx (mVar 0) (mC (.int 0)))) (mSeq (mIfS (mTB (mOp opGt (mOp opIx (mVar 0) (mC (.int 1))) (mC (.int 0)))) (mSeq (mAsg (mBt bDivmod (maCons (mBt bInt (maCons (mOp opIx (mVar 0) (mC (.int 1))) maNil)) (maCons (mVar 1) maNil))) (gTup' 2 (gsCons (gSubM oSetIx (mVar 0) (mC (.int 1))) (gsCons (gName' 2) gsNil)))) (mSeq (mRet (mVar 2)) mNil)) mNil) (mSeq (mAsg (mOp opMod (mBt bInt (maCons (mOp opAdd (mOp opAdd (mOp opMul (mOp opIx (mVar 0) (mC (.int 2))) (mC (.int 53047))) (mOp opMul (mOp opIx (mVar 0) (mC (.int 0))) (mC (.int 80021)))) (mOp opMul (mOp opFdiv (mOp opIx (mVar 0) (mC (.int 2))) (mC (.int 14009))) (mC (.int 83)))) maNil)) (mC (.int 1999999417))) (gSubM oSetIx (mVar 0) (mC (.int 2)))) (mSeq (mRet (mOp opMod (mBt bInt (maCons (mOp opFdiv (mOp opIx (mVar 0) (mC (.int 2))) (mC (.int 389))) maNil)) (mVar 1))) mNil))))
def m__law_pinch : MF := mFun 3 b__law_pinch
def b__law_sack : MS := (mSeq (mSet 2 (mIf (mTB (mOp opLt (mVar 1) (mBt bLen (maCons (mVar 0) maNil)))) (mBt bInt (maCons (mOp opIx (mVar 0) (mVar 1)) maNil)) (mOp opAdd (mOp opMul (mC (.int 73)) (mVar 1)) (mC (.int 59))))) (mSeq (mSet 3 (mOp opAdd (mC (.int 110017)) (mOp opMul (mC (.int 2311)) (mVar 1)))) (mSeq (mFor (miV (mSl (mVar 0) moNone (moSome (mC (.int 14))))) (gName' 4) (mSeq (mSet 3 (mOp opMod (mBt bInt (maCons (mOp opAdd (mOp opMul (mVar 3) (mC (.int 50021))) (mOp opMod (mBt bInt (maCons (mVar 4) maNil)) (mC (.int 1999999417)))) maNil)) (mC (.int 1999999417)))) mNil)) (mSeq (mRet (mLst (maCons (mC (.int 9)) (maCons (mIf (mOr (mTB (mOp opLt (mVar 2) (mC (.int 0)))) (mTB (mOp opGe (mVar 2) (mOp opPow (mC (.int 10)) (mC (.int 14)))))) (mBt bAbs (maCons (mVar 2) maNil)) (mC (.int 0))) (maCons (mOp opMod (mBt bInt (maCons (mOp opAdd (mOp opMul (mVar 3) (mC (.int 61))) (mOp opMod (mVar 2) (mC (.int 1999999417)))) maNil)) (mC (.int 1999999417))) maNil))))) mNil))))
def m__law_sack : MF := mFun 5 b__law_sack
def b__law_one : MS := (mSeq (mRet (mOp opIx (mVar 1) (mCl0 (opF m__law_pinch [0, 1] []) 2 (maCons (mVar 0) (maCons (mBt bLen (maCons (mVar 1) maNil)) maNil))))) mNil)
def m__law_one : MF := mFun 2 b__law_one
end MM

end
section
set_option maxRecDepth 100000
set_option maxHeartbeats 4000000
namespace MC
open PySem L2 PySem.Spec PyProof.Rows
def bmA : List Value := [.type "ArithmeticError", .type "Exception", .type "BaseException", .type "object"]
/-- what is written of such a class -/
structure OexA (K : PySem.W.Frag) (C : Addr) : Prop where
  cls : ∃ nm q N bs bm sn sub ab col dd k0 k1 k2 k3 k5, K.lookup C = some (excClassObj nm q C N bs bm true sn sub ab col dd k0 k1 k2 k3 k5 "ArithmeticError.__new__") ∧ PySem.W.excTail bmA bm = true
  sa : PySem.W.findIn K (.ref C) "__setattr__" = some (some (.builtin "object.__setattr__"))
  exC : PySem.W.subIn K (.ref C) (.type "BaseException") = some true
  tyC : PySem.W.typeIn K (.ref C) = some (.type "type")
  kC : PySem.W.keepIn K (.ref C) = true
section
open PySem.W PySem.Calls PySem.HandSPX Builtin Builtin.ObjectAttr
/-- the first field: a dict comes to the object -/
theorem osaA {prog : Program} {wo : World} {A : Around} {R : Result → Shared → Prop} {hp : Heap} {g : Array GenState} {dr : Drawn} {t : Nat} {os : OsState} {K : PySem.W.Frag} {nm : Str} {tk : Tok} {v : Value} {x C : Addr} {fv : Array Value} {cd : ClassData}
    (X : K.In hp) (hx : hp.get? x = some { cls := .ref C, data := .fields fv }) (hcd : PySem.W.clsIn K C = some cd) (hov : PySem.W.excOver K C bmA = true) (hh : cd.hasDict = true) (ha : PySem.W.findIn K (.ref C) nm = some none)
    (hq : ∀ h2 tk2 dx, (∀ b o, b ≠ x → hp.get? b = some o → h2.get? b = some o) → hp.objs.size ≤ dx → dx ≠ x → h2.get? x = some { cls := .ref C, dict := some dx, data := .fields fv } → h2.Ns1 dx (fun y => if y = nm then some v else none) → R (.ok (.ret .none)) ⟨h2, g, dr, tk2, os⟩) :
    codeAny (model prog wo) A (.call (.builtin "object.__setattr__") ⟨[.ref x, .str nm tk, v], []⟩) R ⟨hp, g, dr, t, os⟩ := by
  have ne : x ≠ hp.objs.size := Nat.ne_of_lt (Heap.lt_size hx)
  have look : PySem.W.Looks (model prog wo) hp (classData C) cd := PySem.W.looks_clsIn X hcd
  refine PySem.W.osa_openX (s := ⟨hp, g, dr, t, os⟩) (od := none) PySem.F.store_ArithmeticError X ⟨hx, rfl, rfl, trivial⟩ hov (by unfold PySem.W.takerIn; rw [ha]; rfl) fun b => ?_
  show wpAny _ _ (storeInOwnDict (.ref x) (.ref C) (.str nm tk) nm v b) _ _ _
  obtain ⟨nm0, bs, mro, ns, qn, hd, sn, sb, ab, col, del⟩ := cd
  dsimp only at hh
  subst hh
  unfold storeInOwnDict ownDictForStores
  repeat (first | with_reducible refine store_in_new ?_ ?_ | with_reducible refine wpAny_loadPart_at hx ?_ | with_reducible refine look.at ?_ | wp_step)
  · exact ⟨_, #[], _, (Heap.get?_update_ne _ _ _ _ ne.symm).trans (Heap.get?_push_at rfl rfl), rfl, fun e he => absurd he (by simp), fun _ => rfl⟩
  · intro h2 tk2 hn hs
    have hx1 : (hp.push { cls := .type "dict", data := .dict #[] }).get? x = some { cls := .ref C, data := .fields fv } := Heap.get?_push_of_some _ hx
    refine hq h2 tk2 hp.objs.size (fun b o hb ho => ?_) (Nat.le_refl _) ne.symm ?_ hn
    · exact (hs.2 b (Nat.ne_of_lt (Heap.lt_size ho))).trans ((Heap.get?_update_ne _ _ _ _ hb).trans (Heap.get?_push_of_some _ ho))
    · exact (hs.2 x ne).trans (Heap.get?_update_self _ hx1 rfl)
end
section
variable {X : Cx} {pins : List (Addr × Obj)} {σ : L2.St} {H : Hp} {s : Shared} {a C : Addr} {f : Str} {y : V} {u : Value} {Q : Unit → Shared → Prop} {E : Value → Shared → Prop} {A : Around}
theorem ostA (T : OexA X.K C) (I : Inv X pins σ H s) (e : H a = some (exo a C none)) (hno : PySem.W.findIn X.K (.ref C) f = some none) (ry : RelV y u)
    (k : ∀ dx s2, H dx = none → dx ≠ a → Inv X pins σ (upd (upd H dx (exd dx [(f, y)])) a (exo a C (some dx))) s2 → Q () s2) : wpAny (model X.prog X.w) A (setAttr (.ref a) f u) Q E s := by
  obtain ⟨nm, q, N, bs, bm, sn, sub, ab, col, dd, k0, k1, k2, k3, k5, hC, hbm⟩ := T.cls
  obtain ⟨cd, hcd, ecd⟩ : ∃ cd, PySem.W.clsIn X.K C = some cd ∧ cd = { name := nm, bases := bs, mro := .ref C :: bm, ns := N, qualname := q, hasDict := true, slotNames := sn, subclasses := sub, abstract := ab, collection := col, hasDel := false } := ⟨_, by unfold PySem.W.clsIn; rw [hC] <;> rfl, rfl⟩
  have ov : PySem.W.excOver X.K C bmA = true := by
    unfold PySem.W.excOver
    rw [hcd, ecd]
    show (C == C && PySem.W.excTail bmA bm) = true
    rw [hbm, Bool.and_true]
    exact beq_self_eq_true C
  obtain ⟨t1, ho⟩ := exo_at I.hok e
  obtain ⟨hp, g, dr, t, os⟩ := s
  refine PySem.W.set_plain I.kIn (ox := { cls := .ref C, dict := none, data := .fields #[.ref t1, .none, .none, .none, .bool false, .none] }) (od := none) ⟨ho, rfl, rfl, trivial⟩ T.sa ?_
  refine osaA I.kIn ho hcd ov (by rw [ecd]) hno fun h2 tk2 dx same dn dne hx hn => ?_
  have fresh : H dx = none := I.hok.fresh dn
  have off : ∀ {b : Addr} {o : Obj}, hp.get? b = some o → b ≠ dx := fun {b o} z => Nat.ne_of_lt (Nat.lt_of_lt_of_le (Heap.lt_size z) dn)
  have nota : ∀ {b : Addr}, H b = none → b ≠ a := fun {b} n z => by
    rw [z, e] at n
    exact nomatch n
  have U : Un X.fs [] H (upd (upd H dx (exd dx [(f, y)])) a (exo a C (some dx))) hp h2 := by
    refine ⟨fun b o z n _ _ => same b o (nota n) z, fun b o z n _ _ => ⟨o.slots, same b o (nota n) z⟩, fun b o z n _ => ?_, fun b o z _ => ?_, fun b xs z => ?_, fun b o v z => ?_, fun b ps z => ⟨#[], ?_⟩⟩
    · rw [upd_ne (nota n), upd_ne (off z)]; exact n
    · by_cases hb : b = a
      · subst hb; exact ⟨_, hx⟩
      · exact ⟨o, same b o hb z⟩
    · rw [upd_ne (at_ne e z exo_tup), upd_ne (ne_of_none z fresh)]; exact z
    · rw [upd_ne (at_ne e z exo_frz), upd_ne (ne_of_none z fresh)]; exact z
    · rw [upd_ne (at_ne e z exo_tbl), upd_ne (ne_of_none z fresh), z]; simp
  refine k dx _ fresh dne (I.un (t' := tk2) U fun b o z => ?_)
  by_cases hb : b = a
  · subst hb
    rw [upd_same] at z
    cases z; exact exo_ok hx
  · rw [upd_ne hb] at z
    by_cases hd : b = dx
    · subst hd
      rw [upd_same] at z
      cases z; exact exd_ok hn (relO_put (fs := []) ry fun g => True.intro)
    · rw [upd_ne hd] at z
      refine (I.hok b o z).stay (fun c v hc w => same c v ?_ w) (fun c hc => ?_) fun c xs hc => ?_
      · rcases hc with hc | hc
        · rw [hc]; exact hb
        · exact at_ne e hc exo_own
      · rw [upd_ne (at_ne e hc exo_own), upd_ne (ne_of_none hc fresh)]; exact hc
      · rw [upd_ne (at_ne e hc exo_tup), upd_ne (ne_of_none hc fresh)]; exact hc
/-- self.f = e, in such a class -/
def tOsA (K : PySem.W.Frag) (f : Str) (to te : TE) : TS := fun D σ H => te σ H fun y H1 => to σ H1 fun x H2 => ∃ a C : Addr, x = .ref a ∧ OexA K C ∧ PySem.W.findIn K (.ref C) f = some none ∧ H2 a = some (exo a C none) ∧ ∀ dx, H2 dx = none → dx ≠ a → D.nx σ (upd (upd H2 dx (exd dx [(f, y)])) a (exo a C (some dx)))
theorem ps_osA {o e : Expr} {p' pos : Pos} {to te : TE} (ho : PE X o to) (he : PE X e te) (hs : swapsWith e (some (.Attribute o f p')) pos.line X.env = pure false := by rfl) : PS X (.Assign [.Attribute o f p'] e pos) (tOsA X.K f to te) := by
  refine ⟨fun pins s σ H D I h => plainObj_wpAny_Assign_Attribute ?_ hs⟩
  refine thn (he.run pins s σ H _ I h) fun v s1 ⟨y, H1, I1, r1, q1⟩ => thn (ho.run pins s1 σ H1 _ I1 q1) fun u s2 ⟨x, H2, I2, r2, a, C, ex, T, hno, ea, q⟩ => ?_
  subst ex
  have eu : u = Value.ref a := r2
  subst eu
  exact ostA T I2 ea hno r1 fun dx s' n ne J => ⟨σ, _, J, q dx n ne⟩
end
/-- a class of such errors -/
structure XcA (K : PySem.W.Frag) (mg : Str → Option Value) (x : Str) (C : Addr) (f : Str) (P : Program) (W : World) (base : Heap) : Prop where
  T : OexA K C
  gC : mg x = some (.ref C)
  no : PySem.W.findIn K (.ref C) f = some none
  init : ∃ (fI : Addr) (fd : FuncData) (sp : Sp), PySem.W.findIn K (.ref C) "__init__" = some (some (.ref fI)) ∧ PySem.W.typeIn K (.ref fI) = some (.type "function") ∧ FnOk P W K mg base CX0 1 fI fd ["self", f] sp ∧ Binds K fd ["self", f] [] ∧
    ∀ (a : Addr) (v : V) (H : Hp) (Q : VK), H a = some (exo a C none) → (∀ dx, H dx = none → dx ≠ a → Q .non (upd (upd H dx (exd dx [(f, v)])) a (exo a C (some dx)))) → sp [.ref a, v] H Q fun _ _ _ => False
section
variable {X : Cx} {e : Expr} {ta : TA} {p pos : Pos} {x f : Str} {C : Addr}
end
section
variable {w : Wo} {EX : XC} {X : Cx} {k : Nat} {e : Expr} {p pos pos' : Pos} {x : Str} {A : Addr} {m : ME}
end
end MC

end
section
set_option maxRecDepth 100000
set_option maxHeartbeats 4000000
namespace MC
open PySem PySem.Spec PyProof.Rows L2
section
open PySem.W PySem.Calls PySem.HandSPX Builtin
variable {M : Model} {A : Around} {E : Value → Shared → Prop} {h : Heap} {g : Array GenState} {d : Drawn} {t : Nat} {os : OsState}
variable {nm q : Str} {C N : Addr} {bs bm bmB : List Value} {hdct : Bool} {sn : List Str} {sub : List Value} {ab : Bool} {col : Option Bool} {dd : Option Addr} {k0 k1 k2 k3 k5 : Option Value} {B newId initId : String}
/-- what is looked at ahead of __new__, one value given by name -/
theorem newK_look (F : ExcBaseFacts B newId initId bmB) (same : ∀ X : String, bm.contains (.type X) = bmB.contains (.type X)) {f : Str} {u : Value} {rest : List Value} {Q : Unit → Shared → Prop}
    (atC : h.get? C = some (excClassObj nm q C N bs bm hdct sn sub ab col dd k0 k1 k2 k3 k5 newId)) (k : Q () ⟨h, g, d, t, os⟩) : wpAny M A (checkBuiltinCall newId ⟨.ref C :: rest, [(f, u)]⟩) Q E ⟨h, g, d, t, os⟩ := by
  have inB : (Value.ref C :: bm).contains (.type B) = true := by rw [List.contains_cons, same, F.hasB, Bool.or_true]
  have noStar := F.noStar
  simp only [checkBuiltinCall, F.newKind, F.newSplit, F.newRow]
  repeat (first | refine wpAny_loadPart_at atC ?_ | (refine wpAny_isSubtype_exc atC ?_; rw [inB]) | refine wpAny_staticBase_exc atC ?_ | refine wpAny_madeBy_exc atC ?_ | simp only [bne_self_eq_false, Bool.false_eq_true, if_false] | wp_step)
  exact k
end
section
open PySem.W PySem.Calls PySem.HandSPX Builtin
variable {prog : Program} {wo : World} {A : Around} {E : Value → Shared → Prop} {R : Result → Shared → Prop} {h : Heap} {g : Array GenState} {d : Drawn} {t : Nat} {os : OsState}
variable {nm q : Str} {C N : Addr} {bs bm bmB : List Value} {hdct : Bool} {sn : List Str} {sub : List Value} {ab : Bool} {col : Option Bool} {dd : Option Addr} {k0 k1 k2 k3 k5 : Option Value} {B newId initId : String}
theorem newK_made (F : ExcBaseFacts B newId initId bmB) (same : ∀ X : String, bm.contains (.type X) = bmB.contains (.type X)) {f : Str} {u : Value} {rest : List Value}
    (atC : h.get? C = some (excClassObj nm q C N bs bm hdct sn sub ab col dd k0 k1 k2 k3 k5 newId)) (few : rest.length ≤ sizeLine)
    (k : R (.ok (.ret (.ref (h.objs.size + 1)))) ⟨(h.push (PySem.W.kdv_tup rest)).push (excO C h.objs.size), g, d, t, os⟩) :
    codeAny (model prog wo) A (.builtin newId ⟨.ref C :: rest, [(f, u)]⟩) R ⟨h, g, d, t, os⟩ := by
  have ends := F.ends
  have inB : (Value.ref C :: bm).contains (.type B) = true := by rw [List.contains_cons, same, F.hasB, Bool.or_true]
  have noA : (Value.ref C :: bm).contains (.type "AttributeError") = false := by rw [List.contains_cons, same, F.noAttr]; rfl
  have noN : (Value.ref C :: bm).contains (.type "NameError") = false := by rw [List.contains_cons, same, F.noName]; rfl
  refine codeAny_builtinAt F.entry ?_
  unfold Builtin.«BaseException.__new__»
  refine PySem.wpAt_bind ?_
  show PySem.wpAt _ _ _ (stack >>= _) _ _ _
  refine PySem.wpAt_bind (PySem.wpAt_stack fun p below => PySem.wpAt_of_wpAny ?_)
  wp_walk
  refine PySem.wpAt_of_wpAny ?_
  rw [F.owner]
  repeat (first | with_reducible refine wpAny_madeHere_exc F.canon atC ?_ | with_reducible refine wpAny_loadPart_at atC ?_ | (with_reducible refine wpAny_isSubtype_exc atC ?_; first | rw [inB] | rw [noA] | rw [noN]) | wp_step)
  show R _ _
  rw [Heap.size_push]
  exact k
theorem typeK_call (F : ExcBaseFacts B newId initId bmB) (same : ∀ X : String, bm.contains (.type X) = bmB.contains (.type X)) {f : Str} {u : Value} {rest : List Value} {fI : Addr} {Q : Fin → Shared → Prop}
    (atC : h.get? C = some (excClassObj nm q C N bs bm hdct sn sub ab col dd k0 k1 k2 k3 k5 newId))
    (li : PySem.W.Looks (model prog wo) h (typeLookup (.ref C) "__init__") (some (.ref fI))) (bi : ∀ self, PySem.W.Looks (model prog wo) h (bindSpecial (.ref fI) self) (.ref fI, [self])) (few : rest.length ≤ sizeLine)
    (k : codeAny (model prog wo) A (.call (.ref fI) ⟨.ref (h.objs.size + 1) :: rest, [(f, u)]⟩)
      (fun r s' => match r with | .ok (.ret v) => v = .none ∧ Q (.done (.ret (.ref (h.objs.size + 1)))) s' | .ok _ => False | .error e => E e s')
      ⟨(h.push (PySem.W.kdv_tup rest)).push (excO C h.objs.size), g, d, t, os⟩) :
    wpAny (model prog wo) A (Builtin.«type.__call__» ⟨.ref C :: rest, [(f, u)]⟩) Q E ⟨h, g, d, t, os⟩ := by
  repeat (first | with_reducible refine wpAny_loadPart_at atC ?_ | with_reducible refine wpAny_madeBy_exc atC ?_ | wp_step)
  refine codeAny_call_builtin_code (Code.quiet_builtin _ F.quiet) (newK_look F same atC ?_)
  refine newK_made F same atC few ?_
  show wpAny _ _ _ _ _ _
  have kp : ∀ b o, h.get? b = some o → ((h.push (PySem.W.kdv_tup rest)).push (excO C h.objs.size)).get? b = some o := fun b o e => Heap.get?_push_of_some _ (Heap.get?_push_of_some _ e)
  have atC1 := kp _ _ atC
  have atE : ((h.push (PySem.W.kdv_tup rest)).push (excO C h.objs.size)).get? (h.objs.size + 1) = some (excO C h.objs.size) := by heap_get
  have inC : (Value.ref C :: bm).contains (.ref C) = true := by simp
  have l1 := li.keeps kp
  have b1 := (bi (.ref (h.objs.size + 1))).keeps kp
  unfold isInstance
  repeat (first | with_reducible refine wpAny_loadPart_at atE ?_ | (with_reducible refine wpAny_isSubtype_exc atC1 ?_; rw [inC]) | wp_step)
  show wpAny _ _ (typeLookup (.ref C) _) _ _ _
  refine l1.at ?_
  refine wpAny_holding (wpAny_bind (b1.at ?_))
  refine wpAny_bind (wpAny_call (codeAny_mono k fun r s' z => ?_))
  rcases r with e | (v | _ | _ | _) <;> first | exact z | exact z.elim | skip
  obtain ⟨rfl, z⟩ := z
  first
    | exact wpAny_pure (wpAny_pure z)
    | (wp_walk; exact z)
theorem callK_own (F : ExcBaseFacts B newId initId bmB) (same : ∀ X : String, bm.contains (.type X) = bmB.contains (.type X)) {f : Str} {u : Value} {rest : List Value} {fI : Addr}
    (atC : h.get? C = some (excClassObj nm q C N bs bm hdct sn sub ab col dd k0 k1 k2 k3 k5 newId))
    (li : PySem.W.Looks (model prog wo) h (typeLookup (.ref C) "__init__") (some (.ref fI))) (bi : ∀ self, PySem.W.Looks (model prog wo) h (bindSpecial (.ref fI) self) (.ref fI, [self])) (few : rest.length ≤ sizeLine)
    (k : codeAny (model prog wo) (A.under (.builtin "type.__call__" ⟨.ref C :: rest, [(f, u)]⟩)) (.call (.ref fI) ⟨.ref (h.objs.size + 1) :: rest, [(f, u)]⟩) (PySem.W.InitBack (h.objs.size + 1) R)
      ⟨(h.push (PySem.W.kdv_tup rest)).push (excO C h.objs.size), g, d, t, os⟩) :
    codeAny (model prog wo) A (.call (.ref C) ⟨rest, [(f, u)]⟩) R ⟨h, g, d, t, os⟩ := by
  have f1 := tc_lookup
  have f2 := tc_bind (.ref C)
  have isT : (⟨h, g, d, t, os⟩ : Shared).TypeIs (.ref C) "type" := ⟨_, atC, rfl⟩
  refine codeAny_of_tree ?_
  show wpAny _ _ (callAny (.ref C) _) _ _ _
  repeat (any_goals (first | assumption | with_reducible refine wpAny_loadPart_at atC ?_ | wp_step))
  refine ⟨rfl, ?_⟩
  have ck : ∀ {Q : Unit → Shared → Prop} {E : Value → Shared → Prop} {A : Around}, Q () ⟨h, g, d, t, os⟩ → wpAny (model prog wo) A (checkBuiltinCall "type.__call__" ⟨.ref C :: rest, [(f, u)]⟩) Q E ⟨h, g, d, t, os⟩ := fun {Q E A} z => by
    have f3 := tc_sub
    simp only [checkBuiltinCall, tc_kind, tc_split]
    repeat (any_goals (first | assumption | with_reducible refine wpAny_loadPart_at atC ?_ | with_reducible refine wpAny_onRaise ?_ | with_reducible refine wpAny_map ?_ | wp_step))
  refine codeAny_call_builtin_at (Code.quiet_builtin _ (by decide +kernel)) entry_typeCall (ck (typeK_call F same atC li bi few ?_))
  refine codeAny_mono k fun r s' z => ?_
  rcases r with e | (v | _ | _ | _) <;> exact z
end
/-- a class of errors whose __init__ keeps its one argument as f -/
structure XcV (K : PySem.W.Frag) (mg : Str → Option Value) (x : Str) (C : Addr) (f : Str) (P : Program) (W : World) (base : Heap) : Prop where
  gC : mg x = some (.ref C)
  kC : PySem.W.keepIn K (.ref C) = true
  cls : ∃ (B newId initId : String) (bmB : List Value), ExcBaseFacts B newId initId bmB ∧ ∃ nm q N bs bm sn sub ab col dd k0 k1 k2 k3 k5, K.lookup C = some (excClassObj nm q C N bs bm true sn sub ab col dd k0 k1 k2 k3 k5 newId) ∧ ∀ X : String, bm.contains (.type X) = bmB.contains (.type X)
  init : ∃ (fI : Addr) (fd : FuncData) (sp : Sp), PySem.W.findIn K (.ref C) "__init__" = some (some (.ref fI)) ∧ PySem.W.typeIn K (.ref fI) = some (.type "function") ∧ FnOk P W K mg base CX0 1 fI fd ["self", f] sp ∧
    (∀ (s : Shared) (e u : Value), BindsTo s fd ⟨[e, u], []⟩ ((["self", f] : List Str).zip [e, u])) ∧ (∀ (s : Shared) (e u : Value), BindsTo s fd ⟨[e], [(f, u)]⟩ ((["self", f] : List Str).zip [e, u])) ∧
    ∀ (a : Addr) (v : V) (H : Hp) (Q : VK), H a = some (exo a C none) → (∀ dx, H dx = none → dx ≠ a → Q .non (upd (upd H dx (exd dx [(f, v)])) a (exo a C (some dx)))) → sp [.ref a, v] H Q fun _ _ _ => False
section
variable {K : PySem.W.Frag} {mg : Str → Option Value} {x : Str} {C : Addr} {f : Str} {P : Program} {W : World} {base : Heap} {qual : Str} {st : Stmt} {fI : Addr} {fd : FuncData} {q1 q2 q3 q4 : Pos}
theorem xcv_ok (T : OexC K C) (gC : mg x = some (.ref C)) (no : PySem.W.findIn K (.ref C) f = some none)
    (iC : PySem.W.findIn K (.ref C) "__init__" = some (some (.ref fI))) (tI : PySem.W.typeIn K (.ref fI) = some (.type "function")) (F : Fun K "__init__" qual st fI fd) (sc : FnScope ["self", f] ["self", f] (defScope st))
    (hb : defBody st = [.Assign [.Attribute (.Name "self" q1) f q2] (.Name f q3) q4]) (hl : (defScope st).names.lookup f = some .local) (hl2 : (defScope st).names.lookup ("self" : Str) = some .local) (hdf : (f == ("__debug__" : Str)) = false) (hcf : (f == ("__classdict__" : Str)) = false)
    (hs : ∀ env : Env, swapsWith (.Name f q3) (some (.Attribute (.Name "self" q1) f q2)) q4.line env = pure false)
    (bd : ∀ (kV doc pm : Value) (an : Option Addr) (cdv ct : Value) (e u : Value), bindArgs (PySem.W.fnOf "__init__" qual (defArgs st) (defBody st) (defScope st) .none kV doc pm an cdv ct) ⟨[e, u], []⟩ = pure ((["self", f] : List Str).zip [e, u]))
    (bk : ∀ (kV doc pm : Value) (an : Option Addr) (cdv ct : Value) (e u : Value), bindArgs (PySem.W.fnOf "__init__" qual (defArgs st) (defBody st) (defScope st) .none kV doc pm an cdv ct) ⟨[e], [(f, u)]⟩ = pure ((["self", f] : List Str).zip [e, u])) : XcV K mg x C f P W base := by
  obtain ⟨nm, q, N, bs, bm, sn, sub, ab, col, dd, k0, k1, k2, k3, k5, hC, hbm⟩ := T.cls
  refine ⟨gC, T.kC, ⟨_, _, _, _, PySem.F.excBase_ValueError, nm, q, N, bs, bm, sn, sub, ab, col, dd, k0, k1, k2, k3, k5, hC, fun Y => PySem.HandSPX.refsVE_contains Y bm hbm⟩, fI, fd, fun vs H Q _ => ∃ (a : Addr) (v : V), vs = [.ref a, v] ∧ H a = some (exo a C none) ∧ ∀ dx, H dx = none → dx ≠ a → Q .non (upd (upd H dx (exd dx [(f, v)])) a (exo a C (some dx))), iC, tI, ?_, ?_, ?_, fun a v H Q h1 h2 => ⟨a, v, rfl, h1, h2⟩⟩
  · refine F.ok sc (fun vs H Q E ⟨a, v, e, _⟩ => by rw [e]; rfl) fun cdv A outer s H vs Q E hr ⟨a, v, e, h1, h2⟩ => ?_
    subst e
    rw [hb]
    refine ⟨_, pss_one (ps_ost (pe_var (i := 0) (x := "self") rfl (Or.inl hl2) (by decide) (by decide)) (pe_var (i := 1) (x := f) rfl (Or.inl hl) hdf hcf) (hs _)), ?_⟩
    exact ⟨v, rfl, .ref a, rfl, a, C, rfl, T, no, .inl ⟨h1, h2⟩⟩
  · intro s e u
    obtain ⟨_, _, kV, doc, pm, an, cdv, ct, _, e1, _, _⟩ := F.ex
    rw [e1]; exact .of_eq (bd ..)
  · intro s e u
    obtain ⟨_, _, kV, doc, pm, an, cdv, ct, _, e1, _, _⟩ := F.ex
    rw [e1]; exact .of_eq (bk ..)
theorem xcvA_ok (T : OexA K C) (gC : mg x = some (.ref C)) (no : PySem.W.findIn K (.ref C) f = some none)
    (iC : PySem.W.findIn K (.ref C) "__init__" = some (some (.ref fI))) (tI : PySem.W.typeIn K (.ref fI) = some (.type "function")) (F : Fun K "__init__" qual st fI fd) (sc : FnScope ["self", f] ["self", f] (defScope st))
    (hb : defBody st = [.Assign [.Attribute (.Name "self" q1) f q2] (.Name f q3) q4]) (hl : (defScope st).names.lookup f = some .local) (hl2 : (defScope st).names.lookup ("self" : Str) = some .local) (hdf : (f == ("__debug__" : Str)) = false) (hcf : (f == ("__classdict__" : Str)) = false)
    (hs : ∀ env : Env, swapsWith (.Name f q3) (some (.Attribute (.Name "self" q1) f q2)) q4.line env = pure false)
    (bd : ∀ (kV doc pm : Value) (an : Option Addr) (cdv ct : Value) (e u : Value), bindArgs (PySem.W.fnOf "__init__" qual (defArgs st) (defBody st) (defScope st) .none kV doc pm an cdv ct) ⟨[e, u], []⟩ = pure ((["self", f] : List Str).zip [e, u]))
    (bk : ∀ (kV doc pm : Value) (an : Option Addr) (cdv ct : Value) (e u : Value), bindArgs (PySem.W.fnOf "__init__" qual (defArgs st) (defBody st) (defScope st) .none kV doc pm an cdv ct) ⟨[e], [(f, u)]⟩ = pure ((["self", f] : List Str).zip [e, u])) : XcV K mg x C f P W base := by
  obtain ⟨nm, q, N, bs, bm, sn, sub, ab, col, dd, k0, k1, k2, k3, k5, hC, hbm⟩ := T.cls
  refine ⟨gC, T.kC, ⟨_, _, _, _, PySem.F.excBase_ArithmeticError, nm, q, N, bs, bm, sn, sub, ab, col, dd, k0, k1, k2, k3, k5, hC, fun Y => PySem.W.excTail_contains Y bm hbm⟩, fI, fd, fun vs H Q _ => ∃ (a : Addr) (v : V), vs = [.ref a, v] ∧ H a = some (exo a C none) ∧ ∀ dx, H dx = none → dx ≠ a → Q .non (upd (upd H dx (exd dx [(f, v)])) a (exo a C (some dx))), iC, tI, ?_, ?_, ?_, fun a v H Q h1 h2 => ⟨a, v, rfl, h1, h2⟩⟩
  · refine F.ok sc (fun vs H Q E ⟨a, v, e, _⟩ => by rw [e]; rfl) fun cdv A outer s H vs Q E hr ⟨a, v, e, h1, h2⟩ => ?_
    subst e
    rw [hb]
    refine ⟨_, pss_one (ps_osA (pe_var (i := 0) (x := "self") rfl (Or.inl hl2) (by decide) (by decide)) (pe_var (i := 1) (x := f) rfl (Or.inl hl) hdf hcf) (hs _)), ?_⟩
    exact ⟨v, rfl, .ref a, rfl, a, C, rfl, T, no, h1, h2⟩
  · intro s e u
    obtain ⟨_, _, kV, doc, pm, an, cdv, ct, _, e1, _, _⟩ := F.ex
    rw [e1]; exact .of_eq (bd ..)
  · intro s e u
    obtain ⟨_, _, kV, doc, pm, an, cdv, ct, _, e1, _, _⟩ := F.ex
    rw [e1]; exact .of_eq (bk ..)
end
def opExv (c : Nat) (f : Nm) : PH → List PV → R PV := fun h xs => match xs with
  | [x] => .ok (.exv c [(f, x)]) h
  | _ => .stuck
section
variable {w : Wo} {EX : XC} {X : Cx} {k : Nat} {x : Str} {A : Addr}
/-- how the heap stands behind the making -/
theorem exv_post {c : Nat} {f : Nm} {M : Addr → Prop} {rho : List Addr} {H : Hp} {h : PH} {Q : VK} {y : PV} {v : V} {a dx : Addr} (hA : w.cl c = some A) (hr : HR w M rho H h) (rv : VR w M rho H y v) (na : H a = none) (nd : H dx = none) (ne : dx ≠ a)
    (o : Out w EX M rho H (.ok (.exv c [(f, y)]) h) (KV w Q)) : Q (.ref a) (upd (upd (upd H a (exo a A none)) dx (exd dx [(nmS f, v)])) a (exo a A (some dx))) := by
  have g : ∀ b u, H b = some u → upd (upd (upd H a (exo a A none)) dx (exd dx [(nmS f, v)])) a (exo a A (some dx)) b = some u := fun b u e => by
    rw [upd_ne (ne_of_none e na), upd_ne (ne_of_none e nd), upd_ne (ne_of_none e na)]; exact e
  have st := Step.grow (M := M) (rho := rho) g
  refine o _ _ _ st (hr.grow g) _ (.exv (d := some dx) (gs := [(nmS f, v)]) upd_same (fun z => hr.live a z na) hA (fun y ey => ?_) (fun z => nomatch z) (.cons (rv.step st hr) .nil))
  cases ey
  exact ⟨by rw [upd_ne ne, upd_same], fun z => hr.live dx z nd⟩
theorem clb_exv (c : Nat) (f : Nm) (C : Cxt w (k + 2) X) (hA : w.cl c = some A) (T : XcV w.K X.mg x A (nmS f) X.prog X.w X.base) : Clb X w EX (.ref A) 1 [] (opExv c f) := by
  rw [← C.hK] at T
  obtain ⟨gC, kC, ⟨B, newId, initId, bmB, FB, nm, q, N, bs, bm, sn, sub, ab, col, dd, k0, k1, k2, k3, k5, hC, hbm⟩, fI, fd, sp, iC, tI, F1, hb, _, hsp⟩ := T
  refine ⟨kC, ?_⟩
  intro pins σ H s Q us ws vs zs M rho h xs ys I r rz lu lw hr rx ry o
  cases r with
  | nil => cases lu
  | @cons v u vs us r0 r1 =>
  cases r1 with
  | cons _ _ => simp at lu
  | nil =>
  cases rz with
  | cons _ _ => simp at lw
  | nil =>
  cases rx with
  | @cons y v' xs vs' ry0 rest =>
  cases rest
  cases ry
  obtain ⟨hp, g, dr, tk, os⟩ := s
  have hsz : hp.objs.size ≤ hp.objs.size + 1 := Nat.le_succ _
  have hn : H (hp.objs.size + 1) = none := I.hok.fresh hsz
  have kk : ∀ b o, hp.get? b = some o → ((hp.push (PySem.W.kdv_tup [u])).push (PySem.HandSPX.excO A hp.objs.size)).get? b = some o := fun b o e => Heap.get?_push_of_some _ (Heap.get?_push_of_some _ e)
  have hget : ((hp.push (PySem.W.kdv_tup [u])).push (PySem.HandSPX.excO A hp.objs.size)).get? (hp.objs.size + 1) = some (PySem.HandSPX.excO A hp.objs.size) := by heap_get
  have I2 : Inv X pins σ (upd H (hp.objs.size + 1) (exo (hp.objs.size + 1) A none)) ⟨(hp.push (PySem.W.kdv_tup [u])).push (PySem.HandSPX.excO A hp.objs.size), g, dr, tk, os⟩ :=
    I.laid (t' := tk) (a := hp.objs.size + 1) (o := exo (hp.objs.size + 1) A none) (h' := (hp.push (PySem.W.kdv_tup [u])).push (PySem.HandSPX.excO A hp.objs.size)) kk hsz (exo_ok hget)
  have hq := hsp (hp.objs.size + 1) v (upd H (hp.objs.size + 1) (exo (hp.objs.size + 1) A none)) (fun v0 H2 => v0 = .non ∧ Q (.ref (hp.objs.size + 1)) H2) upd_same fun dx n1 n2 => ⟨rfl, exv_post hA hr ry0 hn (by rw [upd_ne n2] at n1; exact n1) n2 o⟩
  have few : [u].length ≤ sizeLine := by rw [sizeLine_eq]; exact (by decide : 1 ≤ 16777216)
  refine wpAny_call (PySem.HandSPX.call_own FB hbm (I.kIn _ _ hC) (PySem.W.looks_findIn I.kIn iC) (fun self => PySem.W.bind_fn I.kIn self tI) few
    (codeAny_mono (F1.run _ X.stack _ _ ⟨[Value.ref (hp.objs.size + 1), u], []⟩ [Value.ref (hp.objs.size + 1), u] [V.ref (hp.objs.size + 1), v] _ (fun _ _ _ => False) ((C.room.mono (by omega)).make A [u] []) (I2.env0.make A [u] []) (hb _ _ _) (.cons rfl (.cons r0 .nil)) hq) fun r s' hq' => ?_))
  cases r with
  | error er => exact (show False from hq').elim
  | ok fl =>
    cases fl with
    | ret u2 =>
      obtain ⟨v0, H', I3, rv, ev, q3⟩ := I2.after hq'
      subst ev
      exact ⟨rv, ⟨V.ref (hp.objs.size + 1), H', I3, rfl, q3⟩⟩
    | next => exact (show False from hq').elim
    | brk => exact (show False from hq').elim
    | cont => exact (show False from hq').elim
theorem clb_exk (c : Nat) (f : Nm) {ks : List Str} (C : Cxt w (k + 2) X) (hA : w.cl c = some A) (T : XcV w.K X.mg x A (nmS f) X.prog X.w X.base) (ek : ks = [nmS f]) : Clb X w EX (.ref A) 0 ks (opExv c f) := by
  subst ek
  rw [← C.hK] at T
  obtain ⟨gC, kC, ⟨B, newId, initId, bmB, FB, nm, q, N, bs, bm, sn, sub, ab, col, dd, k0, k1, k2, k3, k5, hC, hbm⟩, fI, fd, sp, iC, tI, F1, _, hb, hsp⟩ := T
  refine ⟨kC, ?_⟩
  intro pins σ H s Q us ws vs zs M rho h xs ys I r rz lu lw hr rx ry o
  cases r with
  | cons _ _ => simp at lu
  | nil =>
  cases rz with
  | nil => simp at lw
  | @cons v u vs us r0 r1 =>
  cases r1 with
  | cons _ _ => simp at lw
  | nil =>
  cases rx
  cases ry with
  | @cons y v' xs vs' ry0 rest =>
  cases rest
  obtain ⟨hp, g, dr, tk, os⟩ := s
  have hsz : hp.objs.size ≤ hp.objs.size + 1 := Nat.le_succ _
  have hn : H (hp.objs.size + 1) = none := I.hok.fresh hsz
  have kk : ∀ b o, hp.get? b = some o → ((hp.push (PySem.W.kdv_tup [])).push (PySem.HandSPX.excO A hp.objs.size)).get? b = some o := fun b o e => Heap.get?_push_of_some _ (Heap.get?_push_of_some _ e)
  have hget : ((hp.push (PySem.W.kdv_tup [])).push (PySem.HandSPX.excO A hp.objs.size)).get? (hp.objs.size + 1) = some (PySem.HandSPX.excO A hp.objs.size) := by heap_get
  have I2 : Inv X pins σ (upd H (hp.objs.size + 1) (exo (hp.objs.size + 1) A none)) ⟨(hp.push (PySem.W.kdv_tup [])).push (PySem.HandSPX.excO A hp.objs.size), g, dr, tk, os⟩ :=
    I.laid (t' := tk) (a := hp.objs.size + 1) (o := exo (hp.objs.size + 1) A none) (h' := (hp.push (PySem.W.kdv_tup [])).push (PySem.HandSPX.excO A hp.objs.size)) kk hsz (exo_ok hget)
  have hq := hsp (hp.objs.size + 1) v (upd H (hp.objs.size + 1) (exo (hp.objs.size + 1) A none)) (fun v0 H2 => v0 = .non ∧ Q (.ref (hp.objs.size + 1)) H2) upd_same fun dx n1 n2 => ⟨rfl, exv_post hA hr ry0 hn (by rw [upd_ne n2] at n1; exact n1) n2 o⟩
  have few : ([] : List Value).length ≤ sizeLine := Nat.zero_le _
  refine wpAny_call (callK_own FB hbm (I.kIn _ _ hC) (PySem.W.looks_findIn I.kIn iC) (fun self => PySem.W.bind_fn I.kIn self tI) few
    (codeAny_mono (F1.run _ X.stack _ _ ⟨[Value.ref (hp.objs.size + 1)], [(nmS f, u)]⟩ [Value.ref (hp.objs.size + 1), u] [V.ref (hp.objs.size + 1), v] _ (fun _ _ _ => False) ((C.room.mono (by omega)).make A [] [(nmS f, u)]) (I2.env0.make A [] [(nmS f, u)]) (hb _ _ _) (.cons rfl (.cons r0 .nil)) hq) fun r s' hq' => ?_))
  cases r with
  | error er => exact (show False from hq').elim
  | ok fl =>
    cases fl with
    | ret u2 =>
      obtain ⟨v0, H', I3, rv, ev, q3⟩ := I2.after hq'
      subst ev
      exact ⟨rv, ⟨V.ref (hp.objs.size + 1), H', I3, rfl, q3⟩⟩
    | next => exact (show False from hq').elim
    | brk => exact (show False from hq').elim
    | cont => exact (show False from hq').elim
end
end MC
namespace MC
open PySem PySem.Spec PyProof.Rows L2
def mMkE0 (c : Nat) : ME := fun _ h => .ok (.exv c []) h
/-- e.f, e an error held as a value -/
def mXfV (cs : List Nat) (f : Nm) (m : ME) : ME := fun env h => (m env h).bind fun x h1 => match x with
  | .exv c fs => bif cs.contains c then (match lookF f fs with
    | some v => .ok v h1
    | none => .stuck) else .stuck
  | _ => .stuck
def mXiV (tb : List (Nat × Bool)) (m : ME) : ME := fun env h => (m env h).bind fun x h1 => match x with
  | .exv c _ => (match tb.lookup c with
    | some b => .ok (.bl b) h1
    | none => .stuck)
  | _ => .stuck
section
variable {w : Wo} {EX : XC} {X : Cx} {k : Nat} {e : Expr} {m : ME} {p pos : Pos} {x : Str} {A : Addr} {hh : Bool}
theorem me_mk0 (c : Nat) (C : CxtG hh w k X) (hA : w.cl c = some A) {bmB : List Value} {B newId initId : String} (F : ExcBaseFacts B newId initId bmB) (q : PySem.W.excIn w.K A bmB newId = true) (gC : X.mg x = some (.ref A)) (kC : PySem.W.keepIn w.K (.ref A) = true) (hg : Gl X x)
    (hdb : (x == ("__debug__" : Str)) = false := by decide) : PE X (.Call (.Name x p) [] [] pos) (tM w EX (mMkE0 c)) := by
  rw [← C.hK] at q kC
  refine ⟨fun pins s σ H Q I hh => ?_⟩
  obtain ⟨M, rho, env, h, er, hr, o⟩ := hh
  refine wpAny_Call_Name_kw (ld_glob I hg gC ?_ hdb)
  refine PySem.W.callWith_K0 I.kIn kC ?_
  obtain ⟨bm, N, nm, qn, bs, hdct, sn, sub, ab, col, dd, k0, k1, k2, k3, k5, mN, hC, hN, hni, T⟩ := exc_obj I.kIn q
  refine wpAny_call_exc_subT F T hC hN hni (fun h' e hm => ?_) (by show 0 ≤ sizeLine; exact Nat.zero_le _)
  obtain ⟨t, he, _⟩ := hm.there
  have ne : H e = none := I.hok.gone hm.new
  have g := same_upd (o := exo e A none) ne
  have st := Step.grow (M := M) (rho := rho) g
  exact ⟨.ref e, _, I.laidN (o := exo e A none) hm.keeps hm.new ne (exo_ok he), rfl, o _ _ _ st (hr.grow g) _ (.exv (d := none) (gs := []) upd_same (fun z => hr.live e z ne) hA (fun y z => nomatch z) (fun _ => rfl) .nil)⟩
theorem exo_inst {P : Program} {W : World} {H : Hp} {h : Heap} {a C : Addr} {d : Option Addr} {gs : List (Str × V)} (ok : HOk P W H h) (e : H a = some (exo a C d)) (ed : ∀ x, d = some x → H x = some (exd x gs)) :
    ∃ (oe : Obj) (od : Option Obj), PySem.W.InstAt h a oe C od ∧ oe.dict = d ∧ ∀ x, d = some x → ∃ o, od = some o ∧ h.get? x = some o := by
  obtain ⟨t1, ho⟩ := exo_at ok e
  cases d with
  | none => exact ⟨_, none, ⟨ho, rfl, rfl, trivial⟩, rfl, fun x z => nomatch z⟩
  | some dd =>
    obtain ⟨_, ⟨o, hd⟩, _⟩ := ok dd _ (ed dd rfl)
    exact ⟨_, some o, ⟨ho, rfl, rfl, hd⟩, rfl, fun x z => by cases z; exact ⟨o, rfl, hd⟩⟩
theorem me_xfV (C : CxtG hh w k X) {cs : List Nat} (f : Nm) {n : Str} (hn : n = nmS f) (F : XFld w cs f) (he : PE X e (tM w EX m)) (hb : attributeBase e n X.env (eval e X.env) = eval e X.env := by rfl) : PE X (.Attribute e n pos) (tM w EX (mXfV cs f m)) := by
  subst hn
  refine ⟨fun pins s σ H Q I hh => ?_⟩
  obtain ⟨M, rho, env, h, er, hr, o⟩ := hh
  refine attr_of hb (thn (he.run pins s σ H (fun v H1 => ∃ M1 rho1 h1 x, HR w M1 rho1 H1 h1 ∧ VR w M1 rho1 H1 x v ∧ Out w EX M1 rho1 H1 (match x with
    | .exv c fs => bif cs.contains c then (match lookF f fs with
      | some v => .ok v h1
      | none => .stuck) else .stuck
    | _ => .stuck) (KV w Q)) I (tM.of er hr (Out.bind o) fun x h1 M1 rho1 H1 v st1 er1 hr1 o1 rv => ⟨M1, rho1, h1, x, hr1, rv, o1⟩)) fun u s1 ⟨v, H1, I1, rx, M1, rho1, h1, x, hr1, rv, o1⟩ => ?_)
  cases rv with
  | @exv c A a d fs gs e1 e2 hc e4 e5 rf => ?_
  | _ => exact (show False from o1).elim
  obtain rfl : u = Value.ref a := rx
  obtain ⟨hin, o2⟩ := Out.bif o1
  split at o2
  · rename_i y ey
    obtain ⟨v, ev, rv⟩ := rf.look ey
    obtain ⟨T, hno⟩ := F c A (List.contains_iff_mem.mp hin) hc
    rw [← C.hK] at T hno
    cases d with
    | none =>
      rw [e5 rfl] at ev
      cases ev
    | some dd =>
      obtain ⟨ea, _⟩ := e4 dd rfl
      obtain ⟨t1, ha⟩ := exo_at I1.hok e1
      obtain ⟨mA, hns, hrr⟩ := exd_at I1.hok ea
      obtain ⟨od, ho, hl⟩ := lookIn_ns hns
      obtain ⟨u, hu, ru⟩ := RelO.some_of (v := v) (o := mA (nmS f)) (by rw [← ev]; exact hrr (nmS f))
      have J : PySem.W.InstAt s1.heap a { cls := .ref A, dict := some dd, data := .fields #[.ref t1, .none, .none, .none, .bool false, .none] } A (some od) := ⟨ha, rfl, rfl, ho⟩
      exact PySem.HandSPX.exc_get I1.kIn J T.ga T.gg T.exC (PySem.W.findObj_own T.hdC hno rfl (by rw [hl, hu])) (handed_of ru) ⟨v, H1, I1.tok _, ru, o2.now hr1 v rv⟩
  · exact (show False from o2).elim
/-- isinstance(e, T), e an error held as a value -/
def rXv (w : Wo) : List V → Hp → VK → Prop := fun xs H Q => ∃ (a D : Addr) (d : Option Addr) (gs : List (Str × V)) (c : V) (u : Value) (b : Bool), xs = [.ref a, c] ∧ H a = some (exo a D d) ∧ (∀ x, d = some x → H x = some (exd x gs)) ∧
  (∀ z, RelV c z → z = u) ∧ ExcC w.K D ∧ PySem.W.kitOne w.K (.ref D) u = some b ∧ Q (.bl b) H
theorem call_xv (C : CxtG hh w k X) : CallR X (.builtin "isinstance") (rXv w) := by
  intro pins s σ H xs us Q I r ⟨a, D, d, gs, c, u, b, e0, e1, hx, hc, K, ek, q⟩
  subst e0
  cases r with
  | cons rx rr =>
    cases rr with
    | cons rt rr =>
      cases rr
      cases rx
      have ec := hc _ rt
      subst ec
      have hcl : (PySem.W.clsIn X.K D).isSome = true := by
        obtain ⟨cd, hcd, _⟩ := PySem.W.any_some K.hd
        rw [C.hK, hcd]; rfl
      obtain ⟨oe, od, J, _⟩ := exo_inst I.hok e1 hx
      rw [← C.hK] at K ek
      exact PySem.W.kia_one (PySem.W.kitx_exc hcl K.hg K.hk K.hs K.ha K.hn K.ht K.hm) I.kIn J ek (fun z => nomatch z) fun tk => ⟨.bl b, H, I.kept (t' := tk) fun _ _ z => z, rfl, q⟩
theorem xv_reads {u : Value} {cv : V} {tb : List (Nat × Bool)} (B : XiOk w u tb) (kc : ∀ z, RelV cv z → z = u) {σ : L2.St} {H : Hp} {Q : VK} (hh : tM w EX (mXiV tb m) σ H Q) : tCB (rXv w) (tCons (tM w EX m) (tCons (tC cv) tNil)) σ H Q := by
  obtain ⟨M, rho, env, h, er, hr, o⟩ := hh
  refine tM.of er hr (Out.bind o) fun x h1 M1 rho1 H1 v st1 er1 hr1 o1 rv => ?_
  cases rv with
  | @exv c A a d fs gs e1 e2 hc e4 e5 rf => ?_
  | _ => exact (show False from o1).elim
  have o1' : Out w EX M1 rho1 H1 (match tb.lookup c with
    | some b => .ok (.bl b) h1
    | none => .stuck) (KV w Q) := o1
  split at o1'
  · rename_i b eb
    obtain ⟨K, ek⟩ := B (c, b) (mem_look eb) A hc
    exact ⟨a, A, d, gs, cv, u, b, rfl, e1, fun x hx => (e4 x hx).1, kc, K, ek, o1'.now hr1 _ (.bl b)⟩
  · exact (show False from o1').elim
theorem me_xvT {x : Str} {T : String} {p1 p2 : Pos} {tb : List (Nat × Bool)} (C : CxtG hh w k X) (B : XiOk w (.type T) tb) (he : PE X e (tM w EX m)) (hg : Gl X "isinstance") (hm : X.mg "isinstance" = none) (hg2 : Gl X x) (hm2 : X.mg x = none) (hv2 : bootBuiltins x = some (.type T)) (hn2 : x ≠ "__name__" := by decide) (hd2 : (x == ("__debug__" : Str)) = false := by decide)
    (hs : starEach [e, .Name x p2] X.env = (false, eval e X.env) :: starEach [.Name x p2] X.env := by rfl) (hs2 : starEach [.Name x p2] X.env = (false, eval (.Name x p2) X.env) :: starEach [] X.env := by rfl) (hpl : (backTo pos (starEach [.Name x p2] X.env)).any (·.1) = false := by rfl) :
    PE X (.Call (.Name "isinstance" p1) [e, .Name x p2] [] pos) (tM w EX (mXiV tb m)) :=
  PE.imp (pe_callB (call_xv C) hg hm (by decide +kernel) (pa_cons he (pa_cons (pe_bltn (v := .ty T) hg2 hm2 hv2 rfl hn2 hd2) pa_nil hs2) hs) (by decide) (by decide) hs hpl) fun σ H Q h => xv_reads (cv := .ty T) B (fun z hz => hz) h
theorem me_xvC {x : Str} {A : Addr} {p1 p2 : Pos} {tb : List (Nat × Bool)} (C : CxtG hh w k X) (B : XiOk w (.ref A) tb) (he : PE X e (tM w EX m)) (hg : Gl X "isinstance") (hm : X.mg "isinstance" = none) (hg2 : Gl X x) (hm2 : X.mg x = some (.ref A)) (hd2 : (x == ("__debug__" : Str)) = false := by decide)
    (hs : starEach [e, .Name x p2] X.env = (false, eval e X.env) :: starEach [.Name x p2] X.env := by rfl) (hs2 : starEach [.Name x p2] X.env = (false, eval (.Name x p2) X.env) :: starEach [] X.env := by rfl) (hpl : (backTo pos (starEach [.Name x p2] X.env)).any (·.1) = false := by rfl) :
    PE X (.Call (.Name "isinstance" p1) [e, .Name x p2] [] pos) (tM w EX (mXiV tb m)) :=
  PE.imp (pe_callB (call_xv C) hg hm (by decide +kernel) (pa_cons he (pa_cons (pe_glob (v := .ref A) hg2 hm2 rfl hd2) pa_nil hs2) hs) (by decide) (by decide) hs hpl) fun σ H Q h => xv_reads (cv := .ref A) B (fun z hz => hz) h
end
end MC

end
section
set_option maxRecDepth 100000
set_option maxHeartbeats 8000000
namespace K07
open PySem PySem.Spec PyProof.Rows L2 MC MM
def topS (i : Nat) : Stmt := PySem.Challenge.pw_liketongues_k07_errors_and_limits.main.body.getD i (.Pass ⟨0, 0, 0, 0⟩)

abbrev s_InvalidCount_init : Stmt := inClass (topS 7) 0
theorem sc_InvalidCount_init : FnScope ["self", "value"] ["self", "value"] (defScope s_InvalidCount_init) := ⟨rfl, rfl, rfl, by decide +kernel, rfl, by decide +kernel, by decide +kernel⟩
abbrev s_InvalidText_init : Stmt := inClass (topS 6) 0
theorem sc_InvalidText_init : FnScope ["self", "value"] ["self", "value"] (defScope s_InvalidText_init) := ⟨rfl, rfl, rfl, by decide +kernel, rfl, by decide +kernel, by decide +kernel⟩
abbrev s_NotADesk_init : Stmt := inClass (topS 5) 0
theorem sc_NotADesk_init : FnScope ["self", "value"] ["self", "value"] (defScope s_NotADesk_init) := ⟨rfl, rfl, rfl, by decide +kernel, rfl, by decide +kernel, by decide +kernel⟩
abbrev s_NotAMachine_init : Stmt := inClass (topS 4) 0
theorem sc_NotAMachine_init : FnScope ["self", "value"] ["self", "value"] (defScope s_NotAMachine_init) := ⟨rfl, rfl, rfl, by decide +kernel, rfl, by decide +kernel, by decide +kernel⟩
abbrev s_InvalidLine_init : Stmt := inClass (topS 11) 0
theorem sc_InvalidLine_init : FnScope ["self", "value"] ["self", "value"] (defScope s_InvalidLine_init) := ⟨rfl, rfl, rfl, by decide +kernel, rfl, by decide +kernel, by decide +kernel⟩
abbrev s_InvalidWord_init : Stmt := inClass (topS 10) 0
theorem sc_InvalidWord_init : FnScope ["self", "value"] ["self", "value"] (defScope s_InvalidWord_init) := ⟨rfl, rfl, rfl, by decide +kernel, rfl, by decide +kernel, by decide +kernel⟩
abbrev s_InvalidStand_init : Stmt := inClass (topS 9) 0
theorem sc_InvalidStand_init : FnScope ["self", "value"] ["self", "value"] (defScope s_InvalidStand_init) := ⟨rfl, rfl, rfl, by decide +kernel, rfl, by decide +kernel, by decide +kernel⟩
abbrev s_InvalidLetter_init : Stmt := inClass (topS 8) 0
theorem sc_InvalidLetter_init : FnScope ["self", "value"] ["self", "value"] (defScope s_InvalidLetter_init) := ⟨rfl, rfl, rfl, by decide +kernel, rfl, by decide +kernel, by decide +kernel⟩
abbrev s_InvalidTexts_init : Stmt := inClass (topS 15) 0
theorem sc_InvalidTexts_init : FnScope ["self", "index"] ["self", "index"] (defScope s_InvalidTexts_init) := ⟨rfl, rfl, rfl, by decide +kernel, rfl, by decide +kernel, by decide +kernel⟩
abbrev s_InvalidBook_init : Stmt := inClass (topS 14) 0
theorem sc_InvalidBook_init : FnScope ["self", "index"] ["self", "index"] (defScope s_InvalidBook_init) := ⟨rfl, rfl, rfl, by decide +kernel, rfl, by decide +kernel, by decide +kernel⟩
abbrev s_InvalidEnds_init : Stmt := inClass (topS 13) 0
theorem sc_InvalidEnds_init : FnScope ["self", "index"] ["self", "index"] (defScope s_InvalidEnds_init) := ⟨rfl, rfl, rfl, by decide +kernel, rfl, by decide +kernel, by decide +kernel⟩
abbrev s_InvalidArrows_init : Stmt := inClass (topS 12) 0
theorem sc_InvalidArrows_init : FnScope ["self", "index"] ["self", "index"] (defScope s_InvalidArrows_init) := ⟨rfl, rfl, rfl, by decide +kernel, rfl, by decide +kernel, by decide +kernel⟩
abbrev s_InvalidDeeds_init : Stmt := inClass (topS 16) 0
theorem sc_InvalidDeeds_init : FnScope ["self", "index"] ["self", "index"] (defScope s_InvalidDeeds_init) := ⟨rfl, rfl, rfl, by decide +kernel, rfl, by decide +kernel, by decide +kernel⟩
abbrev s_TooMany_init : Stmt := inClass (topS 19) 0
theorem sc_TooMany_init : FnScope ["self", "limit"] ["self", "limit"] (defScope s_TooMany_init) := ⟨rfl, rfl, rfl, by decide +kernel, rfl, by decide +kernel, by decide +kernel⟩
abbrev s__law_pinch : Stmt := topS 26
theorem sc__law_pinch : FnScope ["_law_sack_here", "_law_many", "_law_digit"] ["_law_sack_here", "_law_many"] (defScope s__law_pinch) := ⟨rfl, rfl, rfl, by decide +kernel, rfl, by decide +kernel, by decide +kernel⟩

abbrev s__law_one : Stmt := topS 27
theorem sc__law_one : FnScope ["_law_sack_here", "_law_things"] ["_law_sack_here", "_law_things"] (defScope s__law_one) := ⟨rfl, rfl, rfl, by decide +kernel, rfl, by decide +kernel, by decide +kernel⟩

abbrev s__law_value_errors : Stmt := topS 28
theorem sc__law_value_errors : FnScope ["_law_stuff", "_law_one_here", "_law_two_here"] ["_law_stuff"] (defScope s__law_value_errors) := ⟨rfl, rfl, rfl, by decide +kernel, rfl, by decide +kernel, by decide +kernel⟩

def b__law_value_errors : MS := (mSeq (mSet 1 (mLst (maCons (mCl0 (opExv 11 [118, 97, 108, 117, 101]) 1 (maCons (mVar 0) maNil)) (maCons (mCl0 (opExv 12 [118, 97, 108, 117, 101]) 1 (maCons (mVar 0) maNil)) (maCons (mCl0 (opExv 13 [118, 97, 108, 117, 101]) 1 (maCons (mVar 0) maNil)) (maCons (mCl0 (opExv 14 [118, 97, 108, 117, 101]) 1 (maCons (mVar 0) maNil)) maNil)))))) (mSeq (mSet 1 (mOp opAdd (mVar 1) (mLst (maCons (mCl0 (opExv 15 [118, 97, 108, 117, 101]) 1 (maCons (mVar 0) maNil)) (maCons (mCl0 (opExv 16 [118, 97, 108, 117, 101]) 1 (maCons (mVar 0) maNil)) (maCons (mCl0 (opExv 17 [118, 97, 108, 117, 101]) 1 (maCons (mVar 0) maNil)) (maCons (mCl0 (opExv 18 [118, 97, 108, 117, 101]) 1 (maCons (mVar 0) maNil)) maNil))))))) (mSeq (mSet 2 (mLst (maCons (mCl (opExv 11 [118, 97, 108, 117, 101]) 0 1 maNil (maCons (mVar 0) maNil)) (maCons (mCl (opExv 12 [118, 97, 108, 117, 101]) 0 1 maNil (maCons (mVar 0) maNil)) (maCons (mCl (opExv 13 [118, 97, 108, 117, 101]) 0 1 maNil (maCons (mVar 0) maNil)) maNil))))) (mSeq (mSet 2 (mOp opAdd (mVar 2) (mLst (maCons (mCl (opExv 14 [118, 97, 108, 117, 101]) 0 1 maNil (maCons (mVar 0) maNil)) (maCons (mCl (opExv 15 [118, 97, 108, 117, 101]) 0 1 maNil (maCons (mVar 0) maNil)) (maCons (mCl (opExv 16 [118, 97, 108, 117, 101]) 0 1 maNil (maCons (mVar 0) maNil)) maNil)))))) (mSeq (mSet 2 (mOp opAdd (mVar 2) (mLst (maCons (mCl (opExv 17 [118, 97, 108, 117, 101]) 0 1 maNil (maCons (mVar 0) maNil)) (maCons (mCl (opExv 18 [118, 97, 108, 117, 101]) 0 1 maNil (maCons (mVar 0) maNil)) maNil))))) (mSeq (mRet (mOp opAdd (mVar 1) (mVar 2))) mNil))))))
def m__law_value_errors : MF := mFun 3 b__law_value_errors

abbrev s__law_index_errors : Stmt := topS 29
theorem sc__law_index_errors : FnScope ["_law_stuff", "_law_one_here", "_law_two_here"] ["_law_stuff"] (defScope s__law_index_errors) := ⟨rfl, rfl, rfl, by decide +kernel, rfl, by decide +kernel, by decide +kernel⟩

def b__law_index_errors : MS := (mSeq (mSet 1 (mLst (maCons (mCl0 (opExv 19 [105, 110, 100, 101, 120]) 1 (maCons (mVar 0) maNil)) (maCons (mCl0 (opExv 20 [105, 110, 100, 101, 120]) 1 (maCons (mVar 0) maNil)) (maCons (mCl0 (opExv 21 [105, 110, 100, 101, 120]) 1 (maCons (mVar 0) maNil)) (maCons (mCl0 (opExv 22 [105, 110, 100, 101, 120]) 1 (maCons (mVar 0) maNil)) maNil)))))) (mSeq (mSet 1 (mOp opAdd (mVar 1) (mLst (maCons (mCl0 (opExv 23 [105, 110, 100, 101, 120]) 1 (maCons (mVar 0) maNil)) maNil)))) (mSeq (mSet 2 (mLst (maCons (mCl (opExv 19 [105, 110, 100, 101, 120]) 0 1 maNil (maCons (mVar 0) maNil)) (maCons (mCl (opExv 20 [105, 110, 100, 101, 120]) 0 1 maNil (maCons (mVar 0) maNil)) (maCons (mCl (opExv 21 [105, 110, 100, 101, 120]) 0 1 maNil (maCons (mVar 0) maNil)) maNil))))) (mSeq (mSet 2 (mOp opAdd (mVar 2) (mLst (maCons (mCl (opExv 22 [105, 110, 100, 101, 120]) 0 1 maNil (maCons (mVar 0) maNil)) (maCons (mCl (opExv 23 [105, 110, 100, 101, 120]) 0 1 maNil (maCons (mVar 0) maNil)) maNil))))) (mSeq (mRet (mOp opAdd (mVar 1) (mVar 2))) mNil)))))
def m__law_index_errors : MF := mFun 3 b__law_index_errors

abbrev s__law_bases : Stmt := topS 31
theorem sc__law_bases : FnScope ["_law_e", "_law_seen_here", "_law_k"] ["_law_e"] (defScope s__law_bases) := ⟨rfl, rfl, rfl, by decide +kernel, rfl, by decide +kernel, by decide +kernel⟩

def b__law_bases : MS := (mSeq (mSet 1 (mLst (maCons (mXiV xit_InputError (mVar 0)) (maCons (mXiV xit_StateError (mVar 0)) (maCons (mXiV xit_SizeError (mVar 0)) maNil))))) (mSeq (mSet 1 (mOp opAdd (mVar 1) (mLst (maCons (mXiV xit_ValueError (mVar 0)) (maCons (mXiV xit_LookupError (mVar 0)) (maCons (mXiV xit_ArithmeticError (mVar 0)) maNil)))))) (mSeq (mRet (mLc (miRng1 (maCons (mC (.int 6)) maNil)) (Tg.nm 2) (mTru (mOp opIx (mVar 1) (mVar 2))) (mVar 2) [2])) mNil)))
def m__law_bases : MF := mFun 3 b__law_bases

abbrev s__law_instances : Stmt := topS 30
theorem sc__law_instances : FnScope ["_law_e", "_law_seen_here", "_law_each"] ["_law_e"] (defScope s__law_instances) := ⟨rfl, rfl, rfl, by decide +kernel, rfl, by decide +kernel, by decide +kernel⟩

def b__law_instances : MS := (mSeq (mSet 1 (mLst (maCons (mXiV xit_NotAMachine (mVar 0)) (maCons (mXiV xit_NotADesk (mVar 0)) (maCons (mXiV xit_InvalidText (mVar 0)) maNil))))) (mSeq (mSet 1 (mOp opAdd (mVar 1) (mLst (maCons (mXiV xit_InvalidCount (mVar 0)) (maCons (mXiV xit_InvalidLetter (mVar 0)) maNil))))) (mSeq (mSet 1 (mOp opAdd (mVar 1) (mLst (maCons (mXiV xit_InvalidStand (mVar 0)) (maCons (mXiV xit_InvalidWord (mVar 0)) maNil))))) (mSeq (mSet 1 (mOp opAdd (mVar 1) (mLst (maCons (mXiV xit_InvalidLine (mVar 0)) (maCons (mXiV xit_InvalidArrows (mVar 0)) maNil))))) (mSeq (mSet 1 (mOp opAdd (mVar 1) (mLst (maCons (mXiV xit_InvalidEnds (mVar 0)) (maCons (mXiV xit_InvalidBook (mVar 0)) maNil))))) (mSeq (mSet 1 (mOp opAdd (mVar 1) (mLst (maCons (mXiV xit_InvalidTexts (mVar 0)) (maCons (mXiV xit_InvalidDeeds (mVar 0)) maNil))))) (mSeq (mSet 1 (mOp opAdd (mVar 1) (mLst (maCons (mXiV xit_NothingToUndo (mVar 0)) (maCons (mXiV xit_Busy (mVar 0)) (maCons (mXiV xit_TooMany (mVar 0)) maNil)))))) (mSeq (mRet (mBt bLen (maCons (mLc (miV (mVar 1)) (Tg.nm 2) (mTru (mVar 2)) (mVar 2) [2]) maNil))) mNil))))))))
def m__law_instances : MF := mFun 3 b__law_instances

abbrev s__law_right : Stmt := topS 32
theorem sc__law_right : FnScope ["_law_sack_here", "_law_stuff", "_law_kept_ones", "_law_spots_here", "_law_states", "_law_limits_here", "_law_kept_here", "_law_group", "_law_due", "_law_e"] ["_law_sack_here"] (defScope s__law_right) := ⟨rfl, rfl, rfl, by decide +kernel, rfl, by decide +kernel, by decide +kernel⟩

def b__law_right : MS := (mSeq (mSet 1 (mCl0 (opF m__law_one [0, 1] []) 2 (maCons (mVar 0) (maCons (mLst (maCons (mC .non) (maCons (mC (.int 0)) (maCons (mC (.bl false)) (maCons (mC (.str [120])) (maCons (mTup (maCons (mC (.int 2)) (maCons (mC (.str [121])) maNil))) (maCons (mLst (maCons (mC (.int 3)) maNil)) (maCons mDict0 (maCons (mOp opPow (mC (.int 10)) (mC (.int 19))) (maCons (mTup maNil) (maCons (mUn (unI fun i => -i) (mC (.int 7))) maNil))))))))))) maNil)))) (mSeq (mPar 2 3 (mCl0 (opF m__law_value_errors [0] []) 1 (maCons (mVar 1) maNil)) (mCl0 (opF m__law_index_errors [0] []) 1 (maCons (mVar 1) maNil))) (mSeq (mPar 4 5 (mLst (maCons (mMkE0 24) (maCons (mMkE0 25) maNil))) (mLst (maCons (mCl0 (opExv 26 [108, 105, 109, 105, 116]) 1 (maCons (mVar 1) maNil)) (maCons (mCl (opExv 26 [108, 105, 109, 105, 116]) 0 1 maNil (maCons (mVar 1) maNil)) maNil)))) (mSeq (mSet 6 (mOp opAdd (mOp opAdd (mLc (miV (mVar 2)) (Tg.nm 9) mYes (mXfV xcs_value [118, 97, 108, 117, 101] (mVar 9)) [9]) (mLc (miV (mVar 3)) (Tg.nm 9) mYes (mXfV xcs_index [105, 110, 100, 101, 120] (mVar 9)) [9])) (mLc (miV (mVar 5)) (Tg.nm 9) mYes (mXfV xcs_limit [108, 105, 109, 105, 116] (mVar 9)) [9]))) (mSeq (mIfS (mOr (mTB (mOp opNe (mBt bReprQ (maCons (mVar 6) maNil)) (mBt bReprQ (maCons (mOp opMul (mLst (maCons (mVar 1) maNil)) (mBt bLen (maCons (mVar 6) maNil))) maNil)))) (mTB (mOp opNe (mLst (maCons (mBt bLen (maCons (mVar 2) maNil)) (maCons (mBt bLen (maCons (mVar 3) maNil)) maNil))) (mLst (maCons (mC (.int 16)) (maCons (mC (.int 10)) maNil)))))) (mSeq (mRet (mC (.bl false))) mNil) mNil) (mSeq (mFor (miV (mLst (maCons (mTup (maCons (mOp opAdd (mVar 2) (mVar 3)) (maCons (mLst (maCons (mC (.int 0)) (maCons (mC (.int 3)) maNil))) maNil))) (maCons (mTup (maCons (mVar 4) (maCons (mLst (maCons (mC (.int 1)) (maCons (mC (.int 4)) maNil))) maNil))) (maCons (mTup (maCons (mVar 5) (maCons (mLst (maCons (mC (.int 2)) (maCons (mC (.int 5)) maNil))) maNil))) maNil))))) (gTup' 2 (gsCons (gName' 7) (gsCons (gName' 8) gsNil))) (mSeq (mIfS (mNot (mTru (mBt bAll (maCons (mLc (miV (mVar 7)) (Tg.nm 9) mYes (mAndV (mOp opEq (mCl0 (opF m__law_bases [0] []) 1 (maCons (mVar 9) maNil)) (mVar 8)) (mOp opEq (mCl0 (opF m__law_instances [0] []) 1 (maCons (mVar 9) maNil)) (mC (.int 1)))) [9]) maNil)))) (mSeq (mRet (mC (.bl false))) mNil) mNil) mNil)) (mSeq (mRet (mOp opEq (mLst (maCons (mC (.int 8)) (maCons (mC (.int 5)) (maCons (mC (.int 6)) (maCons (mC (.int 60)) maNil))))) (mLst (maCons (mC (.int 8)) (maCons (mC (.int 5)) (maCons (mC (.int 6)) (maCons (mC (.int 60)) maNil))))))) mNil)))))))
def m__law_right : MF := mFun 10 b__law_right

abbrev s__law_sack : Stmt := topS 25
theorem sc__law_sack : FnScope ["_law_script", "_law_k", "_law_own", "_law_mixed", "_law_entry"] ["_law_script", "_law_k"] (defScope s__law_sack) := ⟨rfl, rfl, rfl, by decide +kernel, rfl, by decide +kernel, by decide +kernel⟩

abbrev s_law : Stmt := topS 33
theorem sc_law : FnScope ["_law_script", "_law_k"] ["_law_script"] (defScope s_law) := ⟨rfl, rfl, rfl, by decide +kernel, rfl, by decide +kernel, by decide +kernel⟩

def b_law : MS := (mSeq (mRet (mBt bAll (maCons (mLc (miRng1 (maCons (mBt bMax2 (maCons (mC (.int 2)) (maCons (mBt bMin2 (maCons (mBt bLen (maCons (mVar 0) maNil)) (maCons (mC (.int 5)) maNil))) maNil))) maNil)) (Tg.nm 1) mYes (mCl0 (opF m__law_right [0] []) 1 (maCons (mCl0 (opF m__law_sack [0, 1] []) 2 (maCons (mVar 0) (maCons (mVar 1) maNil))) maNil)) [1]) maNil))) mNil)
def m_law : MF := mFun 2 b_law

/-- what the top has left -/
structure Tx (W : World) (w : Wo) (mg : Str → Option Value) where
  hW : W = w.W
  gvn : ∀ i v, w.gv i = some v → v ≠ .non
  hex : w.ex = none
  nn_Machine : w.cl 0 = none
  nn_Desk : w.cl 1 = none
  nn_Console : w.cl 2 = none
  nn_Kept : w.cl 3 = none
  nn_Trial : w.cl 4 = none
  nn_Run : w.cl 5 = none
  nn_Paths : w.cl 6 = none
  nn_Readings : w.cl 7 = none
  nn_InputError : w.cl 8 = none
  nn_StateError : w.cl 9 = none
  nn_SizeError : w.cl 10 = none
  a__law_pinch : Addr
  fd__law_pinch : FuncData
  F__law_pinch : Fun w.K "_law_pinch" "_law_pinch" s__law_pinch a__law_pinch fd__law_pinch
  g__law_pinch : mg "_law_pinch" = some (.ref a__law_pinch)
  a__law_one : Addr
  fd__law_one : FuncData
  F__law_one : Fun w.K "_law_one" "_law_one" s__law_one a__law_one fd__law_one
  g__law_one : mg "_law_one" = some (.ref a__law_one)
  a__law_value_errors : Addr
  fd__law_value_errors : FuncData
  F__law_value_errors : Fun w.K "_law_value_errors" "_law_value_errors" s__law_value_errors a__law_value_errors fd__law_value_errors
  g__law_value_errors : mg "_law_value_errors" = some (.ref a__law_value_errors)
  a__law_index_errors : Addr
  fd__law_index_errors : FuncData
  F__law_index_errors : Fun w.K "_law_index_errors" "_law_index_errors" s__law_index_errors a__law_index_errors fd__law_index_errors
  g__law_index_errors : mg "_law_index_errors" = some (.ref a__law_index_errors)
  a__law_bases : Addr
  fd__law_bases : FuncData
  F__law_bases : Fun w.K "_law_bases" "_law_bases" s__law_bases a__law_bases fd__law_bases
  g__law_bases : mg "_law_bases" = some (.ref a__law_bases)
  a__law_instances : Addr
  fd__law_instances : FuncData
  F__law_instances : Fun w.K "_law_instances" "_law_instances" s__law_instances a__law_instances fd__law_instances
  g__law_instances : mg "_law_instances" = some (.ref a__law_instances)
  a__law_right : Addr
  fd__law_right : FuncData
  F__law_right : Fun w.K "_law_right" "_law_right" s__law_right a__law_right fd__law_right
  g__law_right : mg "_law_right" = some (.ref a__law_right)
  a__law_sack : Addr
  fd__law_sack : FuncData
  F__law_sack : Fun w.K "_law_sack" "_law_sack" s__law_sack a__law_sack fd__law_sack
  g__law_sack : mg "_law_sack" = some (.ref a__law_sack)
  a_law : Addr
  fd_law : FuncData
  F_law : Fun w.K "law" "law" s_law a_law fd_law
  g_law : mg "law" = some (.ref a_law)
  t_MOST_DEEDS : Tok
  g_MOST_DEEDS : mg "MOST_DEEDS" = some (.int 60 t_MOST_DEEDS)
  t_MOST_WORD : Tok
  g_MOST_WORD : mg "MOST_WORD" = some (.int 6 t_MOST_WORD)
  t_MOST_LETTERS : Tok
  g_MOST_LETTERS : mg "MOST_LETTERS" = some (.int 5 t_MOST_LETTERS)
  t_MOST_STANDS : Tok
  g_MOST_STANDS : mg "MOST_STANDS" = some (.int 8 t_MOST_STANDS)
  c_InvalidCount : Addr
  g_InvalidCount : mg "InvalidCount" = some (.ref c_InvalidCount)
  c_InvalidText : Addr
  g_InvalidText : mg "InvalidText" = some (.ref c_InvalidText)
  c_NotADesk : Addr
  g_NotADesk : mg "NotADesk" = some (.ref c_NotADesk)
  c_NotAMachine : Addr
  g_NotAMachine : mg "NotAMachine" = some (.ref c_NotAMachine)
  c_InvalidLine : Addr
  g_InvalidLine : mg "InvalidLine" = some (.ref c_InvalidLine)
  c_InvalidWord : Addr
  g_InvalidWord : mg "InvalidWord" = some (.ref c_InvalidWord)
  c_InvalidStand : Addr
  g_InvalidStand : mg "InvalidStand" = some (.ref c_InvalidStand)
  c_InvalidLetter : Addr
  g_InvalidLetter : mg "InvalidLetter" = some (.ref c_InvalidLetter)
  c_InvalidTexts : Addr
  g_InvalidTexts : mg "InvalidTexts" = some (.ref c_InvalidTexts)
  c_InvalidBook : Addr
  g_InvalidBook : mg "InvalidBook" = some (.ref c_InvalidBook)
  c_InvalidEnds : Addr
  g_InvalidEnds : mg "InvalidEnds" = some (.ref c_InvalidEnds)
  c_InvalidArrows : Addr
  g_InvalidArrows : mg "InvalidArrows" = some (.ref c_InvalidArrows)
  c_InvalidDeeds : Addr
  g_InvalidDeeds : mg "InvalidDeeds" = some (.ref c_InvalidDeeds)
  c_Busy : Addr
  g_Busy : mg "Busy" = some (.ref c_Busy)
  c_NothingToUndo : Addr
  g_NothingToUndo : mg "NothingToUndo" = some (.ref c_NothingToUndo)
  c_TooMany : Addr
  g_TooMany : mg "TooMany" = some (.ref c_TooMany)
  c_SizeError : Addr
  g_SizeError : mg "SizeError" = some (.ref c_SizeError)
  c_StateError : Addr
  g_StateError : mg "StateError" = some (.ref c_StateError)
  c_InputError : Addr
  g_InputError : mg "InputError" = some (.ref c_InputError)
  xq_Busy : PySem.W.excIn w.K c_Busy [.type "LookupError", .type "Exception", .type "BaseException", .type "object"] "LookupError.__new__" = true
  xk_Busy : PySem.W.keepIn w.K (.ref c_Busy) = true
  xs_Busy : PySem.W.subIn w.K (.ref c_Busy) (.type "BaseException") = some true
  xy_Busy : PySem.W.typeIn w.K (.ref c_Busy) = some (.type "type")
  xq_NothingToUndo : PySem.W.excIn w.K c_NothingToUndo [.type "LookupError", .type "Exception", .type "BaseException", .type "object"] "LookupError.__new__" = true
  xk_NothingToUndo : PySem.W.keepIn w.K (.ref c_NothingToUndo) = true
  xs_NothingToUndo : PySem.W.subIn w.K (.ref c_NothingToUndo) (.type "BaseException") = some true
  xy_NothingToUndo : PySem.W.typeIn w.K (.ref c_NothingToUndo) = some (.type "type")
  xn_InvalidCount : PySem.W.findIn w.K (.ref c_InvalidCount) "value" = some none
  xn_InvalidText : PySem.W.findIn w.K (.ref c_InvalidText) "value" = some none
  xn_NotADesk : PySem.W.findIn w.K (.ref c_NotADesk) "value" = some none
  xn_NotAMachine : PySem.W.findIn w.K (.ref c_NotAMachine) "value" = some none
  xn_InvalidLine : PySem.W.findIn w.K (.ref c_InvalidLine) "value" = some none
  xn_InvalidWord : PySem.W.findIn w.K (.ref c_InvalidWord) "value" = some none
  xn_InvalidStand : PySem.W.findIn w.K (.ref c_InvalidStand) "value" = some none
  xn_InvalidLetter : PySem.W.findIn w.K (.ref c_InvalidLetter) "value" = some none
  xn_InvalidTexts : PySem.W.findIn w.K (.ref c_InvalidTexts) "index" = some none
  xn_InvalidBook : PySem.W.findIn w.K (.ref c_InvalidBook) "index" = some none
  xn_InvalidEnds : PySem.W.findIn w.K (.ref c_InvalidEnds) "index" = some none
  xn_InvalidArrows : PySem.W.findIn w.K (.ref c_InvalidArrows) "index" = some none
  xn_InvalidDeeds : PySem.W.findIn w.K (.ref c_InvalidDeeds) "index" = some none
  xn_TooMany : PySem.W.findIn w.K (.ref c_TooMany) "limit" = some none
  xga_InvalidCount : PySem.W.findIn w.K (.ref c_InvalidCount) "__getattribute__" = some (some (.builtin "BaseException.__getattribute__"))
  xgg_InvalidCount : PySem.W.findIn w.K (.ref c_InvalidCount) "__getattr__" = some none
  xs_InvalidCount : PySem.W.subIn w.K (.ref c_InvalidCount) (.type "BaseException") = some true
  xhd_InvalidCount : PySem.W.hasDictIn w.K c_InvalidCount = true
  xha_InvalidCount : PySem.W.findIn w.K (.ref c_InvalidCount) "__class__" = some (some (.builtin "object.__class__"))
  xhm_InvalidCount : PySem.W.mroIn w.K c_InvalidCount (.type "object") = some true
  xga_InvalidText : PySem.W.findIn w.K (.ref c_InvalidText) "__getattribute__" = some (some (.builtin "BaseException.__getattribute__"))
  xgg_InvalidText : PySem.W.findIn w.K (.ref c_InvalidText) "__getattr__" = some none
  xs_InvalidText : PySem.W.subIn w.K (.ref c_InvalidText) (.type "BaseException") = some true
  xhd_InvalidText : PySem.W.hasDictIn w.K c_InvalidText = true
  xha_InvalidText : PySem.W.findIn w.K (.ref c_InvalidText) "__class__" = some (some (.builtin "object.__class__"))
  xhm_InvalidText : PySem.W.mroIn w.K c_InvalidText (.type "object") = some true
  xga_NotADesk : PySem.W.findIn w.K (.ref c_NotADesk) "__getattribute__" = some (some (.builtin "BaseException.__getattribute__"))
  xgg_NotADesk : PySem.W.findIn w.K (.ref c_NotADesk) "__getattr__" = some none
  xs_NotADesk : PySem.W.subIn w.K (.ref c_NotADesk) (.type "BaseException") = some true
  xhd_NotADesk : PySem.W.hasDictIn w.K c_NotADesk = true
  xha_NotADesk : PySem.W.findIn w.K (.ref c_NotADesk) "__class__" = some (some (.builtin "object.__class__"))
  xhm_NotADesk : PySem.W.mroIn w.K c_NotADesk (.type "object") = some true
  xga_NotAMachine : PySem.W.findIn w.K (.ref c_NotAMachine) "__getattribute__" = some (some (.builtin "BaseException.__getattribute__"))
  xgg_NotAMachine : PySem.W.findIn w.K (.ref c_NotAMachine) "__getattr__" = some none
  xs_NotAMachine : PySem.W.subIn w.K (.ref c_NotAMachine) (.type "BaseException") = some true
  xhd_NotAMachine : PySem.W.hasDictIn w.K c_NotAMachine = true
  xha_NotAMachine : PySem.W.findIn w.K (.ref c_NotAMachine) "__class__" = some (some (.builtin "object.__class__"))
  xhm_NotAMachine : PySem.W.mroIn w.K c_NotAMachine (.type "object") = some true
  xga_InvalidLine : PySem.W.findIn w.K (.ref c_InvalidLine) "__getattribute__" = some (some (.builtin "BaseException.__getattribute__"))
  xgg_InvalidLine : PySem.W.findIn w.K (.ref c_InvalidLine) "__getattr__" = some none
  xs_InvalidLine : PySem.W.subIn w.K (.ref c_InvalidLine) (.type "BaseException") = some true
  xhd_InvalidLine : PySem.W.hasDictIn w.K c_InvalidLine = true
  xha_InvalidLine : PySem.W.findIn w.K (.ref c_InvalidLine) "__class__" = some (some (.builtin "object.__class__"))
  xhm_InvalidLine : PySem.W.mroIn w.K c_InvalidLine (.type "object") = some true
  xga_InvalidWord : PySem.W.findIn w.K (.ref c_InvalidWord) "__getattribute__" = some (some (.builtin "BaseException.__getattribute__"))
  xgg_InvalidWord : PySem.W.findIn w.K (.ref c_InvalidWord) "__getattr__" = some none
  xs_InvalidWord : PySem.W.subIn w.K (.ref c_InvalidWord) (.type "BaseException") = some true
  xhd_InvalidWord : PySem.W.hasDictIn w.K c_InvalidWord = true
  xha_InvalidWord : PySem.W.findIn w.K (.ref c_InvalidWord) "__class__" = some (some (.builtin "object.__class__"))
  xhm_InvalidWord : PySem.W.mroIn w.K c_InvalidWord (.type "object") = some true
  xga_InvalidStand : PySem.W.findIn w.K (.ref c_InvalidStand) "__getattribute__" = some (some (.builtin "BaseException.__getattribute__"))
  xgg_InvalidStand : PySem.W.findIn w.K (.ref c_InvalidStand) "__getattr__" = some none
  xs_InvalidStand : PySem.W.subIn w.K (.ref c_InvalidStand) (.type "BaseException") = some true
  xhd_InvalidStand : PySem.W.hasDictIn w.K c_InvalidStand = true
  xha_InvalidStand : PySem.W.findIn w.K (.ref c_InvalidStand) "__class__" = some (some (.builtin "object.__class__"))
  xhm_InvalidStand : PySem.W.mroIn w.K c_InvalidStand (.type "object") = some true
  xga_InvalidLetter : PySem.W.findIn w.K (.ref c_InvalidLetter) "__getattribute__" = some (some (.builtin "BaseException.__getattribute__"))
  xgg_InvalidLetter : PySem.W.findIn w.K (.ref c_InvalidLetter) "__getattr__" = some none
  xs_InvalidLetter : PySem.W.subIn w.K (.ref c_InvalidLetter) (.type "BaseException") = some true
  xhd_InvalidLetter : PySem.W.hasDictIn w.K c_InvalidLetter = true
  xha_InvalidLetter : PySem.W.findIn w.K (.ref c_InvalidLetter) "__class__" = some (some (.builtin "object.__class__"))
  xhm_InvalidLetter : PySem.W.mroIn w.K c_InvalidLetter (.type "object") = some true
  xga_InvalidTexts : PySem.W.findIn w.K (.ref c_InvalidTexts) "__getattribute__" = some (some (.builtin "BaseException.__getattribute__"))
  xgg_InvalidTexts : PySem.W.findIn w.K (.ref c_InvalidTexts) "__getattr__" = some none
  xs_InvalidTexts : PySem.W.subIn w.K (.ref c_InvalidTexts) (.type "BaseException") = some true
  xhd_InvalidTexts : PySem.W.hasDictIn w.K c_InvalidTexts = true
  xha_InvalidTexts : PySem.W.findIn w.K (.ref c_InvalidTexts) "__class__" = some (some (.builtin "object.__class__"))
  xhm_InvalidTexts : PySem.W.mroIn w.K c_InvalidTexts (.type "object") = some true
  xga_InvalidBook : PySem.W.findIn w.K (.ref c_InvalidBook) "__getattribute__" = some (some (.builtin "BaseException.__getattribute__"))
  xgg_InvalidBook : PySem.W.findIn w.K (.ref c_InvalidBook) "__getattr__" = some none
  xs_InvalidBook : PySem.W.subIn w.K (.ref c_InvalidBook) (.type "BaseException") = some true
  xhd_InvalidBook : PySem.W.hasDictIn w.K c_InvalidBook = true
  xha_InvalidBook : PySem.W.findIn w.K (.ref c_InvalidBook) "__class__" = some (some (.builtin "object.__class__"))
  xhm_InvalidBook : PySem.W.mroIn w.K c_InvalidBook (.type "object") = some true
  xga_InvalidEnds : PySem.W.findIn w.K (.ref c_InvalidEnds) "__getattribute__" = some (some (.builtin "BaseException.__getattribute__"))
  xgg_InvalidEnds : PySem.W.findIn w.K (.ref c_InvalidEnds) "__getattr__" = some none
  xs_InvalidEnds : PySem.W.subIn w.K (.ref c_InvalidEnds) (.type "BaseException") = some true
  xhd_InvalidEnds : PySem.W.hasDictIn w.K c_InvalidEnds = true
  xha_InvalidEnds : PySem.W.findIn w.K (.ref c_InvalidEnds) "__class__" = some (some (.builtin "object.__class__"))
  xhm_InvalidEnds : PySem.W.mroIn w.K c_InvalidEnds (.type "object") = some true
  xga_InvalidArrows : PySem.W.findIn w.K (.ref c_InvalidArrows) "__getattribute__" = some (some (.builtin "BaseException.__getattribute__"))
  xgg_InvalidArrows : PySem.W.findIn w.K (.ref c_InvalidArrows) "__getattr__" = some none
  xs_InvalidArrows : PySem.W.subIn w.K (.ref c_InvalidArrows) (.type "BaseException") = some true
  xhd_InvalidArrows : PySem.W.hasDictIn w.K c_InvalidArrows = true
  xha_InvalidArrows : PySem.W.findIn w.K (.ref c_InvalidArrows) "__class__" = some (some (.builtin "object.__class__"))
  xhm_InvalidArrows : PySem.W.mroIn w.K c_InvalidArrows (.type "object") = some true
  xga_InvalidDeeds : PySem.W.findIn w.K (.ref c_InvalidDeeds) "__getattribute__" = some (some (.builtin "BaseException.__getattribute__"))
  xgg_InvalidDeeds : PySem.W.findIn w.K (.ref c_InvalidDeeds) "__getattr__" = some none
  xs_InvalidDeeds : PySem.W.subIn w.K (.ref c_InvalidDeeds) (.type "BaseException") = some true
  xhd_InvalidDeeds : PySem.W.hasDictIn w.K c_InvalidDeeds = true
  xha_InvalidDeeds : PySem.W.findIn w.K (.ref c_InvalidDeeds) "__class__" = some (some (.builtin "object.__class__"))
  xhm_InvalidDeeds : PySem.W.mroIn w.K c_InvalidDeeds (.type "object") = some true
  xga_Busy : PySem.W.findIn w.K (.ref c_Busy) "__getattribute__" = some (some (.builtin "BaseException.__getattribute__"))
  xgg_Busy : PySem.W.findIn w.K (.ref c_Busy) "__getattr__" = some none
  xhd_Busy : PySem.W.hasDictIn w.K c_Busy = true
  xha_Busy : PySem.W.findIn w.K (.ref c_Busy) "__class__" = some (some (.builtin "object.__class__"))
  xhm_Busy : PySem.W.mroIn w.K c_Busy (.type "object") = some true
  xga_NothingToUndo : PySem.W.findIn w.K (.ref c_NothingToUndo) "__getattribute__" = some (some (.builtin "BaseException.__getattribute__"))
  xgg_NothingToUndo : PySem.W.findIn w.K (.ref c_NothingToUndo) "__getattr__" = some none
  xhd_NothingToUndo : PySem.W.hasDictIn w.K c_NothingToUndo = true
  xha_NothingToUndo : PySem.W.findIn w.K (.ref c_NothingToUndo) "__class__" = some (some (.builtin "object.__class__"))
  xhm_NothingToUndo : PySem.W.mroIn w.K c_NothingToUndo (.type "object") = some true
  xga_TooMany : PySem.W.findIn w.K (.ref c_TooMany) "__getattribute__" = some (some (.builtin "BaseException.__getattribute__"))
  xgg_TooMany : PySem.W.findIn w.K (.ref c_TooMany) "__getattr__" = some none
  xs_TooMany : PySem.W.subIn w.K (.ref c_TooMany) (.type "BaseException") = some true
  xhd_TooMany : PySem.W.hasDictIn w.K c_TooMany = true
  xha_TooMany : PySem.W.findIn w.K (.ref c_TooMany) "__class__" = some (some (.builtin "object.__class__"))
  xhm_TooMany : PySem.W.mroIn w.K c_TooMany (.type "object") = some true
  xhn : PySem.W.specialIn w.K (.builtin "object.__class__") "__get__" = some (some (.builtin "getset_descriptor.__get__"))
  xht : PySem.W.takesIn w.K (.builtin "object.__class__") = some true
  xiz_InvalidCount_SizeError : PySem.W.kitOne w.K (.ref c_InvalidCount) (.ref c_SizeError) = some false
  xiz_InvalidText_SizeError : PySem.W.kitOne w.K (.ref c_InvalidText) (.ref c_SizeError) = some false
  xiz_NotADesk_SizeError : PySem.W.kitOne w.K (.ref c_NotADesk) (.ref c_SizeError) = some false
  xiz_NotAMachine_SizeError : PySem.W.kitOne w.K (.ref c_NotAMachine) (.ref c_SizeError) = some false
  xiz_InvalidLine_SizeError : PySem.W.kitOne w.K (.ref c_InvalidLine) (.ref c_SizeError) = some false
  xiz_InvalidWord_SizeError : PySem.W.kitOne w.K (.ref c_InvalidWord) (.ref c_SizeError) = some false
  xiz_InvalidStand_SizeError : PySem.W.kitOne w.K (.ref c_InvalidStand) (.ref c_SizeError) = some false
  xiz_InvalidLetter_SizeError : PySem.W.kitOne w.K (.ref c_InvalidLetter) (.ref c_SizeError) = some false
  xiz_InvalidTexts_SizeError : PySem.W.kitOne w.K (.ref c_InvalidTexts) (.ref c_SizeError) = some false
  xiz_InvalidBook_SizeError : PySem.W.kitOne w.K (.ref c_InvalidBook) (.ref c_SizeError) = some false
  xiz_InvalidEnds_SizeError : PySem.W.kitOne w.K (.ref c_InvalidEnds) (.ref c_SizeError) = some false
  xiz_InvalidArrows_SizeError : PySem.W.kitOne w.K (.ref c_InvalidArrows) (.ref c_SizeError) = some false
  xiz_InvalidDeeds_SizeError : PySem.W.kitOne w.K (.ref c_InvalidDeeds) (.ref c_SizeError) = some false
  xiz_Busy_SizeError : PySem.W.kitOne w.K (.ref c_Busy) (.ref c_SizeError) = some false
  xiz_NothingToUndo_SizeError : PySem.W.kitOne w.K (.ref c_NothingToUndo) (.ref c_SizeError) = some false
  xiz_TooMany_SizeError : PySem.W.kitOne w.K (.ref c_TooMany) (.ref c_SizeError) = some true
  xiz_InvalidCount_StateError : PySem.W.kitOne w.K (.ref c_InvalidCount) (.ref c_StateError) = some false
  xiz_InvalidText_StateError : PySem.W.kitOne w.K (.ref c_InvalidText) (.ref c_StateError) = some false
  xiz_NotADesk_StateError : PySem.W.kitOne w.K (.ref c_NotADesk) (.ref c_StateError) = some false
  xiz_NotAMachine_StateError : PySem.W.kitOne w.K (.ref c_NotAMachine) (.ref c_StateError) = some false
  xiz_InvalidLine_StateError : PySem.W.kitOne w.K (.ref c_InvalidLine) (.ref c_StateError) = some false
  xiz_InvalidWord_StateError : PySem.W.kitOne w.K (.ref c_InvalidWord) (.ref c_StateError) = some false
  xiz_InvalidStand_StateError : PySem.W.kitOne w.K (.ref c_InvalidStand) (.ref c_StateError) = some false
  xiz_InvalidLetter_StateError : PySem.W.kitOne w.K (.ref c_InvalidLetter) (.ref c_StateError) = some false
  xiz_InvalidTexts_StateError : PySem.W.kitOne w.K (.ref c_InvalidTexts) (.ref c_StateError) = some false
  xiz_InvalidBook_StateError : PySem.W.kitOne w.K (.ref c_InvalidBook) (.ref c_StateError) = some false
  xiz_InvalidEnds_StateError : PySem.W.kitOne w.K (.ref c_InvalidEnds) (.ref c_StateError) = some false
  xiz_InvalidArrows_StateError : PySem.W.kitOne w.K (.ref c_InvalidArrows) (.ref c_StateError) = some false
  xiz_InvalidDeeds_StateError : PySem.W.kitOne w.K (.ref c_InvalidDeeds) (.ref c_StateError) = some false
  xiz_Busy_StateError : PySem.W.kitOne w.K (.ref c_Busy) (.ref c_StateError) = some true
  xiz_NothingToUndo_StateError : PySem.W.kitOne w.K (.ref c_NothingToUndo) (.ref c_StateError) = some true
  xiz_TooMany_StateError : PySem.W.kitOne w.K (.ref c_TooMany) (.ref c_StateError) = some false
  xiz_InvalidCount_InputError : PySem.W.kitOne w.K (.ref c_InvalidCount) (.ref c_InputError) = some true
  xiz_InvalidText_InputError : PySem.W.kitOne w.K (.ref c_InvalidText) (.ref c_InputError) = some true
  xiz_NotADesk_InputError : PySem.W.kitOne w.K (.ref c_NotADesk) (.ref c_InputError) = some true
  xiz_NotAMachine_InputError : PySem.W.kitOne w.K (.ref c_NotAMachine) (.ref c_InputError) = some true
  xiz_InvalidLine_InputError : PySem.W.kitOne w.K (.ref c_InvalidLine) (.ref c_InputError) = some true
  xiz_InvalidWord_InputError : PySem.W.kitOne w.K (.ref c_InvalidWord) (.ref c_InputError) = some true
  xiz_InvalidStand_InputError : PySem.W.kitOne w.K (.ref c_InvalidStand) (.ref c_InputError) = some true
  xiz_InvalidLetter_InputError : PySem.W.kitOne w.K (.ref c_InvalidLetter) (.ref c_InputError) = some true
  xiz_InvalidTexts_InputError : PySem.W.kitOne w.K (.ref c_InvalidTexts) (.ref c_InputError) = some true
  xiz_InvalidBook_InputError : PySem.W.kitOne w.K (.ref c_InvalidBook) (.ref c_InputError) = some true
  xiz_InvalidEnds_InputError : PySem.W.kitOne w.K (.ref c_InvalidEnds) (.ref c_InputError) = some true
  xiz_InvalidArrows_InputError : PySem.W.kitOne w.K (.ref c_InvalidArrows) (.ref c_InputError) = some true
  xiz_InvalidDeeds_InputError : PySem.W.kitOne w.K (.ref c_InvalidDeeds) (.ref c_InputError) = some true
  xiz_Busy_InputError : PySem.W.kitOne w.K (.ref c_Busy) (.ref c_InputError) = some false
  xiz_NothingToUndo_InputError : PySem.W.kitOne w.K (.ref c_NothingToUndo) (.ref c_InputError) = some false
  xiz_TooMany_InputError : PySem.W.kitOne w.K (.ref c_TooMany) (.ref c_InputError) = some false
  xiz_InvalidCount_ArithmeticError : PySem.W.subIn w.K (.ref c_InvalidCount) (.type "ArithmeticError") = some false
  xiz_InvalidText_ArithmeticError : PySem.W.subIn w.K (.ref c_InvalidText) (.type "ArithmeticError") = some false
  xiz_NotADesk_ArithmeticError : PySem.W.subIn w.K (.ref c_NotADesk) (.type "ArithmeticError") = some false
  xiz_NotAMachine_ArithmeticError : PySem.W.subIn w.K (.ref c_NotAMachine) (.type "ArithmeticError") = some false
  xiz_InvalidLine_ArithmeticError : PySem.W.subIn w.K (.ref c_InvalidLine) (.type "ArithmeticError") = some false
  xiz_InvalidWord_ArithmeticError : PySem.W.subIn w.K (.ref c_InvalidWord) (.type "ArithmeticError") = some false
  xiz_InvalidStand_ArithmeticError : PySem.W.subIn w.K (.ref c_InvalidStand) (.type "ArithmeticError") = some false
  xiz_InvalidLetter_ArithmeticError : PySem.W.subIn w.K (.ref c_InvalidLetter) (.type "ArithmeticError") = some false
  xiz_InvalidTexts_ArithmeticError : PySem.W.subIn w.K (.ref c_InvalidTexts) (.type "ArithmeticError") = some false
  xiz_InvalidBook_ArithmeticError : PySem.W.subIn w.K (.ref c_InvalidBook) (.type "ArithmeticError") = some false
  xiz_InvalidEnds_ArithmeticError : PySem.W.subIn w.K (.ref c_InvalidEnds) (.type "ArithmeticError") = some false
  xiz_InvalidArrows_ArithmeticError : PySem.W.subIn w.K (.ref c_InvalidArrows) (.type "ArithmeticError") = some false
  xiz_InvalidDeeds_ArithmeticError : PySem.W.subIn w.K (.ref c_InvalidDeeds) (.type "ArithmeticError") = some false
  xiz_Busy_ArithmeticError : PySem.W.subIn w.K (.ref c_Busy) (.type "ArithmeticError") = some false
  xiz_NothingToUndo_ArithmeticError : PySem.W.subIn w.K (.ref c_NothingToUndo) (.type "ArithmeticError") = some false
  xiz_TooMany_ArithmeticError : PySem.W.subIn w.K (.ref c_TooMany) (.type "ArithmeticError") = some true
  xiz_InvalidCount_LookupError : PySem.W.subIn w.K (.ref c_InvalidCount) (.type "LookupError") = some false
  xiz_InvalidText_LookupError : PySem.W.subIn w.K (.ref c_InvalidText) (.type "LookupError") = some false
  xiz_NotADesk_LookupError : PySem.W.subIn w.K (.ref c_NotADesk) (.type "LookupError") = some false
  xiz_NotAMachine_LookupError : PySem.W.subIn w.K (.ref c_NotAMachine) (.type "LookupError") = some false
  xiz_InvalidLine_LookupError : PySem.W.subIn w.K (.ref c_InvalidLine) (.type "LookupError") = some false
  xiz_InvalidWord_LookupError : PySem.W.subIn w.K (.ref c_InvalidWord) (.type "LookupError") = some false
  xiz_InvalidStand_LookupError : PySem.W.subIn w.K (.ref c_InvalidStand) (.type "LookupError") = some false
  xiz_InvalidLetter_LookupError : PySem.W.subIn w.K (.ref c_InvalidLetter) (.type "LookupError") = some false
  xiz_InvalidTexts_LookupError : PySem.W.subIn w.K (.ref c_InvalidTexts) (.type "LookupError") = some false
  xiz_InvalidBook_LookupError : PySem.W.subIn w.K (.ref c_InvalidBook) (.type "LookupError") = some false
  xiz_InvalidEnds_LookupError : PySem.W.subIn w.K (.ref c_InvalidEnds) (.type "LookupError") = some false
  xiz_InvalidArrows_LookupError : PySem.W.subIn w.K (.ref c_InvalidArrows) (.type "LookupError") = some false
  xiz_InvalidDeeds_LookupError : PySem.W.subIn w.K (.ref c_InvalidDeeds) (.type "LookupError") = some false
  xiz_Busy_LookupError : PySem.W.subIn w.K (.ref c_Busy) (.type "LookupError") = some true
  xiz_NothingToUndo_LookupError : PySem.W.subIn w.K (.ref c_NothingToUndo) (.type "LookupError") = some true
  xiz_TooMany_LookupError : PySem.W.subIn w.K (.ref c_TooMany) (.type "LookupError") = some false
  xiz_InvalidCount_ValueError : PySem.W.subIn w.K (.ref c_InvalidCount) (.type "ValueError") = some true
  xiz_InvalidText_ValueError : PySem.W.subIn w.K (.ref c_InvalidText) (.type "ValueError") = some true
  xiz_NotADesk_ValueError : PySem.W.subIn w.K (.ref c_NotADesk) (.type "ValueError") = some true
  xiz_NotAMachine_ValueError : PySem.W.subIn w.K (.ref c_NotAMachine) (.type "ValueError") = some true
  xiz_InvalidLine_ValueError : PySem.W.subIn w.K (.ref c_InvalidLine) (.type "ValueError") = some true
  xiz_InvalidWord_ValueError : PySem.W.subIn w.K (.ref c_InvalidWord) (.type "ValueError") = some true
  xiz_InvalidStand_ValueError : PySem.W.subIn w.K (.ref c_InvalidStand) (.type "ValueError") = some true
  xiz_InvalidLetter_ValueError : PySem.W.subIn w.K (.ref c_InvalidLetter) (.type "ValueError") = some true
  xiz_InvalidTexts_ValueError : PySem.W.subIn w.K (.ref c_InvalidTexts) (.type "ValueError") = some true
  xiz_InvalidBook_ValueError : PySem.W.subIn w.K (.ref c_InvalidBook) (.type "ValueError") = some true
  xiz_InvalidEnds_ValueError : PySem.W.subIn w.K (.ref c_InvalidEnds) (.type "ValueError") = some true
  xiz_InvalidArrows_ValueError : PySem.W.subIn w.K (.ref c_InvalidArrows) (.type "ValueError") = some true
  xiz_InvalidDeeds_ValueError : PySem.W.subIn w.K (.ref c_InvalidDeeds) (.type "ValueError") = some true
  xiz_Busy_ValueError : PySem.W.subIn w.K (.ref c_Busy) (.type "ValueError") = some false
  xiz_NothingToUndo_ValueError : PySem.W.subIn w.K (.ref c_NothingToUndo) (.type "ValueError") = some false
  xiz_TooMany_ValueError : PySem.W.subIn w.K (.ref c_TooMany) (.type "ValueError") = some false
  xiz_InvalidCount_InvalidText : PySem.W.kitOne w.K (.ref c_InvalidCount) (.ref c_InvalidText) = some false
  xiz_NotADesk_InvalidText : PySem.W.kitOne w.K (.ref c_NotADesk) (.ref c_InvalidText) = some false
  xiz_NotAMachine_InvalidText : PySem.W.kitOne w.K (.ref c_NotAMachine) (.ref c_InvalidText) = some false
  xiz_InvalidLine_InvalidText : PySem.W.kitOne w.K (.ref c_InvalidLine) (.ref c_InvalidText) = some false
  xiz_InvalidWord_InvalidText : PySem.W.kitOne w.K (.ref c_InvalidWord) (.ref c_InvalidText) = some false
  xiz_InvalidStand_InvalidText : PySem.W.kitOne w.K (.ref c_InvalidStand) (.ref c_InvalidText) = some false
  xiz_InvalidLetter_InvalidText : PySem.W.kitOne w.K (.ref c_InvalidLetter) (.ref c_InvalidText) = some false
  xiz_InvalidTexts_InvalidText : PySem.W.kitOne w.K (.ref c_InvalidTexts) (.ref c_InvalidText) = some false
  xiz_InvalidBook_InvalidText : PySem.W.kitOne w.K (.ref c_InvalidBook) (.ref c_InvalidText) = some false
  xiz_InvalidEnds_InvalidText : PySem.W.kitOne w.K (.ref c_InvalidEnds) (.ref c_InvalidText) = some false
  xiz_InvalidArrows_InvalidText : PySem.W.kitOne w.K (.ref c_InvalidArrows) (.ref c_InvalidText) = some false
  xiz_InvalidDeeds_InvalidText : PySem.W.kitOne w.K (.ref c_InvalidDeeds) (.ref c_InvalidText) = some false
  xiz_Busy_InvalidText : PySem.W.kitOne w.K (.ref c_Busy) (.ref c_InvalidText) = some false
  xiz_NothingToUndo_InvalidText : PySem.W.kitOne w.K (.ref c_NothingToUndo) (.ref c_InvalidText) = some false
  xiz_TooMany_InvalidText : PySem.W.kitOne w.K (.ref c_TooMany) (.ref c_InvalidText) = some false
  xiz_InvalidCount_NotADesk : PySem.W.kitOne w.K (.ref c_InvalidCount) (.ref c_NotADesk) = some false
  xiz_InvalidText_NotADesk : PySem.W.kitOne w.K (.ref c_InvalidText) (.ref c_NotADesk) = some false
  xiz_NotAMachine_NotADesk : PySem.W.kitOne w.K (.ref c_NotAMachine) (.ref c_NotADesk) = some false
  xiz_InvalidLine_NotADesk : PySem.W.kitOne w.K (.ref c_InvalidLine) (.ref c_NotADesk) = some false
  xiz_InvalidWord_NotADesk : PySem.W.kitOne w.K (.ref c_InvalidWord) (.ref c_NotADesk) = some false
  xiz_InvalidStand_NotADesk : PySem.W.kitOne w.K (.ref c_InvalidStand) (.ref c_NotADesk) = some false
  xiz_InvalidLetter_NotADesk : PySem.W.kitOne w.K (.ref c_InvalidLetter) (.ref c_NotADesk) = some false
  xiz_InvalidTexts_NotADesk : PySem.W.kitOne w.K (.ref c_InvalidTexts) (.ref c_NotADesk) = some false
  xiz_InvalidBook_NotADesk : PySem.W.kitOne w.K (.ref c_InvalidBook) (.ref c_NotADesk) = some false
  xiz_InvalidEnds_NotADesk : PySem.W.kitOne w.K (.ref c_InvalidEnds) (.ref c_NotADesk) = some false
  xiz_InvalidArrows_NotADesk : PySem.W.kitOne w.K (.ref c_InvalidArrows) (.ref c_NotADesk) = some false
  xiz_InvalidDeeds_NotADesk : PySem.W.kitOne w.K (.ref c_InvalidDeeds) (.ref c_NotADesk) = some false
  xiz_Busy_NotADesk : PySem.W.kitOne w.K (.ref c_Busy) (.ref c_NotADesk) = some false
  xiz_NothingToUndo_NotADesk : PySem.W.kitOne w.K (.ref c_NothingToUndo) (.ref c_NotADesk) = some false
  xiz_TooMany_NotADesk : PySem.W.kitOne w.K (.ref c_TooMany) (.ref c_NotADesk) = some false
  xiz_InvalidCount_NotAMachine : PySem.W.kitOne w.K (.ref c_InvalidCount) (.ref c_NotAMachine) = some false
  xiz_InvalidText_NotAMachine : PySem.W.kitOne w.K (.ref c_InvalidText) (.ref c_NotAMachine) = some false
  xiz_NotADesk_NotAMachine : PySem.W.kitOne w.K (.ref c_NotADesk) (.ref c_NotAMachine) = some false
  xiz_InvalidLine_NotAMachine : PySem.W.kitOne w.K (.ref c_InvalidLine) (.ref c_NotAMachine) = some false
  xiz_InvalidWord_NotAMachine : PySem.W.kitOne w.K (.ref c_InvalidWord) (.ref c_NotAMachine) = some false
  xiz_InvalidStand_NotAMachine : PySem.W.kitOne w.K (.ref c_InvalidStand) (.ref c_NotAMachine) = some false
  xiz_InvalidLetter_NotAMachine : PySem.W.kitOne w.K (.ref c_InvalidLetter) (.ref c_NotAMachine) = some false
  xiz_InvalidTexts_NotAMachine : PySem.W.kitOne w.K (.ref c_InvalidTexts) (.ref c_NotAMachine) = some false
  xiz_InvalidBook_NotAMachine : PySem.W.kitOne w.K (.ref c_InvalidBook) (.ref c_NotAMachine) = some false
  xiz_InvalidEnds_NotAMachine : PySem.W.kitOne w.K (.ref c_InvalidEnds) (.ref c_NotAMachine) = some false
  xiz_InvalidArrows_NotAMachine : PySem.W.kitOne w.K (.ref c_InvalidArrows) (.ref c_NotAMachine) = some false
  xiz_InvalidDeeds_NotAMachine : PySem.W.kitOne w.K (.ref c_InvalidDeeds) (.ref c_NotAMachine) = some false
  xiz_Busy_NotAMachine : PySem.W.kitOne w.K (.ref c_Busy) (.ref c_NotAMachine) = some false
  xiz_NothingToUndo_NotAMachine : PySem.W.kitOne w.K (.ref c_NothingToUndo) (.ref c_NotAMachine) = some false
  xiz_TooMany_NotAMachine : PySem.W.kitOne w.K (.ref c_TooMany) (.ref c_NotAMachine) = some false
  xiz_InvalidCount_InvalidLetter : PySem.W.kitOne w.K (.ref c_InvalidCount) (.ref c_InvalidLetter) = some false
  xiz_InvalidText_InvalidLetter : PySem.W.kitOne w.K (.ref c_InvalidText) (.ref c_InvalidLetter) = some false
  xiz_NotADesk_InvalidLetter : PySem.W.kitOne w.K (.ref c_NotADesk) (.ref c_InvalidLetter) = some false
  xiz_NotAMachine_InvalidLetter : PySem.W.kitOne w.K (.ref c_NotAMachine) (.ref c_InvalidLetter) = some false
  xiz_InvalidLine_InvalidLetter : PySem.W.kitOne w.K (.ref c_InvalidLine) (.ref c_InvalidLetter) = some false
  xiz_InvalidWord_InvalidLetter : PySem.W.kitOne w.K (.ref c_InvalidWord) (.ref c_InvalidLetter) = some false
  xiz_InvalidStand_InvalidLetter : PySem.W.kitOne w.K (.ref c_InvalidStand) (.ref c_InvalidLetter) = some false
  xiz_InvalidTexts_InvalidLetter : PySem.W.kitOne w.K (.ref c_InvalidTexts) (.ref c_InvalidLetter) = some false
  xiz_InvalidBook_InvalidLetter : PySem.W.kitOne w.K (.ref c_InvalidBook) (.ref c_InvalidLetter) = some false
  xiz_InvalidEnds_InvalidLetter : PySem.W.kitOne w.K (.ref c_InvalidEnds) (.ref c_InvalidLetter) = some false
  xiz_InvalidArrows_InvalidLetter : PySem.W.kitOne w.K (.ref c_InvalidArrows) (.ref c_InvalidLetter) = some false
  xiz_InvalidDeeds_InvalidLetter : PySem.W.kitOne w.K (.ref c_InvalidDeeds) (.ref c_InvalidLetter) = some false
  xiz_Busy_InvalidLetter : PySem.W.kitOne w.K (.ref c_Busy) (.ref c_InvalidLetter) = some false
  xiz_NothingToUndo_InvalidLetter : PySem.W.kitOne w.K (.ref c_NothingToUndo) (.ref c_InvalidLetter) = some false
  xiz_TooMany_InvalidLetter : PySem.W.kitOne w.K (.ref c_TooMany) (.ref c_InvalidLetter) = some false
  xiz_InvalidText_InvalidCount : PySem.W.kitOne w.K (.ref c_InvalidText) (.ref c_InvalidCount) = some false
  xiz_NotADesk_InvalidCount : PySem.W.kitOne w.K (.ref c_NotADesk) (.ref c_InvalidCount) = some false
  xiz_NotAMachine_InvalidCount : PySem.W.kitOne w.K (.ref c_NotAMachine) (.ref c_InvalidCount) = some false
  xiz_InvalidLine_InvalidCount : PySem.W.kitOne w.K (.ref c_InvalidLine) (.ref c_InvalidCount) = some false
  xiz_InvalidWord_InvalidCount : PySem.W.kitOne w.K (.ref c_InvalidWord) (.ref c_InvalidCount) = some false
  xiz_InvalidStand_InvalidCount : PySem.W.kitOne w.K (.ref c_InvalidStand) (.ref c_InvalidCount) = some false
  xiz_InvalidLetter_InvalidCount : PySem.W.kitOne w.K (.ref c_InvalidLetter) (.ref c_InvalidCount) = some false
  xiz_InvalidTexts_InvalidCount : PySem.W.kitOne w.K (.ref c_InvalidTexts) (.ref c_InvalidCount) = some false
  xiz_InvalidBook_InvalidCount : PySem.W.kitOne w.K (.ref c_InvalidBook) (.ref c_InvalidCount) = some false
  xiz_InvalidEnds_InvalidCount : PySem.W.kitOne w.K (.ref c_InvalidEnds) (.ref c_InvalidCount) = some false
  xiz_InvalidArrows_InvalidCount : PySem.W.kitOne w.K (.ref c_InvalidArrows) (.ref c_InvalidCount) = some false
  xiz_InvalidDeeds_InvalidCount : PySem.W.kitOne w.K (.ref c_InvalidDeeds) (.ref c_InvalidCount) = some false
  xiz_Busy_InvalidCount : PySem.W.kitOne w.K (.ref c_Busy) (.ref c_InvalidCount) = some false
  xiz_NothingToUndo_InvalidCount : PySem.W.kitOne w.K (.ref c_NothingToUndo) (.ref c_InvalidCount) = some false
  xiz_TooMany_InvalidCount : PySem.W.kitOne w.K (.ref c_TooMany) (.ref c_InvalidCount) = some false
  xiz_InvalidCount_InvalidWord : PySem.W.kitOne w.K (.ref c_InvalidCount) (.ref c_InvalidWord) = some false
  xiz_InvalidText_InvalidWord : PySem.W.kitOne w.K (.ref c_InvalidText) (.ref c_InvalidWord) = some false
  xiz_NotADesk_InvalidWord : PySem.W.kitOne w.K (.ref c_NotADesk) (.ref c_InvalidWord) = some false
  xiz_NotAMachine_InvalidWord : PySem.W.kitOne w.K (.ref c_NotAMachine) (.ref c_InvalidWord) = some false
  xiz_InvalidLine_InvalidWord : PySem.W.kitOne w.K (.ref c_InvalidLine) (.ref c_InvalidWord) = some false
  xiz_InvalidStand_InvalidWord : PySem.W.kitOne w.K (.ref c_InvalidStand) (.ref c_InvalidWord) = some false
  xiz_InvalidLetter_InvalidWord : PySem.W.kitOne w.K (.ref c_InvalidLetter) (.ref c_InvalidWord) = some false
  xiz_InvalidTexts_InvalidWord : PySem.W.kitOne w.K (.ref c_InvalidTexts) (.ref c_InvalidWord) = some false
  xiz_InvalidBook_InvalidWord : PySem.W.kitOne w.K (.ref c_InvalidBook) (.ref c_InvalidWord) = some false
  xiz_InvalidEnds_InvalidWord : PySem.W.kitOne w.K (.ref c_InvalidEnds) (.ref c_InvalidWord) = some false
  xiz_InvalidArrows_InvalidWord : PySem.W.kitOne w.K (.ref c_InvalidArrows) (.ref c_InvalidWord) = some false
  xiz_InvalidDeeds_InvalidWord : PySem.W.kitOne w.K (.ref c_InvalidDeeds) (.ref c_InvalidWord) = some false
  xiz_Busy_InvalidWord : PySem.W.kitOne w.K (.ref c_Busy) (.ref c_InvalidWord) = some false
  xiz_NothingToUndo_InvalidWord : PySem.W.kitOne w.K (.ref c_NothingToUndo) (.ref c_InvalidWord) = some false
  xiz_TooMany_InvalidWord : PySem.W.kitOne w.K (.ref c_TooMany) (.ref c_InvalidWord) = some false
  xiz_InvalidCount_InvalidStand : PySem.W.kitOne w.K (.ref c_InvalidCount) (.ref c_InvalidStand) = some false
  xiz_InvalidText_InvalidStand : PySem.W.kitOne w.K (.ref c_InvalidText) (.ref c_InvalidStand) = some false
  xiz_NotADesk_InvalidStand : PySem.W.kitOne w.K (.ref c_NotADesk) (.ref c_InvalidStand) = some false
  xiz_NotAMachine_InvalidStand : PySem.W.kitOne w.K (.ref c_NotAMachine) (.ref c_InvalidStand) = some false
  xiz_InvalidLine_InvalidStand : PySem.W.kitOne w.K (.ref c_InvalidLine) (.ref c_InvalidStand) = some false
  xiz_InvalidWord_InvalidStand : PySem.W.kitOne w.K (.ref c_InvalidWord) (.ref c_InvalidStand) = some false
  xiz_InvalidLetter_InvalidStand : PySem.W.kitOne w.K (.ref c_InvalidLetter) (.ref c_InvalidStand) = some false
  xiz_InvalidTexts_InvalidStand : PySem.W.kitOne w.K (.ref c_InvalidTexts) (.ref c_InvalidStand) = some false
  xiz_InvalidBook_InvalidStand : PySem.W.kitOne w.K (.ref c_InvalidBook) (.ref c_InvalidStand) = some false
  xiz_InvalidEnds_InvalidStand : PySem.W.kitOne w.K (.ref c_InvalidEnds) (.ref c_InvalidStand) = some false
  xiz_InvalidArrows_InvalidStand : PySem.W.kitOne w.K (.ref c_InvalidArrows) (.ref c_InvalidStand) = some false
  xiz_InvalidDeeds_InvalidStand : PySem.W.kitOne w.K (.ref c_InvalidDeeds) (.ref c_InvalidStand) = some false
  xiz_Busy_InvalidStand : PySem.W.kitOne w.K (.ref c_Busy) (.ref c_InvalidStand) = some false
  xiz_NothingToUndo_InvalidStand : PySem.W.kitOne w.K (.ref c_NothingToUndo) (.ref c_InvalidStand) = some false
  xiz_TooMany_InvalidStand : PySem.W.kitOne w.K (.ref c_TooMany) (.ref c_InvalidStand) = some false
  xiz_InvalidCount_InvalidArrows : PySem.W.kitOne w.K (.ref c_InvalidCount) (.ref c_InvalidArrows) = some false
  xiz_InvalidText_InvalidArrows : PySem.W.kitOne w.K (.ref c_InvalidText) (.ref c_InvalidArrows) = some false
  xiz_NotADesk_InvalidArrows : PySem.W.kitOne w.K (.ref c_NotADesk) (.ref c_InvalidArrows) = some false
  xiz_NotAMachine_InvalidArrows : PySem.W.kitOne w.K (.ref c_NotAMachine) (.ref c_InvalidArrows) = some false
  xiz_InvalidLine_InvalidArrows : PySem.W.kitOne w.K (.ref c_InvalidLine) (.ref c_InvalidArrows) = some false
  xiz_InvalidWord_InvalidArrows : PySem.W.kitOne w.K (.ref c_InvalidWord) (.ref c_InvalidArrows) = some false
  xiz_InvalidStand_InvalidArrows : PySem.W.kitOne w.K (.ref c_InvalidStand) (.ref c_InvalidArrows) = some false
  xiz_InvalidLetter_InvalidArrows : PySem.W.kitOne w.K (.ref c_InvalidLetter) (.ref c_InvalidArrows) = some false
  xiz_InvalidTexts_InvalidArrows : PySem.W.kitOne w.K (.ref c_InvalidTexts) (.ref c_InvalidArrows) = some false
  xiz_InvalidBook_InvalidArrows : PySem.W.kitOne w.K (.ref c_InvalidBook) (.ref c_InvalidArrows) = some false
  xiz_InvalidEnds_InvalidArrows : PySem.W.kitOne w.K (.ref c_InvalidEnds) (.ref c_InvalidArrows) = some false
  xiz_InvalidDeeds_InvalidArrows : PySem.W.kitOne w.K (.ref c_InvalidDeeds) (.ref c_InvalidArrows) = some false
  xiz_Busy_InvalidArrows : PySem.W.kitOne w.K (.ref c_Busy) (.ref c_InvalidArrows) = some false
  xiz_NothingToUndo_InvalidArrows : PySem.W.kitOne w.K (.ref c_NothingToUndo) (.ref c_InvalidArrows) = some false
  xiz_TooMany_InvalidArrows : PySem.W.kitOne w.K (.ref c_TooMany) (.ref c_InvalidArrows) = some false
  xiz_InvalidCount_InvalidLine : PySem.W.kitOne w.K (.ref c_InvalidCount) (.ref c_InvalidLine) = some false
  xiz_InvalidText_InvalidLine : PySem.W.kitOne w.K (.ref c_InvalidText) (.ref c_InvalidLine) = some false
  xiz_NotADesk_InvalidLine : PySem.W.kitOne w.K (.ref c_NotADesk) (.ref c_InvalidLine) = some false
  xiz_NotAMachine_InvalidLine : PySem.W.kitOne w.K (.ref c_NotAMachine) (.ref c_InvalidLine) = some false
  xiz_InvalidWord_InvalidLine : PySem.W.kitOne w.K (.ref c_InvalidWord) (.ref c_InvalidLine) = some false
  xiz_InvalidStand_InvalidLine : PySem.W.kitOne w.K (.ref c_InvalidStand) (.ref c_InvalidLine) = some false
  xiz_InvalidLetter_InvalidLine : PySem.W.kitOne w.K (.ref c_InvalidLetter) (.ref c_InvalidLine) = some false
  xiz_InvalidTexts_InvalidLine : PySem.W.kitOne w.K (.ref c_InvalidTexts) (.ref c_InvalidLine) = some false
  xiz_InvalidBook_InvalidLine : PySem.W.kitOne w.K (.ref c_InvalidBook) (.ref c_InvalidLine) = some false
  xiz_InvalidEnds_InvalidLine : PySem.W.kitOne w.K (.ref c_InvalidEnds) (.ref c_InvalidLine) = some false
  xiz_InvalidArrows_InvalidLine : PySem.W.kitOne w.K (.ref c_InvalidArrows) (.ref c_InvalidLine) = some false
  xiz_InvalidDeeds_InvalidLine : PySem.W.kitOne w.K (.ref c_InvalidDeeds) (.ref c_InvalidLine) = some false
  xiz_Busy_InvalidLine : PySem.W.kitOne w.K (.ref c_Busy) (.ref c_InvalidLine) = some false
  xiz_NothingToUndo_InvalidLine : PySem.W.kitOne w.K (.ref c_NothingToUndo) (.ref c_InvalidLine) = some false
  xiz_TooMany_InvalidLine : PySem.W.kitOne w.K (.ref c_TooMany) (.ref c_InvalidLine) = some false
  xiz_InvalidCount_InvalidBook : PySem.W.kitOne w.K (.ref c_InvalidCount) (.ref c_InvalidBook) = some false
  xiz_InvalidText_InvalidBook : PySem.W.kitOne w.K (.ref c_InvalidText) (.ref c_InvalidBook) = some false
  xiz_NotADesk_InvalidBook : PySem.W.kitOne w.K (.ref c_NotADesk) (.ref c_InvalidBook) = some false
  xiz_NotAMachine_InvalidBook : PySem.W.kitOne w.K (.ref c_NotAMachine) (.ref c_InvalidBook) = some false
  xiz_InvalidLine_InvalidBook : PySem.W.kitOne w.K (.ref c_InvalidLine) (.ref c_InvalidBook) = some false
  xiz_InvalidWord_InvalidBook : PySem.W.kitOne w.K (.ref c_InvalidWord) (.ref c_InvalidBook) = some false
  xiz_InvalidStand_InvalidBook : PySem.W.kitOne w.K (.ref c_InvalidStand) (.ref c_InvalidBook) = some false
  xiz_InvalidLetter_InvalidBook : PySem.W.kitOne w.K (.ref c_InvalidLetter) (.ref c_InvalidBook) = some false
  xiz_InvalidTexts_InvalidBook : PySem.W.kitOne w.K (.ref c_InvalidTexts) (.ref c_InvalidBook) = some false
  xiz_InvalidEnds_InvalidBook : PySem.W.kitOne w.K (.ref c_InvalidEnds) (.ref c_InvalidBook) = some false
  xiz_InvalidArrows_InvalidBook : PySem.W.kitOne w.K (.ref c_InvalidArrows) (.ref c_InvalidBook) = some false
  xiz_InvalidDeeds_InvalidBook : PySem.W.kitOne w.K (.ref c_InvalidDeeds) (.ref c_InvalidBook) = some false
  xiz_Busy_InvalidBook : PySem.W.kitOne w.K (.ref c_Busy) (.ref c_InvalidBook) = some false
  xiz_NothingToUndo_InvalidBook : PySem.W.kitOne w.K (.ref c_NothingToUndo) (.ref c_InvalidBook) = some false
  xiz_TooMany_InvalidBook : PySem.W.kitOne w.K (.ref c_TooMany) (.ref c_InvalidBook) = some false
  xiz_InvalidCount_InvalidEnds : PySem.W.kitOne w.K (.ref c_InvalidCount) (.ref c_InvalidEnds) = some false
  xiz_InvalidText_InvalidEnds : PySem.W.kitOne w.K (.ref c_InvalidText) (.ref c_InvalidEnds) = some false
  xiz_NotADesk_InvalidEnds : PySem.W.kitOne w.K (.ref c_NotADesk) (.ref c_InvalidEnds) = some false
  xiz_NotAMachine_InvalidEnds : PySem.W.kitOne w.K (.ref c_NotAMachine) (.ref c_InvalidEnds) = some false
  xiz_InvalidLine_InvalidEnds : PySem.W.kitOne w.K (.ref c_InvalidLine) (.ref c_InvalidEnds) = some false
  xiz_InvalidWord_InvalidEnds : PySem.W.kitOne w.K (.ref c_InvalidWord) (.ref c_InvalidEnds) = some false
  xiz_InvalidStand_InvalidEnds : PySem.W.kitOne w.K (.ref c_InvalidStand) (.ref c_InvalidEnds) = some false
  xiz_InvalidLetter_InvalidEnds : PySem.W.kitOne w.K (.ref c_InvalidLetter) (.ref c_InvalidEnds) = some false
  xiz_InvalidTexts_InvalidEnds : PySem.W.kitOne w.K (.ref c_InvalidTexts) (.ref c_InvalidEnds) = some false
  xiz_InvalidBook_InvalidEnds : PySem.W.kitOne w.K (.ref c_InvalidBook) (.ref c_InvalidEnds) = some false
  xiz_InvalidArrows_InvalidEnds : PySem.W.kitOne w.K (.ref c_InvalidArrows) (.ref c_InvalidEnds) = some false
  xiz_InvalidDeeds_InvalidEnds : PySem.W.kitOne w.K (.ref c_InvalidDeeds) (.ref c_InvalidEnds) = some false
  xiz_Busy_InvalidEnds : PySem.W.kitOne w.K (.ref c_Busy) (.ref c_InvalidEnds) = some false
  xiz_NothingToUndo_InvalidEnds : PySem.W.kitOne w.K (.ref c_NothingToUndo) (.ref c_InvalidEnds) = some false
  xiz_TooMany_InvalidEnds : PySem.W.kitOne w.K (.ref c_TooMany) (.ref c_InvalidEnds) = some false
  xiz_InvalidCount_InvalidDeeds : PySem.W.kitOne w.K (.ref c_InvalidCount) (.ref c_InvalidDeeds) = some false
  xiz_InvalidText_InvalidDeeds : PySem.W.kitOne w.K (.ref c_InvalidText) (.ref c_InvalidDeeds) = some false
  xiz_NotADesk_InvalidDeeds : PySem.W.kitOne w.K (.ref c_NotADesk) (.ref c_InvalidDeeds) = some false
  xiz_NotAMachine_InvalidDeeds : PySem.W.kitOne w.K (.ref c_NotAMachine) (.ref c_InvalidDeeds) = some false
  xiz_InvalidLine_InvalidDeeds : PySem.W.kitOne w.K (.ref c_InvalidLine) (.ref c_InvalidDeeds) = some false
  xiz_InvalidWord_InvalidDeeds : PySem.W.kitOne w.K (.ref c_InvalidWord) (.ref c_InvalidDeeds) = some false
  xiz_InvalidStand_InvalidDeeds : PySem.W.kitOne w.K (.ref c_InvalidStand) (.ref c_InvalidDeeds) = some false
  xiz_InvalidLetter_InvalidDeeds : PySem.W.kitOne w.K (.ref c_InvalidLetter) (.ref c_InvalidDeeds) = some false
  xiz_InvalidTexts_InvalidDeeds : PySem.W.kitOne w.K (.ref c_InvalidTexts) (.ref c_InvalidDeeds) = some false
  xiz_InvalidBook_InvalidDeeds : PySem.W.kitOne w.K (.ref c_InvalidBook) (.ref c_InvalidDeeds) = some false
  xiz_InvalidEnds_InvalidDeeds : PySem.W.kitOne w.K (.ref c_InvalidEnds) (.ref c_InvalidDeeds) = some false
  xiz_InvalidArrows_InvalidDeeds : PySem.W.kitOne w.K (.ref c_InvalidArrows) (.ref c_InvalidDeeds) = some false
  xiz_Busy_InvalidDeeds : PySem.W.kitOne w.K (.ref c_Busy) (.ref c_InvalidDeeds) = some false
  xiz_NothingToUndo_InvalidDeeds : PySem.W.kitOne w.K (.ref c_NothingToUndo) (.ref c_InvalidDeeds) = some false
  xiz_TooMany_InvalidDeeds : PySem.W.kitOne w.K (.ref c_TooMany) (.ref c_InvalidDeeds) = some false
  xiz_InvalidCount_InvalidTexts : PySem.W.kitOne w.K (.ref c_InvalidCount) (.ref c_InvalidTexts) = some false
  xiz_InvalidText_InvalidTexts : PySem.W.kitOne w.K (.ref c_InvalidText) (.ref c_InvalidTexts) = some false
  xiz_NotADesk_InvalidTexts : PySem.W.kitOne w.K (.ref c_NotADesk) (.ref c_InvalidTexts) = some false
  xiz_NotAMachine_InvalidTexts : PySem.W.kitOne w.K (.ref c_NotAMachine) (.ref c_InvalidTexts) = some false
  xiz_InvalidLine_InvalidTexts : PySem.W.kitOne w.K (.ref c_InvalidLine) (.ref c_InvalidTexts) = some false
  xiz_InvalidWord_InvalidTexts : PySem.W.kitOne w.K (.ref c_InvalidWord) (.ref c_InvalidTexts) = some false
  xiz_InvalidStand_InvalidTexts : PySem.W.kitOne w.K (.ref c_InvalidStand) (.ref c_InvalidTexts) = some false
  xiz_InvalidLetter_InvalidTexts : PySem.W.kitOne w.K (.ref c_InvalidLetter) (.ref c_InvalidTexts) = some false
  xiz_InvalidBook_InvalidTexts : PySem.W.kitOne w.K (.ref c_InvalidBook) (.ref c_InvalidTexts) = some false
  xiz_InvalidEnds_InvalidTexts : PySem.W.kitOne w.K (.ref c_InvalidEnds) (.ref c_InvalidTexts) = some false
  xiz_InvalidArrows_InvalidTexts : PySem.W.kitOne w.K (.ref c_InvalidArrows) (.ref c_InvalidTexts) = some false
  xiz_InvalidDeeds_InvalidTexts : PySem.W.kitOne w.K (.ref c_InvalidDeeds) (.ref c_InvalidTexts) = some false
  xiz_Busy_InvalidTexts : PySem.W.kitOne w.K (.ref c_Busy) (.ref c_InvalidTexts) = some false
  xiz_NothingToUndo_InvalidTexts : PySem.W.kitOne w.K (.ref c_NothingToUndo) (.ref c_InvalidTexts) = some false
  xiz_TooMany_InvalidTexts : PySem.W.kitOne w.K (.ref c_TooMany) (.ref c_InvalidTexts) = some false
  xiz_InvalidCount_TooMany : PySem.W.kitOne w.K (.ref c_InvalidCount) (.ref c_TooMany) = some false
  xiz_InvalidText_TooMany : PySem.W.kitOne w.K (.ref c_InvalidText) (.ref c_TooMany) = some false
  xiz_NotADesk_TooMany : PySem.W.kitOne w.K (.ref c_NotADesk) (.ref c_TooMany) = some false
  xiz_NotAMachine_TooMany : PySem.W.kitOne w.K (.ref c_NotAMachine) (.ref c_TooMany) = some false
  xiz_InvalidLine_TooMany : PySem.W.kitOne w.K (.ref c_InvalidLine) (.ref c_TooMany) = some false
  xiz_InvalidWord_TooMany : PySem.W.kitOne w.K (.ref c_InvalidWord) (.ref c_TooMany) = some false
  xiz_InvalidStand_TooMany : PySem.W.kitOne w.K (.ref c_InvalidStand) (.ref c_TooMany) = some false
  xiz_InvalidLetter_TooMany : PySem.W.kitOne w.K (.ref c_InvalidLetter) (.ref c_TooMany) = some false
  xiz_InvalidTexts_TooMany : PySem.W.kitOne w.K (.ref c_InvalidTexts) (.ref c_TooMany) = some false
  xiz_InvalidBook_TooMany : PySem.W.kitOne w.K (.ref c_InvalidBook) (.ref c_TooMany) = some false
  xiz_InvalidEnds_TooMany : PySem.W.kitOne w.K (.ref c_InvalidEnds) (.ref c_TooMany) = some false
  xiz_InvalidArrows_TooMany : PySem.W.kitOne w.K (.ref c_InvalidArrows) (.ref c_TooMany) = some false
  xiz_InvalidDeeds_TooMany : PySem.W.kitOne w.K (.ref c_InvalidDeeds) (.ref c_TooMany) = some false
  xiz_Busy_TooMany : PySem.W.kitOne w.K (.ref c_Busy) (.ref c_TooMany) = some false
  xiz_NothingToUndo_TooMany : PySem.W.kitOne w.K (.ref c_NothingToUndo) (.ref c_TooMany) = some false
  xiz_InvalidCount_Busy : PySem.W.kitOne w.K (.ref c_InvalidCount) (.ref c_Busy) = some false
  xiz_InvalidText_Busy : PySem.W.kitOne w.K (.ref c_InvalidText) (.ref c_Busy) = some false
  xiz_NotADesk_Busy : PySem.W.kitOne w.K (.ref c_NotADesk) (.ref c_Busy) = some false
  xiz_NotAMachine_Busy : PySem.W.kitOne w.K (.ref c_NotAMachine) (.ref c_Busy) = some false
  xiz_InvalidLine_Busy : PySem.W.kitOne w.K (.ref c_InvalidLine) (.ref c_Busy) = some false
  xiz_InvalidWord_Busy : PySem.W.kitOne w.K (.ref c_InvalidWord) (.ref c_Busy) = some false
  xiz_InvalidStand_Busy : PySem.W.kitOne w.K (.ref c_InvalidStand) (.ref c_Busy) = some false
  xiz_InvalidLetter_Busy : PySem.W.kitOne w.K (.ref c_InvalidLetter) (.ref c_Busy) = some false
  xiz_InvalidTexts_Busy : PySem.W.kitOne w.K (.ref c_InvalidTexts) (.ref c_Busy) = some false
  xiz_InvalidBook_Busy : PySem.W.kitOne w.K (.ref c_InvalidBook) (.ref c_Busy) = some false
  xiz_InvalidEnds_Busy : PySem.W.kitOne w.K (.ref c_InvalidEnds) (.ref c_Busy) = some false
  xiz_InvalidArrows_Busy : PySem.W.kitOne w.K (.ref c_InvalidArrows) (.ref c_Busy) = some false
  xiz_InvalidDeeds_Busy : PySem.W.kitOne w.K (.ref c_InvalidDeeds) (.ref c_Busy) = some false
  xiz_NothingToUndo_Busy : PySem.W.kitOne w.K (.ref c_NothingToUndo) (.ref c_Busy) = some false
  xiz_TooMany_Busy : PySem.W.kitOne w.K (.ref c_TooMany) (.ref c_Busy) = some false
  xiz_InvalidCount_NothingToUndo : PySem.W.kitOne w.K (.ref c_InvalidCount) (.ref c_NothingToUndo) = some false
  xiz_InvalidText_NothingToUndo : PySem.W.kitOne w.K (.ref c_InvalidText) (.ref c_NothingToUndo) = some false
  xiz_NotADesk_NothingToUndo : PySem.W.kitOne w.K (.ref c_NotADesk) (.ref c_NothingToUndo) = some false
  xiz_NotAMachine_NothingToUndo : PySem.W.kitOne w.K (.ref c_NotAMachine) (.ref c_NothingToUndo) = some false
  xiz_InvalidLine_NothingToUndo : PySem.W.kitOne w.K (.ref c_InvalidLine) (.ref c_NothingToUndo) = some false
  xiz_InvalidWord_NothingToUndo : PySem.W.kitOne w.K (.ref c_InvalidWord) (.ref c_NothingToUndo) = some false
  xiz_InvalidStand_NothingToUndo : PySem.W.kitOne w.K (.ref c_InvalidStand) (.ref c_NothingToUndo) = some false
  xiz_InvalidLetter_NothingToUndo : PySem.W.kitOne w.K (.ref c_InvalidLetter) (.ref c_NothingToUndo) = some false
  xiz_InvalidTexts_NothingToUndo : PySem.W.kitOne w.K (.ref c_InvalidTexts) (.ref c_NothingToUndo) = some false
  xiz_InvalidBook_NothingToUndo : PySem.W.kitOne w.K (.ref c_InvalidBook) (.ref c_NothingToUndo) = some false
  xiz_InvalidEnds_NothingToUndo : PySem.W.kitOne w.K (.ref c_InvalidEnds) (.ref c_NothingToUndo) = some false
  xiz_InvalidArrows_NothingToUndo : PySem.W.kitOne w.K (.ref c_InvalidArrows) (.ref c_NothingToUndo) = some false
  xiz_InvalidDeeds_NothingToUndo : PySem.W.kitOne w.K (.ref c_InvalidDeeds) (.ref c_NothingToUndo) = some false
  xiz_Busy_NothingToUndo : PySem.W.kitOne w.K (.ref c_Busy) (.ref c_NothingToUndo) = some false
  xiz_TooMany_NothingToUndo : PySem.W.kitOne w.K (.ref c_TooMany) (.ref c_NothingToUndo) = some false
  n_InvalidCount : w.cl 14 = some c_InvalidCount
  n_InvalidText : w.cl 13 = some c_InvalidText
  n_NotADesk : w.cl 12 = some c_NotADesk
  n_NotAMachine : w.cl 11 = some c_NotAMachine
  n_InvalidLine : w.cl 18 = some c_InvalidLine
  n_InvalidWord : w.cl 17 = some c_InvalidWord
  n_InvalidStand : w.cl 16 = some c_InvalidStand
  n_InvalidLetter : w.cl 15 = some c_InvalidLetter
  n_InvalidTexts : w.cl 22 = some c_InvalidTexts
  n_InvalidBook : w.cl 21 = some c_InvalidBook
  n_InvalidEnds : w.cl 20 = some c_InvalidEnds
  n_InvalidArrows : w.cl 19 = some c_InvalidArrows
  n_InvalidDeeds : w.cl 23 = some c_InvalidDeeds
  n_Busy : w.cl 25 = some c_Busy
  n_NothingToUndo : w.cl 24 = some c_NothingToUndo
  n_TooMany : w.cl 26 = some c_TooMany
  xI_InvalidCount : Addr
  xfd_InvalidCount : FuncData
  xF_InvalidCount : Fun w.K "__init__" "InvalidCount.__init__" s_InvalidCount_init xI_InvalidCount xfd_InvalidCount
  xi_InvalidCount : PySem.W.findIn w.K (.ref c_InvalidCount) "__init__" = some (some (.ref xI_InvalidCount))
  xt_InvalidCount : PySem.W.typeIn w.K (.ref xI_InvalidCount) = some (.type "function")
  xo_InvalidCount : OexC w.K c_InvalidCount
  xI_InvalidText : Addr
  xfd_InvalidText : FuncData
  xF_InvalidText : Fun w.K "__init__" "InvalidText.__init__" s_InvalidText_init xI_InvalidText xfd_InvalidText
  xi_InvalidText : PySem.W.findIn w.K (.ref c_InvalidText) "__init__" = some (some (.ref xI_InvalidText))
  xt_InvalidText : PySem.W.typeIn w.K (.ref xI_InvalidText) = some (.type "function")
  xo_InvalidText : OexC w.K c_InvalidText
  xI_NotADesk : Addr
  xfd_NotADesk : FuncData
  xF_NotADesk : Fun w.K "__init__" "NotADesk.__init__" s_NotADesk_init xI_NotADesk xfd_NotADesk
  xi_NotADesk : PySem.W.findIn w.K (.ref c_NotADesk) "__init__" = some (some (.ref xI_NotADesk))
  xt_NotADesk : PySem.W.typeIn w.K (.ref xI_NotADesk) = some (.type "function")
  xo_NotADesk : OexC w.K c_NotADesk
  xI_NotAMachine : Addr
  xfd_NotAMachine : FuncData
  xF_NotAMachine : Fun w.K "__init__" "NotAMachine.__init__" s_NotAMachine_init xI_NotAMachine xfd_NotAMachine
  xi_NotAMachine : PySem.W.findIn w.K (.ref c_NotAMachine) "__init__" = some (some (.ref xI_NotAMachine))
  xt_NotAMachine : PySem.W.typeIn w.K (.ref xI_NotAMachine) = some (.type "function")
  xo_NotAMachine : OexC w.K c_NotAMachine
  xI_InvalidLine : Addr
  xfd_InvalidLine : FuncData
  xF_InvalidLine : Fun w.K "__init__" "InvalidLine.__init__" s_InvalidLine_init xI_InvalidLine xfd_InvalidLine
  xi_InvalidLine : PySem.W.findIn w.K (.ref c_InvalidLine) "__init__" = some (some (.ref xI_InvalidLine))
  xt_InvalidLine : PySem.W.typeIn w.K (.ref xI_InvalidLine) = some (.type "function")
  xo_InvalidLine : OexC w.K c_InvalidLine
  xI_InvalidWord : Addr
  xfd_InvalidWord : FuncData
  xF_InvalidWord : Fun w.K "__init__" "InvalidWord.__init__" s_InvalidWord_init xI_InvalidWord xfd_InvalidWord
  xi_InvalidWord : PySem.W.findIn w.K (.ref c_InvalidWord) "__init__" = some (some (.ref xI_InvalidWord))
  xt_InvalidWord : PySem.W.typeIn w.K (.ref xI_InvalidWord) = some (.type "function")
  xo_InvalidWord : OexC w.K c_InvalidWord
  xI_InvalidStand : Addr
  xfd_InvalidStand : FuncData
  xF_InvalidStand : Fun w.K "__init__" "InvalidStand.__init__" s_InvalidStand_init xI_InvalidStand xfd_InvalidStand
  xi_InvalidStand : PySem.W.findIn w.K (.ref c_InvalidStand) "__init__" = some (some (.ref xI_InvalidStand))
  xt_InvalidStand : PySem.W.typeIn w.K (.ref xI_InvalidStand) = some (.type "function")
  xo_InvalidStand : OexC w.K c_InvalidStand
  xI_InvalidLetter : Addr
  xfd_InvalidLetter : FuncData
  xF_InvalidLetter : Fun w.K "__init__" "InvalidLetter.__init__" s_InvalidLetter_init xI_InvalidLetter xfd_InvalidLetter
  xi_InvalidLetter : PySem.W.findIn w.K (.ref c_InvalidLetter) "__init__" = some (some (.ref xI_InvalidLetter))
  xt_InvalidLetter : PySem.W.typeIn w.K (.ref xI_InvalidLetter) = some (.type "function")
  xo_InvalidLetter : OexC w.K c_InvalidLetter
  xI_InvalidTexts : Addr
  xfd_InvalidTexts : FuncData
  xF_InvalidTexts : Fun w.K "__init__" "InvalidTexts.__init__" s_InvalidTexts_init xI_InvalidTexts xfd_InvalidTexts
  xi_InvalidTexts : PySem.W.findIn w.K (.ref c_InvalidTexts) "__init__" = some (some (.ref xI_InvalidTexts))
  xt_InvalidTexts : PySem.W.typeIn w.K (.ref xI_InvalidTexts) = some (.type "function")
  xo_InvalidTexts : OexC w.K c_InvalidTexts
  xI_InvalidBook : Addr
  xfd_InvalidBook : FuncData
  xF_InvalidBook : Fun w.K "__init__" "InvalidBook.__init__" s_InvalidBook_init xI_InvalidBook xfd_InvalidBook
  xi_InvalidBook : PySem.W.findIn w.K (.ref c_InvalidBook) "__init__" = some (some (.ref xI_InvalidBook))
  xt_InvalidBook : PySem.W.typeIn w.K (.ref xI_InvalidBook) = some (.type "function")
  xo_InvalidBook : OexC w.K c_InvalidBook
  xI_InvalidEnds : Addr
  xfd_InvalidEnds : FuncData
  xF_InvalidEnds : Fun w.K "__init__" "InvalidEnds.__init__" s_InvalidEnds_init xI_InvalidEnds xfd_InvalidEnds
  xi_InvalidEnds : PySem.W.findIn w.K (.ref c_InvalidEnds) "__init__" = some (some (.ref xI_InvalidEnds))
  xt_InvalidEnds : PySem.W.typeIn w.K (.ref xI_InvalidEnds) = some (.type "function")
  xo_InvalidEnds : OexC w.K c_InvalidEnds
  xI_InvalidArrows : Addr
  xfd_InvalidArrows : FuncData
  xF_InvalidArrows : Fun w.K "__init__" "InvalidArrows.__init__" s_InvalidArrows_init xI_InvalidArrows xfd_InvalidArrows
  xi_InvalidArrows : PySem.W.findIn w.K (.ref c_InvalidArrows) "__init__" = some (some (.ref xI_InvalidArrows))
  xt_InvalidArrows : PySem.W.typeIn w.K (.ref xI_InvalidArrows) = some (.type "function")
  xo_InvalidArrows : OexC w.K c_InvalidArrows
  xI_InvalidDeeds : Addr
  xfd_InvalidDeeds : FuncData
  xF_InvalidDeeds : Fun w.K "__init__" "InvalidDeeds.__init__" s_InvalidDeeds_init xI_InvalidDeeds xfd_InvalidDeeds
  xi_InvalidDeeds : PySem.W.findIn w.K (.ref c_InvalidDeeds) "__init__" = some (some (.ref xI_InvalidDeeds))
  xt_InvalidDeeds : PySem.W.typeIn w.K (.ref xI_InvalidDeeds) = some (.type "function")
  xo_InvalidDeeds : OexC w.K c_InvalidDeeds
  xI_TooMany : Addr
  xfd_TooMany : FuncData
  xF_TooMany : Fun w.K "__init__" "TooMany.__init__" s_TooMany_init xI_TooMany xfd_TooMany
  xi_TooMany : PySem.W.findIn w.K (.ref c_TooMany) "__init__" = some (some (.ref xI_TooMany))
  xt_TooMany : PySem.W.typeIn w.K (.ref xI_TooMany) = some (.type "function")
  xo_TooMany : OexA w.K c_TooMany
  z_ArithmeticError : mg "ArithmeticError" = none
  z_LookupError : mg "LookupError" = none
  z_ValueError : mg "ValueError" = none
  z_abs : mg "abs" = none
  z_all : mg "all" = none
  z_divmod : mg "divmod" = none
  z_int : mg "int" = none
  z_isinstance : mg "isinstance" = none
  z_len : mg "len" = none
  z_max : mg "max" = none
  z_min : mg "min" = none
  z_range : mg "range" = none
  z_repr : mg "repr" = none
section
variable {P : Program} {W : World} {w : Wo} {mg : Str → Option Value} {base : Heap}
theorem xv_InvalidCount (T : Tx W w mg) : XcV w.K mg "InvalidCount" T.c_InvalidCount (nmS [118, 97, 108, 117, 101]) P W base := by
  rw [show nmS [118, 97, 108, 117, 101] = ("value" : Str) by decide +kernel]
  exact xcv_ok T.xo_InvalidCount T.g_InvalidCount T.xn_InvalidCount T.xi_InvalidCount T.xt_InvalidCount T.xF_InvalidCount sc_InvalidCount_init rfl rfl rfl (by decide) (by decide) (fun env => rfl) (fun kV doc pm an cdv ct e u => rfl) (fun kV doc pm an cdv ct e u => rfl)
theorem xv_InvalidText (T : Tx W w mg) : XcV w.K mg "InvalidText" T.c_InvalidText (nmS [118, 97, 108, 117, 101]) P W base := by
  rw [show nmS [118, 97, 108, 117, 101] = ("value" : Str) by decide +kernel]
  exact xcv_ok T.xo_InvalidText T.g_InvalidText T.xn_InvalidText T.xi_InvalidText T.xt_InvalidText T.xF_InvalidText sc_InvalidText_init rfl rfl rfl (by decide) (by decide) (fun env => rfl) (fun kV doc pm an cdv ct e u => rfl) (fun kV doc pm an cdv ct e u => rfl)
theorem xv_NotADesk (T : Tx W w mg) : XcV w.K mg "NotADesk" T.c_NotADesk (nmS [118, 97, 108, 117, 101]) P W base := by
  rw [show nmS [118, 97, 108, 117, 101] = ("value" : Str) by decide +kernel]
  exact xcv_ok T.xo_NotADesk T.g_NotADesk T.xn_NotADesk T.xi_NotADesk T.xt_NotADesk T.xF_NotADesk sc_NotADesk_init rfl rfl rfl (by decide) (by decide) (fun env => rfl) (fun kV doc pm an cdv ct e u => rfl) (fun kV doc pm an cdv ct e u => rfl)
theorem xv_NotAMachine (T : Tx W w mg) : XcV w.K mg "NotAMachine" T.c_NotAMachine (nmS [118, 97, 108, 117, 101]) P W base := by
  rw [show nmS [118, 97, 108, 117, 101] = ("value" : Str) by decide +kernel]
  exact xcv_ok T.xo_NotAMachine T.g_NotAMachine T.xn_NotAMachine T.xi_NotAMachine T.xt_NotAMachine T.xF_NotAMachine sc_NotAMachine_init rfl rfl rfl (by decide) (by decide) (fun env => rfl) (fun kV doc pm an cdv ct e u => rfl) (fun kV doc pm an cdv ct e u => rfl)
theorem xv_InvalidLine (T : Tx W w mg) : XcV w.K mg "InvalidLine" T.c_InvalidLine (nmS [118, 97, 108, 117, 101]) P W base := by
  rw [show nmS [118, 97, 108, 117, 101] = ("value" : Str) by decide +kernel]
  exact xcv_ok T.xo_InvalidLine T.g_InvalidLine T.xn_InvalidLine T.xi_InvalidLine T.xt_InvalidLine T.xF_InvalidLine sc_InvalidLine_init rfl rfl rfl (by decide) (by decide) (fun env => rfl) (fun kV doc pm an cdv ct e u => rfl) (fun kV doc pm an cdv ct e u => rfl)
theorem xv_InvalidWord (T : Tx W w mg) : XcV w.K mg "InvalidWord" T.c_InvalidWord (nmS [118, 97, 108, 117, 101]) P W base := by
  rw [show nmS [118, 97, 108, 117, 101] = ("value" : Str) by decide +kernel]
  exact xcv_ok T.xo_InvalidWord T.g_InvalidWord T.xn_InvalidWord T.xi_InvalidWord T.xt_InvalidWord T.xF_InvalidWord sc_InvalidWord_init rfl rfl rfl (by decide) (by decide) (fun env => rfl) (fun kV doc pm an cdv ct e u => rfl) (fun kV doc pm an cdv ct e u => rfl)
theorem xv_InvalidStand (T : Tx W w mg) : XcV w.K mg "InvalidStand" T.c_InvalidStand (nmS [118, 97, 108, 117, 101]) P W base := by
  rw [show nmS [118, 97, 108, 117, 101] = ("value" : Str) by decide +kernel]
  exact xcv_ok T.xo_InvalidStand T.g_InvalidStand T.xn_InvalidStand T.xi_InvalidStand T.xt_InvalidStand T.xF_InvalidStand sc_InvalidStand_init rfl rfl rfl (by decide) (by decide) (fun env => rfl) (fun kV doc pm an cdv ct e u => rfl) (fun kV doc pm an cdv ct e u => rfl)
theorem xv_InvalidLetter (T : Tx W w mg) : XcV w.K mg "InvalidLetter" T.c_InvalidLetter (nmS [118, 97, 108, 117, 101]) P W base := by
  rw [show nmS [118, 97, 108, 117, 101] = ("value" : Str) by decide +kernel]
  exact xcv_ok T.xo_InvalidLetter T.g_InvalidLetter T.xn_InvalidLetter T.xi_InvalidLetter T.xt_InvalidLetter T.xF_InvalidLetter sc_InvalidLetter_init rfl rfl rfl (by decide) (by decide) (fun env => rfl) (fun kV doc pm an cdv ct e u => rfl) (fun kV doc pm an cdv ct e u => rfl)
theorem xv_InvalidTexts (T : Tx W w mg) : XcV w.K mg "InvalidTexts" T.c_InvalidTexts (nmS [105, 110, 100, 101, 120]) P W base := by
  rw [show nmS [105, 110, 100, 101, 120] = ("index" : Str) by decide +kernel]
  exact xcv_ok T.xo_InvalidTexts T.g_InvalidTexts T.xn_InvalidTexts T.xi_InvalidTexts T.xt_InvalidTexts T.xF_InvalidTexts sc_InvalidTexts_init rfl rfl rfl (by decide) (by decide) (fun env => rfl) (fun kV doc pm an cdv ct e u => rfl) (fun kV doc pm an cdv ct e u => rfl)
theorem xv_InvalidBook (T : Tx W w mg) : XcV w.K mg "InvalidBook" T.c_InvalidBook (nmS [105, 110, 100, 101, 120]) P W base := by
  rw [show nmS [105, 110, 100, 101, 120] = ("index" : Str) by decide +kernel]
  exact xcv_ok T.xo_InvalidBook T.g_InvalidBook T.xn_InvalidBook T.xi_InvalidBook T.xt_InvalidBook T.xF_InvalidBook sc_InvalidBook_init rfl rfl rfl (by decide) (by decide) (fun env => rfl) (fun kV doc pm an cdv ct e u => rfl) (fun kV doc pm an cdv ct e u => rfl)
theorem xv_InvalidEnds (T : Tx W w mg) : XcV w.K mg "InvalidEnds" T.c_InvalidEnds (nmS [105, 110, 100, 101, 120]) P W base := by
  rw [show nmS [105, 110, 100, 101, 120] = ("index" : Str) by decide +kernel]
  exact xcv_ok T.xo_InvalidEnds T.g_InvalidEnds T.xn_InvalidEnds T.xi_InvalidEnds T.xt_InvalidEnds T.xF_InvalidEnds sc_InvalidEnds_init rfl rfl rfl (by decide) (by decide) (fun env => rfl) (fun kV doc pm an cdv ct e u => rfl) (fun kV doc pm an cdv ct e u => rfl)
theorem xv_InvalidArrows (T : Tx W w mg) : XcV w.K mg "InvalidArrows" T.c_InvalidArrows (nmS [105, 110, 100, 101, 120]) P W base := by
  rw [show nmS [105, 110, 100, 101, 120] = ("index" : Str) by decide +kernel]
  exact xcv_ok T.xo_InvalidArrows T.g_InvalidArrows T.xn_InvalidArrows T.xi_InvalidArrows T.xt_InvalidArrows T.xF_InvalidArrows sc_InvalidArrows_init rfl rfl rfl (by decide) (by decide) (fun env => rfl) (fun kV doc pm an cdv ct e u => rfl) (fun kV doc pm an cdv ct e u => rfl)
theorem xv_InvalidDeeds (T : Tx W w mg) : XcV w.K mg "InvalidDeeds" T.c_InvalidDeeds (nmS [105, 110, 100, 101, 120]) P W base := by
  rw [show nmS [105, 110, 100, 101, 120] = ("index" : Str) by decide +kernel]
  exact xcv_ok T.xo_InvalidDeeds T.g_InvalidDeeds T.xn_InvalidDeeds T.xi_InvalidDeeds T.xt_InvalidDeeds T.xF_InvalidDeeds sc_InvalidDeeds_init rfl rfl rfl (by decide) (by decide) (fun env => rfl) (fun kV doc pm an cdv ct e u => rfl) (fun kV doc pm an cdv ct e u => rfl)
theorem xv_TooMany (T : Tx W w mg) : XcV w.K mg "TooMany" T.c_TooMany (nmS [108, 105, 109, 105, 116]) P W base := by
  rw [show nmS [108, 105, 109, 105, 116] = ("limit" : Str) by decide +kernel]
  exact xcvA_ok T.xo_TooMany T.g_TooMany T.xn_TooMany T.xi_TooMany T.xt_TooMany T.xF_TooMany sc_TooMany_init rfl rfl rfl (by decide) (by decide) (fun env => rfl) (fun kV doc pm an cdv ct e u => rfl) (fun kV doc pm an cdv ct e u => rfl)
theorem xfld_value (T : Tx W w mg) : XFld w xcs_value [118, 97, 108, 117, 101] := by
  rw [XFld, show nmS [118, 97, 108, 117, 101] = ("value" : Str) by decide +kernel]
  intro c A hc h
  unfold xcs_value at hc
  simp only [List.mem_cons, List.not_mem_nil, or_false] at hc
  rcases hc with rfl | rfl | rfl | rfl | rfl | rfl | rfl | rfl
  · rw [T.n_NotAMachine] at h; cases h; exact ⟨⟨T.xga_NotAMachine, T.xgg_NotAMachine, T.xs_NotAMachine, T.xhd_NotAMachine⟩, T.xn_NotAMachine⟩
  · rw [T.n_NotADesk] at h; cases h; exact ⟨⟨T.xga_NotADesk, T.xgg_NotADesk, T.xs_NotADesk, T.xhd_NotADesk⟩, T.xn_NotADesk⟩
  · rw [T.n_InvalidText] at h; cases h; exact ⟨⟨T.xga_InvalidText, T.xgg_InvalidText, T.xs_InvalidText, T.xhd_InvalidText⟩, T.xn_InvalidText⟩
  · rw [T.n_InvalidCount] at h; cases h; exact ⟨⟨T.xga_InvalidCount, T.xgg_InvalidCount, T.xs_InvalidCount, T.xhd_InvalidCount⟩, T.xn_InvalidCount⟩
  · rw [T.n_InvalidLetter] at h; cases h; exact ⟨⟨T.xga_InvalidLetter, T.xgg_InvalidLetter, T.xs_InvalidLetter, T.xhd_InvalidLetter⟩, T.xn_InvalidLetter⟩
  · rw [T.n_InvalidStand] at h; cases h; exact ⟨⟨T.xga_InvalidStand, T.xgg_InvalidStand, T.xs_InvalidStand, T.xhd_InvalidStand⟩, T.xn_InvalidStand⟩
  · rw [T.n_InvalidWord] at h; cases h; exact ⟨⟨T.xga_InvalidWord, T.xgg_InvalidWord, T.xs_InvalidWord, T.xhd_InvalidWord⟩, T.xn_InvalidWord⟩
  · rw [T.n_InvalidLine] at h; cases h; exact ⟨⟨T.xga_InvalidLine, T.xgg_InvalidLine, T.xs_InvalidLine, T.xhd_InvalidLine⟩, T.xn_InvalidLine⟩
theorem xfld_index (T : Tx W w mg) : XFld w xcs_index [105, 110, 100, 101, 120] := by
  rw [XFld, show nmS [105, 110, 100, 101, 120] = ("index" : Str) by decide +kernel]
  intro c A hc h
  unfold xcs_index at hc
  simp only [List.mem_cons, List.not_mem_nil, or_false] at hc
  rcases hc with rfl | rfl | rfl | rfl | rfl
  · rw [T.n_InvalidArrows] at h; cases h; exact ⟨⟨T.xga_InvalidArrows, T.xgg_InvalidArrows, T.xs_InvalidArrows, T.xhd_InvalidArrows⟩, T.xn_InvalidArrows⟩
  · rw [T.n_InvalidEnds] at h; cases h; exact ⟨⟨T.xga_InvalidEnds, T.xgg_InvalidEnds, T.xs_InvalidEnds, T.xhd_InvalidEnds⟩, T.xn_InvalidEnds⟩
  · rw [T.n_InvalidBook] at h; cases h; exact ⟨⟨T.xga_InvalidBook, T.xgg_InvalidBook, T.xs_InvalidBook, T.xhd_InvalidBook⟩, T.xn_InvalidBook⟩
  · rw [T.n_InvalidTexts] at h; cases h; exact ⟨⟨T.xga_InvalidTexts, T.xgg_InvalidTexts, T.xs_InvalidTexts, T.xhd_InvalidTexts⟩, T.xn_InvalidTexts⟩
  · rw [T.n_InvalidDeeds] at h; cases h; exact ⟨⟨T.xga_InvalidDeeds, T.xgg_InvalidDeeds, T.xs_InvalidDeeds, T.xhd_InvalidDeeds⟩, T.xn_InvalidDeeds⟩
theorem xfld_limit (T : Tx W w mg) : XFld w xcs_limit [108, 105, 109, 105, 116] := by
  rw [XFld, show nmS [108, 105, 109, 105, 116] = ("limit" : Str) by decide +kernel]
  intro c A hc h
  unfold xcs_limit at hc
  simp only [List.mem_cons, List.not_mem_nil, or_false] at hc
  rcases hc with rfl
  · rw [T.n_TooMany] at h; cases h; exact ⟨⟨T.xga_TooMany, T.xgg_TooMany, T.xs_TooMany, T.xhd_TooMany⟩, T.xn_TooMany⟩
theorem xi_SizeError (T : Tx W w mg) : XiOk w (.ref T.c_SizeError) xit_SizeError := by
  intro p hp A hA
  unfold xit_SizeError at hp
  simp only [List.mem_cons, List.not_mem_nil, or_false] at hp
  rcases hp with rfl | rfl | rfl | rfl | rfl | rfl | rfl | rfl | rfl | rfl | rfl | rfl | rfl | rfl | rfl | rfl | rfl | rfl | rfl
  · cases (show w.cl 8 = _ from T.nn_InputError).symm.trans hA
  · cases (show w.cl 9 = _ from T.nn_StateError).symm.trans hA
  · cases (show w.cl 10 = _ from T.nn_SizeError).symm.trans hA
  · cases (show w.cl 11 = _ from T.n_NotAMachine).symm.trans hA; exact ⟨⟨T.xga_NotAMachine, T.xgg_NotAMachine, T.xs_NotAMachine, T.xhd_NotAMachine, T.xha_NotAMachine, T.xhn, T.xht, T.xhm_NotAMachine⟩, T.xiz_NotAMachine_SizeError⟩
  · cases (show w.cl 12 = _ from T.n_NotADesk).symm.trans hA; exact ⟨⟨T.xga_NotADesk, T.xgg_NotADesk, T.xs_NotADesk, T.xhd_NotADesk, T.xha_NotADesk, T.xhn, T.xht, T.xhm_NotADesk⟩, T.xiz_NotADesk_SizeError⟩
  · cases (show w.cl 13 = _ from T.n_InvalidText).symm.trans hA; exact ⟨⟨T.xga_InvalidText, T.xgg_InvalidText, T.xs_InvalidText, T.xhd_InvalidText, T.xha_InvalidText, T.xhn, T.xht, T.xhm_InvalidText⟩, T.xiz_InvalidText_SizeError⟩
  · cases (show w.cl 14 = _ from T.n_InvalidCount).symm.trans hA; exact ⟨⟨T.xga_InvalidCount, T.xgg_InvalidCount, T.xs_InvalidCount, T.xhd_InvalidCount, T.xha_InvalidCount, T.xhn, T.xht, T.xhm_InvalidCount⟩, T.xiz_InvalidCount_SizeError⟩
  · cases (show w.cl 15 = _ from T.n_InvalidLetter).symm.trans hA; exact ⟨⟨T.xga_InvalidLetter, T.xgg_InvalidLetter, T.xs_InvalidLetter, T.xhd_InvalidLetter, T.xha_InvalidLetter, T.xhn, T.xht, T.xhm_InvalidLetter⟩, T.xiz_InvalidLetter_SizeError⟩
  · cases (show w.cl 16 = _ from T.n_InvalidStand).symm.trans hA; exact ⟨⟨T.xga_InvalidStand, T.xgg_InvalidStand, T.xs_InvalidStand, T.xhd_InvalidStand, T.xha_InvalidStand, T.xhn, T.xht, T.xhm_InvalidStand⟩, T.xiz_InvalidStand_SizeError⟩
  · cases (show w.cl 17 = _ from T.n_InvalidWord).symm.trans hA; exact ⟨⟨T.xga_InvalidWord, T.xgg_InvalidWord, T.xs_InvalidWord, T.xhd_InvalidWord, T.xha_InvalidWord, T.xhn, T.xht, T.xhm_InvalidWord⟩, T.xiz_InvalidWord_SizeError⟩
  · cases (show w.cl 18 = _ from T.n_InvalidLine).symm.trans hA; exact ⟨⟨T.xga_InvalidLine, T.xgg_InvalidLine, T.xs_InvalidLine, T.xhd_InvalidLine, T.xha_InvalidLine, T.xhn, T.xht, T.xhm_InvalidLine⟩, T.xiz_InvalidLine_SizeError⟩
  · cases (show w.cl 19 = _ from T.n_InvalidArrows).symm.trans hA; exact ⟨⟨T.xga_InvalidArrows, T.xgg_InvalidArrows, T.xs_InvalidArrows, T.xhd_InvalidArrows, T.xha_InvalidArrows, T.xhn, T.xht, T.xhm_InvalidArrows⟩, T.xiz_InvalidArrows_SizeError⟩
  · cases (show w.cl 20 = _ from T.n_InvalidEnds).symm.trans hA; exact ⟨⟨T.xga_InvalidEnds, T.xgg_InvalidEnds, T.xs_InvalidEnds, T.xhd_InvalidEnds, T.xha_InvalidEnds, T.xhn, T.xht, T.xhm_InvalidEnds⟩, T.xiz_InvalidEnds_SizeError⟩
  · cases (show w.cl 21 = _ from T.n_InvalidBook).symm.trans hA; exact ⟨⟨T.xga_InvalidBook, T.xgg_InvalidBook, T.xs_InvalidBook, T.xhd_InvalidBook, T.xha_InvalidBook, T.xhn, T.xht, T.xhm_InvalidBook⟩, T.xiz_InvalidBook_SizeError⟩
  · cases (show w.cl 22 = _ from T.n_InvalidTexts).symm.trans hA; exact ⟨⟨T.xga_InvalidTexts, T.xgg_InvalidTexts, T.xs_InvalidTexts, T.xhd_InvalidTexts, T.xha_InvalidTexts, T.xhn, T.xht, T.xhm_InvalidTexts⟩, T.xiz_InvalidTexts_SizeError⟩
  · cases (show w.cl 23 = _ from T.n_InvalidDeeds).symm.trans hA; exact ⟨⟨T.xga_InvalidDeeds, T.xgg_InvalidDeeds, T.xs_InvalidDeeds, T.xhd_InvalidDeeds, T.xha_InvalidDeeds, T.xhn, T.xht, T.xhm_InvalidDeeds⟩, T.xiz_InvalidDeeds_SizeError⟩
  · cases (show w.cl 24 = _ from T.n_NothingToUndo).symm.trans hA; exact ⟨⟨T.xga_NothingToUndo, T.xgg_NothingToUndo, T.xs_NothingToUndo, T.xhd_NothingToUndo, T.xha_NothingToUndo, T.xhn, T.xht, T.xhm_NothingToUndo⟩, T.xiz_NothingToUndo_SizeError⟩
  · cases (show w.cl 25 = _ from T.n_Busy).symm.trans hA; exact ⟨⟨T.xga_Busy, T.xgg_Busy, T.xs_Busy, T.xhd_Busy, T.xha_Busy, T.xhn, T.xht, T.xhm_Busy⟩, T.xiz_Busy_SizeError⟩
  · cases (show w.cl 26 = _ from T.n_TooMany).symm.trans hA; exact ⟨⟨T.xga_TooMany, T.xgg_TooMany, T.xs_TooMany, T.xhd_TooMany, T.xha_TooMany, T.xhn, T.xht, T.xhm_TooMany⟩, T.xiz_TooMany_SizeError⟩
theorem xi_StateError (T : Tx W w mg) : XiOk w (.ref T.c_StateError) xit_StateError := by
  intro p hp A hA
  unfold xit_StateError at hp
  simp only [List.mem_cons, List.not_mem_nil, or_false] at hp
  rcases hp with rfl | rfl | rfl | rfl | rfl | rfl | rfl | rfl | rfl | rfl | rfl | rfl | rfl | rfl | rfl | rfl | rfl | rfl | rfl
  · cases (show w.cl 8 = _ from T.nn_InputError).symm.trans hA
  · cases (show w.cl 9 = _ from T.nn_StateError).symm.trans hA
  · cases (show w.cl 10 = _ from T.nn_SizeError).symm.trans hA
  · cases (show w.cl 11 = _ from T.n_NotAMachine).symm.trans hA; exact ⟨⟨T.xga_NotAMachine, T.xgg_NotAMachine, T.xs_NotAMachine, T.xhd_NotAMachine, T.xha_NotAMachine, T.xhn, T.xht, T.xhm_NotAMachine⟩, T.xiz_NotAMachine_StateError⟩
  · cases (show w.cl 12 = _ from T.n_NotADesk).symm.trans hA; exact ⟨⟨T.xga_NotADesk, T.xgg_NotADesk, T.xs_NotADesk, T.xhd_NotADesk, T.xha_NotADesk, T.xhn, T.xht, T.xhm_NotADesk⟩, T.xiz_NotADesk_StateError⟩
  · cases (show w.cl 13 = _ from T.n_InvalidText).symm.trans hA; exact ⟨⟨T.xga_InvalidText, T.xgg_InvalidText, T.xs_InvalidText, T.xhd_InvalidText, T.xha_InvalidText, T.xhn, T.xht, T.xhm_InvalidText⟩, T.xiz_InvalidText_StateError⟩
  · cases (show w.cl 14 = _ from T.n_InvalidCount).symm.trans hA; exact ⟨⟨T.xga_InvalidCount, T.xgg_InvalidCount, T.xs_InvalidCount, T.xhd_InvalidCount, T.xha_InvalidCount, T.xhn, T.xht, T.xhm_InvalidCount⟩, T.xiz_InvalidCount_StateError⟩
  · cases (show w.cl 15 = _ from T.n_InvalidLetter).symm.trans hA; exact ⟨⟨T.xga_InvalidLetter, T.xgg_InvalidLetter, T.xs_InvalidLetter, T.xhd_InvalidLetter, T.xha_InvalidLetter, T.xhn, T.xht, T.xhm_InvalidLetter⟩, T.xiz_InvalidLetter_StateError⟩
  · cases (show w.cl 16 = _ from T.n_InvalidStand).symm.trans hA; exact ⟨⟨T.xga_InvalidStand, T.xgg_InvalidStand, T.xs_InvalidStand, T.xhd_InvalidStand, T.xha_InvalidStand, T.xhn, T.xht, T.xhm_InvalidStand⟩, T.xiz_InvalidStand_StateError⟩
  · cases (show w.cl 17 = _ from T.n_InvalidWord).symm.trans hA; exact ⟨⟨T.xga_InvalidWord, T.xgg_InvalidWord, T.xs_InvalidWord, T.xhd_InvalidWord, T.xha_InvalidWord, T.xhn, T.xht, T.xhm_InvalidWord⟩, T.xiz_InvalidWord_StateError⟩
  · cases (show w.cl 18 = _ from T.n_InvalidLine).symm.trans hA; exact ⟨⟨T.xga_InvalidLine, T.xgg_InvalidLine, T.xs_InvalidLine, T.xhd_InvalidLine, T.xha_InvalidLine, T.xhn, T.xht, T.xhm_InvalidLine⟩, T.xiz_InvalidLine_StateError⟩
  · cases (show w.cl 19 = _ from T.n_InvalidArrows).symm.trans hA; exact ⟨⟨T.xga_InvalidArrows, T.xgg_InvalidArrows, T.xs_InvalidArrows, T.xhd_InvalidArrows, T.xha_InvalidArrows, T.xhn, T.xht, T.xhm_InvalidArrows⟩, T.xiz_InvalidArrows_StateError⟩
  · cases (show w.cl 20 = _ from T.n_InvalidEnds).symm.trans hA; exact ⟨⟨T.xga_InvalidEnds, T.xgg_InvalidEnds, T.xs_InvalidEnds, T.xhd_InvalidEnds, T.xha_InvalidEnds, T.xhn, T.xht, T.xhm_InvalidEnds⟩, T.xiz_InvalidEnds_StateError⟩
  · cases (show w.cl 21 = _ from T.n_InvalidBook).symm.trans hA; exact ⟨⟨T.xga_InvalidBook, T.xgg_InvalidBook, T.xs_InvalidBook, T.xhd_InvalidBook, T.xha_InvalidBook, T.xhn, T.xht, T.xhm_InvalidBook⟩, T.xiz_InvalidBook_StateError⟩
  · cases (show w.cl 22 = _ from T.n_InvalidTexts).symm.trans hA; exact ⟨⟨T.xga_InvalidTexts, T.xgg_InvalidTexts, T.xs_InvalidTexts, T.xhd_InvalidTexts, T.xha_InvalidTexts, T.xhn, T.xht, T.xhm_InvalidTexts⟩, T.xiz_InvalidTexts_StateError⟩
  · cases (show w.cl 23 = _ from T.n_InvalidDeeds).symm.trans hA; exact ⟨⟨T.xga_InvalidDeeds, T.xgg_InvalidDeeds, T.xs_InvalidDeeds, T.xhd_InvalidDeeds, T.xha_InvalidDeeds, T.xhn, T.xht, T.xhm_InvalidDeeds⟩, T.xiz_InvalidDeeds_StateError⟩
  · cases (show w.cl 24 = _ from T.n_NothingToUndo).symm.trans hA; exact ⟨⟨T.xga_NothingToUndo, T.xgg_NothingToUndo, T.xs_NothingToUndo, T.xhd_NothingToUndo, T.xha_NothingToUndo, T.xhn, T.xht, T.xhm_NothingToUndo⟩, T.xiz_NothingToUndo_StateError⟩
  · cases (show w.cl 25 = _ from T.n_Busy).symm.trans hA; exact ⟨⟨T.xga_Busy, T.xgg_Busy, T.xs_Busy, T.xhd_Busy, T.xha_Busy, T.xhn, T.xht, T.xhm_Busy⟩, T.xiz_Busy_StateError⟩
  · cases (show w.cl 26 = _ from T.n_TooMany).symm.trans hA; exact ⟨⟨T.xga_TooMany, T.xgg_TooMany, T.xs_TooMany, T.xhd_TooMany, T.xha_TooMany, T.xhn, T.xht, T.xhm_TooMany⟩, T.xiz_TooMany_StateError⟩
theorem xi_InputError (T : Tx W w mg) : XiOk w (.ref T.c_InputError) xit_InputError := by
  intro p hp A hA
  unfold xit_InputError at hp
  simp only [List.mem_cons, List.not_mem_nil, or_false] at hp
  rcases hp with rfl | rfl | rfl | rfl | rfl | rfl | rfl | rfl | rfl | rfl | rfl | rfl | rfl | rfl | rfl | rfl | rfl | rfl | rfl
  · cases (show w.cl 8 = _ from T.nn_InputError).symm.trans hA
  · cases (show w.cl 9 = _ from T.nn_StateError).symm.trans hA
  · cases (show w.cl 10 = _ from T.nn_SizeError).symm.trans hA
  · cases (show w.cl 11 = _ from T.n_NotAMachine).symm.trans hA; exact ⟨⟨T.xga_NotAMachine, T.xgg_NotAMachine, T.xs_NotAMachine, T.xhd_NotAMachine, T.xha_NotAMachine, T.xhn, T.xht, T.xhm_NotAMachine⟩, T.xiz_NotAMachine_InputError⟩
  · cases (show w.cl 12 = _ from T.n_NotADesk).symm.trans hA; exact ⟨⟨T.xga_NotADesk, T.xgg_NotADesk, T.xs_NotADesk, T.xhd_NotADesk, T.xha_NotADesk, T.xhn, T.xht, T.xhm_NotADesk⟩, T.xiz_NotADesk_InputError⟩
  · cases (show w.cl 13 = _ from T.n_InvalidText).symm.trans hA; exact ⟨⟨T.xga_InvalidText, T.xgg_InvalidText, T.xs_InvalidText, T.xhd_InvalidText, T.xha_InvalidText, T.xhn, T.xht, T.xhm_InvalidText⟩, T.xiz_InvalidText_InputError⟩
  · cases (show w.cl 14 = _ from T.n_InvalidCount).symm.trans hA; exact ⟨⟨T.xga_InvalidCount, T.xgg_InvalidCount, T.xs_InvalidCount, T.xhd_InvalidCount, T.xha_InvalidCount, T.xhn, T.xht, T.xhm_InvalidCount⟩, T.xiz_InvalidCount_InputError⟩
  · cases (show w.cl 15 = _ from T.n_InvalidLetter).symm.trans hA; exact ⟨⟨T.xga_InvalidLetter, T.xgg_InvalidLetter, T.xs_InvalidLetter, T.xhd_InvalidLetter, T.xha_InvalidLetter, T.xhn, T.xht, T.xhm_InvalidLetter⟩, T.xiz_InvalidLetter_InputError⟩
  · cases (show w.cl 16 = _ from T.n_InvalidStand).symm.trans hA; exact ⟨⟨T.xga_InvalidStand, T.xgg_InvalidStand, T.xs_InvalidStand, T.xhd_InvalidStand, T.xha_InvalidStand, T.xhn, T.xht, T.xhm_InvalidStand⟩, T.xiz_InvalidStand_InputError⟩
  · cases (show w.cl 17 = _ from T.n_InvalidWord).symm.trans hA; exact ⟨⟨T.xga_InvalidWord, T.xgg_InvalidWord, T.xs_InvalidWord, T.xhd_InvalidWord, T.xha_InvalidWord, T.xhn, T.xht, T.xhm_InvalidWord⟩, T.xiz_InvalidWord_InputError⟩
  · cases (show w.cl 18 = _ from T.n_InvalidLine).symm.trans hA; exact ⟨⟨T.xga_InvalidLine, T.xgg_InvalidLine, T.xs_InvalidLine, T.xhd_InvalidLine, T.xha_InvalidLine, T.xhn, T.xht, T.xhm_InvalidLine⟩, T.xiz_InvalidLine_InputError⟩
  · cases (show w.cl 19 = _ from T.n_InvalidArrows).symm.trans hA; exact ⟨⟨T.xga_InvalidArrows, T.xgg_InvalidArrows, T.xs_InvalidArrows, T.xhd_InvalidArrows, T.xha_InvalidArrows, T.xhn, T.xht, T.xhm_InvalidArrows⟩, T.xiz_InvalidArrows_InputError⟩
  · cases (show w.cl 20 = _ from T.n_InvalidEnds).symm.trans hA; exact ⟨⟨T.xga_InvalidEnds, T.xgg_InvalidEnds, T.xs_InvalidEnds, T.xhd_InvalidEnds, T.xha_InvalidEnds, T.xhn, T.xht, T.xhm_InvalidEnds⟩, T.xiz_InvalidEnds_InputError⟩
  · cases (show w.cl 21 = _ from T.n_InvalidBook).symm.trans hA; exact ⟨⟨T.xga_InvalidBook, T.xgg_InvalidBook, T.xs_InvalidBook, T.xhd_InvalidBook, T.xha_InvalidBook, T.xhn, T.xht, T.xhm_InvalidBook⟩, T.xiz_InvalidBook_InputError⟩
  · cases (show w.cl 22 = _ from T.n_InvalidTexts).symm.trans hA; exact ⟨⟨T.xga_InvalidTexts, T.xgg_InvalidTexts, T.xs_InvalidTexts, T.xhd_InvalidTexts, T.xha_InvalidTexts, T.xhn, T.xht, T.xhm_InvalidTexts⟩, T.xiz_InvalidTexts_InputError⟩
  · cases (show w.cl 23 = _ from T.n_InvalidDeeds).symm.trans hA; exact ⟨⟨T.xga_InvalidDeeds, T.xgg_InvalidDeeds, T.xs_InvalidDeeds, T.xhd_InvalidDeeds, T.xha_InvalidDeeds, T.xhn, T.xht, T.xhm_InvalidDeeds⟩, T.xiz_InvalidDeeds_InputError⟩
  · cases (show w.cl 24 = _ from T.n_NothingToUndo).symm.trans hA; exact ⟨⟨T.xga_NothingToUndo, T.xgg_NothingToUndo, T.xs_NothingToUndo, T.xhd_NothingToUndo, T.xha_NothingToUndo, T.xhn, T.xht, T.xhm_NothingToUndo⟩, T.xiz_NothingToUndo_InputError⟩
  · cases (show w.cl 25 = _ from T.n_Busy).symm.trans hA; exact ⟨⟨T.xga_Busy, T.xgg_Busy, T.xs_Busy, T.xhd_Busy, T.xha_Busy, T.xhn, T.xht, T.xhm_Busy⟩, T.xiz_Busy_InputError⟩
  · cases (show w.cl 26 = _ from T.n_TooMany).symm.trans hA; exact ⟨⟨T.xga_TooMany, T.xgg_TooMany, T.xs_TooMany, T.xhd_TooMany, T.xha_TooMany, T.xhn, T.xht, T.xhm_TooMany⟩, T.xiz_TooMany_InputError⟩
theorem xi_ArithmeticError (T : Tx W w mg) : XiOk w (.type "ArithmeticError") xit_ArithmeticError := by
  intro p hp A hA
  unfold xit_ArithmeticError at hp
  simp only [List.mem_cons, List.not_mem_nil, or_false] at hp
  rcases hp with rfl | rfl | rfl | rfl | rfl | rfl | rfl | rfl | rfl | rfl | rfl | rfl | rfl | rfl | rfl | rfl | rfl | rfl | rfl
  · cases (show w.cl 8 = _ from T.nn_InputError).symm.trans hA
  · cases (show w.cl 9 = _ from T.nn_StateError).symm.trans hA
  · cases (show w.cl 10 = _ from T.nn_SizeError).symm.trans hA
  · cases (show w.cl 11 = _ from T.n_NotAMachine).symm.trans hA; exact ⟨⟨T.xga_NotAMachine, T.xgg_NotAMachine, T.xs_NotAMachine, T.xhd_NotAMachine, T.xha_NotAMachine, T.xhn, T.xht, T.xhm_NotAMachine⟩, kit_ct (by decide +kernel) T.xiz_NotAMachine_ArithmeticError⟩
  · cases (show w.cl 12 = _ from T.n_NotADesk).symm.trans hA; exact ⟨⟨T.xga_NotADesk, T.xgg_NotADesk, T.xs_NotADesk, T.xhd_NotADesk, T.xha_NotADesk, T.xhn, T.xht, T.xhm_NotADesk⟩, kit_ct (by decide +kernel) T.xiz_NotADesk_ArithmeticError⟩
  · cases (show w.cl 13 = _ from T.n_InvalidText).symm.trans hA; exact ⟨⟨T.xga_InvalidText, T.xgg_InvalidText, T.xs_InvalidText, T.xhd_InvalidText, T.xha_InvalidText, T.xhn, T.xht, T.xhm_InvalidText⟩, kit_ct (by decide +kernel) T.xiz_InvalidText_ArithmeticError⟩
  · cases (show w.cl 14 = _ from T.n_InvalidCount).symm.trans hA; exact ⟨⟨T.xga_InvalidCount, T.xgg_InvalidCount, T.xs_InvalidCount, T.xhd_InvalidCount, T.xha_InvalidCount, T.xhn, T.xht, T.xhm_InvalidCount⟩, kit_ct (by decide +kernel) T.xiz_InvalidCount_ArithmeticError⟩
  · cases (show w.cl 15 = _ from T.n_InvalidLetter).symm.trans hA; exact ⟨⟨T.xga_InvalidLetter, T.xgg_InvalidLetter, T.xs_InvalidLetter, T.xhd_InvalidLetter, T.xha_InvalidLetter, T.xhn, T.xht, T.xhm_InvalidLetter⟩, kit_ct (by decide +kernel) T.xiz_InvalidLetter_ArithmeticError⟩
  · cases (show w.cl 16 = _ from T.n_InvalidStand).symm.trans hA; exact ⟨⟨T.xga_InvalidStand, T.xgg_InvalidStand, T.xs_InvalidStand, T.xhd_InvalidStand, T.xha_InvalidStand, T.xhn, T.xht, T.xhm_InvalidStand⟩, kit_ct (by decide +kernel) T.xiz_InvalidStand_ArithmeticError⟩
  · cases (show w.cl 17 = _ from T.n_InvalidWord).symm.trans hA; exact ⟨⟨T.xga_InvalidWord, T.xgg_InvalidWord, T.xs_InvalidWord, T.xhd_InvalidWord, T.xha_InvalidWord, T.xhn, T.xht, T.xhm_InvalidWord⟩, kit_ct (by decide +kernel) T.xiz_InvalidWord_ArithmeticError⟩
  · cases (show w.cl 18 = _ from T.n_InvalidLine).symm.trans hA; exact ⟨⟨T.xga_InvalidLine, T.xgg_InvalidLine, T.xs_InvalidLine, T.xhd_InvalidLine, T.xha_InvalidLine, T.xhn, T.xht, T.xhm_InvalidLine⟩, kit_ct (by decide +kernel) T.xiz_InvalidLine_ArithmeticError⟩
  · cases (show w.cl 19 = _ from T.n_InvalidArrows).symm.trans hA; exact ⟨⟨T.xga_InvalidArrows, T.xgg_InvalidArrows, T.xs_InvalidArrows, T.xhd_InvalidArrows, T.xha_InvalidArrows, T.xhn, T.xht, T.xhm_InvalidArrows⟩, kit_ct (by decide +kernel) T.xiz_InvalidArrows_ArithmeticError⟩
  · cases (show w.cl 20 = _ from T.n_InvalidEnds).symm.trans hA; exact ⟨⟨T.xga_InvalidEnds, T.xgg_InvalidEnds, T.xs_InvalidEnds, T.xhd_InvalidEnds, T.xha_InvalidEnds, T.xhn, T.xht, T.xhm_InvalidEnds⟩, kit_ct (by decide +kernel) T.xiz_InvalidEnds_ArithmeticError⟩
  · cases (show w.cl 21 = _ from T.n_InvalidBook).symm.trans hA; exact ⟨⟨T.xga_InvalidBook, T.xgg_InvalidBook, T.xs_InvalidBook, T.xhd_InvalidBook, T.xha_InvalidBook, T.xhn, T.xht, T.xhm_InvalidBook⟩, kit_ct (by decide +kernel) T.xiz_InvalidBook_ArithmeticError⟩
  · cases (show w.cl 22 = _ from T.n_InvalidTexts).symm.trans hA; exact ⟨⟨T.xga_InvalidTexts, T.xgg_InvalidTexts, T.xs_InvalidTexts, T.xhd_InvalidTexts, T.xha_InvalidTexts, T.xhn, T.xht, T.xhm_InvalidTexts⟩, kit_ct (by decide +kernel) T.xiz_InvalidTexts_ArithmeticError⟩
  · cases (show w.cl 23 = _ from T.n_InvalidDeeds).symm.trans hA; exact ⟨⟨T.xga_InvalidDeeds, T.xgg_InvalidDeeds, T.xs_InvalidDeeds, T.xhd_InvalidDeeds, T.xha_InvalidDeeds, T.xhn, T.xht, T.xhm_InvalidDeeds⟩, kit_ct (by decide +kernel) T.xiz_InvalidDeeds_ArithmeticError⟩
  · cases (show w.cl 24 = _ from T.n_NothingToUndo).symm.trans hA; exact ⟨⟨T.xga_NothingToUndo, T.xgg_NothingToUndo, T.xs_NothingToUndo, T.xhd_NothingToUndo, T.xha_NothingToUndo, T.xhn, T.xht, T.xhm_NothingToUndo⟩, kit_ct (by decide +kernel) T.xiz_NothingToUndo_ArithmeticError⟩
  · cases (show w.cl 25 = _ from T.n_Busy).symm.trans hA; exact ⟨⟨T.xga_Busy, T.xgg_Busy, T.xs_Busy, T.xhd_Busy, T.xha_Busy, T.xhn, T.xht, T.xhm_Busy⟩, kit_ct (by decide +kernel) T.xiz_Busy_ArithmeticError⟩
  · cases (show w.cl 26 = _ from T.n_TooMany).symm.trans hA; exact ⟨⟨T.xga_TooMany, T.xgg_TooMany, T.xs_TooMany, T.xhd_TooMany, T.xha_TooMany, T.xhn, T.xht, T.xhm_TooMany⟩, kit_ct (by decide +kernel) T.xiz_TooMany_ArithmeticError⟩
theorem xi_LookupError (T : Tx W w mg) : XiOk w (.type "LookupError") xit_LookupError := by
  intro p hp A hA
  unfold xit_LookupError at hp
  simp only [List.mem_cons, List.not_mem_nil, or_false] at hp
  rcases hp with rfl | rfl | rfl | rfl | rfl | rfl | rfl | rfl | rfl | rfl | rfl | rfl | rfl | rfl | rfl | rfl | rfl | rfl | rfl
  · cases (show w.cl 8 = _ from T.nn_InputError).symm.trans hA
  · cases (show w.cl 9 = _ from T.nn_StateError).symm.trans hA
  · cases (show w.cl 10 = _ from T.nn_SizeError).symm.trans hA
  · cases (show w.cl 11 = _ from T.n_NotAMachine).symm.trans hA; exact ⟨⟨T.xga_NotAMachine, T.xgg_NotAMachine, T.xs_NotAMachine, T.xhd_NotAMachine, T.xha_NotAMachine, T.xhn, T.xht, T.xhm_NotAMachine⟩, kit_ct (by decide +kernel) T.xiz_NotAMachine_LookupError⟩
  · cases (show w.cl 12 = _ from T.n_NotADesk).symm.trans hA; exact ⟨⟨T.xga_NotADesk, T.xgg_NotADesk, T.xs_NotADesk, T.xhd_NotADesk, T.xha_NotADesk, T.xhn, T.xht, T.xhm_NotADesk⟩, kit_ct (by decide +kernel) T.xiz_NotADesk_LookupError⟩
  · cases (show w.cl 13 = _ from T.n_InvalidText).symm.trans hA; exact ⟨⟨T.xga_InvalidText, T.xgg_InvalidText, T.xs_InvalidText, T.xhd_InvalidText, T.xha_InvalidText, T.xhn, T.xht, T.xhm_InvalidText⟩, kit_ct (by decide +kernel) T.xiz_InvalidText_LookupError⟩
  · cases (show w.cl 14 = _ from T.n_InvalidCount).symm.trans hA; exact ⟨⟨T.xga_InvalidCount, T.xgg_InvalidCount, T.xs_InvalidCount, T.xhd_InvalidCount, T.xha_InvalidCount, T.xhn, T.xht, T.xhm_InvalidCount⟩, kit_ct (by decide +kernel) T.xiz_InvalidCount_LookupError⟩
  · cases (show w.cl 15 = _ from T.n_InvalidLetter).symm.trans hA; exact ⟨⟨T.xga_InvalidLetter, T.xgg_InvalidLetter, T.xs_InvalidLetter, T.xhd_InvalidLetter, T.xha_InvalidLetter, T.xhn, T.xht, T.xhm_InvalidLetter⟩, kit_ct (by decide +kernel) T.xiz_InvalidLetter_LookupError⟩
  · cases (show w.cl 16 = _ from T.n_InvalidStand).symm.trans hA; exact ⟨⟨T.xga_InvalidStand, T.xgg_InvalidStand, T.xs_InvalidStand, T.xhd_InvalidStand, T.xha_InvalidStand, T.xhn, T.xht, T.xhm_InvalidStand⟩, kit_ct (by decide +kernel) T.xiz_InvalidStand_LookupError⟩
  · cases (show w.cl 17 = _ from T.n_InvalidWord).symm.trans hA; exact ⟨⟨T.xga_InvalidWord, T.xgg_InvalidWord, T.xs_InvalidWord, T.xhd_InvalidWord, T.xha_InvalidWord, T.xhn, T.xht, T.xhm_InvalidWord⟩, kit_ct (by decide +kernel) T.xiz_InvalidWord_LookupError⟩
  · cases (show w.cl 18 = _ from T.n_InvalidLine).symm.trans hA; exact ⟨⟨T.xga_InvalidLine, T.xgg_InvalidLine, T.xs_InvalidLine, T.xhd_InvalidLine, T.xha_InvalidLine, T.xhn, T.xht, T.xhm_InvalidLine⟩, kit_ct (by decide +kernel) T.xiz_InvalidLine_LookupError⟩
  · cases (show w.cl 19 = _ from T.n_InvalidArrows).symm.trans hA; exact ⟨⟨T.xga_InvalidArrows, T.xgg_InvalidArrows, T.xs_InvalidArrows, T.xhd_InvalidArrows, T.xha_InvalidArrows, T.xhn, T.xht, T.xhm_InvalidArrows⟩, kit_ct (by decide +kernel) T.xiz_InvalidArrows_LookupError⟩
  · cases (show w.cl 20 = _ from T.n_InvalidEnds).symm.trans hA; exact ⟨⟨T.xga_InvalidEnds, T.xgg_InvalidEnds, T.xs_InvalidEnds, T.xhd_InvalidEnds, T.xha_InvalidEnds, T.xhn, T.xht, T.xhm_InvalidEnds⟩, kit_ct (by decide +kernel) T.xiz_InvalidEnds_LookupError⟩
  · cases (show w.cl 21 = _ from T.n_InvalidBook).symm.trans hA; exact ⟨⟨T.xga_InvalidBook, T.xgg_InvalidBook, T.xs_InvalidBook, T.xhd_InvalidBook, T.xha_InvalidBook, T.xhn, T.xht, T.xhm_InvalidBook⟩, kit_ct (by decide +kernel) T.xiz_InvalidBook_LookupError⟩
  · cases (show w.cl 22 = _ from T.n_InvalidTexts).symm.trans hA; exact ⟨⟨T.xga_InvalidTexts, T.xgg_InvalidTexts, T.xs_InvalidTexts, T.xhd_InvalidTexts, T.xha_InvalidTexts, T.xhn, T.xht, T.xhm_InvalidTexts⟩, kit_ct (by decide +kernel) T.xiz_InvalidTexts_LookupError⟩
  · cases (show w.cl 23 = _ from T.n_InvalidDeeds).symm.trans hA; exact ⟨⟨T.xga_InvalidDeeds, T.xgg_InvalidDeeds, T.xs_InvalidDeeds, T.xhd_InvalidDeeds, T.xha_InvalidDeeds, T.xhn, T.xht, T.xhm_InvalidDeeds⟩, kit_ct (by decide +kernel) T.xiz_InvalidDeeds_LookupError⟩
  · cases (show w.cl 24 = _ from T.n_NothingToUndo).symm.trans hA; exact ⟨⟨T.xga_NothingToUndo, T.xgg_NothingToUndo, T.xs_NothingToUndo, T.xhd_NothingToUndo, T.xha_NothingToUndo, T.xhn, T.xht, T.xhm_NothingToUndo⟩, kit_ct (by decide +kernel) T.xiz_NothingToUndo_LookupError⟩
  · cases (show w.cl 25 = _ from T.n_Busy).symm.trans hA; exact ⟨⟨T.xga_Busy, T.xgg_Busy, T.xs_Busy, T.xhd_Busy, T.xha_Busy, T.xhn, T.xht, T.xhm_Busy⟩, kit_ct (by decide +kernel) T.xiz_Busy_LookupError⟩
  · cases (show w.cl 26 = _ from T.n_TooMany).symm.trans hA; exact ⟨⟨T.xga_TooMany, T.xgg_TooMany, T.xs_TooMany, T.xhd_TooMany, T.xha_TooMany, T.xhn, T.xht, T.xhm_TooMany⟩, kit_ct (by decide +kernel) T.xiz_TooMany_LookupError⟩
theorem xi_ValueError (T : Tx W w mg) : XiOk w (.type "ValueError") xit_ValueError := by
  intro p hp A hA
  unfold xit_ValueError at hp
  simp only [List.mem_cons, List.not_mem_nil, or_false] at hp
  rcases hp with rfl | rfl | rfl | rfl | rfl | rfl | rfl | rfl | rfl | rfl | rfl | rfl | rfl | rfl | rfl | rfl | rfl | rfl | rfl
  · cases (show w.cl 8 = _ from T.nn_InputError).symm.trans hA
  · cases (show w.cl 9 = _ from T.nn_StateError).symm.trans hA
  · cases (show w.cl 10 = _ from T.nn_SizeError).symm.trans hA
  · cases (show w.cl 11 = _ from T.n_NotAMachine).symm.trans hA; exact ⟨⟨T.xga_NotAMachine, T.xgg_NotAMachine, T.xs_NotAMachine, T.xhd_NotAMachine, T.xha_NotAMachine, T.xhn, T.xht, T.xhm_NotAMachine⟩, kit_ct (by decide +kernel) T.xiz_NotAMachine_ValueError⟩
  · cases (show w.cl 12 = _ from T.n_NotADesk).symm.trans hA; exact ⟨⟨T.xga_NotADesk, T.xgg_NotADesk, T.xs_NotADesk, T.xhd_NotADesk, T.xha_NotADesk, T.xhn, T.xht, T.xhm_NotADesk⟩, kit_ct (by decide +kernel) T.xiz_NotADesk_ValueError⟩
  · cases (show w.cl 13 = _ from T.n_InvalidText).symm.trans hA; exact ⟨⟨T.xga_InvalidText, T.xgg_InvalidText, T.xs_InvalidText, T.xhd_InvalidText, T.xha_InvalidText, T.xhn, T.xht, T.xhm_InvalidText⟩, kit_ct (by decide +kernel) T.xiz_InvalidText_ValueError⟩
  · cases (show w.cl 14 = _ from T.n_InvalidCount).symm.trans hA; exact ⟨⟨T.xga_InvalidCount, T.xgg_InvalidCount, T.xs_InvalidCount, T.xhd_InvalidCount, T.xha_InvalidCount, T.xhn, T.xht, T.xhm_InvalidCount⟩, kit_ct (by decide +kernel) T.xiz_InvalidCount_ValueError⟩
  · cases (show w.cl 15 = _ from T.n_InvalidLetter).symm.trans hA; exact ⟨⟨T.xga_InvalidLetter, T.xgg_InvalidLetter, T.xs_InvalidLetter, T.xhd_InvalidLetter, T.xha_InvalidLetter, T.xhn, T.xht, T.xhm_InvalidLetter⟩, kit_ct (by decide +kernel) T.xiz_InvalidLetter_ValueError⟩
  · cases (show w.cl 16 = _ from T.n_InvalidStand).symm.trans hA; exact ⟨⟨T.xga_InvalidStand, T.xgg_InvalidStand, T.xs_InvalidStand, T.xhd_InvalidStand, T.xha_InvalidStand, T.xhn, T.xht, T.xhm_InvalidStand⟩, kit_ct (by decide +kernel) T.xiz_InvalidStand_ValueError⟩
  · cases (show w.cl 17 = _ from T.n_InvalidWord).symm.trans hA; exact ⟨⟨T.xga_InvalidWord, T.xgg_InvalidWord, T.xs_InvalidWord, T.xhd_InvalidWord, T.xha_InvalidWord, T.xhn, T.xht, T.xhm_InvalidWord⟩, kit_ct (by decide +kernel) T.xiz_InvalidWord_ValueError⟩
  · cases (show w.cl 18 = _ from T.n_InvalidLine).symm.trans hA; exact ⟨⟨T.xga_InvalidLine, T.xgg_InvalidLine, T.xs_InvalidLine, T.xhd_InvalidLine, T.xha_InvalidLine, T.xhn, T.xht, T.xhm_InvalidLine⟩, kit_ct (by decide +kernel) T.xiz_InvalidLine_ValueError⟩
  · cases (show w.cl 19 = _ from T.n_InvalidArrows).symm.trans hA; exact ⟨⟨T.xga_InvalidArrows, T.xgg_InvalidArrows, T.xs_InvalidArrows, T.xhd_InvalidArrows, T.xha_InvalidArrows, T.xhn, T.xht, T.xhm_InvalidArrows⟩, kit_ct (by decide +kernel) T.xiz_InvalidArrows_ValueError⟩
  · cases (show w.cl 20 = _ from T.n_InvalidEnds).symm.trans hA; exact ⟨⟨T.xga_InvalidEnds, T.xgg_InvalidEnds, T.xs_InvalidEnds, T.xhd_InvalidEnds, T.xha_InvalidEnds, T.xhn, T.xht, T.xhm_InvalidEnds⟩, kit_ct (by decide +kernel) T.xiz_InvalidEnds_ValueError⟩
  · cases (show w.cl 21 = _ from T.n_InvalidBook).symm.trans hA; exact ⟨⟨T.xga_InvalidBook, T.xgg_InvalidBook, T.xs_InvalidBook, T.xhd_InvalidBook, T.xha_InvalidBook, T.xhn, T.xht, T.xhm_InvalidBook⟩, kit_ct (by decide +kernel) T.xiz_InvalidBook_ValueError⟩
  · cases (show w.cl 22 = _ from T.n_InvalidTexts).symm.trans hA; exact ⟨⟨T.xga_InvalidTexts, T.xgg_InvalidTexts, T.xs_InvalidTexts, T.xhd_InvalidTexts, T.xha_InvalidTexts, T.xhn, T.xht, T.xhm_InvalidTexts⟩, kit_ct (by decide +kernel) T.xiz_InvalidTexts_ValueError⟩
  · cases (show w.cl 23 = _ from T.n_InvalidDeeds).symm.trans hA; exact ⟨⟨T.xga_InvalidDeeds, T.xgg_InvalidDeeds, T.xs_InvalidDeeds, T.xhd_InvalidDeeds, T.xha_InvalidDeeds, T.xhn, T.xht, T.xhm_InvalidDeeds⟩, kit_ct (by decide +kernel) T.xiz_InvalidDeeds_ValueError⟩
  · cases (show w.cl 24 = _ from T.n_NothingToUndo).symm.trans hA; exact ⟨⟨T.xga_NothingToUndo, T.xgg_NothingToUndo, T.xs_NothingToUndo, T.xhd_NothingToUndo, T.xha_NothingToUndo, T.xhn, T.xht, T.xhm_NothingToUndo⟩, kit_ct (by decide +kernel) T.xiz_NothingToUndo_ValueError⟩
  · cases (show w.cl 25 = _ from T.n_Busy).symm.trans hA; exact ⟨⟨T.xga_Busy, T.xgg_Busy, T.xs_Busy, T.xhd_Busy, T.xha_Busy, T.xhn, T.xht, T.xhm_Busy⟩, kit_ct (by decide +kernel) T.xiz_Busy_ValueError⟩
  · cases (show w.cl 26 = _ from T.n_TooMany).symm.trans hA; exact ⟨⟨T.xga_TooMany, T.xgg_TooMany, T.xs_TooMany, T.xhd_TooMany, T.xha_TooMany, T.xhn, T.xht, T.xhm_TooMany⟩, kit_ct (by decide +kernel) T.xiz_TooMany_ValueError⟩
theorem xi_InvalidText (T : Tx W w mg) : XiOk w (.ref T.c_InvalidText) xit_InvalidText := by
  intro p hp A hA
  unfold xit_InvalidText at hp
  simp only [List.mem_cons, List.not_mem_nil, or_false] at hp
  rcases hp with rfl | rfl | rfl | rfl | rfl | rfl | rfl | rfl | rfl | rfl | rfl | rfl | rfl | rfl | rfl | rfl | rfl | rfl | rfl
  · cases (show w.cl 8 = _ from T.nn_InputError).symm.trans hA
  · cases (show w.cl 9 = _ from T.nn_StateError).symm.trans hA
  · cases (show w.cl 10 = _ from T.nn_SizeError).symm.trans hA
  · cases (show w.cl 11 = _ from T.n_NotAMachine).symm.trans hA; exact ⟨⟨T.xga_NotAMachine, T.xgg_NotAMachine, T.xs_NotAMachine, T.xhd_NotAMachine, T.xha_NotAMachine, T.xhn, T.xht, T.xhm_NotAMachine⟩, T.xiz_NotAMachine_InvalidText⟩
  · cases (show w.cl 12 = _ from T.n_NotADesk).symm.trans hA; exact ⟨⟨T.xga_NotADesk, T.xgg_NotADesk, T.xs_NotADesk, T.xhd_NotADesk, T.xha_NotADesk, T.xhn, T.xht, T.xhm_NotADesk⟩, T.xiz_NotADesk_InvalidText⟩
  · cases (show w.cl 13 = _ from T.n_InvalidText).symm.trans hA; exact ⟨⟨T.xga_InvalidText, T.xgg_InvalidText, T.xs_InvalidText, T.xhd_InvalidText, T.xha_InvalidText, T.xhn, T.xht, T.xhm_InvalidText⟩, kit_cc⟩
  · cases (show w.cl 14 = _ from T.n_InvalidCount).symm.trans hA; exact ⟨⟨T.xga_InvalidCount, T.xgg_InvalidCount, T.xs_InvalidCount, T.xhd_InvalidCount, T.xha_InvalidCount, T.xhn, T.xht, T.xhm_InvalidCount⟩, T.xiz_InvalidCount_InvalidText⟩
  · cases (show w.cl 15 = _ from T.n_InvalidLetter).symm.trans hA; exact ⟨⟨T.xga_InvalidLetter, T.xgg_InvalidLetter, T.xs_InvalidLetter, T.xhd_InvalidLetter, T.xha_InvalidLetter, T.xhn, T.xht, T.xhm_InvalidLetter⟩, T.xiz_InvalidLetter_InvalidText⟩
  · cases (show w.cl 16 = _ from T.n_InvalidStand).symm.trans hA; exact ⟨⟨T.xga_InvalidStand, T.xgg_InvalidStand, T.xs_InvalidStand, T.xhd_InvalidStand, T.xha_InvalidStand, T.xhn, T.xht, T.xhm_InvalidStand⟩, T.xiz_InvalidStand_InvalidText⟩
  · cases (show w.cl 17 = _ from T.n_InvalidWord).symm.trans hA; exact ⟨⟨T.xga_InvalidWord, T.xgg_InvalidWord, T.xs_InvalidWord, T.xhd_InvalidWord, T.xha_InvalidWord, T.xhn, T.xht, T.xhm_InvalidWord⟩, T.xiz_InvalidWord_InvalidText⟩
  · cases (show w.cl 18 = _ from T.n_InvalidLine).symm.trans hA; exact ⟨⟨T.xga_InvalidLine, T.xgg_InvalidLine, T.xs_InvalidLine, T.xhd_InvalidLine, T.xha_InvalidLine, T.xhn, T.xht, T.xhm_InvalidLine⟩, T.xiz_InvalidLine_InvalidText⟩
  · cases (show w.cl 19 = _ from T.n_InvalidArrows).symm.trans hA; exact ⟨⟨T.xga_InvalidArrows, T.xgg_InvalidArrows, T.xs_InvalidArrows, T.xhd_InvalidArrows, T.xha_InvalidArrows, T.xhn, T.xht, T.xhm_InvalidArrows⟩, T.xiz_InvalidArrows_InvalidText⟩
  · cases (show w.cl 20 = _ from T.n_InvalidEnds).symm.trans hA; exact ⟨⟨T.xga_InvalidEnds, T.xgg_InvalidEnds, T.xs_InvalidEnds, T.xhd_InvalidEnds, T.xha_InvalidEnds, T.xhn, T.xht, T.xhm_InvalidEnds⟩, T.xiz_InvalidEnds_InvalidText⟩
  · cases (show w.cl 21 = _ from T.n_InvalidBook).symm.trans hA; exact ⟨⟨T.xga_InvalidBook, T.xgg_InvalidBook, T.xs_InvalidBook, T.xhd_InvalidBook, T.xha_InvalidBook, T.xhn, T.xht, T.xhm_InvalidBook⟩, T.xiz_InvalidBook_InvalidText⟩
  · cases (show w.cl 22 = _ from T.n_InvalidTexts).symm.trans hA; exact ⟨⟨T.xga_InvalidTexts, T.xgg_InvalidTexts, T.xs_InvalidTexts, T.xhd_InvalidTexts, T.xha_InvalidTexts, T.xhn, T.xht, T.xhm_InvalidTexts⟩, T.xiz_InvalidTexts_InvalidText⟩
  · cases (show w.cl 23 = _ from T.n_InvalidDeeds).symm.trans hA; exact ⟨⟨T.xga_InvalidDeeds, T.xgg_InvalidDeeds, T.xs_InvalidDeeds, T.xhd_InvalidDeeds, T.xha_InvalidDeeds, T.xhn, T.xht, T.xhm_InvalidDeeds⟩, T.xiz_InvalidDeeds_InvalidText⟩
  · cases (show w.cl 24 = _ from T.n_NothingToUndo).symm.trans hA; exact ⟨⟨T.xga_NothingToUndo, T.xgg_NothingToUndo, T.xs_NothingToUndo, T.xhd_NothingToUndo, T.xha_NothingToUndo, T.xhn, T.xht, T.xhm_NothingToUndo⟩, T.xiz_NothingToUndo_InvalidText⟩
  · cases (show w.cl 25 = _ from T.n_Busy).symm.trans hA; exact ⟨⟨T.xga_Busy, T.xgg_Busy, T.xs_Busy, T.xhd_Busy, T.xha_Busy, T.xhn, T.xht, T.xhm_Busy⟩, T.xiz_Busy_InvalidText⟩
  · cases (show w.cl 26 = _ from T.n_TooMany).symm.trans hA; exact ⟨⟨T.xga_TooMany, T.xgg_TooMany, T.xs_TooMany, T.xhd_TooMany, T.xha_TooMany, T.xhn, T.xht, T.xhm_TooMany⟩, T.xiz_TooMany_InvalidText⟩
theorem xi_NotADesk (T : Tx W w mg) : XiOk w (.ref T.c_NotADesk) xit_NotADesk := by
  intro p hp A hA
  unfold xit_NotADesk at hp
  simp only [List.mem_cons, List.not_mem_nil, or_false] at hp
  rcases hp with rfl | rfl | rfl | rfl | rfl | rfl | rfl | rfl | rfl | rfl | rfl | rfl | rfl | rfl | rfl | rfl | rfl | rfl | rfl
  · cases (show w.cl 8 = _ from T.nn_InputError).symm.trans hA
  · cases (show w.cl 9 = _ from T.nn_StateError).symm.trans hA
  · cases (show w.cl 10 = _ from T.nn_SizeError).symm.trans hA
  · cases (show w.cl 11 = _ from T.n_NotAMachine).symm.trans hA; exact ⟨⟨T.xga_NotAMachine, T.xgg_NotAMachine, T.xs_NotAMachine, T.xhd_NotAMachine, T.xha_NotAMachine, T.xhn, T.xht, T.xhm_NotAMachine⟩, T.xiz_NotAMachine_NotADesk⟩
  · cases (show w.cl 12 = _ from T.n_NotADesk).symm.trans hA; exact ⟨⟨T.xga_NotADesk, T.xgg_NotADesk, T.xs_NotADesk, T.xhd_NotADesk, T.xha_NotADesk, T.xhn, T.xht, T.xhm_NotADesk⟩, kit_cc⟩
  · cases (show w.cl 13 = _ from T.n_InvalidText).symm.trans hA; exact ⟨⟨T.xga_InvalidText, T.xgg_InvalidText, T.xs_InvalidText, T.xhd_InvalidText, T.xha_InvalidText, T.xhn, T.xht, T.xhm_InvalidText⟩, T.xiz_InvalidText_NotADesk⟩
  · cases (show w.cl 14 = _ from T.n_InvalidCount).symm.trans hA; exact ⟨⟨T.xga_InvalidCount, T.xgg_InvalidCount, T.xs_InvalidCount, T.xhd_InvalidCount, T.xha_InvalidCount, T.xhn, T.xht, T.xhm_InvalidCount⟩, T.xiz_InvalidCount_NotADesk⟩
  · cases (show w.cl 15 = _ from T.n_InvalidLetter).symm.trans hA; exact ⟨⟨T.xga_InvalidLetter, T.xgg_InvalidLetter, T.xs_InvalidLetter, T.xhd_InvalidLetter, T.xha_InvalidLetter, T.xhn, T.xht, T.xhm_InvalidLetter⟩, T.xiz_InvalidLetter_NotADesk⟩
  · cases (show w.cl 16 = _ from T.n_InvalidStand).symm.trans hA; exact ⟨⟨T.xga_InvalidStand, T.xgg_InvalidStand, T.xs_InvalidStand, T.xhd_InvalidStand, T.xha_InvalidStand, T.xhn, T.xht, T.xhm_InvalidStand⟩, T.xiz_InvalidStand_NotADesk⟩
  · cases (show w.cl 17 = _ from T.n_InvalidWord).symm.trans hA; exact ⟨⟨T.xga_InvalidWord, T.xgg_InvalidWord, T.xs_InvalidWord, T.xhd_InvalidWord, T.xha_InvalidWord, T.xhn, T.xht, T.xhm_InvalidWord⟩, T.xiz_InvalidWord_NotADesk⟩
  · cases (show w.cl 18 = _ from T.n_InvalidLine).symm.trans hA; exact ⟨⟨T.xga_InvalidLine, T.xgg_InvalidLine, T.xs_InvalidLine, T.xhd_InvalidLine, T.xha_InvalidLine, T.xhn, T.xht, T.xhm_InvalidLine⟩, T.xiz_InvalidLine_NotADesk⟩
  · cases (show w.cl 19 = _ from T.n_InvalidArrows).symm.trans hA; exact ⟨⟨T.xga_InvalidArrows, T.xgg_InvalidArrows, T.xs_InvalidArrows, T.xhd_InvalidArrows, T.xha_InvalidArrows, T.xhn, T.xht, T.xhm_InvalidArrows⟩, T.xiz_InvalidArrows_NotADesk⟩
  · cases (show w.cl 20 = _ from T.n_InvalidEnds).symm.trans hA; exact ⟨⟨T.xga_InvalidEnds, T.xgg_InvalidEnds, T.xs_InvalidEnds, T.xhd_InvalidEnds, T.xha_InvalidEnds, T.xhn, T.xht, T.xhm_InvalidEnds⟩, T.xiz_InvalidEnds_NotADesk⟩
  · cases (show w.cl 21 = _ from T.n_InvalidBook).symm.trans hA; exact ⟨⟨T.xga_InvalidBook, T.xgg_InvalidBook, T.xs_InvalidBook, T.xhd_InvalidBook, T.xha_InvalidBook, T.xhn, T.xht, T.xhm_InvalidBook⟩, T.xiz_InvalidBook_NotADesk⟩
  · cases (show w.cl 22 = _ from T.n_InvalidTexts).symm.trans hA; exact ⟨⟨T.xga_InvalidTexts, T.xgg_InvalidTexts, T.xs_InvalidTexts, T.xhd_InvalidTexts, T.xha_InvalidTexts, T.xhn, T.xht, T.xhm_InvalidTexts⟩, T.xiz_InvalidTexts_NotADesk⟩
  · cases (show w.cl 23 = _ from T.n_InvalidDeeds).symm.trans hA; exact ⟨⟨T.xga_InvalidDeeds, T.xgg_InvalidDeeds, T.xs_InvalidDeeds, T.xhd_InvalidDeeds, T.xha_InvalidDeeds, T.xhn, T.xht, T.xhm_InvalidDeeds⟩, T.xiz_InvalidDeeds_NotADesk⟩
  · cases (show w.cl 24 = _ from T.n_NothingToUndo).symm.trans hA; exact ⟨⟨T.xga_NothingToUndo, T.xgg_NothingToUndo, T.xs_NothingToUndo, T.xhd_NothingToUndo, T.xha_NothingToUndo, T.xhn, T.xht, T.xhm_NothingToUndo⟩, T.xiz_NothingToUndo_NotADesk⟩
  · cases (show w.cl 25 = _ from T.n_Busy).symm.trans hA; exact ⟨⟨T.xga_Busy, T.xgg_Busy, T.xs_Busy, T.xhd_Busy, T.xha_Busy, T.xhn, T.xht, T.xhm_Busy⟩, T.xiz_Busy_NotADesk⟩
  · cases (show w.cl 26 = _ from T.n_TooMany).symm.trans hA; exact ⟨⟨T.xga_TooMany, T.xgg_TooMany, T.xs_TooMany, T.xhd_TooMany, T.xha_TooMany, T.xhn, T.xht, T.xhm_TooMany⟩, T.xiz_TooMany_NotADesk⟩
theorem xi_NotAMachine (T : Tx W w mg) : XiOk w (.ref T.c_NotAMachine) xit_NotAMachine := by
  intro p hp A hA
  unfold xit_NotAMachine at hp
  simp only [List.mem_cons, List.not_mem_nil, or_false] at hp
  rcases hp with rfl | rfl | rfl | rfl | rfl | rfl | rfl | rfl | rfl | rfl | rfl | rfl | rfl | rfl | rfl | rfl | rfl | rfl | rfl
  · cases (show w.cl 8 = _ from T.nn_InputError).symm.trans hA
  · cases (show w.cl 9 = _ from T.nn_StateError).symm.trans hA
  · cases (show w.cl 10 = _ from T.nn_SizeError).symm.trans hA
  · cases (show w.cl 11 = _ from T.n_NotAMachine).symm.trans hA; exact ⟨⟨T.xga_NotAMachine, T.xgg_NotAMachine, T.xs_NotAMachine, T.xhd_NotAMachine, T.xha_NotAMachine, T.xhn, T.xht, T.xhm_NotAMachine⟩, kit_cc⟩
  · cases (show w.cl 12 = _ from T.n_NotADesk).symm.trans hA; exact ⟨⟨T.xga_NotADesk, T.xgg_NotADesk, T.xs_NotADesk, T.xhd_NotADesk, T.xha_NotADesk, T.xhn, T.xht, T.xhm_NotADesk⟩, T.xiz_NotADesk_NotAMachine⟩
  · cases (show w.cl 13 = _ from T.n_InvalidText).symm.trans hA; exact ⟨⟨T.xga_InvalidText, T.xgg_InvalidText, T.xs_InvalidText, T.xhd_InvalidText, T.xha_InvalidText, T.xhn, T.xht, T.xhm_InvalidText⟩, T.xiz_InvalidText_NotAMachine⟩
  · cases (show w.cl 14 = _ from T.n_InvalidCount).symm.trans hA; exact ⟨⟨T.xga_InvalidCount, T.xgg_InvalidCount, T.xs_InvalidCount, T.xhd_InvalidCount, T.xha_InvalidCount, T.xhn, T.xht, T.xhm_InvalidCount⟩, T.xiz_InvalidCount_NotAMachine⟩
  · cases (show w.cl 15 = _ from T.n_InvalidLetter).symm.trans hA; exact ⟨⟨T.xga_InvalidLetter, T.xgg_InvalidLetter, T.xs_InvalidLetter, T.xhd_InvalidLetter, T.xha_InvalidLetter, T.xhn, T.xht, T.xhm_InvalidLetter⟩, T.xiz_InvalidLetter_NotAMachine⟩
  · cases (show w.cl 16 = _ from T.n_InvalidStand).symm.trans hA; exact ⟨⟨T.xga_InvalidStand, T.xgg_InvalidStand, T.xs_InvalidStand, T.xhd_InvalidStand, T.xha_InvalidStand, T.xhn, T.xht, T.xhm_InvalidStand⟩, T.xiz_InvalidStand_NotAMachine⟩
  · cases (show w.cl 17 = _ from T.n_InvalidWord).symm.trans hA; exact ⟨⟨T.xga_InvalidWord, T.xgg_InvalidWord, T.xs_InvalidWord, T.xhd_InvalidWord, T.xha_InvalidWord, T.xhn, T.xht, T.xhm_InvalidWord⟩, T.xiz_InvalidWord_NotAMachine⟩
  · cases (show w.cl 18 = _ from T.n_InvalidLine).symm.trans hA; exact ⟨⟨T.xga_InvalidLine, T.xgg_InvalidLine, T.xs_InvalidLine, T.xhd_InvalidLine, T.xha_InvalidLine, T.xhn, T.xht, T.xhm_InvalidLine⟩, T.xiz_InvalidLine_NotAMachine⟩
  · cases (show w.cl 19 = _ from T.n_InvalidArrows).symm.trans hA; exact ⟨⟨T.xga_InvalidArrows, T.xgg_InvalidArrows, T.xs_InvalidArrows, T.xhd_InvalidArrows, T.xha_InvalidArrows, T.xhn, T.xht, T.xhm_InvalidArrows⟩, T.xiz_InvalidArrows_NotAMachine⟩
  · cases (show w.cl 20 = _ from T.n_InvalidEnds).symm.trans hA; exact ⟨⟨T.xga_InvalidEnds, T.xgg_InvalidEnds, T.xs_InvalidEnds, T.xhd_InvalidEnds, T.xha_InvalidEnds, T.xhn, T.xht, T.xhm_InvalidEnds⟩, T.xiz_InvalidEnds_NotAMachine⟩
  · cases (show w.cl 21 = _ from T.n_InvalidBook).symm.trans hA; exact ⟨⟨T.xga_InvalidBook, T.xgg_InvalidBook, T.xs_InvalidBook, T.xhd_InvalidBook, T.xha_InvalidBook, T.xhn, T.xht, T.xhm_InvalidBook⟩, T.xiz_InvalidBook_NotAMachine⟩
  · cases (show w.cl 22 = _ from T.n_InvalidTexts).symm.trans hA; exact ⟨⟨T.xga_InvalidTexts, T.xgg_InvalidTexts, T.xs_InvalidTexts, T.xhd_InvalidTexts, T.xha_InvalidTexts, T.xhn, T.xht, T.xhm_InvalidTexts⟩, T.xiz_InvalidTexts_NotAMachine⟩
  · cases (show w.cl 23 = _ from T.n_InvalidDeeds).symm.trans hA; exact ⟨⟨T.xga_InvalidDeeds, T.xgg_InvalidDeeds, T.xs_InvalidDeeds, T.xhd_InvalidDeeds, T.xha_InvalidDeeds, T.xhn, T.xht, T.xhm_InvalidDeeds⟩, T.xiz_InvalidDeeds_NotAMachine⟩
  · cases (show w.cl 24 = _ from T.n_NothingToUndo).symm.trans hA; exact ⟨⟨T.xga_NothingToUndo, T.xgg_NothingToUndo, T.xs_NothingToUndo, T.xhd_NothingToUndo, T.xha_NothingToUndo, T.xhn, T.xht, T.xhm_NothingToUndo⟩, T.xiz_NothingToUndo_NotAMachine⟩
  · cases (show w.cl 25 = _ from T.n_Busy).symm.trans hA; exact ⟨⟨T.xga_Busy, T.xgg_Busy, T.xs_Busy, T.xhd_Busy, T.xha_Busy, T.xhn, T.xht, T.xhm_Busy⟩, T.xiz_Busy_NotAMachine⟩
  · cases (show w.cl 26 = _ from T.n_TooMany).symm.trans hA; exact ⟨⟨T.xga_TooMany, T.xgg_TooMany, T.xs_TooMany, T.xhd_TooMany, T.xha_TooMany, T.xhn, T.xht, T.xhm_TooMany⟩, T.xiz_TooMany_NotAMachine⟩
theorem xi_InvalidLetter (T : Tx W w mg) : XiOk w (.ref T.c_InvalidLetter) xit_InvalidLetter := by
  intro p hp A hA
  unfold xit_InvalidLetter at hp
  simp only [List.mem_cons, List.not_mem_nil, or_false] at hp
  rcases hp with rfl | rfl | rfl | rfl | rfl | rfl | rfl | rfl | rfl | rfl | rfl | rfl | rfl | rfl | rfl | rfl | rfl | rfl | rfl
  · cases (show w.cl 8 = _ from T.nn_InputError).symm.trans hA
  · cases (show w.cl 9 = _ from T.nn_StateError).symm.trans hA
  · cases (show w.cl 10 = _ from T.nn_SizeError).symm.trans hA
  · cases (show w.cl 11 = _ from T.n_NotAMachine).symm.trans hA; exact ⟨⟨T.xga_NotAMachine, T.xgg_NotAMachine, T.xs_NotAMachine, T.xhd_NotAMachine, T.xha_NotAMachine, T.xhn, T.xht, T.xhm_NotAMachine⟩, T.xiz_NotAMachine_InvalidLetter⟩
  · cases (show w.cl 12 = _ from T.n_NotADesk).symm.trans hA; exact ⟨⟨T.xga_NotADesk, T.xgg_NotADesk, T.xs_NotADesk, T.xhd_NotADesk, T.xha_NotADesk, T.xhn, T.xht, T.xhm_NotADesk⟩, T.xiz_NotADesk_InvalidLetter⟩
  · cases (show w.cl 13 = _ from T.n_InvalidText).symm.trans hA; exact ⟨⟨T.xga_InvalidText, T.xgg_InvalidText, T.xs_InvalidText, T.xhd_InvalidText, T.xha_InvalidText, T.xhn, T.xht, T.xhm_InvalidText⟩, T.xiz_InvalidText_InvalidLetter⟩
  · cases (show w.cl 14 = _ from T.n_InvalidCount).symm.trans hA; exact ⟨⟨T.xga_InvalidCount, T.xgg_InvalidCount, T.xs_InvalidCount, T.xhd_InvalidCount, T.xha_InvalidCount, T.xhn, T.xht, T.xhm_InvalidCount⟩, T.xiz_InvalidCount_InvalidLetter⟩
  · cases (show w.cl 15 = _ from T.n_InvalidLetter).symm.trans hA; exact ⟨⟨T.xga_InvalidLetter, T.xgg_InvalidLetter, T.xs_InvalidLetter, T.xhd_InvalidLetter, T.xha_InvalidLetter, T.xhn, T.xht, T.xhm_InvalidLetter⟩, kit_cc⟩
  · cases (show w.cl 16 = _ from T.n_InvalidStand).symm.trans hA; exact ⟨⟨T.xga_InvalidStand, T.xgg_InvalidStand, T.xs_InvalidStand, T.xhd_InvalidStand, T.xha_InvalidStand, T.xhn, T.xht, T.xhm_InvalidStand⟩, T.xiz_InvalidStand_InvalidLetter⟩
  · cases (show w.cl 17 = _ from T.n_InvalidWord).symm.trans hA; exact ⟨⟨T.xga_InvalidWord, T.xgg_InvalidWord, T.xs_InvalidWord, T.xhd_InvalidWord, T.xha_InvalidWord, T.xhn, T.xht, T.xhm_InvalidWord⟩, T.xiz_InvalidWord_InvalidLetter⟩
  · cases (show w.cl 18 = _ from T.n_InvalidLine).symm.trans hA; exact ⟨⟨T.xga_InvalidLine, T.xgg_InvalidLine, T.xs_InvalidLine, T.xhd_InvalidLine, T.xha_InvalidLine, T.xhn, T.xht, T.xhm_InvalidLine⟩, T.xiz_InvalidLine_InvalidLetter⟩
  · cases (show w.cl 19 = _ from T.n_InvalidArrows).symm.trans hA; exact ⟨⟨T.xga_InvalidArrows, T.xgg_InvalidArrows, T.xs_InvalidArrows, T.xhd_InvalidArrows, T.xha_InvalidArrows, T.xhn, T.xht, T.xhm_InvalidArrows⟩, T.xiz_InvalidArrows_InvalidLetter⟩
  · cases (show w.cl 20 = _ from T.n_InvalidEnds).symm.trans hA; exact ⟨⟨T.xga_InvalidEnds, T.xgg_InvalidEnds, T.xs_InvalidEnds, T.xhd_InvalidEnds, T.xha_InvalidEnds, T.xhn, T.xht, T.xhm_InvalidEnds⟩, T.xiz_InvalidEnds_InvalidLetter⟩
  · cases (show w.cl 21 = _ from T.n_InvalidBook).symm.trans hA; exact ⟨⟨T.xga_InvalidBook, T.xgg_InvalidBook, T.xs_InvalidBook, T.xhd_InvalidBook, T.xha_InvalidBook, T.xhn, T.xht, T.xhm_InvalidBook⟩, T.xiz_InvalidBook_InvalidLetter⟩
  · cases (show w.cl 22 = _ from T.n_InvalidTexts).symm.trans hA; exact ⟨⟨T.xga_InvalidTexts, T.xgg_InvalidTexts, T.xs_InvalidTexts, T.xhd_InvalidTexts, T.xha_InvalidTexts, T.xhn, T.xht, T.xhm_InvalidTexts⟩, T.xiz_InvalidTexts_InvalidLetter⟩
  · cases (show w.cl 23 = _ from T.n_InvalidDeeds).symm.trans hA; exact ⟨⟨T.xga_InvalidDeeds, T.xgg_InvalidDeeds, T.xs_InvalidDeeds, T.xhd_InvalidDeeds, T.xha_InvalidDeeds, T.xhn, T.xht, T.xhm_InvalidDeeds⟩, T.xiz_InvalidDeeds_InvalidLetter⟩
  · cases (show w.cl 24 = _ from T.n_NothingToUndo).symm.trans hA; exact ⟨⟨T.xga_NothingToUndo, T.xgg_NothingToUndo, T.xs_NothingToUndo, T.xhd_NothingToUndo, T.xha_NothingToUndo, T.xhn, T.xht, T.xhm_NothingToUndo⟩, T.xiz_NothingToUndo_InvalidLetter⟩
  · cases (show w.cl 25 = _ from T.n_Busy).symm.trans hA; exact ⟨⟨T.xga_Busy, T.xgg_Busy, T.xs_Busy, T.xhd_Busy, T.xha_Busy, T.xhn, T.xht, T.xhm_Busy⟩, T.xiz_Busy_InvalidLetter⟩
  · cases (show w.cl 26 = _ from T.n_TooMany).symm.trans hA; exact ⟨⟨T.xga_TooMany, T.xgg_TooMany, T.xs_TooMany, T.xhd_TooMany, T.xha_TooMany, T.xhn, T.xht, T.xhm_TooMany⟩, T.xiz_TooMany_InvalidLetter⟩
theorem xi_InvalidCount (T : Tx W w mg) : XiOk w (.ref T.c_InvalidCount) xit_InvalidCount := by
  intro p hp A hA
  unfold xit_InvalidCount at hp
  simp only [List.mem_cons, List.not_mem_nil, or_false] at hp
  rcases hp with rfl | rfl | rfl | rfl | rfl | rfl | rfl | rfl | rfl | rfl | rfl | rfl | rfl | rfl | rfl | rfl | rfl | rfl | rfl
  · cases (show w.cl 8 = _ from T.nn_InputError).symm.trans hA
  · cases (show w.cl 9 = _ from T.nn_StateError).symm.trans hA
  · cases (show w.cl 10 = _ from T.nn_SizeError).symm.trans hA
  · cases (show w.cl 11 = _ from T.n_NotAMachine).symm.trans hA; exact ⟨⟨T.xga_NotAMachine, T.xgg_NotAMachine, T.xs_NotAMachine, T.xhd_NotAMachine, T.xha_NotAMachine, T.xhn, T.xht, T.xhm_NotAMachine⟩, T.xiz_NotAMachine_InvalidCount⟩
  · cases (show w.cl 12 = _ from T.n_NotADesk).symm.trans hA; exact ⟨⟨T.xga_NotADesk, T.xgg_NotADesk, T.xs_NotADesk, T.xhd_NotADesk, T.xha_NotADesk, T.xhn, T.xht, T.xhm_NotADesk⟩, T.xiz_NotADesk_InvalidCount⟩
  · cases (show w.cl 13 = _ from T.n_InvalidText).symm.trans hA; exact ⟨⟨T.xga_InvalidText, T.xgg_InvalidText, T.xs_InvalidText, T.xhd_InvalidText, T.xha_InvalidText, T.xhn, T.xht, T.xhm_InvalidText⟩, T.xiz_InvalidText_InvalidCount⟩
  · cases (show w.cl 14 = _ from T.n_InvalidCount).symm.trans hA; exact ⟨⟨T.xga_InvalidCount, T.xgg_InvalidCount, T.xs_InvalidCount, T.xhd_InvalidCount, T.xha_InvalidCount, T.xhn, T.xht, T.xhm_InvalidCount⟩, kit_cc⟩
  · cases (show w.cl 15 = _ from T.n_InvalidLetter).symm.trans hA; exact ⟨⟨T.xga_InvalidLetter, T.xgg_InvalidLetter, T.xs_InvalidLetter, T.xhd_InvalidLetter, T.xha_InvalidLetter, T.xhn, T.xht, T.xhm_InvalidLetter⟩, T.xiz_InvalidLetter_InvalidCount⟩
  · cases (show w.cl 16 = _ from T.n_InvalidStand).symm.trans hA; exact ⟨⟨T.xga_InvalidStand, T.xgg_InvalidStand, T.xs_InvalidStand, T.xhd_InvalidStand, T.xha_InvalidStand, T.xhn, T.xht, T.xhm_InvalidStand⟩, T.xiz_InvalidStand_InvalidCount⟩
  · cases (show w.cl 17 = _ from T.n_InvalidWord).symm.trans hA; exact ⟨⟨T.xga_InvalidWord, T.xgg_InvalidWord, T.xs_InvalidWord, T.xhd_InvalidWord, T.xha_InvalidWord, T.xhn, T.xht, T.xhm_InvalidWord⟩, T.xiz_InvalidWord_InvalidCount⟩
  · cases (show w.cl 18 = _ from T.n_InvalidLine).symm.trans hA; exact ⟨⟨T.xga_InvalidLine, T.xgg_InvalidLine, T.xs_InvalidLine, T.xhd_InvalidLine, T.xha_InvalidLine, T.xhn, T.xht, T.xhm_InvalidLine⟩, T.xiz_InvalidLine_InvalidCount⟩
  · cases (show w.cl 19 = _ from T.n_InvalidArrows).symm.trans hA; exact ⟨⟨T.xga_InvalidArrows, T.xgg_InvalidArrows, T.xs_InvalidArrows, T.xhd_InvalidArrows, T.xha_InvalidArrows, T.xhn, T.xht, T.xhm_InvalidArrows⟩, T.xiz_InvalidArrows_InvalidCount⟩
  · cases (show w.cl 20 = _ from T.n_InvalidEnds).symm.trans hA; exact ⟨⟨T.xga_InvalidEnds, T.xgg_InvalidEnds, T.xs_InvalidEnds, T.xhd_InvalidEnds, T.xha_InvalidEnds, T.xhn, T.xht, T.xhm_InvalidEnds⟩, T.xiz_InvalidEnds_InvalidCount⟩
  · cases (show w.cl 21 = _ from T.n_InvalidBook).symm.trans hA; exact ⟨⟨T.xga_InvalidBook, T.xgg_InvalidBook, T.xs_InvalidBook, T.xhd_InvalidBook, T.xha_InvalidBook, T.xhn, T.xht, T.xhm_InvalidBook⟩, T.xiz_InvalidBook_InvalidCount⟩
  · cases (show w.cl 22 = _ from T.n_InvalidTexts).symm.trans hA; exact ⟨⟨T.xga_InvalidTexts, T.xgg_InvalidTexts, T.xs_InvalidTexts, T.xhd_InvalidTexts, T.xha_InvalidTexts, T.xhn, T.xht, T.xhm_InvalidTexts⟩, T.xiz_InvalidTexts_InvalidCount⟩
  · cases (show w.cl 23 = _ from T.n_InvalidDeeds).symm.trans hA; exact ⟨⟨T.xga_InvalidDeeds, T.xgg_InvalidDeeds, T.xs_InvalidDeeds, T.xhd_InvalidDeeds, T.xha_InvalidDeeds, T.xhn, T.xht, T.xhm_InvalidDeeds⟩, T.xiz_InvalidDeeds_InvalidCount⟩
  · cases (show w.cl 24 = _ from T.n_NothingToUndo).symm.trans hA; exact ⟨⟨T.xga_NothingToUndo, T.xgg_NothingToUndo, T.xs_NothingToUndo, T.xhd_NothingToUndo, T.xha_NothingToUndo, T.xhn, T.xht, T.xhm_NothingToUndo⟩, T.xiz_NothingToUndo_InvalidCount⟩
  · cases (show w.cl 25 = _ from T.n_Busy).symm.trans hA; exact ⟨⟨T.xga_Busy, T.xgg_Busy, T.xs_Busy, T.xhd_Busy, T.xha_Busy, T.xhn, T.xht, T.xhm_Busy⟩, T.xiz_Busy_InvalidCount⟩
  · cases (show w.cl 26 = _ from T.n_TooMany).symm.trans hA; exact ⟨⟨T.xga_TooMany, T.xgg_TooMany, T.xs_TooMany, T.xhd_TooMany, T.xha_TooMany, T.xhn, T.xht, T.xhm_TooMany⟩, T.xiz_TooMany_InvalidCount⟩
theorem xi_InvalidWord (T : Tx W w mg) : XiOk w (.ref T.c_InvalidWord) xit_InvalidWord := by
  intro p hp A hA
  unfold xit_InvalidWord at hp
  simp only [List.mem_cons, List.not_mem_nil, or_false] at hp
  rcases hp with rfl | rfl | rfl | rfl | rfl | rfl | rfl | rfl | rfl | rfl | rfl | rfl | rfl | rfl | rfl | rfl | rfl | rfl | rfl
  · cases (show w.cl 8 = _ from T.nn_InputError).symm.trans hA
  · cases (show w.cl 9 = _ from T.nn_StateError).symm.trans hA
  · cases (show w.cl 10 = _ from T.nn_SizeError).symm.trans hA
  · cases (show w.cl 11 = _ from T.n_NotAMachine).symm.trans hA; exact ⟨⟨T.xga_NotAMachine, T.xgg_NotAMachine, T.xs_NotAMachine, T.xhd_NotAMachine, T.xha_NotAMachine, T.xhn, T.xht, T.xhm_NotAMachine⟩, T.xiz_NotAMachine_InvalidWord⟩
  · cases (show w.cl 12 = _ from T.n_NotADesk).symm.trans hA; exact ⟨⟨T.xga_NotADesk, T.xgg_NotADesk, T.xs_NotADesk, T.xhd_NotADesk, T.xha_NotADesk, T.xhn, T.xht, T.xhm_NotADesk⟩, T.xiz_NotADesk_InvalidWord⟩
  · cases (show w.cl 13 = _ from T.n_InvalidText).symm.trans hA; exact ⟨⟨T.xga_InvalidText, T.xgg_InvalidText, T.xs_InvalidText, T.xhd_InvalidText, T.xha_InvalidText, T.xhn, T.xht, T.xhm_InvalidText⟩, T.xiz_InvalidText_InvalidWord⟩
  · cases (show w.cl 14 = _ from T.n_InvalidCount).symm.trans hA; exact ⟨⟨T.xga_InvalidCount, T.xgg_InvalidCount, T.xs_InvalidCount, T.xhd_InvalidCount, T.xha_InvalidCount, T.xhn, T.xht, T.xhm_InvalidCount⟩, T.xiz_InvalidCount_InvalidWord⟩
  · cases (show w.cl 15 = _ from T.n_InvalidLetter).symm.trans hA; exact ⟨⟨T.xga_InvalidLetter, T.xgg_InvalidLetter, T.xs_InvalidLetter, T.xhd_InvalidLetter, T.xha_InvalidLetter, T.xhn, T.xht, T.xhm_InvalidLetter⟩, T.xiz_InvalidLetter_InvalidWord⟩
  · cases (show w.cl 16 = _ from T.n_InvalidStand).symm.trans hA; exact ⟨⟨T.xga_InvalidStand, T.xgg_InvalidStand, T.xs_InvalidStand, T.xhd_InvalidStand, T.xha_InvalidStand, T.xhn, T.xht, T.xhm_InvalidStand⟩, T.xiz_InvalidStand_InvalidWord⟩
  · cases (show w.cl 17 = _ from T.n_InvalidWord).symm.trans hA; exact ⟨⟨T.xga_InvalidWord, T.xgg_InvalidWord, T.xs_InvalidWord, T.xhd_InvalidWord, T.xha_InvalidWord, T.xhn, T.xht, T.xhm_InvalidWord⟩, kit_cc⟩
  · cases (show w.cl 18 = _ from T.n_InvalidLine).symm.trans hA; exact ⟨⟨T.xga_InvalidLine, T.xgg_InvalidLine, T.xs_InvalidLine, T.xhd_InvalidLine, T.xha_InvalidLine, T.xhn, T.xht, T.xhm_InvalidLine⟩, T.xiz_InvalidLine_InvalidWord⟩
  · cases (show w.cl 19 = _ from T.n_InvalidArrows).symm.trans hA; exact ⟨⟨T.xga_InvalidArrows, T.xgg_InvalidArrows, T.xs_InvalidArrows, T.xhd_InvalidArrows, T.xha_InvalidArrows, T.xhn, T.xht, T.xhm_InvalidArrows⟩, T.xiz_InvalidArrows_InvalidWord⟩
  · cases (show w.cl 20 = _ from T.n_InvalidEnds).symm.trans hA; exact ⟨⟨T.xga_InvalidEnds, T.xgg_InvalidEnds, T.xs_InvalidEnds, T.xhd_InvalidEnds, T.xha_InvalidEnds, T.xhn, T.xht, T.xhm_InvalidEnds⟩, T.xiz_InvalidEnds_InvalidWord⟩
  · cases (show w.cl 21 = _ from T.n_InvalidBook).symm.trans hA; exact ⟨⟨T.xga_InvalidBook, T.xgg_InvalidBook, T.xs_InvalidBook, T.xhd_InvalidBook, T.xha_InvalidBook, T.xhn, T.xht, T.xhm_InvalidBook⟩, T.xiz_InvalidBook_InvalidWord⟩
  · cases (show w.cl 22 = _ from T.n_InvalidTexts).symm.trans hA; exact ⟨⟨T.xga_InvalidTexts, T.xgg_InvalidTexts, T.xs_InvalidTexts, T.xhd_InvalidTexts, T.xha_InvalidTexts, T.xhn, T.xht, T.xhm_InvalidTexts⟩, T.xiz_InvalidTexts_InvalidWord⟩
  · cases (show w.cl 23 = _ from T.n_InvalidDeeds).symm.trans hA; exact ⟨⟨T.xga_InvalidDeeds, T.xgg_InvalidDeeds, T.xs_InvalidDeeds, T.xhd_InvalidDeeds, T.xha_InvalidDeeds, T.xhn, T.xht, T.xhm_InvalidDeeds⟩, T.xiz_InvalidDeeds_InvalidWord⟩
  · cases (show w.cl 24 = _ from T.n_NothingToUndo).symm.trans hA; exact ⟨⟨T.xga_NothingToUndo, T.xgg_NothingToUndo, T.xs_NothingToUndo, T.xhd_NothingToUndo, T.xha_NothingToUndo, T.xhn, T.xht, T.xhm_NothingToUndo⟩, T.xiz_NothingToUndo_InvalidWord⟩
  · cases (show w.cl 25 = _ from T.n_Busy).symm.trans hA; exact ⟨⟨T.xga_Busy, T.xgg_Busy, T.xs_Busy, T.xhd_Busy, T.xha_Busy, T.xhn, T.xht, T.xhm_Busy⟩, T.xiz_Busy_InvalidWord⟩
  · cases (show w.cl 26 = _ from T.n_TooMany).symm.trans hA; exact ⟨⟨T.xga_TooMany, T.xgg_TooMany, T.xs_TooMany, T.xhd_TooMany, T.xha_TooMany, T.xhn, T.xht, T.xhm_TooMany⟩, T.xiz_TooMany_InvalidWord⟩
theorem xi_InvalidStand (T : Tx W w mg) : XiOk w (.ref T.c_InvalidStand) xit_InvalidStand := by
  intro p hp A hA
  unfold xit_InvalidStand at hp
  simp only [List.mem_cons, List.not_mem_nil, or_false] at hp
  rcases hp with rfl | rfl | rfl | rfl | rfl | rfl | rfl | rfl | rfl | rfl | rfl | rfl | rfl | rfl | rfl | rfl | rfl | rfl | rfl
  · cases (show w.cl 8 = _ from T.nn_InputError).symm.trans hA
  · cases (show w.cl 9 = _ from T.nn_StateError).symm.trans hA
  · cases (show w.cl 10 = _ from T.nn_SizeError).symm.trans hA
  · cases (show w.cl 11 = _ from T.n_NotAMachine).symm.trans hA; exact ⟨⟨T.xga_NotAMachine, T.xgg_NotAMachine, T.xs_NotAMachine, T.xhd_NotAMachine, T.xha_NotAMachine, T.xhn, T.xht, T.xhm_NotAMachine⟩, T.xiz_NotAMachine_InvalidStand⟩
  · cases (show w.cl 12 = _ from T.n_NotADesk).symm.trans hA; exact ⟨⟨T.xga_NotADesk, T.xgg_NotADesk, T.xs_NotADesk, T.xhd_NotADesk, T.xha_NotADesk, T.xhn, T.xht, T.xhm_NotADesk⟩, T.xiz_NotADesk_InvalidStand⟩
  · cases (show w.cl 13 = _ from T.n_InvalidText).symm.trans hA; exact ⟨⟨T.xga_InvalidText, T.xgg_InvalidText, T.xs_InvalidText, T.xhd_InvalidText, T.xha_InvalidText, T.xhn, T.xht, T.xhm_InvalidText⟩, T.xiz_InvalidText_InvalidStand⟩
  · cases (show w.cl 14 = _ from T.n_InvalidCount).symm.trans hA; exact ⟨⟨T.xga_InvalidCount, T.xgg_InvalidCount, T.xs_InvalidCount, T.xhd_InvalidCount, T.xha_InvalidCount, T.xhn, T.xht, T.xhm_InvalidCount⟩, T.xiz_InvalidCount_InvalidStand⟩
  · cases (show w.cl 15 = _ from T.n_InvalidLetter).symm.trans hA; exact ⟨⟨T.xga_InvalidLetter, T.xgg_InvalidLetter, T.xs_InvalidLetter, T.xhd_InvalidLetter, T.xha_InvalidLetter, T.xhn, T.xht, T.xhm_InvalidLetter⟩, T.xiz_InvalidLetter_InvalidStand⟩
  · cases (show w.cl 16 = _ from T.n_InvalidStand).symm.trans hA; exact ⟨⟨T.xga_InvalidStand, T.xgg_InvalidStand, T.xs_InvalidStand, T.xhd_InvalidStand, T.xha_InvalidStand, T.xhn, T.xht, T.xhm_InvalidStand⟩, kit_cc⟩
  · cases (show w.cl 17 = _ from T.n_InvalidWord).symm.trans hA; exact ⟨⟨T.xga_InvalidWord, T.xgg_InvalidWord, T.xs_InvalidWord, T.xhd_InvalidWord, T.xha_InvalidWord, T.xhn, T.xht, T.xhm_InvalidWord⟩, T.xiz_InvalidWord_InvalidStand⟩
  · cases (show w.cl 18 = _ from T.n_InvalidLine).symm.trans hA; exact ⟨⟨T.xga_InvalidLine, T.xgg_InvalidLine, T.xs_InvalidLine, T.xhd_InvalidLine, T.xha_InvalidLine, T.xhn, T.xht, T.xhm_InvalidLine⟩, T.xiz_InvalidLine_InvalidStand⟩
  · cases (show w.cl 19 = _ from T.n_InvalidArrows).symm.trans hA; exact ⟨⟨T.xga_InvalidArrows, T.xgg_InvalidArrows, T.xs_InvalidArrows, T.xhd_InvalidArrows, T.xha_InvalidArrows, T.xhn, T.xht, T.xhm_InvalidArrows⟩, T.xiz_InvalidArrows_InvalidStand⟩
  · cases (show w.cl 20 = _ from T.n_InvalidEnds).symm.trans hA; exact ⟨⟨T.xga_InvalidEnds, T.xgg_InvalidEnds, T.xs_InvalidEnds, T.xhd_InvalidEnds, T.xha_InvalidEnds, T.xhn, T.xht, T.xhm_InvalidEnds⟩, T.xiz_InvalidEnds_InvalidStand⟩
  · cases (show w.cl 21 = _ from T.n_InvalidBook).symm.trans hA; exact ⟨⟨T.xga_InvalidBook, T.xgg_InvalidBook, T.xs_InvalidBook, T.xhd_InvalidBook, T.xha_InvalidBook, T.xhn, T.xht, T.xhm_InvalidBook⟩, T.xiz_InvalidBook_InvalidStand⟩
  · cases (show w.cl 22 = _ from T.n_InvalidTexts).symm.trans hA; exact ⟨⟨T.xga_InvalidTexts, T.xgg_InvalidTexts, T.xs_InvalidTexts, T.xhd_InvalidTexts, T.xha_InvalidTexts, T.xhn, T.xht, T.xhm_InvalidTexts⟩, T.xiz_InvalidTexts_InvalidStand⟩
  · cases (show w.cl 23 = _ from T.n_InvalidDeeds).symm.trans hA; exact ⟨⟨T.xga_InvalidDeeds, T.xgg_InvalidDeeds, T.xs_InvalidDeeds, T.xhd_InvalidDeeds, T.xha_InvalidDeeds, T.xhn, T.xht, T.xhm_InvalidDeeds⟩, T.xiz_InvalidDeeds_InvalidStand⟩
  · cases (show w.cl 24 = _ from T.n_NothingToUndo).symm.trans hA; exact ⟨⟨T.xga_NothingToUndo, T.xgg_NothingToUndo, T.xs_NothingToUndo, T.xhd_NothingToUndo, T.xha_NothingToUndo, T.xhn, T.xht, T.xhm_NothingToUndo⟩, T.xiz_NothingToUndo_InvalidStand⟩
  · cases (show w.cl 25 = _ from T.n_Busy).symm.trans hA; exact ⟨⟨T.xga_Busy, T.xgg_Busy, T.xs_Busy, T.xhd_Busy, T.xha_Busy, T.xhn, T.xht, T.xhm_Busy⟩, T.xiz_Busy_InvalidStand⟩
  · cases (show w.cl 26 = _ from T.n_TooMany).symm.trans hA; exact ⟨⟨T.xga_TooMany, T.xgg_TooMany, T.xs_TooMany, T.xhd_TooMany, T.xha_TooMany, T.xhn, T.xht, T.xhm_TooMany⟩, T.xiz_TooMany_InvalidStand⟩
theorem xi_InvalidArrows (T : Tx W w mg) : XiOk w (.ref T.c_InvalidArrows) xit_InvalidArrows := by
  intro p hp A hA
  unfold xit_InvalidArrows at hp
  simp only [List.mem_cons, List.not_mem_nil, or_false] at hp
  rcases hp with rfl | rfl | rfl | rfl | rfl | rfl | rfl | rfl | rfl | rfl | rfl | rfl | rfl | rfl | rfl | rfl | rfl | rfl | rfl
  · cases (show w.cl 8 = _ from T.nn_InputError).symm.trans hA
  · cases (show w.cl 9 = _ from T.nn_StateError).symm.trans hA
  · cases (show w.cl 10 = _ from T.nn_SizeError).symm.trans hA
  · cases (show w.cl 11 = _ from T.n_NotAMachine).symm.trans hA; exact ⟨⟨T.xga_NotAMachine, T.xgg_NotAMachine, T.xs_NotAMachine, T.xhd_NotAMachine, T.xha_NotAMachine, T.xhn, T.xht, T.xhm_NotAMachine⟩, T.xiz_NotAMachine_InvalidArrows⟩
  · cases (show w.cl 12 = _ from T.n_NotADesk).symm.trans hA; exact ⟨⟨T.xga_NotADesk, T.xgg_NotADesk, T.xs_NotADesk, T.xhd_NotADesk, T.xha_NotADesk, T.xhn, T.xht, T.xhm_NotADesk⟩, T.xiz_NotADesk_InvalidArrows⟩
  · cases (show w.cl 13 = _ from T.n_InvalidText).symm.trans hA; exact ⟨⟨T.xga_InvalidText, T.xgg_InvalidText, T.xs_InvalidText, T.xhd_InvalidText, T.xha_InvalidText, T.xhn, T.xht, T.xhm_InvalidText⟩, T.xiz_InvalidText_InvalidArrows⟩
  · cases (show w.cl 14 = _ from T.n_InvalidCount).symm.trans hA; exact ⟨⟨T.xga_InvalidCount, T.xgg_InvalidCount, T.xs_InvalidCount, T.xhd_InvalidCount, T.xha_InvalidCount, T.xhn, T.xht, T.xhm_InvalidCount⟩, T.xiz_InvalidCount_InvalidArrows⟩
  · cases (show w.cl 15 = _ from T.n_InvalidLetter).symm.trans hA; exact ⟨⟨T.xga_InvalidLetter, T.xgg_InvalidLetter, T.xs_InvalidLetter, T.xhd_InvalidLetter, T.xha_InvalidLetter, T.xhn, T.xht, T.xhm_InvalidLetter⟩, T.xiz_InvalidLetter_InvalidArrows⟩
  · cases (show w.cl 16 = _ from T.n_InvalidStand).symm.trans hA; exact ⟨⟨T.xga_InvalidStand, T.xgg_InvalidStand, T.xs_InvalidStand, T.xhd_InvalidStand, T.xha_InvalidStand, T.xhn, T.xht, T.xhm_InvalidStand⟩, T.xiz_InvalidStand_InvalidArrows⟩
  · cases (show w.cl 17 = _ from T.n_InvalidWord).symm.trans hA; exact ⟨⟨T.xga_InvalidWord, T.xgg_InvalidWord, T.xs_InvalidWord, T.xhd_InvalidWord, T.xha_InvalidWord, T.xhn, T.xht, T.xhm_InvalidWord⟩, T.xiz_InvalidWord_InvalidArrows⟩
  · cases (show w.cl 18 = _ from T.n_InvalidLine).symm.trans hA; exact ⟨⟨T.xga_InvalidLine, T.xgg_InvalidLine, T.xs_InvalidLine, T.xhd_InvalidLine, T.xha_InvalidLine, T.xhn, T.xht, T.xhm_InvalidLine⟩, T.xiz_InvalidLine_InvalidArrows⟩
  · cases (show w.cl 19 = _ from T.n_InvalidArrows).symm.trans hA; exact ⟨⟨T.xga_InvalidArrows, T.xgg_InvalidArrows, T.xs_InvalidArrows, T.xhd_InvalidArrows, T.xha_InvalidArrows, T.xhn, T.xht, T.xhm_InvalidArrows⟩, kit_cc⟩
  · cases (show w.cl 20 = _ from T.n_InvalidEnds).symm.trans hA; exact ⟨⟨T.xga_InvalidEnds, T.xgg_InvalidEnds, T.xs_InvalidEnds, T.xhd_InvalidEnds, T.xha_InvalidEnds, T.xhn, T.xht, T.xhm_InvalidEnds⟩, T.xiz_InvalidEnds_InvalidArrows⟩
  · cases (show w.cl 21 = _ from T.n_InvalidBook).symm.trans hA; exact ⟨⟨T.xga_InvalidBook, T.xgg_InvalidBook, T.xs_InvalidBook, T.xhd_InvalidBook, T.xha_InvalidBook, T.xhn, T.xht, T.xhm_InvalidBook⟩, T.xiz_InvalidBook_InvalidArrows⟩
  · cases (show w.cl 22 = _ from T.n_InvalidTexts).symm.trans hA; exact ⟨⟨T.xga_InvalidTexts, T.xgg_InvalidTexts, T.xs_InvalidTexts, T.xhd_InvalidTexts, T.xha_InvalidTexts, T.xhn, T.xht, T.xhm_InvalidTexts⟩, T.xiz_InvalidTexts_InvalidArrows⟩
  · cases (show w.cl 23 = _ from T.n_InvalidDeeds).symm.trans hA; exact ⟨⟨T.xga_InvalidDeeds, T.xgg_InvalidDeeds, T.xs_InvalidDeeds, T.xhd_InvalidDeeds, T.xha_InvalidDeeds, T.xhn, T.xht, T.xhm_InvalidDeeds⟩, T.xiz_InvalidDeeds_InvalidArrows⟩
  · cases (show w.cl 24 = _ from T.n_NothingToUndo).symm.trans hA; exact ⟨⟨T.xga_NothingToUndo, T.xgg_NothingToUndo, T.xs_NothingToUndo, T.xhd_NothingToUndo, T.xha_NothingToUndo, T.xhn, T.xht, T.xhm_NothingToUndo⟩, T.xiz_NothingToUndo_InvalidArrows⟩
  · cases (show w.cl 25 = _ from T.n_Busy).symm.trans hA; exact ⟨⟨T.xga_Busy, T.xgg_Busy, T.xs_Busy, T.xhd_Busy, T.xha_Busy, T.xhn, T.xht, T.xhm_Busy⟩, T.xiz_Busy_InvalidArrows⟩
  · cases (show w.cl 26 = _ from T.n_TooMany).symm.trans hA; exact ⟨⟨T.xga_TooMany, T.xgg_TooMany, T.xs_TooMany, T.xhd_TooMany, T.xha_TooMany, T.xhn, T.xht, T.xhm_TooMany⟩, T.xiz_TooMany_InvalidArrows⟩
theorem xi_InvalidLine (T : Tx W w mg) : XiOk w (.ref T.c_InvalidLine) xit_InvalidLine := by
  intro p hp A hA
  unfold xit_InvalidLine at hp
  simp only [List.mem_cons, List.not_mem_nil, or_false] at hp
  rcases hp with rfl | rfl | rfl | rfl | rfl | rfl | rfl | rfl | rfl | rfl | rfl | rfl | rfl | rfl | rfl | rfl | rfl | rfl | rfl
  · cases (show w.cl 8 = _ from T.nn_InputError).symm.trans hA
  · cases (show w.cl 9 = _ from T.nn_StateError).symm.trans hA
  · cases (show w.cl 10 = _ from T.nn_SizeError).symm.trans hA
  · cases (show w.cl 11 = _ from T.n_NotAMachine).symm.trans hA; exact ⟨⟨T.xga_NotAMachine, T.xgg_NotAMachine, T.xs_NotAMachine, T.xhd_NotAMachine, T.xha_NotAMachine, T.xhn, T.xht, T.xhm_NotAMachine⟩, T.xiz_NotAMachine_InvalidLine⟩
  · cases (show w.cl 12 = _ from T.n_NotADesk).symm.trans hA; exact ⟨⟨T.xga_NotADesk, T.xgg_NotADesk, T.xs_NotADesk, T.xhd_NotADesk, T.xha_NotADesk, T.xhn, T.xht, T.xhm_NotADesk⟩, T.xiz_NotADesk_InvalidLine⟩
  · cases (show w.cl 13 = _ from T.n_InvalidText).symm.trans hA; exact ⟨⟨T.xga_InvalidText, T.xgg_InvalidText, T.xs_InvalidText, T.xhd_InvalidText, T.xha_InvalidText, T.xhn, T.xht, T.xhm_InvalidText⟩, T.xiz_InvalidText_InvalidLine⟩
  · cases (show w.cl 14 = _ from T.n_InvalidCount).symm.trans hA; exact ⟨⟨T.xga_InvalidCount, T.xgg_InvalidCount, T.xs_InvalidCount, T.xhd_InvalidCount, T.xha_InvalidCount, T.xhn, T.xht, T.xhm_InvalidCount⟩, T.xiz_InvalidCount_InvalidLine⟩
  · cases (show w.cl 15 = _ from T.n_InvalidLetter).symm.trans hA; exact ⟨⟨T.xga_InvalidLetter, T.xgg_InvalidLetter, T.xs_InvalidLetter, T.xhd_InvalidLetter, T.xha_InvalidLetter, T.xhn, T.xht, T.xhm_InvalidLetter⟩, T.xiz_InvalidLetter_InvalidLine⟩
  · cases (show w.cl 16 = _ from T.n_InvalidStand).symm.trans hA; exact ⟨⟨T.xga_InvalidStand, T.xgg_InvalidStand, T.xs_InvalidStand, T.xhd_InvalidStand, T.xha_InvalidStand, T.xhn, T.xht, T.xhm_InvalidStand⟩, T.xiz_InvalidStand_InvalidLine⟩
  · cases (show w.cl 17 = _ from T.n_InvalidWord).symm.trans hA; exact ⟨⟨T.xga_InvalidWord, T.xgg_InvalidWord, T.xs_InvalidWord, T.xhd_InvalidWord, T.xha_InvalidWord, T.xhn, T.xht, T.xhm_InvalidWord⟩, T.xiz_InvalidWord_InvalidLine⟩
  · cases (show w.cl 18 = _ from T.n_InvalidLine).symm.trans hA; exact ⟨⟨T.xga_InvalidLine, T.xgg_InvalidLine, T.xs_InvalidLine, T.xhd_InvalidLine, T.xha_InvalidLine, T.xhn, T.xht, T.xhm_InvalidLine⟩, kit_cc⟩
  · cases (show w.cl 19 = _ from T.n_InvalidArrows).symm.trans hA; exact ⟨⟨T.xga_InvalidArrows, T.xgg_InvalidArrows, T.xs_InvalidArrows, T.xhd_InvalidArrows, T.xha_InvalidArrows, T.xhn, T.xht, T.xhm_InvalidArrows⟩, T.xiz_InvalidArrows_InvalidLine⟩
  · cases (show w.cl 20 = _ from T.n_InvalidEnds).symm.trans hA; exact ⟨⟨T.xga_InvalidEnds, T.xgg_InvalidEnds, T.xs_InvalidEnds, T.xhd_InvalidEnds, T.xha_InvalidEnds, T.xhn, T.xht, T.xhm_InvalidEnds⟩, T.xiz_InvalidEnds_InvalidLine⟩
  · cases (show w.cl 21 = _ from T.n_InvalidBook).symm.trans hA; exact ⟨⟨T.xga_InvalidBook, T.xgg_InvalidBook, T.xs_InvalidBook, T.xhd_InvalidBook, T.xha_InvalidBook, T.xhn, T.xht, T.xhm_InvalidBook⟩, T.xiz_InvalidBook_InvalidLine⟩
  · cases (show w.cl 22 = _ from T.n_InvalidTexts).symm.trans hA; exact ⟨⟨T.xga_InvalidTexts, T.xgg_InvalidTexts, T.xs_InvalidTexts, T.xhd_InvalidTexts, T.xha_InvalidTexts, T.xhn, T.xht, T.xhm_InvalidTexts⟩, T.xiz_InvalidTexts_InvalidLine⟩
  · cases (show w.cl 23 = _ from T.n_InvalidDeeds).symm.trans hA; exact ⟨⟨T.xga_InvalidDeeds, T.xgg_InvalidDeeds, T.xs_InvalidDeeds, T.xhd_InvalidDeeds, T.xha_InvalidDeeds, T.xhn, T.xht, T.xhm_InvalidDeeds⟩, T.xiz_InvalidDeeds_InvalidLine⟩
  · cases (show w.cl 24 = _ from T.n_NothingToUndo).symm.trans hA; exact ⟨⟨T.xga_NothingToUndo, T.xgg_NothingToUndo, T.xs_NothingToUndo, T.xhd_NothingToUndo, T.xha_NothingToUndo, T.xhn, T.xht, T.xhm_NothingToUndo⟩, T.xiz_NothingToUndo_InvalidLine⟩
  · cases (show w.cl 25 = _ from T.n_Busy).symm.trans hA; exact ⟨⟨T.xga_Busy, T.xgg_Busy, T.xs_Busy, T.xhd_Busy, T.xha_Busy, T.xhn, T.xht, T.xhm_Busy⟩, T.xiz_Busy_InvalidLine⟩
  · cases (show w.cl 26 = _ from T.n_TooMany).symm.trans hA; exact ⟨⟨T.xga_TooMany, T.xgg_TooMany, T.xs_TooMany, T.xhd_TooMany, T.xha_TooMany, T.xhn, T.xht, T.xhm_TooMany⟩, T.xiz_TooMany_InvalidLine⟩
theorem xi_InvalidBook (T : Tx W w mg) : XiOk w (.ref T.c_InvalidBook) xit_InvalidBook := by
  intro p hp A hA
  unfold xit_InvalidBook at hp
  simp only [List.mem_cons, List.not_mem_nil, or_false] at hp
  rcases hp with rfl | rfl | rfl | rfl | rfl | rfl | rfl | rfl | rfl | rfl | rfl | rfl | rfl | rfl | rfl | rfl | rfl | rfl | rfl
  · cases (show w.cl 8 = _ from T.nn_InputError).symm.trans hA
  · cases (show w.cl 9 = _ from T.nn_StateError).symm.trans hA
  · cases (show w.cl 10 = _ from T.nn_SizeError).symm.trans hA
  · cases (show w.cl 11 = _ from T.n_NotAMachine).symm.trans hA; exact ⟨⟨T.xga_NotAMachine, T.xgg_NotAMachine, T.xs_NotAMachine, T.xhd_NotAMachine, T.xha_NotAMachine, T.xhn, T.xht, T.xhm_NotAMachine⟩, T.xiz_NotAMachine_InvalidBook⟩
  · cases (show w.cl 12 = _ from T.n_NotADesk).symm.trans hA; exact ⟨⟨T.xga_NotADesk, T.xgg_NotADesk, T.xs_NotADesk, T.xhd_NotADesk, T.xha_NotADesk, T.xhn, T.xht, T.xhm_NotADesk⟩, T.xiz_NotADesk_InvalidBook⟩
  · cases (show w.cl 13 = _ from T.n_InvalidText).symm.trans hA; exact ⟨⟨T.xga_InvalidText, T.xgg_InvalidText, T.xs_InvalidText, T.xhd_InvalidText, T.xha_InvalidText, T.xhn, T.xht, T.xhm_InvalidText⟩, T.xiz_InvalidText_InvalidBook⟩
  · cases (show w.cl 14 = _ from T.n_InvalidCount).symm.trans hA; exact ⟨⟨T.xga_InvalidCount, T.xgg_InvalidCount, T.xs_InvalidCount, T.xhd_InvalidCount, T.xha_InvalidCount, T.xhn, T.xht, T.xhm_InvalidCount⟩, T.xiz_InvalidCount_InvalidBook⟩
  · cases (show w.cl 15 = _ from T.n_InvalidLetter).symm.trans hA; exact ⟨⟨T.xga_InvalidLetter, T.xgg_InvalidLetter, T.xs_InvalidLetter, T.xhd_InvalidLetter, T.xha_InvalidLetter, T.xhn, T.xht, T.xhm_InvalidLetter⟩, T.xiz_InvalidLetter_InvalidBook⟩
  · cases (show w.cl 16 = _ from T.n_InvalidStand).symm.trans hA; exact ⟨⟨T.xga_InvalidStand, T.xgg_InvalidStand, T.xs_InvalidStand, T.xhd_InvalidStand, T.xha_InvalidStand, T.xhn, T.xht, T.xhm_InvalidStand⟩, T.xiz_InvalidStand_InvalidBook⟩
  · cases (show w.cl 17 = _ from T.n_InvalidWord).symm.trans hA; exact ⟨⟨T.xga_InvalidWord, T.xgg_InvalidWord, T.xs_InvalidWord, T.xhd_InvalidWord, T.xha_InvalidWord, T.xhn, T.xht, T.xhm_InvalidWord⟩, T.xiz_InvalidWord_InvalidBook⟩
  · cases (show w.cl 18 = _ from T.n_InvalidLine).symm.trans hA; exact ⟨⟨T.xga_InvalidLine, T.xgg_InvalidLine, T.xs_InvalidLine, T.xhd_InvalidLine, T.xha_InvalidLine, T.xhn, T.xht, T.xhm_InvalidLine⟩, T.xiz_InvalidLine_InvalidBook⟩
  · cases (show w.cl 19 = _ from T.n_InvalidArrows).symm.trans hA; exact ⟨⟨T.xga_InvalidArrows, T.xgg_InvalidArrows, T.xs_InvalidArrows, T.xhd_InvalidArrows, T.xha_InvalidArrows, T.xhn, T.xht, T.xhm_InvalidArrows⟩, T.xiz_InvalidArrows_InvalidBook⟩
  · cases (show w.cl 20 = _ from T.n_InvalidEnds).symm.trans hA; exact ⟨⟨T.xga_InvalidEnds, T.xgg_InvalidEnds, T.xs_InvalidEnds, T.xhd_InvalidEnds, T.xha_InvalidEnds, T.xhn, T.xht, T.xhm_InvalidEnds⟩, T.xiz_InvalidEnds_InvalidBook⟩
  · cases (show w.cl 21 = _ from T.n_InvalidBook).symm.trans hA; exact ⟨⟨T.xga_InvalidBook, T.xgg_InvalidBook, T.xs_InvalidBook, T.xhd_InvalidBook, T.xha_InvalidBook, T.xhn, T.xht, T.xhm_InvalidBook⟩, kit_cc⟩
  · cases (show w.cl 22 = _ from T.n_InvalidTexts).symm.trans hA; exact ⟨⟨T.xga_InvalidTexts, T.xgg_InvalidTexts, T.xs_InvalidTexts, T.xhd_InvalidTexts, T.xha_InvalidTexts, T.xhn, T.xht, T.xhm_InvalidTexts⟩, T.xiz_InvalidTexts_InvalidBook⟩
  · cases (show w.cl 23 = _ from T.n_InvalidDeeds).symm.trans hA; exact ⟨⟨T.xga_InvalidDeeds, T.xgg_InvalidDeeds, T.xs_InvalidDeeds, T.xhd_InvalidDeeds, T.xha_InvalidDeeds, T.xhn, T.xht, T.xhm_InvalidDeeds⟩, T.xiz_InvalidDeeds_InvalidBook⟩
  · cases (show w.cl 24 = _ from T.n_NothingToUndo).symm.trans hA; exact ⟨⟨T.xga_NothingToUndo, T.xgg_NothingToUndo, T.xs_NothingToUndo, T.xhd_NothingToUndo, T.xha_NothingToUndo, T.xhn, T.xht, T.xhm_NothingToUndo⟩, T.xiz_NothingToUndo_InvalidBook⟩
  · cases (show w.cl 25 = _ from T.n_Busy).symm.trans hA; exact ⟨⟨T.xga_Busy, T.xgg_Busy, T.xs_Busy, T.xhd_Busy, T.xha_Busy, T.xhn, T.xht, T.xhm_Busy⟩, T.xiz_Busy_InvalidBook⟩
  · cases (show w.cl 26 = _ from T.n_TooMany).symm.trans hA; exact ⟨⟨T.xga_TooMany, T.xgg_TooMany, T.xs_TooMany, T.xhd_TooMany, T.xha_TooMany, T.xhn, T.xht, T.xhm_TooMany⟩, T.xiz_TooMany_InvalidBook⟩
theorem xi_InvalidEnds (T : Tx W w mg) : XiOk w (.ref T.c_InvalidEnds) xit_InvalidEnds := by
  intro p hp A hA
  unfold xit_InvalidEnds at hp
  simp only [List.mem_cons, List.not_mem_nil, or_false] at hp
  rcases hp with rfl | rfl | rfl | rfl | rfl | rfl | rfl | rfl | rfl | rfl | rfl | rfl | rfl | rfl | rfl | rfl | rfl | rfl | rfl
  · cases (show w.cl 8 = _ from T.nn_InputError).symm.trans hA
  · cases (show w.cl 9 = _ from T.nn_StateError).symm.trans hA
  · cases (show w.cl 10 = _ from T.nn_SizeError).symm.trans hA
  · cases (show w.cl 11 = _ from T.n_NotAMachine).symm.trans hA; exact ⟨⟨T.xga_NotAMachine, T.xgg_NotAMachine, T.xs_NotAMachine, T.xhd_NotAMachine, T.xha_NotAMachine, T.xhn, T.xht, T.xhm_NotAMachine⟩, T.xiz_NotAMachine_InvalidEnds⟩
  · cases (show w.cl 12 = _ from T.n_NotADesk).symm.trans hA; exact ⟨⟨T.xga_NotADesk, T.xgg_NotADesk, T.xs_NotADesk, T.xhd_NotADesk, T.xha_NotADesk, T.xhn, T.xht, T.xhm_NotADesk⟩, T.xiz_NotADesk_InvalidEnds⟩
  · cases (show w.cl 13 = _ from T.n_InvalidText).symm.trans hA; exact ⟨⟨T.xga_InvalidText, T.xgg_InvalidText, T.xs_InvalidText, T.xhd_InvalidText, T.xha_InvalidText, T.xhn, T.xht, T.xhm_InvalidText⟩, T.xiz_InvalidText_InvalidEnds⟩
  · cases (show w.cl 14 = _ from T.n_InvalidCount).symm.trans hA; exact ⟨⟨T.xga_InvalidCount, T.xgg_InvalidCount, T.xs_InvalidCount, T.xhd_InvalidCount, T.xha_InvalidCount, T.xhn, T.xht, T.xhm_InvalidCount⟩, T.xiz_InvalidCount_InvalidEnds⟩
  · cases (show w.cl 15 = _ from T.n_InvalidLetter).symm.trans hA; exact ⟨⟨T.xga_InvalidLetter, T.xgg_InvalidLetter, T.xs_InvalidLetter, T.xhd_InvalidLetter, T.xha_InvalidLetter, T.xhn, T.xht, T.xhm_InvalidLetter⟩, T.xiz_InvalidLetter_InvalidEnds⟩
  · cases (show w.cl 16 = _ from T.n_InvalidStand).symm.trans hA; exact ⟨⟨T.xga_InvalidStand, T.xgg_InvalidStand, T.xs_InvalidStand, T.xhd_InvalidStand, T.xha_InvalidStand, T.xhn, T.xht, T.xhm_InvalidStand⟩, T.xiz_InvalidStand_InvalidEnds⟩
  · cases (show w.cl 17 = _ from T.n_InvalidWord).symm.trans hA; exact ⟨⟨T.xga_InvalidWord, T.xgg_InvalidWord, T.xs_InvalidWord, T.xhd_InvalidWord, T.xha_InvalidWord, T.xhn, T.xht, T.xhm_InvalidWord⟩, T.xiz_InvalidWord_InvalidEnds⟩
  · cases (show w.cl 18 = _ from T.n_InvalidLine).symm.trans hA; exact ⟨⟨T.xga_InvalidLine, T.xgg_InvalidLine, T.xs_InvalidLine, T.xhd_InvalidLine, T.xha_InvalidLine, T.xhn, T.xht, T.xhm_InvalidLine⟩, T.xiz_InvalidLine_InvalidEnds⟩
  · cases (show w.cl 19 = _ from T.n_InvalidArrows).symm.trans hA; exact ⟨⟨T.xga_InvalidArrows, T.xgg_InvalidArrows, T.xs_InvalidArrows, T.xhd_InvalidArrows, T.xha_InvalidArrows, T.xhn, T.xht, T.xhm_InvalidArrows⟩, T.xiz_InvalidArrows_InvalidEnds⟩
  · cases (show w.cl 20 = _ from T.n_InvalidEnds).symm.trans hA; exact ⟨⟨T.xga_InvalidEnds, T.xgg_InvalidEnds, T.xs_InvalidEnds, T.xhd_InvalidEnds, T.xha_InvalidEnds, T.xhn, T.xht, T.xhm_InvalidEnds⟩, kit_cc⟩
  · cases (show w.cl 21 = _ from T.n_InvalidBook).symm.trans hA; exact ⟨⟨T.xga_InvalidBook, T.xgg_InvalidBook, T.xs_InvalidBook, T.xhd_InvalidBook, T.xha_InvalidBook, T.xhn, T.xht, T.xhm_InvalidBook⟩, T.xiz_InvalidBook_InvalidEnds⟩
  · cases (show w.cl 22 = _ from T.n_InvalidTexts).symm.trans hA; exact ⟨⟨T.xga_InvalidTexts, T.xgg_InvalidTexts, T.xs_InvalidTexts, T.xhd_InvalidTexts, T.xha_InvalidTexts, T.xhn, T.xht, T.xhm_InvalidTexts⟩, T.xiz_InvalidTexts_InvalidEnds⟩
  · cases (show w.cl 23 = _ from T.n_InvalidDeeds).symm.trans hA; exact ⟨⟨T.xga_InvalidDeeds, T.xgg_InvalidDeeds, T.xs_InvalidDeeds, T.xhd_InvalidDeeds, T.xha_InvalidDeeds, T.xhn, T.xht, T.xhm_InvalidDeeds⟩, T.xiz_InvalidDeeds_InvalidEnds⟩
  · cases (show w.cl 24 = _ from T.n_NothingToUndo).symm.trans hA; exact ⟨⟨T.xga_NothingToUndo, T.xgg_NothingToUndo, T.xs_NothingToUndo, T.xhd_NothingToUndo, T.xha_NothingToUndo, T.xhn, T.xht, T.xhm_NothingToUndo⟩, T.xiz_NothingToUndo_InvalidEnds⟩
  · cases (show w.cl 25 = _ from T.n_Busy).symm.trans hA; exact ⟨⟨T.xga_Busy, T.xgg_Busy, T.xs_Busy, T.xhd_Busy, T.xha_Busy, T.xhn, T.xht, T.xhm_Busy⟩, T.xiz_Busy_InvalidEnds⟩
  · cases (show w.cl 26 = _ from T.n_TooMany).symm.trans hA; exact ⟨⟨T.xga_TooMany, T.xgg_TooMany, T.xs_TooMany, T.xhd_TooMany, T.xha_TooMany, T.xhn, T.xht, T.xhm_TooMany⟩, T.xiz_TooMany_InvalidEnds⟩
theorem xi_InvalidDeeds (T : Tx W w mg) : XiOk w (.ref T.c_InvalidDeeds) xit_InvalidDeeds := by
  intro p hp A hA
  unfold xit_InvalidDeeds at hp
  simp only [List.mem_cons, List.not_mem_nil, or_false] at hp
  rcases hp with rfl | rfl | rfl | rfl | rfl | rfl | rfl | rfl | rfl | rfl | rfl | rfl | rfl | rfl | rfl | rfl | rfl | rfl | rfl
  · cases (show w.cl 8 = _ from T.nn_InputError).symm.trans hA
  · cases (show w.cl 9 = _ from T.nn_StateError).symm.trans hA
  · cases (show w.cl 10 = _ from T.nn_SizeError).symm.trans hA
  · cases (show w.cl 11 = _ from T.n_NotAMachine).symm.trans hA; exact ⟨⟨T.xga_NotAMachine, T.xgg_NotAMachine, T.xs_NotAMachine, T.xhd_NotAMachine, T.xha_NotAMachine, T.xhn, T.xht, T.xhm_NotAMachine⟩, T.xiz_NotAMachine_InvalidDeeds⟩
  · cases (show w.cl 12 = _ from T.n_NotADesk).symm.trans hA; exact ⟨⟨T.xga_NotADesk, T.xgg_NotADesk, T.xs_NotADesk, T.xhd_NotADesk, T.xha_NotADesk, T.xhn, T.xht, T.xhm_NotADesk⟩, T.xiz_NotADesk_InvalidDeeds⟩
  · cases (show w.cl 13 = _ from T.n_InvalidText).symm.trans hA; exact ⟨⟨T.xga_InvalidText, T.xgg_InvalidText, T.xs_InvalidText, T.xhd_InvalidText, T.xha_InvalidText, T.xhn, T.xht, T.xhm_InvalidText⟩, T.xiz_InvalidText_InvalidDeeds⟩
  · cases (show w.cl 14 = _ from T.n_InvalidCount).symm.trans hA; exact ⟨⟨T.xga_InvalidCount, T.xgg_InvalidCount, T.xs_InvalidCount, T.xhd_InvalidCount, T.xha_InvalidCount, T.xhn, T.xht, T.xhm_InvalidCount⟩, T.xiz_InvalidCount_InvalidDeeds⟩
  · cases (show w.cl 15 = _ from T.n_InvalidLetter).symm.trans hA; exact ⟨⟨T.xga_InvalidLetter, T.xgg_InvalidLetter, T.xs_InvalidLetter, T.xhd_InvalidLetter, T.xha_InvalidLetter, T.xhn, T.xht, T.xhm_InvalidLetter⟩, T.xiz_InvalidLetter_InvalidDeeds⟩
  · cases (show w.cl 16 = _ from T.n_InvalidStand).symm.trans hA; exact ⟨⟨T.xga_InvalidStand, T.xgg_InvalidStand, T.xs_InvalidStand, T.xhd_InvalidStand, T.xha_InvalidStand, T.xhn, T.xht, T.xhm_InvalidStand⟩, T.xiz_InvalidStand_InvalidDeeds⟩
  · cases (show w.cl 17 = _ from T.n_InvalidWord).symm.trans hA; exact ⟨⟨T.xga_InvalidWord, T.xgg_InvalidWord, T.xs_InvalidWord, T.xhd_InvalidWord, T.xha_InvalidWord, T.xhn, T.xht, T.xhm_InvalidWord⟩, T.xiz_InvalidWord_InvalidDeeds⟩
  · cases (show w.cl 18 = _ from T.n_InvalidLine).symm.trans hA; exact ⟨⟨T.xga_InvalidLine, T.xgg_InvalidLine, T.xs_InvalidLine, T.xhd_InvalidLine, T.xha_InvalidLine, T.xhn, T.xht, T.xhm_InvalidLine⟩, T.xiz_InvalidLine_InvalidDeeds⟩
  · cases (show w.cl 19 = _ from T.n_InvalidArrows).symm.trans hA; exact ⟨⟨T.xga_InvalidArrows, T.xgg_InvalidArrows, T.xs_InvalidArrows, T.xhd_InvalidArrows, T.xha_InvalidArrows, T.xhn, T.xht, T.xhm_InvalidArrows⟩, T.xiz_InvalidArrows_InvalidDeeds⟩
  · cases (show w.cl 20 = _ from T.n_InvalidEnds).symm.trans hA; exact ⟨⟨T.xga_InvalidEnds, T.xgg_InvalidEnds, T.xs_InvalidEnds, T.xhd_InvalidEnds, T.xha_InvalidEnds, T.xhn, T.xht, T.xhm_InvalidEnds⟩, T.xiz_InvalidEnds_InvalidDeeds⟩
  · cases (show w.cl 21 = _ from T.n_InvalidBook).symm.trans hA; exact ⟨⟨T.xga_InvalidBook, T.xgg_InvalidBook, T.xs_InvalidBook, T.xhd_InvalidBook, T.xha_InvalidBook, T.xhn, T.xht, T.xhm_InvalidBook⟩, T.xiz_InvalidBook_InvalidDeeds⟩
  · cases (show w.cl 22 = _ from T.n_InvalidTexts).symm.trans hA; exact ⟨⟨T.xga_InvalidTexts, T.xgg_InvalidTexts, T.xs_InvalidTexts, T.xhd_InvalidTexts, T.xha_InvalidTexts, T.xhn, T.xht, T.xhm_InvalidTexts⟩, T.xiz_InvalidTexts_InvalidDeeds⟩
  · cases (show w.cl 23 = _ from T.n_InvalidDeeds).symm.trans hA; exact ⟨⟨T.xga_InvalidDeeds, T.xgg_InvalidDeeds, T.xs_InvalidDeeds, T.xhd_InvalidDeeds, T.xha_InvalidDeeds, T.xhn, T.xht, T.xhm_InvalidDeeds⟩, kit_cc⟩
  · cases (show w.cl 24 = _ from T.n_NothingToUndo).symm.trans hA; exact ⟨⟨T.xga_NothingToUndo, T.xgg_NothingToUndo, T.xs_NothingToUndo, T.xhd_NothingToUndo, T.xha_NothingToUndo, T.xhn, T.xht, T.xhm_NothingToUndo⟩, T.xiz_NothingToUndo_InvalidDeeds⟩
  · cases (show w.cl 25 = _ from T.n_Busy).symm.trans hA; exact ⟨⟨T.xga_Busy, T.xgg_Busy, T.xs_Busy, T.xhd_Busy, T.xha_Busy, T.xhn, T.xht, T.xhm_Busy⟩, T.xiz_Busy_InvalidDeeds⟩
  · cases (show w.cl 26 = _ from T.n_TooMany).symm.trans hA; exact ⟨⟨T.xga_TooMany, T.xgg_TooMany, T.xs_TooMany, T.xhd_TooMany, T.xha_TooMany, T.xhn, T.xht, T.xhm_TooMany⟩, T.xiz_TooMany_InvalidDeeds⟩
theorem xi_InvalidTexts (T : Tx W w mg) : XiOk w (.ref T.c_InvalidTexts) xit_InvalidTexts := by
  intro p hp A hA
  unfold xit_InvalidTexts at hp
  simp only [List.mem_cons, List.not_mem_nil, or_false] at hp
  rcases hp with rfl | rfl | rfl | rfl | rfl | rfl | rfl | rfl | rfl | rfl | rfl | rfl | rfl | rfl | rfl | rfl | rfl | rfl | rfl
  · cases (show w.cl 8 = _ from T.nn_InputError).symm.trans hA
  · cases (show w.cl 9 = _ from T.nn_StateError).symm.trans hA
  · cases (show w.cl 10 = _ from T.nn_SizeError).symm.trans hA
  · cases (show w.cl 11 = _ from T.n_NotAMachine).symm.trans hA; exact ⟨⟨T.xga_NotAMachine, T.xgg_NotAMachine, T.xs_NotAMachine, T.xhd_NotAMachine, T.xha_NotAMachine, T.xhn, T.xht, T.xhm_NotAMachine⟩, T.xiz_NotAMachine_InvalidTexts⟩
  · cases (show w.cl 12 = _ from T.n_NotADesk).symm.trans hA; exact ⟨⟨T.xga_NotADesk, T.xgg_NotADesk, T.xs_NotADesk, T.xhd_NotADesk, T.xha_NotADesk, T.xhn, T.xht, T.xhm_NotADesk⟩, T.xiz_NotADesk_InvalidTexts⟩
  · cases (show w.cl 13 = _ from T.n_InvalidText).symm.trans hA; exact ⟨⟨T.xga_InvalidText, T.xgg_InvalidText, T.xs_InvalidText, T.xhd_InvalidText, T.xha_InvalidText, T.xhn, T.xht, T.xhm_InvalidText⟩, T.xiz_InvalidText_InvalidTexts⟩
  · cases (show w.cl 14 = _ from T.n_InvalidCount).symm.trans hA; exact ⟨⟨T.xga_InvalidCount, T.xgg_InvalidCount, T.xs_InvalidCount, T.xhd_InvalidCount, T.xha_InvalidCount, T.xhn, T.xht, T.xhm_InvalidCount⟩, T.xiz_InvalidCount_InvalidTexts⟩
  · cases (show w.cl 15 = _ from T.n_InvalidLetter).symm.trans hA; exact ⟨⟨T.xga_InvalidLetter, T.xgg_InvalidLetter, T.xs_InvalidLetter, T.xhd_InvalidLetter, T.xha_InvalidLetter, T.xhn, T.xht, T.xhm_InvalidLetter⟩, T.xiz_InvalidLetter_InvalidTexts⟩
  · cases (show w.cl 16 = _ from T.n_InvalidStand).symm.trans hA; exact ⟨⟨T.xga_InvalidStand, T.xgg_InvalidStand, T.xs_InvalidStand, T.xhd_InvalidStand, T.xha_InvalidStand, T.xhn, T.xht, T.xhm_InvalidStand⟩, T.xiz_InvalidStand_InvalidTexts⟩
  · cases (show w.cl 17 = _ from T.n_InvalidWord).symm.trans hA; exact ⟨⟨T.xga_InvalidWord, T.xgg_InvalidWord, T.xs_InvalidWord, T.xhd_InvalidWord, T.xha_InvalidWord, T.xhn, T.xht, T.xhm_InvalidWord⟩, T.xiz_InvalidWord_InvalidTexts⟩
  · cases (show w.cl 18 = _ from T.n_InvalidLine).symm.trans hA; exact ⟨⟨T.xga_InvalidLine, T.xgg_InvalidLine, T.xs_InvalidLine, T.xhd_InvalidLine, T.xha_InvalidLine, T.xhn, T.xht, T.xhm_InvalidLine⟩, T.xiz_InvalidLine_InvalidTexts⟩
  · cases (show w.cl 19 = _ from T.n_InvalidArrows).symm.trans hA; exact ⟨⟨T.xga_InvalidArrows, T.xgg_InvalidArrows, T.xs_InvalidArrows, T.xhd_InvalidArrows, T.xha_InvalidArrows, T.xhn, T.xht, T.xhm_InvalidArrows⟩, T.xiz_InvalidArrows_InvalidTexts⟩
  · cases (show w.cl 20 = _ from T.n_InvalidEnds).symm.trans hA; exact ⟨⟨T.xga_InvalidEnds, T.xgg_InvalidEnds, T.xs_InvalidEnds, T.xhd_InvalidEnds, T.xha_InvalidEnds, T.xhn, T.xht, T.xhm_InvalidEnds⟩, T.xiz_InvalidEnds_InvalidTexts⟩
  · cases (show w.cl 21 = _ from T.n_InvalidBook).symm.trans hA; exact ⟨⟨T.xga_InvalidBook, T.xgg_InvalidBook, T.xs_InvalidBook, T.xhd_InvalidBook, T.xha_InvalidBook, T.xhn, T.xht, T.xhm_InvalidBook⟩, T.xiz_InvalidBook_InvalidTexts⟩
  · cases (show w.cl 22 = _ from T.n_InvalidTexts).symm.trans hA; exact ⟨⟨T.xga_InvalidTexts, T.xgg_InvalidTexts, T.xs_InvalidTexts, T.xhd_InvalidTexts, T.xha_InvalidTexts, T.xhn, T.xht, T.xhm_InvalidTexts⟩, kit_cc⟩
  · cases (show w.cl 23 = _ from T.n_InvalidDeeds).symm.trans hA; exact ⟨⟨T.xga_InvalidDeeds, T.xgg_InvalidDeeds, T.xs_InvalidDeeds, T.xhd_InvalidDeeds, T.xha_InvalidDeeds, T.xhn, T.xht, T.xhm_InvalidDeeds⟩, T.xiz_InvalidDeeds_InvalidTexts⟩
  · cases (show w.cl 24 = _ from T.n_NothingToUndo).symm.trans hA; exact ⟨⟨T.xga_NothingToUndo, T.xgg_NothingToUndo, T.xs_NothingToUndo, T.xhd_NothingToUndo, T.xha_NothingToUndo, T.xhn, T.xht, T.xhm_NothingToUndo⟩, T.xiz_NothingToUndo_InvalidTexts⟩
  · cases (show w.cl 25 = _ from T.n_Busy).symm.trans hA; exact ⟨⟨T.xga_Busy, T.xgg_Busy, T.xs_Busy, T.xhd_Busy, T.xha_Busy, T.xhn, T.xht, T.xhm_Busy⟩, T.xiz_Busy_InvalidTexts⟩
  · cases (show w.cl 26 = _ from T.n_TooMany).symm.trans hA; exact ⟨⟨T.xga_TooMany, T.xgg_TooMany, T.xs_TooMany, T.xhd_TooMany, T.xha_TooMany, T.xhn, T.xht, T.xhm_TooMany⟩, T.xiz_TooMany_InvalidTexts⟩
theorem xi_TooMany (T : Tx W w mg) : XiOk w (.ref T.c_TooMany) xit_TooMany := by
  intro p hp A hA
  unfold xit_TooMany at hp
  simp only [List.mem_cons, List.not_mem_nil, or_false] at hp
  rcases hp with rfl | rfl | rfl | rfl | rfl | rfl | rfl | rfl | rfl | rfl | rfl | rfl | rfl | rfl | rfl | rfl | rfl | rfl | rfl
  · cases (show w.cl 8 = _ from T.nn_InputError).symm.trans hA
  · cases (show w.cl 9 = _ from T.nn_StateError).symm.trans hA
  · cases (show w.cl 10 = _ from T.nn_SizeError).symm.trans hA
  · cases (show w.cl 11 = _ from T.n_NotAMachine).symm.trans hA; exact ⟨⟨T.xga_NotAMachine, T.xgg_NotAMachine, T.xs_NotAMachine, T.xhd_NotAMachine, T.xha_NotAMachine, T.xhn, T.xht, T.xhm_NotAMachine⟩, T.xiz_NotAMachine_TooMany⟩
  · cases (show w.cl 12 = _ from T.n_NotADesk).symm.trans hA; exact ⟨⟨T.xga_NotADesk, T.xgg_NotADesk, T.xs_NotADesk, T.xhd_NotADesk, T.xha_NotADesk, T.xhn, T.xht, T.xhm_NotADesk⟩, T.xiz_NotADesk_TooMany⟩
  · cases (show w.cl 13 = _ from T.n_InvalidText).symm.trans hA; exact ⟨⟨T.xga_InvalidText, T.xgg_InvalidText, T.xs_InvalidText, T.xhd_InvalidText, T.xha_InvalidText, T.xhn, T.xht, T.xhm_InvalidText⟩, T.xiz_InvalidText_TooMany⟩
  · cases (show w.cl 14 = _ from T.n_InvalidCount).symm.trans hA; exact ⟨⟨T.xga_InvalidCount, T.xgg_InvalidCount, T.xs_InvalidCount, T.xhd_InvalidCount, T.xha_InvalidCount, T.xhn, T.xht, T.xhm_InvalidCount⟩, T.xiz_InvalidCount_TooMany⟩
  · cases (show w.cl 15 = _ from T.n_InvalidLetter).symm.trans hA; exact ⟨⟨T.xga_InvalidLetter, T.xgg_InvalidLetter, T.xs_InvalidLetter, T.xhd_InvalidLetter, T.xha_InvalidLetter, T.xhn, T.xht, T.xhm_InvalidLetter⟩, T.xiz_InvalidLetter_TooMany⟩
  · cases (show w.cl 16 = _ from T.n_InvalidStand).symm.trans hA; exact ⟨⟨T.xga_InvalidStand, T.xgg_InvalidStand, T.xs_InvalidStand, T.xhd_InvalidStand, T.xha_InvalidStand, T.xhn, T.xht, T.xhm_InvalidStand⟩, T.xiz_InvalidStand_TooMany⟩
  · cases (show w.cl 17 = _ from T.n_InvalidWord).symm.trans hA; exact ⟨⟨T.xga_InvalidWord, T.xgg_InvalidWord, T.xs_InvalidWord, T.xhd_InvalidWord, T.xha_InvalidWord, T.xhn, T.xht, T.xhm_InvalidWord⟩, T.xiz_InvalidWord_TooMany⟩
  · cases (show w.cl 18 = _ from T.n_InvalidLine).symm.trans hA; exact ⟨⟨T.xga_InvalidLine, T.xgg_InvalidLine, T.xs_InvalidLine, T.xhd_InvalidLine, T.xha_InvalidLine, T.xhn, T.xht, T.xhm_InvalidLine⟩, T.xiz_InvalidLine_TooMany⟩
  · cases (show w.cl 19 = _ from T.n_InvalidArrows).symm.trans hA; exact ⟨⟨T.xga_InvalidArrows, T.xgg_InvalidArrows, T.xs_InvalidArrows, T.xhd_InvalidArrows, T.xha_InvalidArrows, T.xhn, T.xht, T.xhm_InvalidArrows⟩, T.xiz_InvalidArrows_TooMany⟩
  · cases (show w.cl 20 = _ from T.n_InvalidEnds).symm.trans hA; exact ⟨⟨T.xga_InvalidEnds, T.xgg_InvalidEnds, T.xs_InvalidEnds, T.xhd_InvalidEnds, T.xha_InvalidEnds, T.xhn, T.xht, T.xhm_InvalidEnds⟩, T.xiz_InvalidEnds_TooMany⟩
  · cases (show w.cl 21 = _ from T.n_InvalidBook).symm.trans hA; exact ⟨⟨T.xga_InvalidBook, T.xgg_InvalidBook, T.xs_InvalidBook, T.xhd_InvalidBook, T.xha_InvalidBook, T.xhn, T.xht, T.xhm_InvalidBook⟩, T.xiz_InvalidBook_TooMany⟩
  · cases (show w.cl 22 = _ from T.n_InvalidTexts).symm.trans hA; exact ⟨⟨T.xga_InvalidTexts, T.xgg_InvalidTexts, T.xs_InvalidTexts, T.xhd_InvalidTexts, T.xha_InvalidTexts, T.xhn, T.xht, T.xhm_InvalidTexts⟩, T.xiz_InvalidTexts_TooMany⟩
  · cases (show w.cl 23 = _ from T.n_InvalidDeeds).symm.trans hA; exact ⟨⟨T.xga_InvalidDeeds, T.xgg_InvalidDeeds, T.xs_InvalidDeeds, T.xhd_InvalidDeeds, T.xha_InvalidDeeds, T.xhn, T.xht, T.xhm_InvalidDeeds⟩, T.xiz_InvalidDeeds_TooMany⟩
  · cases (show w.cl 24 = _ from T.n_NothingToUndo).symm.trans hA; exact ⟨⟨T.xga_NothingToUndo, T.xgg_NothingToUndo, T.xs_NothingToUndo, T.xhd_NothingToUndo, T.xha_NothingToUndo, T.xhn, T.xht, T.xhm_NothingToUndo⟩, T.xiz_NothingToUndo_TooMany⟩
  · cases (show w.cl 25 = _ from T.n_Busy).symm.trans hA; exact ⟨⟨T.xga_Busy, T.xgg_Busy, T.xs_Busy, T.xhd_Busy, T.xha_Busy, T.xhn, T.xht, T.xhm_Busy⟩, T.xiz_Busy_TooMany⟩
  · cases (show w.cl 26 = _ from T.n_TooMany).symm.trans hA; exact ⟨⟨T.xga_TooMany, T.xgg_TooMany, T.xs_TooMany, T.xhd_TooMany, T.xha_TooMany, T.xhn, T.xht, T.xhm_TooMany⟩, kit_cc⟩
theorem xi_Busy (T : Tx W w mg) : XiOk w (.ref T.c_Busy) xit_Busy := by
  intro p hp A hA
  unfold xit_Busy at hp
  simp only [List.mem_cons, List.not_mem_nil, or_false] at hp
  rcases hp with rfl | rfl | rfl | rfl | rfl | rfl | rfl | rfl | rfl | rfl | rfl | rfl | rfl | rfl | rfl | rfl | rfl | rfl | rfl
  · cases (show w.cl 8 = _ from T.nn_InputError).symm.trans hA
  · cases (show w.cl 9 = _ from T.nn_StateError).symm.trans hA
  · cases (show w.cl 10 = _ from T.nn_SizeError).symm.trans hA
  · cases (show w.cl 11 = _ from T.n_NotAMachine).symm.trans hA; exact ⟨⟨T.xga_NotAMachine, T.xgg_NotAMachine, T.xs_NotAMachine, T.xhd_NotAMachine, T.xha_NotAMachine, T.xhn, T.xht, T.xhm_NotAMachine⟩, T.xiz_NotAMachine_Busy⟩
  · cases (show w.cl 12 = _ from T.n_NotADesk).symm.trans hA; exact ⟨⟨T.xga_NotADesk, T.xgg_NotADesk, T.xs_NotADesk, T.xhd_NotADesk, T.xha_NotADesk, T.xhn, T.xht, T.xhm_NotADesk⟩, T.xiz_NotADesk_Busy⟩
  · cases (show w.cl 13 = _ from T.n_InvalidText).symm.trans hA; exact ⟨⟨T.xga_InvalidText, T.xgg_InvalidText, T.xs_InvalidText, T.xhd_InvalidText, T.xha_InvalidText, T.xhn, T.xht, T.xhm_InvalidText⟩, T.xiz_InvalidText_Busy⟩
  · cases (show w.cl 14 = _ from T.n_InvalidCount).symm.trans hA; exact ⟨⟨T.xga_InvalidCount, T.xgg_InvalidCount, T.xs_InvalidCount, T.xhd_InvalidCount, T.xha_InvalidCount, T.xhn, T.xht, T.xhm_InvalidCount⟩, T.xiz_InvalidCount_Busy⟩
  · cases (show w.cl 15 = _ from T.n_InvalidLetter).symm.trans hA; exact ⟨⟨T.xga_InvalidLetter, T.xgg_InvalidLetter, T.xs_InvalidLetter, T.xhd_InvalidLetter, T.xha_InvalidLetter, T.xhn, T.xht, T.xhm_InvalidLetter⟩, T.xiz_InvalidLetter_Busy⟩
  · cases (show w.cl 16 = _ from T.n_InvalidStand).symm.trans hA; exact ⟨⟨T.xga_InvalidStand, T.xgg_InvalidStand, T.xs_InvalidStand, T.xhd_InvalidStand, T.xha_InvalidStand, T.xhn, T.xht, T.xhm_InvalidStand⟩, T.xiz_InvalidStand_Busy⟩
  · cases (show w.cl 17 = _ from T.n_InvalidWord).symm.trans hA; exact ⟨⟨T.xga_InvalidWord, T.xgg_InvalidWord, T.xs_InvalidWord, T.xhd_InvalidWord, T.xha_InvalidWord, T.xhn, T.xht, T.xhm_InvalidWord⟩, T.xiz_InvalidWord_Busy⟩
  · cases (show w.cl 18 = _ from T.n_InvalidLine).symm.trans hA; exact ⟨⟨T.xga_InvalidLine, T.xgg_InvalidLine, T.xs_InvalidLine, T.xhd_InvalidLine, T.xha_InvalidLine, T.xhn, T.xht, T.xhm_InvalidLine⟩, T.xiz_InvalidLine_Busy⟩
  · cases (show w.cl 19 = _ from T.n_InvalidArrows).symm.trans hA; exact ⟨⟨T.xga_InvalidArrows, T.xgg_InvalidArrows, T.xs_InvalidArrows, T.xhd_InvalidArrows, T.xha_InvalidArrows, T.xhn, T.xht, T.xhm_InvalidArrows⟩, T.xiz_InvalidArrows_Busy⟩
  · cases (show w.cl 20 = _ from T.n_InvalidEnds).symm.trans hA; exact ⟨⟨T.xga_InvalidEnds, T.xgg_InvalidEnds, T.xs_InvalidEnds, T.xhd_InvalidEnds, T.xha_InvalidEnds, T.xhn, T.xht, T.xhm_InvalidEnds⟩, T.xiz_InvalidEnds_Busy⟩
  · cases (show w.cl 21 = _ from T.n_InvalidBook).symm.trans hA; exact ⟨⟨T.xga_InvalidBook, T.xgg_InvalidBook, T.xs_InvalidBook, T.xhd_InvalidBook, T.xha_InvalidBook, T.xhn, T.xht, T.xhm_InvalidBook⟩, T.xiz_InvalidBook_Busy⟩
  · cases (show w.cl 22 = _ from T.n_InvalidTexts).symm.trans hA; exact ⟨⟨T.xga_InvalidTexts, T.xgg_InvalidTexts, T.xs_InvalidTexts, T.xhd_InvalidTexts, T.xha_InvalidTexts, T.xhn, T.xht, T.xhm_InvalidTexts⟩, T.xiz_InvalidTexts_Busy⟩
  · cases (show w.cl 23 = _ from T.n_InvalidDeeds).symm.trans hA; exact ⟨⟨T.xga_InvalidDeeds, T.xgg_InvalidDeeds, T.xs_InvalidDeeds, T.xhd_InvalidDeeds, T.xha_InvalidDeeds, T.xhn, T.xht, T.xhm_InvalidDeeds⟩, T.xiz_InvalidDeeds_Busy⟩
  · cases (show w.cl 24 = _ from T.n_NothingToUndo).symm.trans hA; exact ⟨⟨T.xga_NothingToUndo, T.xgg_NothingToUndo, T.xs_NothingToUndo, T.xhd_NothingToUndo, T.xha_NothingToUndo, T.xhn, T.xht, T.xhm_NothingToUndo⟩, T.xiz_NothingToUndo_Busy⟩
  · cases (show w.cl 25 = _ from T.n_Busy).symm.trans hA; exact ⟨⟨T.xga_Busy, T.xgg_Busy, T.xs_Busy, T.xhd_Busy, T.xha_Busy, T.xhn, T.xht, T.xhm_Busy⟩, kit_cc⟩
  · cases (show w.cl 26 = _ from T.n_TooMany).symm.trans hA; exact ⟨⟨T.xga_TooMany, T.xgg_TooMany, T.xs_TooMany, T.xhd_TooMany, T.xha_TooMany, T.xhn, T.xht, T.xhm_TooMany⟩, T.xiz_TooMany_Busy⟩
theorem xi_NothingToUndo (T : Tx W w mg) : XiOk w (.ref T.c_NothingToUndo) xit_NothingToUndo := by
  intro p hp A hA
  unfold xit_NothingToUndo at hp
  simp only [List.mem_cons, List.not_mem_nil, or_false] at hp
  rcases hp with rfl | rfl | rfl | rfl | rfl | rfl | rfl | rfl | rfl | rfl | rfl | rfl | rfl | rfl | rfl | rfl | rfl | rfl | rfl
  · cases (show w.cl 8 = _ from T.nn_InputError).symm.trans hA
  · cases (show w.cl 9 = _ from T.nn_StateError).symm.trans hA
  · cases (show w.cl 10 = _ from T.nn_SizeError).symm.trans hA
  · cases (show w.cl 11 = _ from T.n_NotAMachine).symm.trans hA; exact ⟨⟨T.xga_NotAMachine, T.xgg_NotAMachine, T.xs_NotAMachine, T.xhd_NotAMachine, T.xha_NotAMachine, T.xhn, T.xht, T.xhm_NotAMachine⟩, T.xiz_NotAMachine_NothingToUndo⟩
  · cases (show w.cl 12 = _ from T.n_NotADesk).symm.trans hA; exact ⟨⟨T.xga_NotADesk, T.xgg_NotADesk, T.xs_NotADesk, T.xhd_NotADesk, T.xha_NotADesk, T.xhn, T.xht, T.xhm_NotADesk⟩, T.xiz_NotADesk_NothingToUndo⟩
  · cases (show w.cl 13 = _ from T.n_InvalidText).symm.trans hA; exact ⟨⟨T.xga_InvalidText, T.xgg_InvalidText, T.xs_InvalidText, T.xhd_InvalidText, T.xha_InvalidText, T.xhn, T.xht, T.xhm_InvalidText⟩, T.xiz_InvalidText_NothingToUndo⟩
  · cases (show w.cl 14 = _ from T.n_InvalidCount).symm.trans hA; exact ⟨⟨T.xga_InvalidCount, T.xgg_InvalidCount, T.xs_InvalidCount, T.xhd_InvalidCount, T.xha_InvalidCount, T.xhn, T.xht, T.xhm_InvalidCount⟩, T.xiz_InvalidCount_NothingToUndo⟩
  · cases (show w.cl 15 = _ from T.n_InvalidLetter).symm.trans hA; exact ⟨⟨T.xga_InvalidLetter, T.xgg_InvalidLetter, T.xs_InvalidLetter, T.xhd_InvalidLetter, T.xha_InvalidLetter, T.xhn, T.xht, T.xhm_InvalidLetter⟩, T.xiz_InvalidLetter_NothingToUndo⟩
  · cases (show w.cl 16 = _ from T.n_InvalidStand).symm.trans hA; exact ⟨⟨T.xga_InvalidStand, T.xgg_InvalidStand, T.xs_InvalidStand, T.xhd_InvalidStand, T.xha_InvalidStand, T.xhn, T.xht, T.xhm_InvalidStand⟩, T.xiz_InvalidStand_NothingToUndo⟩
  · cases (show w.cl 17 = _ from T.n_InvalidWord).symm.trans hA; exact ⟨⟨T.xga_InvalidWord, T.xgg_InvalidWord, T.xs_InvalidWord, T.xhd_InvalidWord, T.xha_InvalidWord, T.xhn, T.xht, T.xhm_InvalidWord⟩, T.xiz_InvalidWord_NothingToUndo⟩
  · cases (show w.cl 18 = _ from T.n_InvalidLine).symm.trans hA; exact ⟨⟨T.xga_InvalidLine, T.xgg_InvalidLine, T.xs_InvalidLine, T.xhd_InvalidLine, T.xha_InvalidLine, T.xhn, T.xht, T.xhm_InvalidLine⟩, T.xiz_InvalidLine_NothingToUndo⟩
  · cases (show w.cl 19 = _ from T.n_InvalidArrows).symm.trans hA; exact ⟨⟨T.xga_InvalidArrows, T.xgg_InvalidArrows, T.xs_InvalidArrows, T.xhd_InvalidArrows, T.xha_InvalidArrows, T.xhn, T.xht, T.xhm_InvalidArrows⟩, T.xiz_InvalidArrows_NothingToUndo⟩
  · cases (show w.cl 20 = _ from T.n_InvalidEnds).symm.trans hA; exact ⟨⟨T.xga_InvalidEnds, T.xgg_InvalidEnds, T.xs_InvalidEnds, T.xhd_InvalidEnds, T.xha_InvalidEnds, T.xhn, T.xht, T.xhm_InvalidEnds⟩, T.xiz_InvalidEnds_NothingToUndo⟩
  · cases (show w.cl 21 = _ from T.n_InvalidBook).symm.trans hA; exact ⟨⟨T.xga_InvalidBook, T.xgg_InvalidBook, T.xs_InvalidBook, T.xhd_InvalidBook, T.xha_InvalidBook, T.xhn, T.xht, T.xhm_InvalidBook⟩, T.xiz_InvalidBook_NothingToUndo⟩
  · cases (show w.cl 22 = _ from T.n_InvalidTexts).symm.trans hA; exact ⟨⟨T.xga_InvalidTexts, T.xgg_InvalidTexts, T.xs_InvalidTexts, T.xhd_InvalidTexts, T.xha_InvalidTexts, T.xhn, T.xht, T.xhm_InvalidTexts⟩, T.xiz_InvalidTexts_NothingToUndo⟩
  · cases (show w.cl 23 = _ from T.n_InvalidDeeds).symm.trans hA; exact ⟨⟨T.xga_InvalidDeeds, T.xgg_InvalidDeeds, T.xs_InvalidDeeds, T.xhd_InvalidDeeds, T.xha_InvalidDeeds, T.xhn, T.xht, T.xhm_InvalidDeeds⟩, T.xiz_InvalidDeeds_NothingToUndo⟩
  · cases (show w.cl 24 = _ from T.n_NothingToUndo).symm.trans hA; exact ⟨⟨T.xga_NothingToUndo, T.xgg_NothingToUndo, T.xs_NothingToUndo, T.xhd_NothingToUndo, T.xha_NothingToUndo, T.xhn, T.xht, T.xhm_NothingToUndo⟩, kit_cc⟩
  · cases (show w.cl 25 = _ from T.n_Busy).symm.trans hA; exact ⟨⟨T.xga_Busy, T.xgg_Busy, T.xs_Busy, T.xhd_Busy, T.xha_Busy, T.xhn, T.xht, T.xhm_Busy⟩, T.xiz_Busy_NothingToUndo⟩
  · cases (show w.cl 26 = _ from T.n_TooMany).symm.trans hA; exact ⟨⟨T.xga_TooMany, T.xgg_TooMany, T.xs_TooMany, T.xhd_TooMany, T.xha_TooMany, T.xhn, T.xht, T.xhm_TooMany⟩, T.xiz_TooMany_NothingToUndo⟩
theorem bd__law_pinch_2 (T : Tx W w mg) : Bd w.K T.fd__law_pinch ["_law_sack_here", "_law_many"] [] 2 [] [0, 1] := by
  obtain ⟨_, _, _, _, _, _, _, _, _, e, _, _⟩ := T.F__law_pinch.ex
  refine ⟨fun s us ws _ h1 h2 => ?_, rfl, by decide⟩
  rw [e]
  match us, ws, h1, h2 with | [_, _], [], _, _ => exact .of_eq rfl
theorem bd__law_one_2 (T : Tx W w mg) : Bd w.K T.fd__law_one ["_law_sack_here", "_law_things"] [] 2 [] [0, 1] := by
  obtain ⟨_, _, _, _, _, _, _, _, _, e, _, _⟩ := T.F__law_one.ex
  refine ⟨fun s us ws _ h1 h2 => ?_, rfl, by decide⟩
  rw [e]
  match us, ws, h1, h2 with | [_, _], [], _, _ => exact .of_eq rfl
theorem bd__law_value_errors_1 (T : Tx W w mg) : Bd w.K T.fd__law_value_errors ["_law_stuff"] [] 1 [] [0] := by
  obtain ⟨_, _, _, _, _, _, _, _, _, e, _, _⟩ := T.F__law_value_errors.ex
  refine ⟨fun s us ws _ h1 h2 => ?_, rfl, by decide⟩
  rw [e]
  match us, ws, h1, h2 with | [_], [], _, _ => exact .of_eq rfl
theorem bd__law_index_errors_1 (T : Tx W w mg) : Bd w.K T.fd__law_index_errors ["_law_stuff"] [] 1 [] [0] := by
  obtain ⟨_, _, _, _, _, _, _, _, _, e, _, _⟩ := T.F__law_index_errors.ex
  refine ⟨fun s us ws _ h1 h2 => ?_, rfl, by decide⟩
  rw [e]
  match us, ws, h1, h2 with | [_], [], _, _ => exact .of_eq rfl
theorem bd__law_bases_1 (T : Tx W w mg) : Bd w.K T.fd__law_bases ["_law_e"] [] 1 [] [0] := by
  obtain ⟨_, _, _, _, _, _, _, _, _, e, _, _⟩ := T.F__law_bases.ex
  refine ⟨fun s us ws _ h1 h2 => ?_, rfl, by decide⟩
  rw [e]
  match us, ws, h1, h2 with | [_], [], _, _ => exact .of_eq rfl
theorem bd__law_instances_1 (T : Tx W w mg) : Bd w.K T.fd__law_instances ["_law_e"] [] 1 [] [0] := by
  obtain ⟨_, _, _, _, _, _, _, _, _, e, _, _⟩ := T.F__law_instances.ex
  refine ⟨fun s us ws _ h1 h2 => ?_, rfl, by decide⟩
  rw [e]
  match us, ws, h1, h2 with | [_], [], _, _ => exact .of_eq rfl
theorem bd__law_right_1 (T : Tx W w mg) : Bd w.K T.fd__law_right ["_law_sack_here"] [] 1 [] [0] := by
  obtain ⟨_, _, _, _, _, _, _, _, _, e, _, _⟩ := T.F__law_right.ex
  refine ⟨fun s us ws _ h1 h2 => ?_, rfl, by decide⟩
  rw [e]
  match us, ws, h1, h2 with | [_], [], _, _ => exact .of_eq rfl
theorem bd__law_sack_2 (T : Tx W w mg) : Bd w.K T.fd__law_sack ["_law_script", "_law_k"] [] 2 [] [0, 1] := by
  obtain ⟨_, _, _, _, _, _, _, _, _, e, _, _⟩ := T.F__law_sack.ex
  refine ⟨fun s us ws _ h1 h2 => ?_, rfl, by decide⟩
  rw [e]
  match us, ws, h1, h2 with | [_, _], [], _, _ => exact .of_eq rfl
theorem w__law_pinch (T : Tx W w mg) : FnM P W w mg base CX0 exF 1 T.a__law_pinch T.fd__law_pinch ["_law_sack_here", "_law_many"] m__law_pinch := by
  refine fnm_of T.hW T.F__law_pinch sc__law_pinch fun cdv A outer s H E C => ?_
  have nd := sc__law_pinch.nd
  exact (mss_cons (ms_asg (me_op (o_add C) (me_ix C (me_var 0) me_int) me_int) (mg_sub p_setIx (me_var 0) me_int)) (mss_cons (ms_if (mt_cmp o_gt (me_ix C (me_var 0) me_int) me_int (nomark _)) (mss_cons (ms_asg (me_blt b_divmod (by rfl) T.z_divmod (by decide +kernel) (ma_cons (me_ty (b_int C) (by rfl) T.z_int (by decide +kernel) (ma_cons (me_ix C (me_var 0) me_int) ma_nil)) (ma_cons (me_var 1) ma_nil))) (mg_tup C 2 (mgs_cons (mg_sub p_setIx (me_var 0) me_int) (mgs_cons (mg_name 2 nd) mgs_nil)))) (mss_cons (ms_ret (me_var 2)) mss_nil)) mss_nil) (mss_cons (ms_asg (me_op o_mod (me_ty (b_int C) (by rfl) T.z_int (by decide +kernel) (ma_cons (me_op (o_add C) (me_op (o_add C) (me_op (o_mul C) (me_ix C (me_var 0) me_int) me_int) (me_op (o_mul C) (me_ix C (me_var 0) me_int) me_int)) (me_op (o_mul C) (me_op o_fdiv (me_ix C (me_var 0) me_int) me_int) me_int)) ma_nil)) me_int) (mg_sub p_setIx (me_var 0) me_int)) (mss_cons (ms_ret (me_op o_mod (me_ty (b_int C) (by rfl) T.z_int (by decide +kernel) (ma_cons (me_op o_fdiv (me_ix C (me_var 0) me_int) me_int) ma_nil)) (me_var 1))) mss_nil))))

theorem w__law_one (T : Tx W w mg) : FnM P W w mg base CX0 exF 2 T.a__law_one T.fd__law_one ["_law_sack_here", "_law_things"] m__law_one := by
  refine fnm_of T.hW T.F__law_one sc__law_one fun cdv A outer s H E C => ?_
  have nd := sc__law_one.nd
  exact (mss_cons (ms_ret (me_ix C (me_var 1) (me_call (clb_fn C ((w__law_pinch T).mono (by decide)) pass0 T.F__law_pinch.kp (bd__law_pinch_2 T) .nil (fun _ _ _ => .nil) tb_ok) (by rfl) T.g__law_pinch (ma_cons (me_var 0) (ma_cons (me_blt (b_len C) (by rfl) T.z_len (by decide +kernel) (ma_cons (me_var 1) ma_nil)) ma_nil))))) mss_nil)

theorem w__law_value_errors (T : Tx W w mg) : FnM P W w mg base CX0 exF 3 T.a__law_value_errors T.fd__law_value_errors ["_law_stuff"] m__law_value_errors := by
  refine fnm_of T.hW T.F__law_value_errors sc__law_value_errors fun cdv A outer s H E C => ?_
  have nd := sc__law_value_errors.nd
  exact (mss_cons (ms_set 1 nd (me_lst (ma_cons (me_call (clb_exv 11 [118, 97, 108, 117, 101] C T.n_NotAMachine (xv_NotAMachine T)) (by rfl) T.g_NotAMachine (ma_cons (me_var 0) ma_nil)) (ma_cons (me_call (clb_exv 12 [118, 97, 108, 117, 101] C T.n_NotADesk (xv_NotADesk T)) (by rfl) T.g_NotADesk (ma_cons (me_var 0) ma_nil)) (ma_cons (me_call (clb_exv 13 [118, 97, 108, 117, 101] C T.n_InvalidText (xv_InvalidText T)) (by rfl) T.g_InvalidText (ma_cons (me_var 0) ma_nil)) (ma_cons (me_call (clb_exv 14 [118, 97, 108, 117, 101] C T.n_InvalidCount (xv_InvalidCount T)) (by rfl) T.g_InvalidCount (ma_cons (me_var 0) ma_nil)) ma_nil)))))) (mss_cons (ms_set 1 nd (me_op (o_add C) (me_var 1) (me_lst (ma_cons (me_call (clb_exv 15 [118, 97, 108, 117, 101] C T.n_InvalidLetter (xv_InvalidLetter T)) (by rfl) T.g_InvalidLetter (ma_cons (me_var 0) ma_nil)) (ma_cons (me_call (clb_exv 16 [118, 97, 108, 117, 101] C T.n_InvalidStand (xv_InvalidStand T)) (by rfl) T.g_InvalidStand (ma_cons (me_var 0) ma_nil)) (ma_cons (me_call (clb_exv 17 [118, 97, 108, 117, 101] C T.n_InvalidWord (xv_InvalidWord T)) (by rfl) T.g_InvalidWord (ma_cons (me_var 0) ma_nil)) (ma_cons (me_call (clb_exv 18 [118, 97, 108, 117, 101] C T.n_InvalidLine (xv_InvalidLine T)) (by rfl) T.g_InvalidLine (ma_cons (me_var 0) ma_nil)) ma_nil))))))) (mss_cons (ms_set 2 nd (me_lst (ma_cons (me_callK0 (clb_exk (ks := ["value"]) 11 [118, 97, 108, 117, 101] C T.n_NotAMachine (xv_NotAMachine T) (by decide +kernel)) (by rfl) T.g_NotAMachine (mk_cons (me_var 0) mk_nil) 1) (ma_cons (me_callK0 (clb_exk (ks := ["value"]) 12 [118, 97, 108, 117, 101] C T.n_NotADesk (xv_NotADesk T) (by decide +kernel)) (by rfl) T.g_NotADesk (mk_cons (me_var 0) mk_nil) 1) (ma_cons (me_callK0 (clb_exk (ks := ["value"]) 13 [118, 97, 108, 117, 101] C T.n_InvalidText (xv_InvalidText T) (by decide +kernel)) (by rfl) T.g_InvalidText (mk_cons (me_var 0) mk_nil) 1) ma_nil))))) (mss_cons (ms_set 2 nd (me_op (o_add C) (me_var 2) (me_lst (ma_cons (me_callK0 (clb_exk (ks := ["value"]) 14 [118, 97, 108, 117, 101] C T.n_InvalidCount (xv_InvalidCount T) (by decide +kernel)) (by rfl) T.g_InvalidCount (mk_cons (me_var 0) mk_nil) 1) (ma_cons (me_callK0 (clb_exk (ks := ["value"]) 15 [118, 97, 108, 117, 101] C T.n_InvalidLetter (xv_InvalidLetter T) (by decide +kernel)) (by rfl) T.g_InvalidLetter (mk_cons (me_var 0) mk_nil) 1) (ma_cons (me_callK0 (clb_exk (ks := ["value"]) 16 [118, 97, 108, 117, 101] C T.n_InvalidStand (xv_InvalidStand T) (by decide +kernel)) (by rfl) T.g_InvalidStand (mk_cons (me_var 0) mk_nil) 1) ma_nil)))))) (mss_cons (ms_set 2 nd (me_op (o_add C) (me_var 2) (me_lst (ma_cons (me_callK0 (clb_exk (ks := ["value"]) 17 [118, 97, 108, 117, 101] C T.n_InvalidWord (xv_InvalidWord T) (by decide +kernel)) (by rfl) T.g_InvalidWord (mk_cons (me_var 0) mk_nil) 1) (ma_cons (me_callK0 (clb_exk (ks := ["value"]) 18 [118, 97, 108, 117, 101] C T.n_InvalidLine (xv_InvalidLine T) (by decide +kernel)) (by rfl) T.g_InvalidLine (mk_cons (me_var 0) mk_nil) 1) ma_nil))))) (mss_cons (ms_ret (me_op (o_add C) (me_var 1) (me_var 2))) mss_nil))))))

theorem w__law_index_errors (T : Tx W w mg) : FnM P W w mg base CX0 exF 3 T.a__law_index_errors T.fd__law_index_errors ["_law_stuff"] m__law_index_errors := by
  refine fnm_of T.hW T.F__law_index_errors sc__law_index_errors fun cdv A outer s H E C => ?_
  have nd := sc__law_index_errors.nd
  exact (mss_cons (ms_set 1 nd (me_lst (ma_cons (me_call (clb_exv 19 [105, 110, 100, 101, 120] C T.n_InvalidArrows (xv_InvalidArrows T)) (by rfl) T.g_InvalidArrows (ma_cons (me_var 0) ma_nil)) (ma_cons (me_call (clb_exv 20 [105, 110, 100, 101, 120] C T.n_InvalidEnds (xv_InvalidEnds T)) (by rfl) T.g_InvalidEnds (ma_cons (me_var 0) ma_nil)) (ma_cons (me_call (clb_exv 21 [105, 110, 100, 101, 120] C T.n_InvalidBook (xv_InvalidBook T)) (by rfl) T.g_InvalidBook (ma_cons (me_var 0) ma_nil)) (ma_cons (me_call (clb_exv 22 [105, 110, 100, 101, 120] C T.n_InvalidTexts (xv_InvalidTexts T)) (by rfl) T.g_InvalidTexts (ma_cons (me_var 0) ma_nil)) ma_nil)))))) (mss_cons (ms_set 1 nd (me_op (o_add C) (me_var 1) (me_lst (ma_cons (me_call (clb_exv 23 [105, 110, 100, 101, 120] C T.n_InvalidDeeds (xv_InvalidDeeds T)) (by rfl) T.g_InvalidDeeds (ma_cons (me_var 0) ma_nil)) ma_nil)))) (mss_cons (ms_set 2 nd (me_lst (ma_cons (me_callK0 (clb_exk (ks := ["index"]) 19 [105, 110, 100, 101, 120] C T.n_InvalidArrows (xv_InvalidArrows T) (by decide +kernel)) (by rfl) T.g_InvalidArrows (mk_cons (me_var 0) mk_nil) 1) (ma_cons (me_callK0 (clb_exk (ks := ["index"]) 20 [105, 110, 100, 101, 120] C T.n_InvalidEnds (xv_InvalidEnds T) (by decide +kernel)) (by rfl) T.g_InvalidEnds (mk_cons (me_var 0) mk_nil) 1) (ma_cons (me_callK0 (clb_exk (ks := ["index"]) 21 [105, 110, 100, 101, 120] C T.n_InvalidBook (xv_InvalidBook T) (by decide +kernel)) (by rfl) T.g_InvalidBook (mk_cons (me_var 0) mk_nil) 1) ma_nil))))) (mss_cons (ms_set 2 nd (me_op (o_add C) (me_var 2) (me_lst (ma_cons (me_callK0 (clb_exk (ks := ["index"]) 22 [105, 110, 100, 101, 120] C T.n_InvalidTexts (xv_InvalidTexts T) (by decide +kernel)) (by rfl) T.g_InvalidTexts (mk_cons (me_var 0) mk_nil) 1) (ma_cons (me_callK0 (clb_exk (ks := ["index"]) 23 [105, 110, 100, 101, 120] C T.n_InvalidDeeds (xv_InvalidDeeds T) (by decide +kernel)) (by rfl) T.g_InvalidDeeds (mk_cons (me_var 0) mk_nil) 1) ma_nil))))) (mss_cons (ms_ret (me_op (o_add C) (me_var 1) (me_var 2))) mss_nil)))))

theorem w__law_bases (T : Tx W w mg) : FnM P W w mg base CX0 exF 1 T.a__law_bases T.fd__law_bases ["_law_e"] m__law_bases := by
  refine fnm_of T.hW T.F__law_bases sc__law_bases fun cdv A outer s H E C => ?_
  have nd := sc__law_bases.nd
  exact (mss_cons (ms_set 1 nd (me_lst (ma_cons (me_xvC C (xi_InputError (w := w) T) (me_var 0) (by rfl) T.z_isinstance (by rfl) T.g_InputError) (ma_cons (me_xvC C (xi_StateError (w := w) T) (me_var 0) (by rfl) T.z_isinstance (by rfl) T.g_StateError) (ma_cons (me_xvC C (xi_SizeError (w := w) T) (me_var 0) (by rfl) T.z_isinstance (by rfl) T.g_SizeError) ma_nil))))) (mss_cons (ms_set 1 nd (me_op (o_add C) (me_var 1) (me_lst (ma_cons (me_xvT C (xi_ValueError (w := w) T) (me_var 0) (by rfl) T.z_isinstance (by rfl) T.z_ValueError (by decide +kernel)) (ma_cons (me_xvT C (xi_LookupError (w := w) T) (me_var 0) (by rfl) T.z_isinstance (by rfl) T.z_LookupError (by decide +kernel)) (ma_cons (me_xvT C (xi_ArithmeticError (w := w) T) (me_var 0) (by rfl) T.z_isinstance (by rfl) T.z_ArithmeticError (by decide +kernel)) ma_nil)))))) (mss_cons (ms_ret (me_lc (EX2 := EXF) (own := [("_law_k", 2)]) (vs := [2]) (g := (Tg.nm 2)) C nd (mi_rng1 (by rfl) T.z_range (ma_cons me_int ma_nil)) (by kernel_rfl) (fun _ _ _ _ _ => (pg_name nd rfl (by first | exact Or.inl rfl | exact Or.inr rfl))) (fun _ _ _ _ _ C => (pts_one (mt_tru C (me_ix C (me_var 1) (me_var 2))))) (fun _ _ _ _ _ C => (me_var 2)))) mss_nil)))

theorem w__law_instances (T : Tx W w mg) : FnM P W w mg base CX0 exF 1 T.a__law_instances T.fd__law_instances ["_law_e"] m__law_instances := by
  refine fnm_of T.hW T.F__law_instances sc__law_instances fun cdv A outer s H E C => ?_
  have nd := sc__law_instances.nd
  exact (mss_cons (ms_set 1 nd (me_lst (ma_cons (me_xvC C (xi_NotAMachine (w := w) T) (me_var 0) (by rfl) T.z_isinstance (by rfl) T.g_NotAMachine) (ma_cons (me_xvC C (xi_NotADesk (w := w) T) (me_var 0) (by rfl) T.z_isinstance (by rfl) T.g_NotADesk) (ma_cons (me_xvC C (xi_InvalidText (w := w) T) (me_var 0) (by rfl) T.z_isinstance (by rfl) T.g_InvalidText) ma_nil))))) (mss_cons (ms_set 1 nd (me_op (o_add C) (me_var 1) (me_lst (ma_cons (me_xvC C (xi_InvalidCount (w := w) T) (me_var 0) (by rfl) T.z_isinstance (by rfl) T.g_InvalidCount) (ma_cons (me_xvC C (xi_InvalidLetter (w := w) T) (me_var 0) (by rfl) T.z_isinstance (by rfl) T.g_InvalidLetter) ma_nil))))) (mss_cons (ms_set 1 nd (me_op (o_add C) (me_var 1) (me_lst (ma_cons (me_xvC C (xi_InvalidStand (w := w) T) (me_var 0) (by rfl) T.z_isinstance (by rfl) T.g_InvalidStand) (ma_cons (me_xvC C (xi_InvalidWord (w := w) T) (me_var 0) (by rfl) T.z_isinstance (by rfl) T.g_InvalidWord) ma_nil))))) (mss_cons (ms_set 1 nd (me_op (o_add C) (me_var 1) (me_lst (ma_cons (me_xvC C (xi_InvalidLine (w := w) T) (me_var 0) (by rfl) T.z_isinstance (by rfl) T.g_InvalidLine) (ma_cons (me_xvC C (xi_InvalidArrows (w := w) T) (me_var 0) (by rfl) T.z_isinstance (by rfl) T.g_InvalidArrows) ma_nil))))) (mss_cons (ms_set 1 nd (me_op (o_add C) (me_var 1) (me_lst (ma_cons (me_xvC C (xi_InvalidEnds (w := w) T) (me_var 0) (by rfl) T.z_isinstance (by rfl) T.g_InvalidEnds) (ma_cons (me_xvC C (xi_InvalidBook (w := w) T) (me_var 0) (by rfl) T.z_isinstance (by rfl) T.g_InvalidBook) ma_nil))))) (mss_cons (ms_set 1 nd (me_op (o_add C) (me_var 1) (me_lst (ma_cons (me_xvC C (xi_InvalidTexts (w := w) T) (me_var 0) (by rfl) T.z_isinstance (by rfl) T.g_InvalidTexts) (ma_cons (me_xvC C (xi_InvalidDeeds (w := w) T) (me_var 0) (by rfl) T.z_isinstance (by rfl) T.g_InvalidDeeds) ma_nil))))) (mss_cons (ms_set 1 nd (me_op (o_add C) (me_var 1) (me_lst (ma_cons (me_xvC C (xi_NothingToUndo (w := w) T) (me_var 0) (by rfl) T.z_isinstance (by rfl) T.g_NothingToUndo) (ma_cons (me_xvC C (xi_Busy (w := w) T) (me_var 0) (by rfl) T.z_isinstance (by rfl) T.g_Busy) (ma_cons (me_xvC C (xi_TooMany (w := w) T) (me_var 0) (by rfl) T.z_isinstance (by rfl) T.g_TooMany) ma_nil)))))) (mss_cons (ms_ret (me_blt (b_len C) (by rfl) T.z_len (by decide +kernel) (ma_cons (me_lc (EX2 := EXF) (own := [("_law_each", 2)]) (vs := [2]) (g := (Tg.nm 2)) C nd (mi_val C (me_var 1)) (by kernel_rfl) (fun _ _ _ _ _ => (pg_name nd rfl (by first | exact Or.inl rfl | exact Or.inr rfl))) (fun _ _ _ _ _ C => (pts_one (mt_tru C (me_var 2)))) (fun _ _ _ _ _ C => (me_var 2))) ma_nil))) mss_nil))))))))

theorem w__law_right (T : Tx W w mg) : FnM P W w mg base CX0 exF 4 T.a__law_right T.fd__law_right ["_law_sack_here"] m__law_right := by
  refine fnm_of T.hW T.F__law_right sc__law_right fun cdv A outer s H E C => ?_
  have nd := sc__law_right.nd
  exact (mss_cons (ms_set 1 nd (me_call (clb_fn C ((w__law_one T).mono (by decide)) pass0 T.F__law_one.kp (bd__law_one_2 T) .nil (fun _ _ _ => .nil) tb_ok) (by rfl) T.g__law_one (ma_cons (me_var 0) (ma_cons (me_lst (ma_cons me_non (ma_cons me_int (ma_cons me_bl (ma_cons (me_str [120]) (ma_cons (me_tup (ma_cons me_int (ma_cons (me_str [121]) ma_nil))) (ma_cons (me_lst (ma_cons me_int ma_nil)) (ma_cons me_dict0 (ma_cons (me_op o_pow me_int me_int) (ma_cons (me_tup ma_nil) (ma_cons (me_un o_neg me_int) ma_nil))))))))))) ma_nil)))) (mss_cons (ms_par C 2 3 nd (me_call (clb_fn C ((w__law_value_errors T).mono (by decide)) pass0 T.F__law_value_errors.kp (bd__law_value_errors_1 T) .nil (fun _ _ _ => .nil) tb_ok) (by rfl) T.g__law_value_errors (ma_cons (me_var 1) ma_nil)) (me_call (clb_fn C ((w__law_index_errors T).mono (by decide)) pass0 T.F__law_index_errors.kp (bd__law_index_errors_1 T) .nil (fun _ _ _ => .nil) tb_ok) (by rfl) T.g__law_index_errors (ma_cons (me_var 1) ma_nil))) (mss_cons (ms_par C 4 5 nd (me_lst (ma_cons (me_mk0 24 C T.n_NothingToUndo PySem.F.excBase_LookupError T.xq_NothingToUndo T.g_NothingToUndo T.xk_NothingToUndo (by rfl)) (ma_cons (me_mk0 25 C T.n_Busy PySem.F.excBase_LookupError T.xq_Busy T.g_Busy T.xk_Busy (by rfl)) ma_nil))) (me_lst (ma_cons (me_call (clb_exv 26 [108, 105, 109, 105, 116] C T.n_TooMany (xv_TooMany T)) (by rfl) T.g_TooMany (ma_cons (me_var 1) ma_nil)) (ma_cons (me_callK0 (clb_exk (ks := ["limit"]) 26 [108, 105, 109, 105, 116] C T.n_TooMany (xv_TooMany T) (by decide +kernel)) (by rfl) T.g_TooMany (mk_cons (me_var 1) mk_nil) 1) ma_nil)))) (mss_cons (ms_set 6 nd (me_op (o_add C) (me_op (o_add C) (me_lc (EX2 := EXF) (own := [("_law_e", 9)]) (vs := [9]) (g := (Tg.nm 9)) C nd (mi_val C (me_var 2)) (by kernel_rfl) (fun _ _ _ _ _ => (pg_name nd rfl (by first | exact Or.inl rfl | exact Or.inr rfl))) (fun _ _ _ _ _ C => mts_nil) (fun _ _ _ _ _ C => (me_xfV C [118, 97, 108, 117, 101] (by decide +kernel) (xfld_value (w := w) T) (me_var 9)))) (me_lc (EX2 := EXF) (own := [("_law_e", 9)]) (vs := [9]) (g := (Tg.nm 9)) C nd (mi_val C (me_var 3)) (by kernel_rfl) (fun _ _ _ _ _ => (pg_name nd rfl (by first | exact Or.inl rfl | exact Or.inr rfl))) (fun _ _ _ _ _ C => mts_nil) (fun _ _ _ _ _ C => (me_xfV C [105, 110, 100, 101, 120] (by decide +kernel) (xfld_index (w := w) T) (me_var 9))))) (me_lc (EX2 := EXF) (own := [("_law_e", 9)]) (vs := [9]) (g := (Tg.nm 9)) C nd (mi_val C (me_var 5)) (by kernel_rfl) (fun _ _ _ _ _ => (pg_name nd rfl (by first | exact Or.inl rfl | exact Or.inr rfl))) (fun _ _ _ _ _ C => mts_nil) (fun _ _ _ _ _ C => (me_xfV C [108, 105, 109, 105, 116] (by decide +kernel) (xfld_limit (w := w) T) (me_var 9)))))) (mss_cons (ms_if (PW.pt (mw_or (mt_cmp (o_ne C) (me_blt (b_reprQ C) (by rfl) T.z_repr (by decide +kernel) (ma_cons (me_var 6) ma_nil)) (me_blt (b_reprQ C) (by rfl) T.z_repr (by decide +kernel) (ma_cons (me_op (o_mul C) (me_lst (ma_cons (me_var 1) ma_nil)) (me_blt (b_len C) (by rfl) T.z_len (by decide +kernel) (ma_cons (me_var 6) ma_nil))) ma_nil)) (nomark _)) (mw_one (mt_cmp (o_ne C) (me_lst (ma_cons (me_blt (b_len C) (by rfl) T.z_len (by decide +kernel) (ma_cons (me_var 2) ma_nil)) (ma_cons (me_blt (b_len C) (by rfl) T.z_len (by decide +kernel) (ma_cons (me_var 3) ma_nil)) ma_nil))) (me_lst (ma_cons me_int (ma_cons me_int ma_nil))) (nomark _))))) (mss_cons (ms_ret me_bl) mss_nil) mss_nil) (mss_cons (ms_for C (mi_val C (me_lst (ma_cons (me_tup (ma_cons (me_op (o_add C) (me_var 2) (me_var 3)) (ma_cons (me_lst (ma_cons me_int (ma_cons me_int ma_nil))) ma_nil))) (ma_cons (me_tup (ma_cons (me_var 4) (ma_cons (me_lst (ma_cons me_int (ma_cons me_int ma_nil))) ma_nil))) (ma_cons (me_tup (ma_cons (me_var 5) (ma_cons (me_lst (ma_cons me_int (ma_cons me_int ma_nil))) ma_nil))) ma_nil))))) (mg_tup C 2 (mgs_cons (mg_name 7 nd) (mgs_cons (mg_name 8 nd) mgs_nil))) (mss_cons (ms_if (mt_not (mt_tru C (me_blt (b_all C) (by rfl) T.z_all (by decide +kernel) (ma_cons (me_lc (EX2 := EXF) (own := [("_law_e", 9)]) (vs := [9]) (g := (Tg.nm 9)) C nd (mi_val C (me_var 7)) (by kernel_rfl) (fun _ _ _ _ _ => (pg_name nd rfl (by first | exact Or.inl rfl | exact Or.inr rfl))) (fun _ _ _ _ _ C => mts_nil) (fun _ _ _ _ _ C => (me_and (me_cmp (o_eq C) (me_call (clb_fn C ((w__law_bases T).mono (by decide)) pass0 T.F__law_bases.kp (bd__law_bases_1 T) .nil (fun _ _ _ => .nil) tb_ok) (by rfl) T.g__law_bases (ma_cons (me_var 9) ma_nil)) (me_var 8) (nomark _)) (me_one (me_cmp (o_eq C) (me_call (clb_fn C ((w__law_instances T).mono (by decide)) pass0 T.F__law_instances.kp (bd__law_instances_1 T) .nil (fun _ _ _ => .nil) tb_ok) (by rfl) T.g__law_instances (ma_cons (me_var 9) ma_nil)) me_int (nomark _)))))) ma_nil)))) (mss_cons (ms_ret me_bl) mss_nil) mss_nil) mss_nil)) (mss_cons (ms_ret (me_cmp (o_eq C) (me_lst (ma_cons (me_gint 8 (by rfl) T.g_MOST_STANDS) (ma_cons (me_gint 5 (by rfl) T.g_MOST_LETTERS) (ma_cons (me_gint 6 (by rfl) T.g_MOST_WORD) (ma_cons (me_gint 60 (by rfl) T.g_MOST_DEEDS) ma_nil))))) (me_lst (ma_cons me_int (ma_cons me_int (ma_cons me_int (ma_cons me_int ma_nil))))) (nomark _))) mss_nil)))))))

theorem w__law_sack (T : Tx W w mg) : FnM P W w mg base CX0 exF 1 T.a__law_sack T.fd__law_sack ["_law_script", "_law_k"] m__law_sack := by
  refine fnm_of T.hW T.F__law_sack sc__law_sack fun cdv A outer s H E C => ?_
  have nd := sc__law_sack.nd
  exact (mss_cons (ms_set 2 nd (me_if (mt_cmp o_lt (me_var 1) (me_blt (b_len C) (by rfl) T.z_len (by decide +kernel) (ma_cons (me_var 0) ma_nil)) (nomark _)) (me_ty (b_int C) (by rfl) T.z_int (by decide +kernel) (ma_cons (me_ix C (me_var 0) (me_var 1)) ma_nil)) (me_op (o_add C) (me_op (o_mul C) me_int (me_var 1)) me_int))) (mss_cons (ms_set 3 nd (me_op (o_add C) me_int (me_op (o_mul C) me_int (me_var 1)))) (mss_cons (ms_for C (mi_val C (me_sl C (me_var 0) mo_none (mo_some me_int))) (mg_name 4 nd) (mss_cons (ms_set 3 nd (me_op o_mod (me_ty (b_int C) (by rfl) T.z_int (by decide +kernel) (ma_cons (me_op (o_add C) (me_op (o_mul C) (me_var 3) me_int) (me_op o_mod (me_ty (b_int C) (by rfl) T.z_int (by decide +kernel) (ma_cons (me_var 4) ma_nil)) me_int)) ma_nil)) me_int)) mss_nil)) (mss_cons (ms_ret (me_lst (ma_cons me_int (ma_cons (me_if (PW.pt (mw_or (mt_cmp o_lt (me_var 2) me_int (nomark _)) (mw_one (mt_cmp o_ge (me_var 2) (me_op o_pow me_int me_int) (nomark _))))) (me_blt b_abs (by rfl) T.z_abs (by decide +kernel) (ma_cons (me_var 2) ma_nil)) me_int) (ma_cons (me_op o_mod (me_ty (b_int C) (by rfl) T.z_int (by decide +kernel) (ma_cons (me_op (o_add C) (me_op (o_mul C) (me_var 3) me_int) (me_op o_mod (me_var 2) me_int)) ma_nil)) me_int) ma_nil))))) mss_nil))))

theorem w_law (T : Tx W w mg) : FnM P W w mg base CX0 exF 5 T.a_law T.fd_law ["_law_script"] m_law := by
  refine fnm_of T.hW T.F_law sc_law fun cdv A outer s H E C => ?_
  have nd := sc_law.nd
  exact (mss_cons (ms_ret (me_blt (b_all C) (by rfl) T.z_all (by decide +kernel) (ma_cons (me_lc (EX2 := EXF) (own := [("_law_k", 1)]) (vs := [1]) (g := (Tg.nm 1)) C nd (mi_rng1 (by rfl) T.z_range (ma_cons (me_blt (b_max2 C) (by rfl) T.z_max (by decide +kernel) (ma_cons me_int (ma_cons (me_blt (b_min2 C) (by rfl) T.z_min (by decide +kernel) (ma_cons (me_blt (b_len C) (by rfl) T.z_len (by decide +kernel) (ma_cons (me_var 0) ma_nil)) (ma_cons me_int ma_nil))) ma_nil))) ma_nil)) (by kernel_rfl) (fun _ _ _ _ _ => (pg_name nd rfl (by first | exact Or.inl rfl | exact Or.inr rfl))) (fun _ _ _ _ _ C => mts_nil) (fun _ _ _ _ _ C => (me_call (clb_fn C ((w__law_right T).mono (by decide)) pass0 T.F__law_right.kp (bd__law_right_1 T) .nil (fun _ _ _ => .nil) tb_ok) (by rfl) T.g__law_right (ma_cons (me_call (clb_fn C ((w__law_sack T).mono (by decide)) pass0 T.F__law_sack.kp (bd__law_sack_2 T) .nil (fun _ _ _ => .nil) tb_ok) (by rfl) T.g__law_sack (ma_cons (me_var 0) (ma_cons (me_var 1) ma_nil))) ma_nil)))) ma_nil))) mss_nil)

end
theorem all_mk {l : PySem.W.OpenLaw} {W : World} {K : PySem.W.Frag} {h : Heap} {mg : Str → Option Value} {fa : Addr} (KX : K.In h) (G : h.Ns mainGlobals mg) (hfa : mg "law" = some (.ref fa))
    {f0 : Addr} {od0 an0 : Option Addr} {sl0 : Array (Option Value)} {oc0 kV0 dc0 pm0 cd0 ct0 : Value}
    {f1 : Addr} {od1 an1 : Option Addr} {sl1 : Array (Option Value)} {oc1 kV1 dc1 pm1 cd1 ct1 : Value}
    {f2 : Addr} {od2 an2 : Option Addr} {sl2 : Array (Option Value)} {oc2 kV2 dc2 pm2 cd2 ct2 : Value}
    {f3 : Addr} {od3 an3 : Option Addr} {sl3 : Array (Option Value)} {oc3 kV3 dc3 pm3 cd3 ct3 : Value}
    {f4 : Addr} {od4 an4 : Option Addr} {sl4 : Array (Option Value)} {oc4 kV4 dc4 pm4 cd4 ct4 : Value}
    {f5 : Addr} {od5 an5 : Option Addr} {sl5 : Array (Option Value)} {oc5 kV5 dc5 pm5 cd5 ct5 : Value}
    {f6 : Addr} {od6 an6 : Option Addr} {sl6 : Array (Option Value)} {oc6 kV6 dc6 pm6 cd6 ct6 : Value}
    {f7 : Addr} {od7 an7 : Option Addr} {sl7 : Array (Option Value)} {oc7 kV7 dc7 pm7 cd7 ct7 : Value}
    {f8 : Addr} {od8 an8 : Option Addr} {sl8 : Array (Option Value)} {oc8 kV8 dc8 pm8 cd8 ct8 : Value}
    {C14 : Addr}
    {C13 : Addr}
    {C12 : Addr}
    {C11 : Addr}
    {C18 : Addr}
    {C17 : Addr}
    {C16 : Addr}
    {C15 : Addr}
    {C22 : Addr}
    {C21 : Addr}
    {C20 : Addr}
    {C19 : Addr}
    {C23 : Addr}
    {C25 : Addr}
    {C24 : Addr}
    {C26 : Addr}
    {C10 : Addr}
    {C9 : Addr}
    {C8 : Addr}
    {xI14 : Addr} {xod14 xan14 : Option Addr} {xsl14 : Array (Option Value)} {xoc14 xkV14 xdc14 xpm14 xcd14 xct14 : Value} {xnm14 xq14 : Str} {xN14 : Addr} {xbs14 xbm14 : List Value} {xsn14 : List Str} {xsub14 : List Value} {xab14 : Bool} {xcol14 : Option Bool} {xdd14 : Option Addr} {xk014 xk114 xk214 xk314 xk514 : Option Value}
    {xI13 : Addr} {xod13 xan13 : Option Addr} {xsl13 : Array (Option Value)} {xoc13 xkV13 xdc13 xpm13 xcd13 xct13 : Value} {xnm13 xq13 : Str} {xN13 : Addr} {xbs13 xbm13 : List Value} {xsn13 : List Str} {xsub13 : List Value} {xab13 : Bool} {xcol13 : Option Bool} {xdd13 : Option Addr} {xk013 xk113 xk213 xk313 xk513 : Option Value}
    {xI12 : Addr} {xod12 xan12 : Option Addr} {xsl12 : Array (Option Value)} {xoc12 xkV12 xdc12 xpm12 xcd12 xct12 : Value} {xnm12 xq12 : Str} {xN12 : Addr} {xbs12 xbm12 : List Value} {xsn12 : List Str} {xsub12 : List Value} {xab12 : Bool} {xcol12 : Option Bool} {xdd12 : Option Addr} {xk012 xk112 xk212 xk312 xk512 : Option Value}
    {xI11 : Addr} {xod11 xan11 : Option Addr} {xsl11 : Array (Option Value)} {xoc11 xkV11 xdc11 xpm11 xcd11 xct11 : Value} {xnm11 xq11 : Str} {xN11 : Addr} {xbs11 xbm11 : List Value} {xsn11 : List Str} {xsub11 : List Value} {xab11 : Bool} {xcol11 : Option Bool} {xdd11 : Option Addr} {xk011 xk111 xk211 xk311 xk511 : Option Value}
    {xI18 : Addr} {xod18 xan18 : Option Addr} {xsl18 : Array (Option Value)} {xoc18 xkV18 xdc18 xpm18 xcd18 xct18 : Value} {xnm18 xq18 : Str} {xN18 : Addr} {xbs18 xbm18 : List Value} {xsn18 : List Str} {xsub18 : List Value} {xab18 : Bool} {xcol18 : Option Bool} {xdd18 : Option Addr} {xk018 xk118 xk218 xk318 xk518 : Option Value}
    {xI17 : Addr} {xod17 xan17 : Option Addr} {xsl17 : Array (Option Value)} {xoc17 xkV17 xdc17 xpm17 xcd17 xct17 : Value} {xnm17 xq17 : Str} {xN17 : Addr} {xbs17 xbm17 : List Value} {xsn17 : List Str} {xsub17 : List Value} {xab17 : Bool} {xcol17 : Option Bool} {xdd17 : Option Addr} {xk017 xk117 xk217 xk317 xk517 : Option Value}
    {xI16 : Addr} {xod16 xan16 : Option Addr} {xsl16 : Array (Option Value)} {xoc16 xkV16 xdc16 xpm16 xcd16 xct16 : Value} {xnm16 xq16 : Str} {xN16 : Addr} {xbs16 xbm16 : List Value} {xsn16 : List Str} {xsub16 : List Value} {xab16 : Bool} {xcol16 : Option Bool} {xdd16 : Option Addr} {xk016 xk116 xk216 xk316 xk516 : Option Value}
    {xI15 : Addr} {xod15 xan15 : Option Addr} {xsl15 : Array (Option Value)} {xoc15 xkV15 xdc15 xpm15 xcd15 xct15 : Value} {xnm15 xq15 : Str} {xN15 : Addr} {xbs15 xbm15 : List Value} {xsn15 : List Str} {xsub15 : List Value} {xab15 : Bool} {xcol15 : Option Bool} {xdd15 : Option Addr} {xk015 xk115 xk215 xk315 xk515 : Option Value}
    {xI22 : Addr} {xod22 xan22 : Option Addr} {xsl22 : Array (Option Value)} {xoc22 xkV22 xdc22 xpm22 xcd22 xct22 : Value} {xnm22 xq22 : Str} {xN22 : Addr} {xbs22 xbm22 : List Value} {xsn22 : List Str} {xsub22 : List Value} {xab22 : Bool} {xcol22 : Option Bool} {xdd22 : Option Addr} {xk022 xk122 xk222 xk322 xk522 : Option Value}
    {xI21 : Addr} {xod21 xan21 : Option Addr} {xsl21 : Array (Option Value)} {xoc21 xkV21 xdc21 xpm21 xcd21 xct21 : Value} {xnm21 xq21 : Str} {xN21 : Addr} {xbs21 xbm21 : List Value} {xsn21 : List Str} {xsub21 : List Value} {xab21 : Bool} {xcol21 : Option Bool} {xdd21 : Option Addr} {xk021 xk121 xk221 xk321 xk521 : Option Value}
    {xI20 : Addr} {xod20 xan20 : Option Addr} {xsl20 : Array (Option Value)} {xoc20 xkV20 xdc20 xpm20 xcd20 xct20 : Value} {xnm20 xq20 : Str} {xN20 : Addr} {xbs20 xbm20 : List Value} {xsn20 : List Str} {xsub20 : List Value} {xab20 : Bool} {xcol20 : Option Bool} {xdd20 : Option Addr} {xk020 xk120 xk220 xk320 xk520 : Option Value}
    {xI19 : Addr} {xod19 xan19 : Option Addr} {xsl19 : Array (Option Value)} {xoc19 xkV19 xdc19 xpm19 xcd19 xct19 : Value} {xnm19 xq19 : Str} {xN19 : Addr} {xbs19 xbm19 : List Value} {xsn19 : List Str} {xsub19 : List Value} {xab19 : Bool} {xcol19 : Option Bool} {xdd19 : Option Addr} {xk019 xk119 xk219 xk319 xk519 : Option Value}
    {xI23 : Addr} {xod23 xan23 : Option Addr} {xsl23 : Array (Option Value)} {xoc23 xkV23 xdc23 xpm23 xcd23 xct23 : Value} {xnm23 xq23 : Str} {xN23 : Addr} {xbs23 xbm23 : List Value} {xsn23 : List Str} {xsub23 : List Value} {xab23 : Bool} {xcol23 : Option Bool} {xdd23 : Option Addr} {xk023 xk123 xk223 xk323 xk523 : Option Value}
    {xI26 : Addr} {xod26 xan26 : Option Addr} {xsl26 : Array (Option Value)} {xoc26 xkV26 xdc26 xpm26 xcd26 xct26 : Value} {xnm26 xq26 : Str} {xN26 : Addr} {xbs26 xbm26 : List Value} {xsn26 : List Str} {xsub26 : List Value} {xab26 : Bool} {xcol26 : Option Bool} {xdd26 : Option Addr} {xk026 xk126 xk226 xk326 xk526 : Option Value}
    {t_MOST_DEEDS : Tok}
    {t_MOST_WORD : Tok}
    {t_MOST_LETTERS : Tok}
    {t_MOST_STANDS : Tok}
    (aC14 : PySem.W.nsIn K mainGlobals "InvalidCount" = some (some (.ref C14)))
    (aC13 : PySem.W.nsIn K mainGlobals "InvalidText" = some (some (.ref C13)))
    (aC12 : PySem.W.nsIn K mainGlobals "NotADesk" = some (some (.ref C12)))
    (aC11 : PySem.W.nsIn K mainGlobals "NotAMachine" = some (some (.ref C11)))
    (aC18 : PySem.W.nsIn K mainGlobals "InvalidLine" = some (some (.ref C18)))
    (aC17 : PySem.W.nsIn K mainGlobals "InvalidWord" = some (some (.ref C17)))
    (aC16 : PySem.W.nsIn K mainGlobals "InvalidStand" = some (some (.ref C16)))
    (aC15 : PySem.W.nsIn K mainGlobals "InvalidLetter" = some (some (.ref C15)))
    (aC22 : PySem.W.nsIn K mainGlobals "InvalidTexts" = some (some (.ref C22)))
    (aC21 : PySem.W.nsIn K mainGlobals "InvalidBook" = some (some (.ref C21)))
    (aC20 : PySem.W.nsIn K mainGlobals "InvalidEnds" = some (some (.ref C20)))
    (aC19 : PySem.W.nsIn K mainGlobals "InvalidArrows" = some (some (.ref C19)))
    (aC23 : PySem.W.nsIn K mainGlobals "InvalidDeeds" = some (some (.ref C23)))
    (aC25 : PySem.W.nsIn K mainGlobals "Busy" = some (some (.ref C25)))
    (aC24 : PySem.W.nsIn K mainGlobals "NothingToUndo" = some (some (.ref C24)))
    (aC26 : PySem.W.nsIn K mainGlobals "TooMany" = some (some (.ref C26)))
    (aC10 : PySem.W.nsIn K mainGlobals "SizeError" = some (some (.ref C10)))
    (aC9 : PySem.W.nsIn K mainGlobals "StateError" = some (some (.ref C9)))
    (aC8 : PySem.W.nsIn K mainGlobals "InputError" = some (some (.ref C8)))
    (xia14 : PySem.W.findIn K (.ref C14) "__init__" = some (some (.ref xI14)))
    (xib14 : PySem.W.typeIn K (.ref xI14) = some (.type "function"))
    (xic14 : K.lookup xI14 = some ⟨xoc14, xod14, .func (PySem.W.fnOf "__init__" "InvalidCount.__init__" (defArgs s_InvalidCount_init) (defBody s_InvalidCount_init) (defScope s_InvalidCount_init) .none xkV14 xdc14 xpm14 xan14 xcd14 xct14), xsl14⟩)
    (xid14 : PySem.W.codeIn K xcd14 "InvalidCount.__init__" = true)
    (xie14 : PySem.W.keepIn K (.ref xI14) = true)
    (xif14 : K.lookup C14 = some (excClassObj xnm14 xq14 C14 xN14 xbs14 xbm14 true xsn14 xsub14 xab14 xcol14 xdd14 xk014 xk114 xk214 xk314 xk514 "ValueError.__new__"))
    (xig14 : PySem.HandSPX.refsVE xbm14 = true)
    (xih14 : PySem.W.findIn K (.ref C14) "__setattr__" = some (some (.builtin "object.__setattr__")))
    (xij14 : PySem.W.subIn K (.ref C14) (.type "BaseException") = some true)
    (xik14 : PySem.W.typeIn K (.ref C14) = some (.type "type"))
    (xil14 : PySem.W.keepIn K (.ref C14) = true)
    (xia13 : PySem.W.findIn K (.ref C13) "__init__" = some (some (.ref xI13)))
    (xib13 : PySem.W.typeIn K (.ref xI13) = some (.type "function"))
    (xic13 : K.lookup xI13 = some ⟨xoc13, xod13, .func (PySem.W.fnOf "__init__" "InvalidText.__init__" (defArgs s_InvalidText_init) (defBody s_InvalidText_init) (defScope s_InvalidText_init) .none xkV13 xdc13 xpm13 xan13 xcd13 xct13), xsl13⟩)
    (xid13 : PySem.W.codeIn K xcd13 "InvalidText.__init__" = true)
    (xie13 : PySem.W.keepIn K (.ref xI13) = true)
    (xif13 : K.lookup C13 = some (excClassObj xnm13 xq13 C13 xN13 xbs13 xbm13 true xsn13 xsub13 xab13 xcol13 xdd13 xk013 xk113 xk213 xk313 xk513 "ValueError.__new__"))
    (xig13 : PySem.HandSPX.refsVE xbm13 = true)
    (xih13 : PySem.W.findIn K (.ref C13) "__setattr__" = some (some (.builtin "object.__setattr__")))
    (xij13 : PySem.W.subIn K (.ref C13) (.type "BaseException") = some true)
    (xik13 : PySem.W.typeIn K (.ref C13) = some (.type "type"))
    (xil13 : PySem.W.keepIn K (.ref C13) = true)
    (xia12 : PySem.W.findIn K (.ref C12) "__init__" = some (some (.ref xI12)))
    (xib12 : PySem.W.typeIn K (.ref xI12) = some (.type "function"))
    (xic12 : K.lookup xI12 = some ⟨xoc12, xod12, .func (PySem.W.fnOf "__init__" "NotADesk.__init__" (defArgs s_NotADesk_init) (defBody s_NotADesk_init) (defScope s_NotADesk_init) .none xkV12 xdc12 xpm12 xan12 xcd12 xct12), xsl12⟩)
    (xid12 : PySem.W.codeIn K xcd12 "NotADesk.__init__" = true)
    (xie12 : PySem.W.keepIn K (.ref xI12) = true)
    (xif12 : K.lookup C12 = some (excClassObj xnm12 xq12 C12 xN12 xbs12 xbm12 true xsn12 xsub12 xab12 xcol12 xdd12 xk012 xk112 xk212 xk312 xk512 "ValueError.__new__"))
    (xig12 : PySem.HandSPX.refsVE xbm12 = true)
    (xih12 : PySem.W.findIn K (.ref C12) "__setattr__" = some (some (.builtin "object.__setattr__")))
    (xij12 : PySem.W.subIn K (.ref C12) (.type "BaseException") = some true)
    (xik12 : PySem.W.typeIn K (.ref C12) = some (.type "type"))
    (xil12 : PySem.W.keepIn K (.ref C12) = true)
    (xia11 : PySem.W.findIn K (.ref C11) "__init__" = some (some (.ref xI11)))
    (xib11 : PySem.W.typeIn K (.ref xI11) = some (.type "function"))
    (xic11 : K.lookup xI11 = some ⟨xoc11, xod11, .func (PySem.W.fnOf "__init__" "NotAMachine.__init__" (defArgs s_NotAMachine_init) (defBody s_NotAMachine_init) (defScope s_NotAMachine_init) .none xkV11 xdc11 xpm11 xan11 xcd11 xct11), xsl11⟩)
    (xid11 : PySem.W.codeIn K xcd11 "NotAMachine.__init__" = true)
    (xie11 : PySem.W.keepIn K (.ref xI11) = true)
    (xif11 : K.lookup C11 = some (excClassObj xnm11 xq11 C11 xN11 xbs11 xbm11 true xsn11 xsub11 xab11 xcol11 xdd11 xk011 xk111 xk211 xk311 xk511 "ValueError.__new__"))
    (xig11 : PySem.HandSPX.refsVE xbm11 = true)
    (xih11 : PySem.W.findIn K (.ref C11) "__setattr__" = some (some (.builtin "object.__setattr__")))
    (xij11 : PySem.W.subIn K (.ref C11) (.type "BaseException") = some true)
    (xik11 : PySem.W.typeIn K (.ref C11) = some (.type "type"))
    (xil11 : PySem.W.keepIn K (.ref C11) = true)
    (xia18 : PySem.W.findIn K (.ref C18) "__init__" = some (some (.ref xI18)))
    (xib18 : PySem.W.typeIn K (.ref xI18) = some (.type "function"))
    (xic18 : K.lookup xI18 = some ⟨xoc18, xod18, .func (PySem.W.fnOf "__init__" "InvalidLine.__init__" (defArgs s_InvalidLine_init) (defBody s_InvalidLine_init) (defScope s_InvalidLine_init) .none xkV18 xdc18 xpm18 xan18 xcd18 xct18), xsl18⟩)
    (xid18 : PySem.W.codeIn K xcd18 "InvalidLine.__init__" = true)
    (xie18 : PySem.W.keepIn K (.ref xI18) = true)
    (xif18 : K.lookup C18 = some (excClassObj xnm18 xq18 C18 xN18 xbs18 xbm18 true xsn18 xsub18 xab18 xcol18 xdd18 xk018 xk118 xk218 xk318 xk518 "ValueError.__new__"))
    (xig18 : PySem.HandSPX.refsVE xbm18 = true)
    (xih18 : PySem.W.findIn K (.ref C18) "__setattr__" = some (some (.builtin "object.__setattr__")))
    (xij18 : PySem.W.subIn K (.ref C18) (.type "BaseException") = some true)
    (xik18 : PySem.W.typeIn K (.ref C18) = some (.type "type"))
    (xil18 : PySem.W.keepIn K (.ref C18) = true)
    (xia17 : PySem.W.findIn K (.ref C17) "__init__" = some (some (.ref xI17)))
    (xib17 : PySem.W.typeIn K (.ref xI17) = some (.type "function"))
    (xic17 : K.lookup xI17 = some ⟨xoc17, xod17, .func (PySem.W.fnOf "__init__" "InvalidWord.__init__" (defArgs s_InvalidWord_init) (defBody s_InvalidWord_init) (defScope s_InvalidWord_init) .none xkV17 xdc17 xpm17 xan17 xcd17 xct17), xsl17⟩)
    (xid17 : PySem.W.codeIn K xcd17 "InvalidWord.__init__" = true)
    (xie17 : PySem.W.keepIn K (.ref xI17) = true)
    (xif17 : K.lookup C17 = some (excClassObj xnm17 xq17 C17 xN17 xbs17 xbm17 true xsn17 xsub17 xab17 xcol17 xdd17 xk017 xk117 xk217 xk317 xk517 "ValueError.__new__"))
    (xig17 : PySem.HandSPX.refsVE xbm17 = true)
    (xih17 : PySem.W.findIn K (.ref C17) "__setattr__" = some (some (.builtin "object.__setattr__")))
    (xij17 : PySem.W.subIn K (.ref C17) (.type "BaseException") = some true)
    (xik17 : PySem.W.typeIn K (.ref C17) = some (.type "type"))
    (xil17 : PySem.W.keepIn K (.ref C17) = true)
    (xia16 : PySem.W.findIn K (.ref C16) "__init__" = some (some (.ref xI16)))
    (xib16 : PySem.W.typeIn K (.ref xI16) = some (.type "function"))
    (xic16 : K.lookup xI16 = some ⟨xoc16, xod16, .func (PySem.W.fnOf "__init__" "InvalidStand.__init__" (defArgs s_InvalidStand_init) (defBody s_InvalidStand_init) (defScope s_InvalidStand_init) .none xkV16 xdc16 xpm16 xan16 xcd16 xct16), xsl16⟩)
    (xid16 : PySem.W.codeIn K xcd16 "InvalidStand.__init__" = true)
    (xie16 : PySem.W.keepIn K (.ref xI16) = true)
    (xif16 : K.lookup C16 = some (excClassObj xnm16 xq16 C16 xN16 xbs16 xbm16 true xsn16 xsub16 xab16 xcol16 xdd16 xk016 xk116 xk216 xk316 xk516 "ValueError.__new__"))
    (xig16 : PySem.HandSPX.refsVE xbm16 = true)
    (xih16 : PySem.W.findIn K (.ref C16) "__setattr__" = some (some (.builtin "object.__setattr__")))
    (xij16 : PySem.W.subIn K (.ref C16) (.type "BaseException") = some true)
    (xik16 : PySem.W.typeIn K (.ref C16) = some (.type "type"))
    (xil16 : PySem.W.keepIn K (.ref C16) = true)
    (xia15 : PySem.W.findIn K (.ref C15) "__init__" = some (some (.ref xI15)))
    (xib15 : PySem.W.typeIn K (.ref xI15) = some (.type "function"))
    (xic15 : K.lookup xI15 = some ⟨xoc15, xod15, .func (PySem.W.fnOf "__init__" "InvalidLetter.__init__" (defArgs s_InvalidLetter_init) (defBody s_InvalidLetter_init) (defScope s_InvalidLetter_init) .none xkV15 xdc15 xpm15 xan15 xcd15 xct15), xsl15⟩)
    (xid15 : PySem.W.codeIn K xcd15 "InvalidLetter.__init__" = true)
    (xie15 : PySem.W.keepIn K (.ref xI15) = true)
    (xif15 : K.lookup C15 = some (excClassObj xnm15 xq15 C15 xN15 xbs15 xbm15 true xsn15 xsub15 xab15 xcol15 xdd15 xk015 xk115 xk215 xk315 xk515 "ValueError.__new__"))
    (xig15 : PySem.HandSPX.refsVE xbm15 = true)
    (xih15 : PySem.W.findIn K (.ref C15) "__setattr__" = some (some (.builtin "object.__setattr__")))
    (xij15 : PySem.W.subIn K (.ref C15) (.type "BaseException") = some true)
    (xik15 : PySem.W.typeIn K (.ref C15) = some (.type "type"))
    (xil15 : PySem.W.keepIn K (.ref C15) = true)
    (xia22 : PySem.W.findIn K (.ref C22) "__init__" = some (some (.ref xI22)))
    (xib22 : PySem.W.typeIn K (.ref xI22) = some (.type "function"))
    (xic22 : K.lookup xI22 = some ⟨xoc22, xod22, .func (PySem.W.fnOf "__init__" "InvalidTexts.__init__" (defArgs s_InvalidTexts_init) (defBody s_InvalidTexts_init) (defScope s_InvalidTexts_init) .none xkV22 xdc22 xpm22 xan22 xcd22 xct22), xsl22⟩)
    (xid22 : PySem.W.codeIn K xcd22 "InvalidTexts.__init__" = true)
    (xie22 : PySem.W.keepIn K (.ref xI22) = true)
    (xif22 : K.lookup C22 = some (excClassObj xnm22 xq22 C22 xN22 xbs22 xbm22 true xsn22 xsub22 xab22 xcol22 xdd22 xk022 xk122 xk222 xk322 xk522 "ValueError.__new__"))
    (xig22 : PySem.HandSPX.refsVE xbm22 = true)
    (xih22 : PySem.W.findIn K (.ref C22) "__setattr__" = some (some (.builtin "object.__setattr__")))
    (xij22 : PySem.W.subIn K (.ref C22) (.type "BaseException") = some true)
    (xik22 : PySem.W.typeIn K (.ref C22) = some (.type "type"))
    (xil22 : PySem.W.keepIn K (.ref C22) = true)
    (xia21 : PySem.W.findIn K (.ref C21) "__init__" = some (some (.ref xI21)))
    (xib21 : PySem.W.typeIn K (.ref xI21) = some (.type "function"))
    (xic21 : K.lookup xI21 = some ⟨xoc21, xod21, .func (PySem.W.fnOf "__init__" "InvalidBook.__init__" (defArgs s_InvalidBook_init) (defBody s_InvalidBook_init) (defScope s_InvalidBook_init) .none xkV21 xdc21 xpm21 xan21 xcd21 xct21), xsl21⟩)
    (xid21 : PySem.W.codeIn K xcd21 "InvalidBook.__init__" = true)
    (xie21 : PySem.W.keepIn K (.ref xI21) = true)
    (xif21 : K.lookup C21 = some (excClassObj xnm21 xq21 C21 xN21 xbs21 xbm21 true xsn21 xsub21 xab21 xcol21 xdd21 xk021 xk121 xk221 xk321 xk521 "ValueError.__new__"))
    (xig21 : PySem.HandSPX.refsVE xbm21 = true)
    (xih21 : PySem.W.findIn K (.ref C21) "__setattr__" = some (some (.builtin "object.__setattr__")))
    (xij21 : PySem.W.subIn K (.ref C21) (.type "BaseException") = some true)
    (xik21 : PySem.W.typeIn K (.ref C21) = some (.type "type"))
    (xil21 : PySem.W.keepIn K (.ref C21) = true)
    (xia20 : PySem.W.findIn K (.ref C20) "__init__" = some (some (.ref xI20)))
    (xib20 : PySem.W.typeIn K (.ref xI20) = some (.type "function"))
    (xic20 : K.lookup xI20 = some ⟨xoc20, xod20, .func (PySem.W.fnOf "__init__" "InvalidEnds.__init__" (defArgs s_InvalidEnds_init) (defBody s_InvalidEnds_init) (defScope s_InvalidEnds_init) .none xkV20 xdc20 xpm20 xan20 xcd20 xct20), xsl20⟩)
    (xid20 : PySem.W.codeIn K xcd20 "InvalidEnds.__init__" = true)
    (xie20 : PySem.W.keepIn K (.ref xI20) = true)
    (xif20 : K.lookup C20 = some (excClassObj xnm20 xq20 C20 xN20 xbs20 xbm20 true xsn20 xsub20 xab20 xcol20 xdd20 xk020 xk120 xk220 xk320 xk520 "ValueError.__new__"))
    (xig20 : PySem.HandSPX.refsVE xbm20 = true)
    (xih20 : PySem.W.findIn K (.ref C20) "__setattr__" = some (some (.builtin "object.__setattr__")))
    (xij20 : PySem.W.subIn K (.ref C20) (.type "BaseException") = some true)
    (xik20 : PySem.W.typeIn K (.ref C20) = some (.type "type"))
    (xil20 : PySem.W.keepIn K (.ref C20) = true)
    (xia19 : PySem.W.findIn K (.ref C19) "__init__" = some (some (.ref xI19)))
    (xib19 : PySem.W.typeIn K (.ref xI19) = some (.type "function"))
    (xic19 : K.lookup xI19 = some ⟨xoc19, xod19, .func (PySem.W.fnOf "__init__" "InvalidArrows.__init__" (defArgs s_InvalidArrows_init) (defBody s_InvalidArrows_init) (defScope s_InvalidArrows_init) .none xkV19 xdc19 xpm19 xan19 xcd19 xct19), xsl19⟩)
    (xid19 : PySem.W.codeIn K xcd19 "InvalidArrows.__init__" = true)
    (xie19 : PySem.W.keepIn K (.ref xI19) = true)
    (xif19 : K.lookup C19 = some (excClassObj xnm19 xq19 C19 xN19 xbs19 xbm19 true xsn19 xsub19 xab19 xcol19 xdd19 xk019 xk119 xk219 xk319 xk519 "ValueError.__new__"))
    (xig19 : PySem.HandSPX.refsVE xbm19 = true)
    (xih19 : PySem.W.findIn K (.ref C19) "__setattr__" = some (some (.builtin "object.__setattr__")))
    (xij19 : PySem.W.subIn K (.ref C19) (.type "BaseException") = some true)
    (xik19 : PySem.W.typeIn K (.ref C19) = some (.type "type"))
    (xil19 : PySem.W.keepIn K (.ref C19) = true)
    (xia23 : PySem.W.findIn K (.ref C23) "__init__" = some (some (.ref xI23)))
    (xib23 : PySem.W.typeIn K (.ref xI23) = some (.type "function"))
    (xic23 : K.lookup xI23 = some ⟨xoc23, xod23, .func (PySem.W.fnOf "__init__" "InvalidDeeds.__init__" (defArgs s_InvalidDeeds_init) (defBody s_InvalidDeeds_init) (defScope s_InvalidDeeds_init) .none xkV23 xdc23 xpm23 xan23 xcd23 xct23), xsl23⟩)
    (xid23 : PySem.W.codeIn K xcd23 "InvalidDeeds.__init__" = true)
    (xie23 : PySem.W.keepIn K (.ref xI23) = true)
    (xif23 : K.lookup C23 = some (excClassObj xnm23 xq23 C23 xN23 xbs23 xbm23 true xsn23 xsub23 xab23 xcol23 xdd23 xk023 xk123 xk223 xk323 xk523 "ValueError.__new__"))
    (xig23 : PySem.HandSPX.refsVE xbm23 = true)
    (xih23 : PySem.W.findIn K (.ref C23) "__setattr__" = some (some (.builtin "object.__setattr__")))
    (xij23 : PySem.W.subIn K (.ref C23) (.type "BaseException") = some true)
    (xik23 : PySem.W.typeIn K (.ref C23) = some (.type "type"))
    (xil23 : PySem.W.keepIn K (.ref C23) = true)
    (xia26 : PySem.W.findIn K (.ref C26) "__init__" = some (some (.ref xI26)))
    (xib26 : PySem.W.typeIn K (.ref xI26) = some (.type "function"))
    (xic26 : K.lookup xI26 = some ⟨xoc26, xod26, .func (PySem.W.fnOf "__init__" "TooMany.__init__" (defArgs s_TooMany_init) (defBody s_TooMany_init) (defScope s_TooMany_init) .none xkV26 xdc26 xpm26 xan26 xcd26 xct26), xsl26⟩)
    (xid26 : PySem.W.codeIn K xcd26 "TooMany.__init__" = true)
    (xie26 : PySem.W.keepIn K (.ref xI26) = true)
    (xif26 : K.lookup C26 = some (excClassObj xnm26 xq26 C26 xN26 xbs26 xbm26 true xsn26 xsub26 xab26 xcol26 xdd26 xk026 xk126 xk226 xk326 xk526 "ArithmeticError.__new__"))
    (xig26 : PySem.W.excTail bmA xbm26 = true)
    (xih26 : PySem.W.findIn K (.ref C26) "__setattr__" = some (some (.builtin "object.__setattr__")))
    (xij26 : PySem.W.subIn K (.ref C26) (.type "BaseException") = some true)
    (xik26 : PySem.W.typeIn K (.ref C26) = some (.type "type"))
    (xil26 : PySem.W.keepIn K (.ref C26) = true)
    (hxq_Busy : PySem.W.excIn K C25 [.type "LookupError", .type "Exception", .type "BaseException", .type "object"] "LookupError.__new__" = true)
    (hxk_Busy : PySem.W.keepIn K (.ref C25) = true)
    (hxs_Busy : PySem.W.subIn K (.ref C25) (.type "BaseException") = some true)
    (hxy_Busy : PySem.W.typeIn K (.ref C25) = some (.type "type"))
    (hxq_NothingToUndo : PySem.W.excIn K C24 [.type "LookupError", .type "Exception", .type "BaseException", .type "object"] "LookupError.__new__" = true)
    (hxk_NothingToUndo : PySem.W.keepIn K (.ref C24) = true)
    (hxs_NothingToUndo : PySem.W.subIn K (.ref C24) (.type "BaseException") = some true)
    (hxy_NothingToUndo : PySem.W.typeIn K (.ref C24) = some (.type "type"))
    (hxn_InvalidCount : PySem.W.findIn K (.ref C14) "value" = some none)
    (hxn_InvalidText : PySem.W.findIn K (.ref C13) "value" = some none)
    (hxn_NotADesk : PySem.W.findIn K (.ref C12) "value" = some none)
    (hxn_NotAMachine : PySem.W.findIn K (.ref C11) "value" = some none)
    (hxn_InvalidLine : PySem.W.findIn K (.ref C18) "value" = some none)
    (hxn_InvalidWord : PySem.W.findIn K (.ref C17) "value" = some none)
    (hxn_InvalidStand : PySem.W.findIn K (.ref C16) "value" = some none)
    (hxn_InvalidLetter : PySem.W.findIn K (.ref C15) "value" = some none)
    (hxn_InvalidTexts : PySem.W.findIn K (.ref C22) "index" = some none)
    (hxn_InvalidBook : PySem.W.findIn K (.ref C21) "index" = some none)
    (hxn_InvalidEnds : PySem.W.findIn K (.ref C20) "index" = some none)
    (hxn_InvalidArrows : PySem.W.findIn K (.ref C19) "index" = some none)
    (hxn_InvalidDeeds : PySem.W.findIn K (.ref C23) "index" = some none)
    (hxn_TooMany : PySem.W.findIn K (.ref C26) "limit" = some none)
    (hxga_InvalidCount : PySem.W.findIn K (.ref C14) "__getattribute__" = some (some (.builtin "BaseException.__getattribute__")))
    (hxgg_InvalidCount : PySem.W.findIn K (.ref C14) "__getattr__" = some none)
    (hxs_InvalidCount : PySem.W.subIn K (.ref C14) (.type "BaseException") = some true)
    (hxhd_InvalidCount : PySem.W.hasDictIn K C14 = true)
    (hxha_InvalidCount : PySem.W.findIn K (.ref C14) "__class__" = some (some (.builtin "object.__class__")))
    (hxhm_InvalidCount : PySem.W.mroIn K C14 (.type "object") = some true)
    (hxga_InvalidText : PySem.W.findIn K (.ref C13) "__getattribute__" = some (some (.builtin "BaseException.__getattribute__")))
    (hxgg_InvalidText : PySem.W.findIn K (.ref C13) "__getattr__" = some none)
    (hxs_InvalidText : PySem.W.subIn K (.ref C13) (.type "BaseException") = some true)
    (hxhd_InvalidText : PySem.W.hasDictIn K C13 = true)
    (hxha_InvalidText : PySem.W.findIn K (.ref C13) "__class__" = some (some (.builtin "object.__class__")))
    (hxhm_InvalidText : PySem.W.mroIn K C13 (.type "object") = some true)
    (hxga_NotADesk : PySem.W.findIn K (.ref C12) "__getattribute__" = some (some (.builtin "BaseException.__getattribute__")))
    (hxgg_NotADesk : PySem.W.findIn K (.ref C12) "__getattr__" = some none)
    (hxs_NotADesk : PySem.W.subIn K (.ref C12) (.type "BaseException") = some true)
    (hxhd_NotADesk : PySem.W.hasDictIn K C12 = true)
    (hxha_NotADesk : PySem.W.findIn K (.ref C12) "__class__" = some (some (.builtin "object.__class__")))
    (hxhm_NotADesk : PySem.W.mroIn K C12 (.type "object") = some true)
    (hxga_NotAMachine : PySem.W.findIn K (.ref C11) "__getattribute__" = some (some (.builtin "BaseException.__getattribute__")))
    (hxgg_NotAMachine : PySem.W.findIn K (.ref C11) "__getattr__" = some none)
    (hxs_NotAMachine : PySem.W.subIn K (.ref C11) (.type "BaseException") = some true)
    (hxhd_NotAMachine : PySem.W.hasDictIn K C11 = true)
    (hxha_NotAMachine : PySem.W.findIn K (.ref C11) "__class__" = some (some (.builtin "object.__class__")))
    (hxhm_NotAMachine : PySem.W.mroIn K C11 (.type "object") = some true)
    (hxga_InvalidLine : PySem.W.findIn K (.ref C18) "__getattribute__" = some (some (.builtin "BaseException.__getattribute__")))
    (hxgg_InvalidLine : PySem.W.findIn K (.ref C18) "__getattr__" = some none)
    (hxs_InvalidLine : PySem.W.subIn K (.ref C18) (.type "BaseException") = some true)
    (hxhd_InvalidLine : PySem.W.hasDictIn K C18 = true)
    (hxha_InvalidLine : PySem.W.findIn K (.ref C18) "__class__" = some (some (.builtin "object.__class__")))
    (hxhm_InvalidLine : PySem.W.mroIn K C18 (.type "object") = some true)
    (hxga_InvalidWord : PySem.W.findIn K (.ref C17) "__getattribute__" = some (some (.builtin "BaseException.__getattribute__")))
    (hxgg_InvalidWord : PySem.W.findIn K (.ref C17) "__getattr__" = some none)
    (hxs_InvalidWord : PySem.W.subIn K (.ref C17) (.type "BaseException") = some true)
    (hxhd_InvalidWord : PySem.W.hasDictIn K C17 = true)
    (hxha_InvalidWord : PySem.W.findIn K (.ref C17) "__class__" = some (some (.builtin "object.__class__")))
    (hxhm_InvalidWord : PySem.W.mroIn K C17 (.type "object") = some true)
    (hxga_InvalidStand : PySem.W.findIn K (.ref C16) "__getattribute__" = some (some (.builtin "BaseException.__getattribute__")))
    (hxgg_InvalidStand : PySem.W.findIn K (.ref C16) "__getattr__" = some none)
    (hxs_InvalidStand : PySem.W.subIn K (.ref C16) (.type "BaseException") = some true)
    (hxhd_InvalidStand : PySem.W.hasDictIn K C16 = true)
    (hxha_InvalidStand : PySem.W.findIn K (.ref C16) "__class__" = some (some (.builtin "object.__class__")))
    (hxhm_InvalidStand : PySem.W.mroIn K C16 (.type "object") = some true)
    (hxga_InvalidLetter : PySem.W.findIn K (.ref C15) "__getattribute__" = some (some (.builtin "BaseException.__getattribute__")))
    (hxgg_InvalidLetter : PySem.W.findIn K (.ref C15) "__getattr__" = some none)
    (hxs_InvalidLetter : PySem.W.subIn K (.ref C15) (.type "BaseException") = some true)
    (hxhd_InvalidLetter : PySem.W.hasDictIn K C15 = true)
    (hxha_InvalidLetter : PySem.W.findIn K (.ref C15) "__class__" = some (some (.builtin "object.__class__")))
    (hxhm_InvalidLetter : PySem.W.mroIn K C15 (.type "object") = some true)
    (hxga_InvalidTexts : PySem.W.findIn K (.ref C22) "__getattribute__" = some (some (.builtin "BaseException.__getattribute__")))
    (hxgg_InvalidTexts : PySem.W.findIn K (.ref C22) "__getattr__" = some none)
    (hxs_InvalidTexts : PySem.W.subIn K (.ref C22) (.type "BaseException") = some true)
    (hxhd_InvalidTexts : PySem.W.hasDictIn K C22 = true)
    (hxha_InvalidTexts : PySem.W.findIn K (.ref C22) "__class__" = some (some (.builtin "object.__class__")))
    (hxhm_InvalidTexts : PySem.W.mroIn K C22 (.type "object") = some true)
    (hxga_InvalidBook : PySem.W.findIn K (.ref C21) "__getattribute__" = some (some (.builtin "BaseException.__getattribute__")))
    (hxgg_InvalidBook : PySem.W.findIn K (.ref C21) "__getattr__" = some none)
    (hxs_InvalidBook : PySem.W.subIn K (.ref C21) (.type "BaseException") = some true)
    (hxhd_InvalidBook : PySem.W.hasDictIn K C21 = true)
    (hxha_InvalidBook : PySem.W.findIn K (.ref C21) "__class__" = some (some (.builtin "object.__class__")))
    (hxhm_InvalidBook : PySem.W.mroIn K C21 (.type "object") = some true)
    (hxga_InvalidEnds : PySem.W.findIn K (.ref C20) "__getattribute__" = some (some (.builtin "BaseException.__getattribute__")))
    (hxgg_InvalidEnds : PySem.W.findIn K (.ref C20) "__getattr__" = some none)
    (hxs_InvalidEnds : PySem.W.subIn K (.ref C20) (.type "BaseException") = some true)
    (hxhd_InvalidEnds : PySem.W.hasDictIn K C20 = true)
    (hxha_InvalidEnds : PySem.W.findIn K (.ref C20) "__class__" = some (some (.builtin "object.__class__")))
    (hxhm_InvalidEnds : PySem.W.mroIn K C20 (.type "object") = some true)
    (hxga_InvalidArrows : PySem.W.findIn K (.ref C19) "__getattribute__" = some (some (.builtin "BaseException.__getattribute__")))
    (hxgg_InvalidArrows : PySem.W.findIn K (.ref C19) "__getattr__" = some none)
    (hxs_InvalidArrows : PySem.W.subIn K (.ref C19) (.type "BaseException") = some true)
    (hxhd_InvalidArrows : PySem.W.hasDictIn K C19 = true)
    (hxha_InvalidArrows : PySem.W.findIn K (.ref C19) "__class__" = some (some (.builtin "object.__class__")))
    (hxhm_InvalidArrows : PySem.W.mroIn K C19 (.type "object") = some true)
    (hxga_InvalidDeeds : PySem.W.findIn K (.ref C23) "__getattribute__" = some (some (.builtin "BaseException.__getattribute__")))
    (hxgg_InvalidDeeds : PySem.W.findIn K (.ref C23) "__getattr__" = some none)
    (hxs_InvalidDeeds : PySem.W.subIn K (.ref C23) (.type "BaseException") = some true)
    (hxhd_InvalidDeeds : PySem.W.hasDictIn K C23 = true)
    (hxha_InvalidDeeds : PySem.W.findIn K (.ref C23) "__class__" = some (some (.builtin "object.__class__")))
    (hxhm_InvalidDeeds : PySem.W.mroIn K C23 (.type "object") = some true)
    (hxga_Busy : PySem.W.findIn K (.ref C25) "__getattribute__" = some (some (.builtin "BaseException.__getattribute__")))
    (hxgg_Busy : PySem.W.findIn K (.ref C25) "__getattr__" = some none)
    (hxhd_Busy : PySem.W.hasDictIn K C25 = true)
    (hxha_Busy : PySem.W.findIn K (.ref C25) "__class__" = some (some (.builtin "object.__class__")))
    (hxhm_Busy : PySem.W.mroIn K C25 (.type "object") = some true)
    (hxga_NothingToUndo : PySem.W.findIn K (.ref C24) "__getattribute__" = some (some (.builtin "BaseException.__getattribute__")))
    (hxgg_NothingToUndo : PySem.W.findIn K (.ref C24) "__getattr__" = some none)
    (hxhd_NothingToUndo : PySem.W.hasDictIn K C24 = true)
    (hxha_NothingToUndo : PySem.W.findIn K (.ref C24) "__class__" = some (some (.builtin "object.__class__")))
    (hxhm_NothingToUndo : PySem.W.mroIn K C24 (.type "object") = some true)
    (hxga_TooMany : PySem.W.findIn K (.ref C26) "__getattribute__" = some (some (.builtin "BaseException.__getattribute__")))
    (hxgg_TooMany : PySem.W.findIn K (.ref C26) "__getattr__" = some none)
    (hxs_TooMany : PySem.W.subIn K (.ref C26) (.type "BaseException") = some true)
    (hxhd_TooMany : PySem.W.hasDictIn K C26 = true)
    (hxha_TooMany : PySem.W.findIn K (.ref C26) "__class__" = some (some (.builtin "object.__class__")))
    (hxhm_TooMany : PySem.W.mroIn K C26 (.type "object") = some true)
    (hxhn : PySem.W.specialIn K (.builtin "object.__class__") "__get__" = some (some (.builtin "getset_descriptor.__get__")))
    (hxht : PySem.W.takesIn K (.builtin "object.__class__") = some true)
    (hxiz_InvalidCount_SizeError : PySem.W.kitOne K (.ref C14) (.ref C10) = some false)
    (hxiz_InvalidText_SizeError : PySem.W.kitOne K (.ref C13) (.ref C10) = some false)
    (hxiz_NotADesk_SizeError : PySem.W.kitOne K (.ref C12) (.ref C10) = some false)
    (hxiz_NotAMachine_SizeError : PySem.W.kitOne K (.ref C11) (.ref C10) = some false)
    (hxiz_InvalidLine_SizeError : PySem.W.kitOne K (.ref C18) (.ref C10) = some false)
    (hxiz_InvalidWord_SizeError : PySem.W.kitOne K (.ref C17) (.ref C10) = some false)
    (hxiz_InvalidStand_SizeError : PySem.W.kitOne K (.ref C16) (.ref C10) = some false)
    (hxiz_InvalidLetter_SizeError : PySem.W.kitOne K (.ref C15) (.ref C10) = some false)
    (hxiz_InvalidTexts_SizeError : PySem.W.kitOne K (.ref C22) (.ref C10) = some false)
    (hxiz_InvalidBook_SizeError : PySem.W.kitOne K (.ref C21) (.ref C10) = some false)
    (hxiz_InvalidEnds_SizeError : PySem.W.kitOne K (.ref C20) (.ref C10) = some false)
    (hxiz_InvalidArrows_SizeError : PySem.W.kitOne K (.ref C19) (.ref C10) = some false)
    (hxiz_InvalidDeeds_SizeError : PySem.W.kitOne K (.ref C23) (.ref C10) = some false)
    (hxiz_Busy_SizeError : PySem.W.kitOne K (.ref C25) (.ref C10) = some false)
    (hxiz_NothingToUndo_SizeError : PySem.W.kitOne K (.ref C24) (.ref C10) = some false)
    (hxiz_TooMany_SizeError : PySem.W.kitOne K (.ref C26) (.ref C10) = some true)
    (hxiz_InvalidCount_StateError : PySem.W.kitOne K (.ref C14) (.ref C9) = some false)
    (hxiz_InvalidText_StateError : PySem.W.kitOne K (.ref C13) (.ref C9) = some false)
    (hxiz_NotADesk_StateError : PySem.W.kitOne K (.ref C12) (.ref C9) = some false)
    (hxiz_NotAMachine_StateError : PySem.W.kitOne K (.ref C11) (.ref C9) = some false)
    (hxiz_InvalidLine_StateError : PySem.W.kitOne K (.ref C18) (.ref C9) = some false)
    (hxiz_InvalidWord_StateError : PySem.W.kitOne K (.ref C17) (.ref C9) = some false)
    (hxiz_InvalidStand_StateError : PySem.W.kitOne K (.ref C16) (.ref C9) = some false)
    (hxiz_InvalidLetter_StateError : PySem.W.kitOne K (.ref C15) (.ref C9) = some false)
    (hxiz_InvalidTexts_StateError : PySem.W.kitOne K (.ref C22) (.ref C9) = some false)
    (hxiz_InvalidBook_StateError : PySem.W.kitOne K (.ref C21) (.ref C9) = some false)
    (hxiz_InvalidEnds_StateError : PySem.W.kitOne K (.ref C20) (.ref C9) = some false)
    (hxiz_InvalidArrows_StateError : PySem.W.kitOne K (.ref C19) (.ref C9) = some false)
    (hxiz_InvalidDeeds_StateError : PySem.W.kitOne K (.ref C23) (.ref C9) = some false)
    (hxiz_Busy_StateError : PySem.W.kitOne K (.ref C25) (.ref C9) = some true)
    (hxiz_NothingToUndo_StateError : PySem.W.kitOne K (.ref C24) (.ref C9) = some true)
    (hxiz_TooMany_StateError : PySem.W.kitOne K (.ref C26) (.ref C9) = some false)
    (hxiz_InvalidCount_InputError : PySem.W.kitOne K (.ref C14) (.ref C8) = some true)
    (hxiz_InvalidText_InputError : PySem.W.kitOne K (.ref C13) (.ref C8) = some true)
    (hxiz_NotADesk_InputError : PySem.W.kitOne K (.ref C12) (.ref C8) = some true)
    (hxiz_NotAMachine_InputError : PySem.W.kitOne K (.ref C11) (.ref C8) = some true)
    (hxiz_InvalidLine_InputError : PySem.W.kitOne K (.ref C18) (.ref C8) = some true)
    (hxiz_InvalidWord_InputError : PySem.W.kitOne K (.ref C17) (.ref C8) = some true)
    (hxiz_InvalidStand_InputError : PySem.W.kitOne K (.ref C16) (.ref C8) = some true)
    (hxiz_InvalidLetter_InputError : PySem.W.kitOne K (.ref C15) (.ref C8) = some true)
    (hxiz_InvalidTexts_InputError : PySem.W.kitOne K (.ref C22) (.ref C8) = some true)
    (hxiz_InvalidBook_InputError : PySem.W.kitOne K (.ref C21) (.ref C8) = some true)
    (hxiz_InvalidEnds_InputError : PySem.W.kitOne K (.ref C20) (.ref C8) = some true)
    (hxiz_InvalidArrows_InputError : PySem.W.kitOne K (.ref C19) (.ref C8) = some true)
    (hxiz_InvalidDeeds_InputError : PySem.W.kitOne K (.ref C23) (.ref C8) = some true)
    (hxiz_Busy_InputError : PySem.W.kitOne K (.ref C25) (.ref C8) = some false)
    (hxiz_NothingToUndo_InputError : PySem.W.kitOne K (.ref C24) (.ref C8) = some false)
    (hxiz_TooMany_InputError : PySem.W.kitOne K (.ref C26) (.ref C8) = some false)
    (hxiz_InvalidCount_ArithmeticError : PySem.W.subIn K (.ref C14) (.type "ArithmeticError") = some false)
    (hxiz_InvalidText_ArithmeticError : PySem.W.subIn K (.ref C13) (.type "ArithmeticError") = some false)
    (hxiz_NotADesk_ArithmeticError : PySem.W.subIn K (.ref C12) (.type "ArithmeticError") = some false)
    (hxiz_NotAMachine_ArithmeticError : PySem.W.subIn K (.ref C11) (.type "ArithmeticError") = some false)
    (hxiz_InvalidLine_ArithmeticError : PySem.W.subIn K (.ref C18) (.type "ArithmeticError") = some false)
    (hxiz_InvalidWord_ArithmeticError : PySem.W.subIn K (.ref C17) (.type "ArithmeticError") = some false)
    (hxiz_InvalidStand_ArithmeticError : PySem.W.subIn K (.ref C16) (.type "ArithmeticError") = some false)
    (hxiz_InvalidLetter_ArithmeticError : PySem.W.subIn K (.ref C15) (.type "ArithmeticError") = some false)
    (hxiz_InvalidTexts_ArithmeticError : PySem.W.subIn K (.ref C22) (.type "ArithmeticError") = some false)
    (hxiz_InvalidBook_ArithmeticError : PySem.W.subIn K (.ref C21) (.type "ArithmeticError") = some false)
    (hxiz_InvalidEnds_ArithmeticError : PySem.W.subIn K (.ref C20) (.type "ArithmeticError") = some false)
    (hxiz_InvalidArrows_ArithmeticError : PySem.W.subIn K (.ref C19) (.type "ArithmeticError") = some false)
    (hxiz_InvalidDeeds_ArithmeticError : PySem.W.subIn K (.ref C23) (.type "ArithmeticError") = some false)
    (hxiz_Busy_ArithmeticError : PySem.W.subIn K (.ref C25) (.type "ArithmeticError") = some false)
    (hxiz_NothingToUndo_ArithmeticError : PySem.W.subIn K (.ref C24) (.type "ArithmeticError") = some false)
    (hxiz_TooMany_ArithmeticError : PySem.W.subIn K (.ref C26) (.type "ArithmeticError") = some true)
    (hxiz_InvalidCount_LookupError : PySem.W.subIn K (.ref C14) (.type "LookupError") = some false)
    (hxiz_InvalidText_LookupError : PySem.W.subIn K (.ref C13) (.type "LookupError") = some false)
    (hxiz_NotADesk_LookupError : PySem.W.subIn K (.ref C12) (.type "LookupError") = some false)
    (hxiz_NotAMachine_LookupError : PySem.W.subIn K (.ref C11) (.type "LookupError") = some false)
    (hxiz_InvalidLine_LookupError : PySem.W.subIn K (.ref C18) (.type "LookupError") = some false)
    (hxiz_InvalidWord_LookupError : PySem.W.subIn K (.ref C17) (.type "LookupError") = some false)
    (hxiz_InvalidStand_LookupError : PySem.W.subIn K (.ref C16) (.type "LookupError") = some false)
    (hxiz_InvalidLetter_LookupError : PySem.W.subIn K (.ref C15) (.type "LookupError") = some false)
    (hxiz_InvalidTexts_LookupError : PySem.W.subIn K (.ref C22) (.type "LookupError") = some false)
    (hxiz_InvalidBook_LookupError : PySem.W.subIn K (.ref C21) (.type "LookupError") = some false)
    (hxiz_InvalidEnds_LookupError : PySem.W.subIn K (.ref C20) (.type "LookupError") = some false)
    (hxiz_InvalidArrows_LookupError : PySem.W.subIn K (.ref C19) (.type "LookupError") = some false)
    (hxiz_InvalidDeeds_LookupError : PySem.W.subIn K (.ref C23) (.type "LookupError") = some false)
    (hxiz_Busy_LookupError : PySem.W.subIn K (.ref C25) (.type "LookupError") = some true)
    (hxiz_NothingToUndo_LookupError : PySem.W.subIn K (.ref C24) (.type "LookupError") = some true)
    (hxiz_TooMany_LookupError : PySem.W.subIn K (.ref C26) (.type "LookupError") = some false)
    (hxiz_InvalidCount_ValueError : PySem.W.subIn K (.ref C14) (.type "ValueError") = some true)
    (hxiz_InvalidText_ValueError : PySem.W.subIn K (.ref C13) (.type "ValueError") = some true)
    (hxiz_NotADesk_ValueError : PySem.W.subIn K (.ref C12) (.type "ValueError") = some true)
    (hxiz_NotAMachine_ValueError : PySem.W.subIn K (.ref C11) (.type "ValueError") = some true)
    (hxiz_InvalidLine_ValueError : PySem.W.subIn K (.ref C18) (.type "ValueError") = some true)
    (hxiz_InvalidWord_ValueError : PySem.W.subIn K (.ref C17) (.type "ValueError") = some true)
    (hxiz_InvalidStand_ValueError : PySem.W.subIn K (.ref C16) (.type "ValueError") = some true)
    (hxiz_InvalidLetter_ValueError : PySem.W.subIn K (.ref C15) (.type "ValueError") = some true)
    (hxiz_InvalidTexts_ValueError : PySem.W.subIn K (.ref C22) (.type "ValueError") = some true)
    (hxiz_InvalidBook_ValueError : PySem.W.subIn K (.ref C21) (.type "ValueError") = some true)
    (hxiz_InvalidEnds_ValueError : PySem.W.subIn K (.ref C20) (.type "ValueError") = some true)
    (hxiz_InvalidArrows_ValueError : PySem.W.subIn K (.ref C19) (.type "ValueError") = some true)
    (hxiz_InvalidDeeds_ValueError : PySem.W.subIn K (.ref C23) (.type "ValueError") = some true)
    (hxiz_Busy_ValueError : PySem.W.subIn K (.ref C25) (.type "ValueError") = some false)
    (hxiz_NothingToUndo_ValueError : PySem.W.subIn K (.ref C24) (.type "ValueError") = some false)
    (hxiz_TooMany_ValueError : PySem.W.subIn K (.ref C26) (.type "ValueError") = some false)
    (hxiz_InvalidCount_InvalidText : PySem.W.kitOne K (.ref C14) (.ref C13) = some false)
    (hxiz_NotADesk_InvalidText : PySem.W.kitOne K (.ref C12) (.ref C13) = some false)
    (hxiz_NotAMachine_InvalidText : PySem.W.kitOne K (.ref C11) (.ref C13) = some false)
    (hxiz_InvalidLine_InvalidText : PySem.W.kitOne K (.ref C18) (.ref C13) = some false)
    (hxiz_InvalidWord_InvalidText : PySem.W.kitOne K (.ref C17) (.ref C13) = some false)
    (hxiz_InvalidStand_InvalidText : PySem.W.kitOne K (.ref C16) (.ref C13) = some false)
    (hxiz_InvalidLetter_InvalidText : PySem.W.kitOne K (.ref C15) (.ref C13) = some false)
    (hxiz_InvalidTexts_InvalidText : PySem.W.kitOne K (.ref C22) (.ref C13) = some false)
    (hxiz_InvalidBook_InvalidText : PySem.W.kitOne K (.ref C21) (.ref C13) = some false)
    (hxiz_InvalidEnds_InvalidText : PySem.W.kitOne K (.ref C20) (.ref C13) = some false)
    (hxiz_InvalidArrows_InvalidText : PySem.W.kitOne K (.ref C19) (.ref C13) = some false)
    (hxiz_InvalidDeeds_InvalidText : PySem.W.kitOne K (.ref C23) (.ref C13) = some false)
    (hxiz_Busy_InvalidText : PySem.W.kitOne K (.ref C25) (.ref C13) = some false)
    (hxiz_NothingToUndo_InvalidText : PySem.W.kitOne K (.ref C24) (.ref C13) = some false)
    (hxiz_TooMany_InvalidText : PySem.W.kitOne K (.ref C26) (.ref C13) = some false)
    (hxiz_InvalidCount_NotADesk : PySem.W.kitOne K (.ref C14) (.ref C12) = some false)
    (hxiz_InvalidText_NotADesk : PySem.W.kitOne K (.ref C13) (.ref C12) = some false)
    (hxiz_NotAMachine_NotADesk : PySem.W.kitOne K (.ref C11) (.ref C12) = some false)
    (hxiz_InvalidLine_NotADesk : PySem.W.kitOne K (.ref C18) (.ref C12) = some false)
    (hxiz_InvalidWord_NotADesk : PySem.W.kitOne K (.ref C17) (.ref C12) = some false)
    (hxiz_InvalidStand_NotADesk : PySem.W.kitOne K (.ref C16) (.ref C12) = some false)
    (hxiz_InvalidLetter_NotADesk : PySem.W.kitOne K (.ref C15) (.ref C12) = some false)
    (hxiz_InvalidTexts_NotADesk : PySem.W.kitOne K (.ref C22) (.ref C12) = some false)
    (hxiz_InvalidBook_NotADesk : PySem.W.kitOne K (.ref C21) (.ref C12) = some false)
    (hxiz_InvalidEnds_NotADesk : PySem.W.kitOne K (.ref C20) (.ref C12) = some false)
    (hxiz_InvalidArrows_NotADesk : PySem.W.kitOne K (.ref C19) (.ref C12) = some false)
    (hxiz_InvalidDeeds_NotADesk : PySem.W.kitOne K (.ref C23) (.ref C12) = some false)
    (hxiz_Busy_NotADesk : PySem.W.kitOne K (.ref C25) (.ref C12) = some false)
    (hxiz_NothingToUndo_NotADesk : PySem.W.kitOne K (.ref C24) (.ref C12) = some false)
    (hxiz_TooMany_NotADesk : PySem.W.kitOne K (.ref C26) (.ref C12) = some false)
    (hxiz_InvalidCount_NotAMachine : PySem.W.kitOne K (.ref C14) (.ref C11) = some false)
    (hxiz_InvalidText_NotAMachine : PySem.W.kitOne K (.ref C13) (.ref C11) = some false)
    (hxiz_NotADesk_NotAMachine : PySem.W.kitOne K (.ref C12) (.ref C11) = some false)
    (hxiz_InvalidLine_NotAMachine : PySem.W.kitOne K (.ref C18) (.ref C11) = some false)
    (hxiz_InvalidWord_NotAMachine : PySem.W.kitOne K (.ref C17) (.ref C11) = some false)
    (hxiz_InvalidStand_NotAMachine : PySem.W.kitOne K (.ref C16) (.ref C11) = some false)
    (hxiz_InvalidLetter_NotAMachine : PySem.W.kitOne K (.ref C15) (.ref C11) = some false)
    (hxiz_InvalidTexts_NotAMachine : PySem.W.kitOne K (.ref C22) (.ref C11) = some false)
    (hxiz_InvalidBook_NotAMachine : PySem.W.kitOne K (.ref C21) (.ref C11) = some false)
    (hxiz_InvalidEnds_NotAMachine : PySem.W.kitOne K (.ref C20) (.ref C11) = some false)
    (hxiz_InvalidArrows_NotAMachine : PySem.W.kitOne K (.ref C19) (.ref C11) = some false)
    (hxiz_InvalidDeeds_NotAMachine : PySem.W.kitOne K (.ref C23) (.ref C11) = some false)
    (hxiz_Busy_NotAMachine : PySem.W.kitOne K (.ref C25) (.ref C11) = some false)
    (hxiz_NothingToUndo_NotAMachine : PySem.W.kitOne K (.ref C24) (.ref C11) = some false)
    (hxiz_TooMany_NotAMachine : PySem.W.kitOne K (.ref C26) (.ref C11) = some false)
    (hxiz_InvalidCount_InvalidLetter : PySem.W.kitOne K (.ref C14) (.ref C15) = some false)
    (hxiz_InvalidText_InvalidLetter : PySem.W.kitOne K (.ref C13) (.ref C15) = some false)
    (hxiz_NotADesk_InvalidLetter : PySem.W.kitOne K (.ref C12) (.ref C15) = some false)
    (hxiz_NotAMachine_InvalidLetter : PySem.W.kitOne K (.ref C11) (.ref C15) = some false)
    (hxiz_InvalidLine_InvalidLetter : PySem.W.kitOne K (.ref C18) (.ref C15) = some false)
    (hxiz_InvalidWord_InvalidLetter : PySem.W.kitOne K (.ref C17) (.ref C15) = some false)
    (hxiz_InvalidStand_InvalidLetter : PySem.W.kitOne K (.ref C16) (.ref C15) = some false)
    (hxiz_InvalidTexts_InvalidLetter : PySem.W.kitOne K (.ref C22) (.ref C15) = some false)
    (hxiz_InvalidBook_InvalidLetter : PySem.W.kitOne K (.ref C21) (.ref C15) = some false)
    (hxiz_InvalidEnds_InvalidLetter : PySem.W.kitOne K (.ref C20) (.ref C15) = some false)
    (hxiz_InvalidArrows_InvalidLetter : PySem.W.kitOne K (.ref C19) (.ref C15) = some false)
    (hxiz_InvalidDeeds_InvalidLetter : PySem.W.kitOne K (.ref C23) (.ref C15) = some false)
    (hxiz_Busy_InvalidLetter : PySem.W.kitOne K (.ref C25) (.ref C15) = some false)
    (hxiz_NothingToUndo_InvalidLetter : PySem.W.kitOne K (.ref C24) (.ref C15) = some false)
    (hxiz_TooMany_InvalidLetter : PySem.W.kitOne K (.ref C26) (.ref C15) = some false)
    (hxiz_InvalidText_InvalidCount : PySem.W.kitOne K (.ref C13) (.ref C14) = some false)
    (hxiz_NotADesk_InvalidCount : PySem.W.kitOne K (.ref C12) (.ref C14) = some false)
    (hxiz_NotAMachine_InvalidCount : PySem.W.kitOne K (.ref C11) (.ref C14) = some false)
    (hxiz_InvalidLine_InvalidCount : PySem.W.kitOne K (.ref C18) (.ref C14) = some false)
    (hxiz_InvalidWord_InvalidCount : PySem.W.kitOne K (.ref C17) (.ref C14) = some false)
    (hxiz_InvalidStand_InvalidCount : PySem.W.kitOne K (.ref C16) (.ref C14) = some false)
    (hxiz_InvalidLetter_InvalidCount : PySem.W.kitOne K (.ref C15) (.ref C14) = some false)
    (hxiz_InvalidTexts_InvalidCount : PySem.W.kitOne K (.ref C22) (.ref C14) = some false)
    (hxiz_InvalidBook_InvalidCount : PySem.W.kitOne K (.ref C21) (.ref C14) = some false)
    (hxiz_InvalidEnds_InvalidCount : PySem.W.kitOne K (.ref C20) (.ref C14) = some false)
    (hxiz_InvalidArrows_InvalidCount : PySem.W.kitOne K (.ref C19) (.ref C14) = some false)
    (hxiz_InvalidDeeds_InvalidCount : PySem.W.kitOne K (.ref C23) (.ref C14) = some false)
    (hxiz_Busy_InvalidCount : PySem.W.kitOne K (.ref C25) (.ref C14) = some false)
    (hxiz_NothingToUndo_InvalidCount : PySem.W.kitOne K (.ref C24) (.ref C14) = some false)
    (hxiz_TooMany_InvalidCount : PySem.W.kitOne K (.ref C26) (.ref C14) = some false)
    (hxiz_InvalidCount_InvalidWord : PySem.W.kitOne K (.ref C14) (.ref C17) = some false)
    (hxiz_InvalidText_InvalidWord : PySem.W.kitOne K (.ref C13) (.ref C17) = some false)
    (hxiz_NotADesk_InvalidWord : PySem.W.kitOne K (.ref C12) (.ref C17) = some false)
    (hxiz_NotAMachine_InvalidWord : PySem.W.kitOne K (.ref C11) (.ref C17) = some false)
    (hxiz_InvalidLine_InvalidWord : PySem.W.kitOne K (.ref C18) (.ref C17) = some false)
    (hxiz_InvalidStand_InvalidWord : PySem.W.kitOne K (.ref C16) (.ref C17) = some false)
    (hxiz_InvalidLetter_InvalidWord : PySem.W.kitOne K (.ref C15) (.ref C17) = some false)
    (hxiz_InvalidTexts_InvalidWord : PySem.W.kitOne K (.ref C22) (.ref C17) = some false)
    (hxiz_InvalidBook_InvalidWord : PySem.W.kitOne K (.ref C21) (.ref C17) = some false)
    (hxiz_InvalidEnds_InvalidWord : PySem.W.kitOne K (.ref C20) (.ref C17) = some false)
    (hxiz_InvalidArrows_InvalidWord : PySem.W.kitOne K (.ref C19) (.ref C17) = some false)
    (hxiz_InvalidDeeds_InvalidWord : PySem.W.kitOne K (.ref C23) (.ref C17) = some false)
    (hxiz_Busy_InvalidWord : PySem.W.kitOne K (.ref C25) (.ref C17) = some false)
    (hxiz_NothingToUndo_InvalidWord : PySem.W.kitOne K (.ref C24) (.ref C17) = some false)
    (hxiz_TooMany_InvalidWord : PySem.W.kitOne K (.ref C26) (.ref C17) = some false)
    (hxiz_InvalidCount_InvalidStand : PySem.W.kitOne K (.ref C14) (.ref C16) = some false)
    (hxiz_InvalidText_InvalidStand : PySem.W.kitOne K (.ref C13) (.ref C16) = some false)
    (hxiz_NotADesk_InvalidStand : PySem.W.kitOne K (.ref C12) (.ref C16) = some false)
    (hxiz_NotAMachine_InvalidStand : PySem.W.kitOne K (.ref C11) (.ref C16) = some false)
    (hxiz_InvalidLine_InvalidStand : PySem.W.kitOne K (.ref C18) (.ref C16) = some false)
    (hxiz_InvalidWord_InvalidStand : PySem.W.kitOne K (.ref C17) (.ref C16) = some false)
    (hxiz_InvalidLetter_InvalidStand : PySem.W.kitOne K (.ref C15) (.ref C16) = some false)
    (hxiz_InvalidTexts_InvalidStand : PySem.W.kitOne K (.ref C22) (.ref C16) = some false)
    (hxiz_InvalidBook_InvalidStand : PySem.W.kitOne K (.ref C21) (.ref C16) = some false)
    (hxiz_InvalidEnds_InvalidStand : PySem.W.kitOne K (.ref C20) (.ref C16) = some false)
    (hxiz_InvalidArrows_InvalidStand : PySem.W.kitOne K (.ref C19) (.ref C16) = some false)
    (hxiz_InvalidDeeds_InvalidStand : PySem.W.kitOne K (.ref C23) (.ref C16) = some false)
    (hxiz_Busy_InvalidStand : PySem.W.kitOne K (.ref C25) (.ref C16) = some false)
    (hxiz_NothingToUndo_InvalidStand : PySem.W.kitOne K (.ref C24) (.ref C16) = some false)
    (hxiz_TooMany_InvalidStand : PySem.W.kitOne K (.ref C26) (.ref C16) = some false)
    (hxiz_InvalidCount_InvalidArrows : PySem.W.kitOne K (.ref C14) (.ref C19) = some false)
    (hxiz_InvalidText_InvalidArrows : PySem.W.kitOne K (.ref C13) (.ref C19) = some false)
    (hxiz_NotADesk_InvalidArrows : PySem.W.kitOne K (.ref C12) (.ref C19) = some false)
    (hxiz_NotAMachine_InvalidArrows : PySem.W.kitOne K (.ref C11) (.ref C19) = some false)
    (hxiz_InvalidLine_InvalidArrows : PySem.W.kitOne K (.ref C18) (.ref C19) = some false)
    (hxiz_InvalidWord_InvalidArrows : PySem.W.kitOne K (.ref C17) (.ref C19) = some false)
    (hxiz_InvalidStand_InvalidArrows : PySem.W.kitOne K (.ref C16) (.ref C19) = some false)
    (hxiz_InvalidLetter_InvalidArrows : PySem.W.kitOne K (.ref C15) (.ref C19) = some false)
    (hxiz_InvalidTexts_InvalidArrows : PySem.W.kitOne K (.ref C22) (.ref C19) = some false)
    (hxiz_InvalidBook_InvalidArrows : PySem.W.kitOne K (.ref C21) (.ref C19) = some false)
    (hxiz_InvalidEnds_InvalidArrows : PySem.W.kitOne K (.ref C20) (.ref C19) = some false)
    (hxiz_InvalidDeeds_InvalidArrows : PySem.W.kitOne K (.ref C23) (.ref C19) = some false)
    (hxiz_Busy_InvalidArrows : PySem.W.kitOne K (.ref C25) (.ref C19) = some false)
    (hxiz_NothingToUndo_InvalidArrows : PySem.W.kitOne K (.ref C24) (.ref C19) = some false)
    (hxiz_TooMany_InvalidArrows : PySem.W.kitOne K (.ref C26) (.ref C19) = some false)
    (hxiz_InvalidCount_InvalidLine : PySem.W.kitOne K (.ref C14) (.ref C18) = some false)
    (hxiz_InvalidText_InvalidLine : PySem.W.kitOne K (.ref C13) (.ref C18) = some false)
    (hxiz_NotADesk_InvalidLine : PySem.W.kitOne K (.ref C12) (.ref C18) = some false)
    (hxiz_NotAMachine_InvalidLine : PySem.W.kitOne K (.ref C11) (.ref C18) = some false)
    (hxiz_InvalidWord_InvalidLine : PySem.W.kitOne K (.ref C17) (.ref C18) = some false)
    (hxiz_InvalidStand_InvalidLine : PySem.W.kitOne K (.ref C16) (.ref C18) = some false)
    (hxiz_InvalidLetter_InvalidLine : PySem.W.kitOne K (.ref C15) (.ref C18) = some false)
    (hxiz_InvalidTexts_InvalidLine : PySem.W.kitOne K (.ref C22) (.ref C18) = some false)
    (hxiz_InvalidBook_InvalidLine : PySem.W.kitOne K (.ref C21) (.ref C18) = some false)
    (hxiz_InvalidEnds_InvalidLine : PySem.W.kitOne K (.ref C20) (.ref C18) = some false)
    (hxiz_InvalidArrows_InvalidLine : PySem.W.kitOne K (.ref C19) (.ref C18) = some false)
    (hxiz_InvalidDeeds_InvalidLine : PySem.W.kitOne K (.ref C23) (.ref C18) = some false)
    (hxiz_Busy_InvalidLine : PySem.W.kitOne K (.ref C25) (.ref C18) = some false)
    (hxiz_NothingToUndo_InvalidLine : PySem.W.kitOne K (.ref C24) (.ref C18) = some false)
    (hxiz_TooMany_InvalidLine : PySem.W.kitOne K (.ref C26) (.ref C18) = some false)
    (hxiz_InvalidCount_InvalidBook : PySem.W.kitOne K (.ref C14) (.ref C21) = some false)
    (hxiz_InvalidText_InvalidBook : PySem.W.kitOne K (.ref C13) (.ref C21) = some false)
    (hxiz_NotADesk_InvalidBook : PySem.W.kitOne K (.ref C12) (.ref C21) = some false)
    (hxiz_NotAMachine_InvalidBook : PySem.W.kitOne K (.ref C11) (.ref C21) = some false)
    (hxiz_InvalidLine_InvalidBook : PySem.W.kitOne K (.ref C18) (.ref C21) = some false)
    (hxiz_InvalidWord_InvalidBook : PySem.W.kitOne K (.ref C17) (.ref C21) = some false)
    (hxiz_InvalidStand_InvalidBook : PySem.W.kitOne K (.ref C16) (.ref C21) = some false)
    (hxiz_InvalidLetter_InvalidBook : PySem.W.kitOne K (.ref C15) (.ref C21) = some false)
    (hxiz_InvalidTexts_InvalidBook : PySem.W.kitOne K (.ref C22) (.ref C21) = some false)
    (hxiz_InvalidEnds_InvalidBook : PySem.W.kitOne K (.ref C20) (.ref C21) = some false)
    (hxiz_InvalidArrows_InvalidBook : PySem.W.kitOne K (.ref C19) (.ref C21) = some false)
    (hxiz_InvalidDeeds_InvalidBook : PySem.W.kitOne K (.ref C23) (.ref C21) = some false)
    (hxiz_Busy_InvalidBook : PySem.W.kitOne K (.ref C25) (.ref C21) = some false)
    (hxiz_NothingToUndo_InvalidBook : PySem.W.kitOne K (.ref C24) (.ref C21) = some false)
    (hxiz_TooMany_InvalidBook : PySem.W.kitOne K (.ref C26) (.ref C21) = some false)
    (hxiz_InvalidCount_InvalidEnds : PySem.W.kitOne K (.ref C14) (.ref C20) = some false)
    (hxiz_InvalidText_InvalidEnds : PySem.W.kitOne K (.ref C13) (.ref C20) = some false)
    (hxiz_NotADesk_InvalidEnds : PySem.W.kitOne K (.ref C12) (.ref C20) = some false)
    (hxiz_NotAMachine_InvalidEnds : PySem.W.kitOne K (.ref C11) (.ref C20) = some false)
    (hxiz_InvalidLine_InvalidEnds : PySem.W.kitOne K (.ref C18) (.ref C20) = some false)
    (hxiz_InvalidWord_InvalidEnds : PySem.W.kitOne K (.ref C17) (.ref C20) = some false)
    (hxiz_InvalidStand_InvalidEnds : PySem.W.kitOne K (.ref C16) (.ref C20) = some false)
    (hxiz_InvalidLetter_InvalidEnds : PySem.W.kitOne K (.ref C15) (.ref C20) = some false)
    (hxiz_InvalidTexts_InvalidEnds : PySem.W.kitOne K (.ref C22) (.ref C20) = some false)
    (hxiz_InvalidBook_InvalidEnds : PySem.W.kitOne K (.ref C21) (.ref C20) = some false)
    (hxiz_InvalidArrows_InvalidEnds : PySem.W.kitOne K (.ref C19) (.ref C20) = some false)
    (hxiz_InvalidDeeds_InvalidEnds : PySem.W.kitOne K (.ref C23) (.ref C20) = some false)
    (hxiz_Busy_InvalidEnds : PySem.W.kitOne K (.ref C25) (.ref C20) = some false)
    (hxiz_NothingToUndo_InvalidEnds : PySem.W.kitOne K (.ref C24) (.ref C20) = some false)
    (hxiz_TooMany_InvalidEnds : PySem.W.kitOne K (.ref C26) (.ref C20) = some false)
    (hxiz_InvalidCount_InvalidDeeds : PySem.W.kitOne K (.ref C14) (.ref C23) = some false)
    (hxiz_InvalidText_InvalidDeeds : PySem.W.kitOne K (.ref C13) (.ref C23) = some false)
    (hxiz_NotADesk_InvalidDeeds : PySem.W.kitOne K (.ref C12) (.ref C23) = some false)
    (hxiz_NotAMachine_InvalidDeeds : PySem.W.kitOne K (.ref C11) (.ref C23) = some false)
    (hxiz_InvalidLine_InvalidDeeds : PySem.W.kitOne K (.ref C18) (.ref C23) = some false)
    (hxiz_InvalidWord_InvalidDeeds : PySem.W.kitOne K (.ref C17) (.ref C23) = some false)
    (hxiz_InvalidStand_InvalidDeeds : PySem.W.kitOne K (.ref C16) (.ref C23) = some false)
    (hxiz_InvalidLetter_InvalidDeeds : PySem.W.kitOne K (.ref C15) (.ref C23) = some false)
    (hxiz_InvalidTexts_InvalidDeeds : PySem.W.kitOne K (.ref C22) (.ref C23) = some false)
    (hxiz_InvalidBook_InvalidDeeds : PySem.W.kitOne K (.ref C21) (.ref C23) = some false)
    (hxiz_InvalidEnds_InvalidDeeds : PySem.W.kitOne K (.ref C20) (.ref C23) = some false)
    (hxiz_InvalidArrows_InvalidDeeds : PySem.W.kitOne K (.ref C19) (.ref C23) = some false)
    (hxiz_Busy_InvalidDeeds : PySem.W.kitOne K (.ref C25) (.ref C23) = some false)
    (hxiz_NothingToUndo_InvalidDeeds : PySem.W.kitOne K (.ref C24) (.ref C23) = some false)
    (hxiz_TooMany_InvalidDeeds : PySem.W.kitOne K (.ref C26) (.ref C23) = some false)
    (hxiz_InvalidCount_InvalidTexts : PySem.W.kitOne K (.ref C14) (.ref C22) = some false)
    (hxiz_InvalidText_InvalidTexts : PySem.W.kitOne K (.ref C13) (.ref C22) = some false)
    (hxiz_NotADesk_InvalidTexts : PySem.W.kitOne K (.ref C12) (.ref C22) = some false)
    (hxiz_NotAMachine_InvalidTexts : PySem.W.kitOne K (.ref C11) (.ref C22) = some false)
    (hxiz_InvalidLine_InvalidTexts : PySem.W.kitOne K (.ref C18) (.ref C22) = some false)
    (hxiz_InvalidWord_InvalidTexts : PySem.W.kitOne K (.ref C17) (.ref C22) = some false)
    (hxiz_InvalidStand_InvalidTexts : PySem.W.kitOne K (.ref C16) (.ref C22) = some false)
    (hxiz_InvalidLetter_InvalidTexts : PySem.W.kitOne K (.ref C15) (.ref C22) = some false)
    (hxiz_InvalidBook_InvalidTexts : PySem.W.kitOne K (.ref C21) (.ref C22) = some false)
    (hxiz_InvalidEnds_InvalidTexts : PySem.W.kitOne K (.ref C20) (.ref C22) = some false)
    (hxiz_InvalidArrows_InvalidTexts : PySem.W.kitOne K (.ref C19) (.ref C22) = some false)
    (hxiz_InvalidDeeds_InvalidTexts : PySem.W.kitOne K (.ref C23) (.ref C22) = some false)
    (hxiz_Busy_InvalidTexts : PySem.W.kitOne K (.ref C25) (.ref C22) = some false)
    (hxiz_NothingToUndo_InvalidTexts : PySem.W.kitOne K (.ref C24) (.ref C22) = some false)
    (hxiz_TooMany_InvalidTexts : PySem.W.kitOne K (.ref C26) (.ref C22) = some false)
    (hxiz_InvalidCount_TooMany : PySem.W.kitOne K (.ref C14) (.ref C26) = some false)
    (hxiz_InvalidText_TooMany : PySem.W.kitOne K (.ref C13) (.ref C26) = some false)
    (hxiz_NotADesk_TooMany : PySem.W.kitOne K (.ref C12) (.ref C26) = some false)
    (hxiz_NotAMachine_TooMany : PySem.W.kitOne K (.ref C11) (.ref C26) = some false)
    (hxiz_InvalidLine_TooMany : PySem.W.kitOne K (.ref C18) (.ref C26) = some false)
    (hxiz_InvalidWord_TooMany : PySem.W.kitOne K (.ref C17) (.ref C26) = some false)
    (hxiz_InvalidStand_TooMany : PySem.W.kitOne K (.ref C16) (.ref C26) = some false)
    (hxiz_InvalidLetter_TooMany : PySem.W.kitOne K (.ref C15) (.ref C26) = some false)
    (hxiz_InvalidTexts_TooMany : PySem.W.kitOne K (.ref C22) (.ref C26) = some false)
    (hxiz_InvalidBook_TooMany : PySem.W.kitOne K (.ref C21) (.ref C26) = some false)
    (hxiz_InvalidEnds_TooMany : PySem.W.kitOne K (.ref C20) (.ref C26) = some false)
    (hxiz_InvalidArrows_TooMany : PySem.W.kitOne K (.ref C19) (.ref C26) = some false)
    (hxiz_InvalidDeeds_TooMany : PySem.W.kitOne K (.ref C23) (.ref C26) = some false)
    (hxiz_Busy_TooMany : PySem.W.kitOne K (.ref C25) (.ref C26) = some false)
    (hxiz_NothingToUndo_TooMany : PySem.W.kitOne K (.ref C24) (.ref C26) = some false)
    (hxiz_InvalidCount_Busy : PySem.W.kitOne K (.ref C14) (.ref C25) = some false)
    (hxiz_InvalidText_Busy : PySem.W.kitOne K (.ref C13) (.ref C25) = some false)
    (hxiz_NotADesk_Busy : PySem.W.kitOne K (.ref C12) (.ref C25) = some false)
    (hxiz_NotAMachine_Busy : PySem.W.kitOne K (.ref C11) (.ref C25) = some false)
    (hxiz_InvalidLine_Busy : PySem.W.kitOne K (.ref C18) (.ref C25) = some false)
    (hxiz_InvalidWord_Busy : PySem.W.kitOne K (.ref C17) (.ref C25) = some false)
    (hxiz_InvalidStand_Busy : PySem.W.kitOne K (.ref C16) (.ref C25) = some false)
    (hxiz_InvalidLetter_Busy : PySem.W.kitOne K (.ref C15) (.ref C25) = some false)
    (hxiz_InvalidTexts_Busy : PySem.W.kitOne K (.ref C22) (.ref C25) = some false)
    (hxiz_InvalidBook_Busy : PySem.W.kitOne K (.ref C21) (.ref C25) = some false)
    (hxiz_InvalidEnds_Busy : PySem.W.kitOne K (.ref C20) (.ref C25) = some false)
    (hxiz_InvalidArrows_Busy : PySem.W.kitOne K (.ref C19) (.ref C25) = some false)
    (hxiz_InvalidDeeds_Busy : PySem.W.kitOne K (.ref C23) (.ref C25) = some false)
    (hxiz_NothingToUndo_Busy : PySem.W.kitOne K (.ref C24) (.ref C25) = some false)
    (hxiz_TooMany_Busy : PySem.W.kitOne K (.ref C26) (.ref C25) = some false)
    (hxiz_InvalidCount_NothingToUndo : PySem.W.kitOne K (.ref C14) (.ref C24) = some false)
    (hxiz_InvalidText_NothingToUndo : PySem.W.kitOne K (.ref C13) (.ref C24) = some false)
    (hxiz_NotADesk_NothingToUndo : PySem.W.kitOne K (.ref C12) (.ref C24) = some false)
    (hxiz_NotAMachine_NothingToUndo : PySem.W.kitOne K (.ref C11) (.ref C24) = some false)
    (hxiz_InvalidLine_NothingToUndo : PySem.W.kitOne K (.ref C18) (.ref C24) = some false)
    (hxiz_InvalidWord_NothingToUndo : PySem.W.kitOne K (.ref C17) (.ref C24) = some false)
    (hxiz_InvalidStand_NothingToUndo : PySem.W.kitOne K (.ref C16) (.ref C24) = some false)
    (hxiz_InvalidLetter_NothingToUndo : PySem.W.kitOne K (.ref C15) (.ref C24) = some false)
    (hxiz_InvalidTexts_NothingToUndo : PySem.W.kitOne K (.ref C22) (.ref C24) = some false)
    (hxiz_InvalidBook_NothingToUndo : PySem.W.kitOne K (.ref C21) (.ref C24) = some false)
    (hxiz_InvalidEnds_NothingToUndo : PySem.W.kitOne K (.ref C20) (.ref C24) = some false)
    (hxiz_InvalidArrows_NothingToUndo : PySem.W.kitOne K (.ref C19) (.ref C24) = some false)
    (hxiz_InvalidDeeds_NothingToUndo : PySem.W.kitOne K (.ref C23) (.ref C24) = some false)
    (hxiz_Busy_NothingToUndo : PySem.W.kitOne K (.ref C25) (.ref C24) = some false)
    (hxiz_TooMany_NothingToUndo : PySem.W.kitOne K (.ref C26) (.ref C24) = some false)
    (a0 : PySem.W.nsIn K mainGlobals "_law_pinch" = some (some (.ref f0)))
    (l0 : K.lookup f0 = some ⟨oc0, od0, .func (PySem.W.fnOf "_law_pinch" "_law_pinch" (defArgs s__law_pinch) (defBody s__law_pinch) (defScope s__law_pinch) .none kV0 dc0 pm0 an0 cd0 ct0), sl0⟩)
    (e0 : PySem.W.codeIn K cd0 "_law_pinch" = true)
    (k0 : PySem.W.keepIn K (.ref f0) = true)
    (a1 : PySem.W.nsIn K mainGlobals "_law_one" = some (some (.ref f1)))
    (l1 : K.lookup f1 = some ⟨oc1, od1, .func (PySem.W.fnOf "_law_one" "_law_one" (defArgs s__law_one) (defBody s__law_one) (defScope s__law_one) .none kV1 dc1 pm1 an1 cd1 ct1), sl1⟩)
    (e1 : PySem.W.codeIn K cd1 "_law_one" = true)
    (k1 : PySem.W.keepIn K (.ref f1) = true)
    (a2 : PySem.W.nsIn K mainGlobals "_law_value_errors" = some (some (.ref f2)))
    (l2 : K.lookup f2 = some ⟨oc2, od2, .func (PySem.W.fnOf "_law_value_errors" "_law_value_errors" (defArgs s__law_value_errors) (defBody s__law_value_errors) (defScope s__law_value_errors) .none kV2 dc2 pm2 an2 cd2 ct2), sl2⟩)
    (e2 : PySem.W.codeIn K cd2 "_law_value_errors" = true)
    (k2 : PySem.W.keepIn K (.ref f2) = true)
    (a3 : PySem.W.nsIn K mainGlobals "_law_index_errors" = some (some (.ref f3)))
    (l3 : K.lookup f3 = some ⟨oc3, od3, .func (PySem.W.fnOf "_law_index_errors" "_law_index_errors" (defArgs s__law_index_errors) (defBody s__law_index_errors) (defScope s__law_index_errors) .none kV3 dc3 pm3 an3 cd3 ct3), sl3⟩)
    (e3 : PySem.W.codeIn K cd3 "_law_index_errors" = true)
    (k3 : PySem.W.keepIn K (.ref f3) = true)
    (a4 : PySem.W.nsIn K mainGlobals "_law_bases" = some (some (.ref f4)))
    (l4 : K.lookup f4 = some ⟨oc4, od4, .func (PySem.W.fnOf "_law_bases" "_law_bases" (defArgs s__law_bases) (defBody s__law_bases) (defScope s__law_bases) .none kV4 dc4 pm4 an4 cd4 ct4), sl4⟩)
    (e4 : PySem.W.codeIn K cd4 "_law_bases" = true)
    (k4 : PySem.W.keepIn K (.ref f4) = true)
    (a5 : PySem.W.nsIn K mainGlobals "_law_instances" = some (some (.ref f5)))
    (l5 : K.lookup f5 = some ⟨oc5, od5, .func (PySem.W.fnOf "_law_instances" "_law_instances" (defArgs s__law_instances) (defBody s__law_instances) (defScope s__law_instances) .none kV5 dc5 pm5 an5 cd5 ct5), sl5⟩)
    (e5 : PySem.W.codeIn K cd5 "_law_instances" = true)
    (k5 : PySem.W.keepIn K (.ref f5) = true)
    (a6 : PySem.W.nsIn K mainGlobals "_law_right" = some (some (.ref f6)))
    (l6 : K.lookup f6 = some ⟨oc6, od6, .func (PySem.W.fnOf "_law_right" "_law_right" (defArgs s__law_right) (defBody s__law_right) (defScope s__law_right) .none kV6 dc6 pm6 an6 cd6 ct6), sl6⟩)
    (e6 : PySem.W.codeIn K cd6 "_law_right" = true)
    (k6 : PySem.W.keepIn K (.ref f6) = true)
    (a7 : PySem.W.nsIn K mainGlobals "_law_sack" = some (some (.ref f7)))
    (l7 : K.lookup f7 = some ⟨oc7, od7, .func (PySem.W.fnOf "_law_sack" "_law_sack" (defArgs s__law_sack) (defBody s__law_sack) (defScope s__law_sack) .none kV7 dc7 pm7 an7 cd7 ct7), sl7⟩)
    (e7 : PySem.W.codeIn K cd7 "_law_sack" = true)
    (k7 : PySem.W.keepIn K (.ref f7) = true)
    (a8 : PySem.W.nsIn K mainGlobals "law" = some (some (.ref f8)))
    (l8 : K.lookup f8 = some ⟨oc8, od8, .func (PySem.W.fnOf "law" "law" (defArgs s_law) (defBody s_law) (defScope s_law) .none kV8 dc8 pm8 an8 cd8 ct8), sl8⟩)
    (e8 : PySem.W.codeIn K cd8 "law" = true)
    (k8 : PySem.W.keepIn K (.ref f8) = true)
    (g_MOST_DEEDS : PySem.W.nsIn K mainGlobals "MOST_DEEDS" = some (some (.int 60 t_MOST_DEEDS)))
    (g_MOST_WORD : PySem.W.nsIn K mainGlobals "MOST_WORD" = some (some (.int 6 t_MOST_WORD)))
    (g_MOST_LETTERS : PySem.W.nsIn K mainGlobals "MOST_LETTERS" = some (some (.int 5 t_MOST_LETTERS)))
    (g_MOST_STANDS : PySem.W.nsIn K mainGlobals "MOST_STANDS" = some (some (.int 8 t_MOST_STANDS)))
    (z_ArithmeticError : PySem.W.nsIn K mainGlobals "ArithmeticError" = some none)
    (z_LookupError : PySem.W.nsIn K mainGlobals "LookupError" = some none)
    (z_ValueError : PySem.W.nsIn K mainGlobals "ValueError" = some none)
    (z_abs : PySem.W.nsIn K mainGlobals "abs" = some none)
    (z_all : PySem.W.nsIn K mainGlobals "all" = some none)
    (z_divmod : PySem.W.nsIn K mainGlobals "divmod" = some none)
    (z_int : PySem.W.nsIn K mainGlobals "int" = some none)
    (z_isinstance : PySem.W.nsIn K mainGlobals "isinstance" = some none)
    (z_len : PySem.W.nsIn K mainGlobals "len" = some none)
    (z_max : PySem.W.nsIn K mainGlobals "max" = some none)
    (z_min : PySem.W.nsIn K mainGlobals "min" = some none)
    (z_range : PySem.W.nsIn K mainGlobals "range" = some none)
    (z_repr : PySem.W.nsIn K mainGlobals "repr" = some none)
    : ∃ fd : FuncData, (∀ (s : Shared) (v : Value), BindsTo s fd ⟨[v], []⟩ [("_law_script", v)]) ∧ ∀ base : Heap, K.In base → base.Ns mainGlobals mg → ∃ w : Wo, w.K = K ∧ w.T = [] ∧ FnM l.prog W w mg base CX0 exF 5 fa fd ["_law_script"] m_law := by
  cases hfa.symm.trans (PySem.W.mg_of KX G a8)
  let T : Tx W { K := K, cl := fun c => if c = 14 then some C14 else if c = 13 then some C13 else if c = 12 then some C12 else if c = 11 then some C11 else if c = 18 then some C18 else if c = 17 then some C17 else if c = 16 then some C16 else if c = 15 then some C15 else if c = 22 then some C22 else if c = 21 then some C21 else if c = 20 then some C20 else if c = 19 then some C19 else if c = 23 then some C23 else if c = 25 then some C25 else if c = 24 then some C24 else if c = 26 then some C26 else none, gv := gvOf [], W := W } mg := {
    hex := rfl
    xI_InvalidCount := xI14
    xfd_InvalidCount := _
    xF_InvalidCount := fun_mk (st := s_InvalidCount_init) xic14 xid14 xie14
    xi_InvalidCount := xia14
    xt_InvalidCount := xib14
    xo_InvalidCount := ⟨⟨_, _, _, _, _, _, _, _, _, _, _, _, _, _, _, xif14, xig14⟩, xih14, xij14, xik14, xil14⟩
    xI_InvalidText := xI13
    xfd_InvalidText := _
    xF_InvalidText := fun_mk (st := s_InvalidText_init) xic13 xid13 xie13
    xi_InvalidText := xia13
    xt_InvalidText := xib13
    xo_InvalidText := ⟨⟨_, _, _, _, _, _, _, _, _, _, _, _, _, _, _, xif13, xig13⟩, xih13, xij13, xik13, xil13⟩
    xI_NotADesk := xI12
    xfd_NotADesk := _
    xF_NotADesk := fun_mk (st := s_NotADesk_init) xic12 xid12 xie12
    xi_NotADesk := xia12
    xt_NotADesk := xib12
    xo_NotADesk := ⟨⟨_, _, _, _, _, _, _, _, _, _, _, _, _, _, _, xif12, xig12⟩, xih12, xij12, xik12, xil12⟩
    xI_NotAMachine := xI11
    xfd_NotAMachine := _
    xF_NotAMachine := fun_mk (st := s_NotAMachine_init) xic11 xid11 xie11
    xi_NotAMachine := xia11
    xt_NotAMachine := xib11
    xo_NotAMachine := ⟨⟨_, _, _, _, _, _, _, _, _, _, _, _, _, _, _, xif11, xig11⟩, xih11, xij11, xik11, xil11⟩
    xI_InvalidLine := xI18
    xfd_InvalidLine := _
    xF_InvalidLine := fun_mk (st := s_InvalidLine_init) xic18 xid18 xie18
    xi_InvalidLine := xia18
    xt_InvalidLine := xib18
    xo_InvalidLine := ⟨⟨_, _, _, _, _, _, _, _, _, _, _, _, _, _, _, xif18, xig18⟩, xih18, xij18, xik18, xil18⟩
    xI_InvalidWord := xI17
    xfd_InvalidWord := _
    xF_InvalidWord := fun_mk (st := s_InvalidWord_init) xic17 xid17 xie17
    xi_InvalidWord := xia17
    xt_InvalidWord := xib17
    xo_InvalidWord := ⟨⟨_, _, _, _, _, _, _, _, _, _, _, _, _, _, _, xif17, xig17⟩, xih17, xij17, xik17, xil17⟩
    xI_InvalidStand := xI16
    xfd_InvalidStand := _
    xF_InvalidStand := fun_mk (st := s_InvalidStand_init) xic16 xid16 xie16
    xi_InvalidStand := xia16
    xt_InvalidStand := xib16
    xo_InvalidStand := ⟨⟨_, _, _, _, _, _, _, _, _, _, _, _, _, _, _, xif16, xig16⟩, xih16, xij16, xik16, xil16⟩
    xI_InvalidLetter := xI15
    xfd_InvalidLetter := _
    xF_InvalidLetter := fun_mk (st := s_InvalidLetter_init) xic15 xid15 xie15
    xi_InvalidLetter := xia15
    xt_InvalidLetter := xib15
    xo_InvalidLetter := ⟨⟨_, _, _, _, _, _, _, _, _, _, _, _, _, _, _, xif15, xig15⟩, xih15, xij15, xik15, xil15⟩
    xI_InvalidTexts := xI22
    xfd_InvalidTexts := _
    xF_InvalidTexts := fun_mk (st := s_InvalidTexts_init) xic22 xid22 xie22
    xi_InvalidTexts := xia22
    xt_InvalidTexts := xib22
    xo_InvalidTexts := ⟨⟨_, _, _, _, _, _, _, _, _, _, _, _, _, _, _, xif22, xig22⟩, xih22, xij22, xik22, xil22⟩
    xI_InvalidBook := xI21
    xfd_InvalidBook := _
    xF_InvalidBook := fun_mk (st := s_InvalidBook_init) xic21 xid21 xie21
    xi_InvalidBook := xia21
    xt_InvalidBook := xib21
    xo_InvalidBook := ⟨⟨_, _, _, _, _, _, _, _, _, _, _, _, _, _, _, xif21, xig21⟩, xih21, xij21, xik21, xil21⟩
    xI_InvalidEnds := xI20
    xfd_InvalidEnds := _
    xF_InvalidEnds := fun_mk (st := s_InvalidEnds_init) xic20 xid20 xie20
    xi_InvalidEnds := xia20
    xt_InvalidEnds := xib20
    xo_InvalidEnds := ⟨⟨_, _, _, _, _, _, _, _, _, _, _, _, _, _, _, xif20, xig20⟩, xih20, xij20, xik20, xil20⟩
    xI_InvalidArrows := xI19
    xfd_InvalidArrows := _
    xF_InvalidArrows := fun_mk (st := s_InvalidArrows_init) xic19 xid19 xie19
    xi_InvalidArrows := xia19
    xt_InvalidArrows := xib19
    xo_InvalidArrows := ⟨⟨_, _, _, _, _, _, _, _, _, _, _, _, _, _, _, xif19, xig19⟩, xih19, xij19, xik19, xil19⟩
    xI_InvalidDeeds := xI23
    xfd_InvalidDeeds := _
    xF_InvalidDeeds := fun_mk (st := s_InvalidDeeds_init) xic23 xid23 xie23
    xi_InvalidDeeds := xia23
    xt_InvalidDeeds := xib23
    xo_InvalidDeeds := ⟨⟨_, _, _, _, _, _, _, _, _, _, _, _, _, _, _, xif23, xig23⟩, xih23, xij23, xik23, xil23⟩
    xI_TooMany := xI26
    xfd_TooMany := _
    xF_TooMany := fun_mk (st := s_TooMany_init) xic26 xid26 xie26
    xi_TooMany := xia26
    xt_TooMany := xib26
    xo_TooMany := ⟨⟨_, _, _, _, _, _, _, _, _, _, _, _, _, _, _, xif26, xig26⟩, xih26, xij26, xik26, xil26⟩
    xq_Busy := hxq_Busy
    xk_Busy := hxk_Busy
    xs_Busy := hxs_Busy
    xy_Busy := hxy_Busy
    xq_NothingToUndo := hxq_NothingToUndo
    xk_NothingToUndo := hxk_NothingToUndo
    xs_NothingToUndo := hxs_NothingToUndo
    xy_NothingToUndo := hxy_NothingToUndo
    xn_InvalidCount := hxn_InvalidCount
    xn_InvalidText := hxn_InvalidText
    xn_NotADesk := hxn_NotADesk
    xn_NotAMachine := hxn_NotAMachine
    xn_InvalidLine := hxn_InvalidLine
    xn_InvalidWord := hxn_InvalidWord
    xn_InvalidStand := hxn_InvalidStand
    xn_InvalidLetter := hxn_InvalidLetter
    xn_InvalidTexts := hxn_InvalidTexts
    xn_InvalidBook := hxn_InvalidBook
    xn_InvalidEnds := hxn_InvalidEnds
    xn_InvalidArrows := hxn_InvalidArrows
    xn_InvalidDeeds := hxn_InvalidDeeds
    xn_TooMany := hxn_TooMany
    xga_InvalidCount := hxga_InvalidCount
    xgg_InvalidCount := hxgg_InvalidCount
    xs_InvalidCount := hxs_InvalidCount
    xhd_InvalidCount := hxhd_InvalidCount
    xha_InvalidCount := hxha_InvalidCount
    xhm_InvalidCount := hxhm_InvalidCount
    xga_InvalidText := hxga_InvalidText
    xgg_InvalidText := hxgg_InvalidText
    xs_InvalidText := hxs_InvalidText
    xhd_InvalidText := hxhd_InvalidText
    xha_InvalidText := hxha_InvalidText
    xhm_InvalidText := hxhm_InvalidText
    xga_NotADesk := hxga_NotADesk
    xgg_NotADesk := hxgg_NotADesk
    xs_NotADesk := hxs_NotADesk
    xhd_NotADesk := hxhd_NotADesk
    xha_NotADesk := hxha_NotADesk
    xhm_NotADesk := hxhm_NotADesk
    xga_NotAMachine := hxga_NotAMachine
    xgg_NotAMachine := hxgg_NotAMachine
    xs_NotAMachine := hxs_NotAMachine
    xhd_NotAMachine := hxhd_NotAMachine
    xha_NotAMachine := hxha_NotAMachine
    xhm_NotAMachine := hxhm_NotAMachine
    xga_InvalidLine := hxga_InvalidLine
    xgg_InvalidLine := hxgg_InvalidLine
    xs_InvalidLine := hxs_InvalidLine
    xhd_InvalidLine := hxhd_InvalidLine
    xha_InvalidLine := hxha_InvalidLine
    xhm_InvalidLine := hxhm_InvalidLine
    xga_InvalidWord := hxga_InvalidWord
    xgg_InvalidWord := hxgg_InvalidWord
    xs_InvalidWord := hxs_InvalidWord
    xhd_InvalidWord := hxhd_InvalidWord
    xha_InvalidWord := hxha_InvalidWord
    xhm_InvalidWord := hxhm_InvalidWord
    xga_InvalidStand := hxga_InvalidStand
    xgg_InvalidStand := hxgg_InvalidStand
    xs_InvalidStand := hxs_InvalidStand
    xhd_InvalidStand := hxhd_InvalidStand
    xha_InvalidStand := hxha_InvalidStand
    xhm_InvalidStand := hxhm_InvalidStand
    xga_InvalidLetter := hxga_InvalidLetter
    xgg_InvalidLetter := hxgg_InvalidLetter
    xs_InvalidLetter := hxs_InvalidLetter
    xhd_InvalidLetter := hxhd_InvalidLetter
    xha_InvalidLetter := hxha_InvalidLetter
    xhm_InvalidLetter := hxhm_InvalidLetter
    xga_InvalidTexts := hxga_InvalidTexts
    xgg_InvalidTexts := hxgg_InvalidTexts
    xs_InvalidTexts := hxs_InvalidTexts
    xhd_InvalidTexts := hxhd_InvalidTexts
    xha_InvalidTexts := hxha_InvalidTexts
    xhm_InvalidTexts := hxhm_InvalidTexts
    xga_InvalidBook := hxga_InvalidBook
    xgg_InvalidBook := hxgg_InvalidBook
    xs_InvalidBook := hxs_InvalidBook
    xhd_InvalidBook := hxhd_InvalidBook
    xha_InvalidBook := hxha_InvalidBook
    xhm_InvalidBook := hxhm_InvalidBook
    xga_InvalidEnds := hxga_InvalidEnds
    xgg_InvalidEnds := hxgg_InvalidEnds
    xs_InvalidEnds := hxs_InvalidEnds
    xhd_InvalidEnds := hxhd_InvalidEnds
    xha_InvalidEnds := hxha_InvalidEnds
    xhm_InvalidEnds := hxhm_InvalidEnds
    xga_InvalidArrows := hxga_InvalidArrows
    xgg_InvalidArrows := hxgg_InvalidArrows
    xs_InvalidArrows := hxs_InvalidArrows
    xhd_InvalidArrows := hxhd_InvalidArrows
    xha_InvalidArrows := hxha_InvalidArrows
    xhm_InvalidArrows := hxhm_InvalidArrows
    xga_InvalidDeeds := hxga_InvalidDeeds
    xgg_InvalidDeeds := hxgg_InvalidDeeds
    xs_InvalidDeeds := hxs_InvalidDeeds
    xhd_InvalidDeeds := hxhd_InvalidDeeds
    xha_InvalidDeeds := hxha_InvalidDeeds
    xhm_InvalidDeeds := hxhm_InvalidDeeds
    xga_Busy := hxga_Busy
    xgg_Busy := hxgg_Busy
    xhd_Busy := hxhd_Busy
    xha_Busy := hxha_Busy
    xhm_Busy := hxhm_Busy
    xga_NothingToUndo := hxga_NothingToUndo
    xgg_NothingToUndo := hxgg_NothingToUndo
    xhd_NothingToUndo := hxhd_NothingToUndo
    xha_NothingToUndo := hxha_NothingToUndo
    xhm_NothingToUndo := hxhm_NothingToUndo
    xga_TooMany := hxga_TooMany
    xgg_TooMany := hxgg_TooMany
    xs_TooMany := hxs_TooMany
    xhd_TooMany := hxhd_TooMany
    xha_TooMany := hxha_TooMany
    xhm_TooMany := hxhm_TooMany
    xhn := hxhn
    xht := hxht
    xiz_InvalidCount_SizeError := hxiz_InvalidCount_SizeError
    xiz_InvalidText_SizeError := hxiz_InvalidText_SizeError
    xiz_NotADesk_SizeError := hxiz_NotADesk_SizeError
    xiz_NotAMachine_SizeError := hxiz_NotAMachine_SizeError
    xiz_InvalidLine_SizeError := hxiz_InvalidLine_SizeError
    xiz_InvalidWord_SizeError := hxiz_InvalidWord_SizeError
    xiz_InvalidStand_SizeError := hxiz_InvalidStand_SizeError
    xiz_InvalidLetter_SizeError := hxiz_InvalidLetter_SizeError
    xiz_InvalidTexts_SizeError := hxiz_InvalidTexts_SizeError
    xiz_InvalidBook_SizeError := hxiz_InvalidBook_SizeError
    xiz_InvalidEnds_SizeError := hxiz_InvalidEnds_SizeError
    xiz_InvalidArrows_SizeError := hxiz_InvalidArrows_SizeError
    xiz_InvalidDeeds_SizeError := hxiz_InvalidDeeds_SizeError
    xiz_Busy_SizeError := hxiz_Busy_SizeError
    xiz_NothingToUndo_SizeError := hxiz_NothingToUndo_SizeError
    xiz_TooMany_SizeError := hxiz_TooMany_SizeError
    xiz_InvalidCount_StateError := hxiz_InvalidCount_StateError
    xiz_InvalidText_StateError := hxiz_InvalidText_StateError
    xiz_NotADesk_StateError := hxiz_NotADesk_StateError
    xiz_NotAMachine_StateError := hxiz_NotAMachine_StateError
    xiz_InvalidLine_StateError := hxiz_InvalidLine_StateError
    xiz_InvalidWord_StateError := hxiz_InvalidWord_StateError
    xiz_InvalidStand_StateError := hxiz_InvalidStand_StateError
    xiz_InvalidLetter_StateError := hxiz_InvalidLetter_StateError
    xiz_InvalidTexts_StateError := hxiz_InvalidTexts_StateError
    xiz_InvalidBook_StateError := hxiz_InvalidBook_StateError
    xiz_InvalidEnds_StateError := hxiz_InvalidEnds_StateError
    xiz_InvalidArrows_StateError := hxiz_InvalidArrows_StateError
    xiz_InvalidDeeds_StateError := hxiz_InvalidDeeds_StateError
    xiz_Busy_StateError := hxiz_Busy_StateError
    xiz_NothingToUndo_StateError := hxiz_NothingToUndo_StateError
    xiz_TooMany_StateError := hxiz_TooMany_StateError
    xiz_InvalidCount_InputError := hxiz_InvalidCount_InputError
    xiz_InvalidText_InputError := hxiz_InvalidText_InputError
    xiz_NotADesk_InputError := hxiz_NotADesk_InputError
    xiz_NotAMachine_InputError := hxiz_NotAMachine_InputError
    xiz_InvalidLine_InputError := hxiz_InvalidLine_InputError
    xiz_InvalidWord_InputError := hxiz_InvalidWord_InputError
    xiz_InvalidStand_InputError := hxiz_InvalidStand_InputError
    xiz_InvalidLetter_InputError := hxiz_InvalidLetter_InputError
    xiz_InvalidTexts_InputError := hxiz_InvalidTexts_InputError
    xiz_InvalidBook_InputError := hxiz_InvalidBook_InputError
    xiz_InvalidEnds_InputError := hxiz_InvalidEnds_InputError
    xiz_InvalidArrows_InputError := hxiz_InvalidArrows_InputError
    xiz_InvalidDeeds_InputError := hxiz_InvalidDeeds_InputError
    xiz_Busy_InputError := hxiz_Busy_InputError
    xiz_NothingToUndo_InputError := hxiz_NothingToUndo_InputError
    xiz_TooMany_InputError := hxiz_TooMany_InputError
    xiz_InvalidCount_ArithmeticError := hxiz_InvalidCount_ArithmeticError
    xiz_InvalidText_ArithmeticError := hxiz_InvalidText_ArithmeticError
    xiz_NotADesk_ArithmeticError := hxiz_NotADesk_ArithmeticError
    xiz_NotAMachine_ArithmeticError := hxiz_NotAMachine_ArithmeticError
    xiz_InvalidLine_ArithmeticError := hxiz_InvalidLine_ArithmeticError
    xiz_InvalidWord_ArithmeticError := hxiz_InvalidWord_ArithmeticError
    xiz_InvalidStand_ArithmeticError := hxiz_InvalidStand_ArithmeticError
    xiz_InvalidLetter_ArithmeticError := hxiz_InvalidLetter_ArithmeticError
    xiz_InvalidTexts_ArithmeticError := hxiz_InvalidTexts_ArithmeticError
    xiz_InvalidBook_ArithmeticError := hxiz_InvalidBook_ArithmeticError
    xiz_InvalidEnds_ArithmeticError := hxiz_InvalidEnds_ArithmeticError
    xiz_InvalidArrows_ArithmeticError := hxiz_InvalidArrows_ArithmeticError
    xiz_InvalidDeeds_ArithmeticError := hxiz_InvalidDeeds_ArithmeticError
    xiz_Busy_ArithmeticError := hxiz_Busy_ArithmeticError
    xiz_NothingToUndo_ArithmeticError := hxiz_NothingToUndo_ArithmeticError
    xiz_TooMany_ArithmeticError := hxiz_TooMany_ArithmeticError
    xiz_InvalidCount_LookupError := hxiz_InvalidCount_LookupError
    xiz_InvalidText_LookupError := hxiz_InvalidText_LookupError
    xiz_NotADesk_LookupError := hxiz_NotADesk_LookupError
    xiz_NotAMachine_LookupError := hxiz_NotAMachine_LookupError
    xiz_InvalidLine_LookupError := hxiz_InvalidLine_LookupError
    xiz_InvalidWord_LookupError := hxiz_InvalidWord_LookupError
    xiz_InvalidStand_LookupError := hxiz_InvalidStand_LookupError
    xiz_InvalidLetter_LookupError := hxiz_InvalidLetter_LookupError
    xiz_InvalidTexts_LookupError := hxiz_InvalidTexts_LookupError
    xiz_InvalidBook_LookupError := hxiz_InvalidBook_LookupError
    xiz_InvalidEnds_LookupError := hxiz_InvalidEnds_LookupError
    xiz_InvalidArrows_LookupError := hxiz_InvalidArrows_LookupError
    xiz_InvalidDeeds_LookupError := hxiz_InvalidDeeds_LookupError
    xiz_Busy_LookupError := hxiz_Busy_LookupError
    xiz_NothingToUndo_LookupError := hxiz_NothingToUndo_LookupError
    xiz_TooMany_LookupError := hxiz_TooMany_LookupError
    xiz_InvalidCount_ValueError := hxiz_InvalidCount_ValueError
    xiz_InvalidText_ValueError := hxiz_InvalidText_ValueError
    xiz_NotADesk_ValueError := hxiz_NotADesk_ValueError
    xiz_NotAMachine_ValueError := hxiz_NotAMachine_ValueError
    xiz_InvalidLine_ValueError := hxiz_InvalidLine_ValueError
    xiz_InvalidWord_ValueError := hxiz_InvalidWord_ValueError
    xiz_InvalidStand_ValueError := hxiz_InvalidStand_ValueError
    xiz_InvalidLetter_ValueError := hxiz_InvalidLetter_ValueError
    xiz_InvalidTexts_ValueError := hxiz_InvalidTexts_ValueError
    xiz_InvalidBook_ValueError := hxiz_InvalidBook_ValueError
    xiz_InvalidEnds_ValueError := hxiz_InvalidEnds_ValueError
    xiz_InvalidArrows_ValueError := hxiz_InvalidArrows_ValueError
    xiz_InvalidDeeds_ValueError := hxiz_InvalidDeeds_ValueError
    xiz_Busy_ValueError := hxiz_Busy_ValueError
    xiz_NothingToUndo_ValueError := hxiz_NothingToUndo_ValueError
    xiz_TooMany_ValueError := hxiz_TooMany_ValueError
    xiz_InvalidCount_InvalidText := hxiz_InvalidCount_InvalidText
    xiz_NotADesk_InvalidText := hxiz_NotADesk_InvalidText
    xiz_NotAMachine_InvalidText := hxiz_NotAMachine_InvalidText
    xiz_InvalidLine_InvalidText := hxiz_InvalidLine_InvalidText
    xiz_InvalidWord_InvalidText := hxiz_InvalidWord_InvalidText
    xiz_InvalidStand_InvalidText := hxiz_InvalidStand_InvalidText
    xiz_InvalidLetter_InvalidText := hxiz_InvalidLetter_InvalidText
    xiz_InvalidTexts_InvalidText := hxiz_InvalidTexts_InvalidText
    xiz_InvalidBook_InvalidText := hxiz_InvalidBook_InvalidText
    xiz_InvalidEnds_InvalidText := hxiz_InvalidEnds_InvalidText
    xiz_InvalidArrows_InvalidText := hxiz_InvalidArrows_InvalidText
    xiz_InvalidDeeds_InvalidText := hxiz_InvalidDeeds_InvalidText
    xiz_Busy_InvalidText := hxiz_Busy_InvalidText
    xiz_NothingToUndo_InvalidText := hxiz_NothingToUndo_InvalidText
    xiz_TooMany_InvalidText := hxiz_TooMany_InvalidText
    xiz_InvalidCount_NotADesk := hxiz_InvalidCount_NotADesk
    xiz_InvalidText_NotADesk := hxiz_InvalidText_NotADesk
    xiz_NotAMachine_NotADesk := hxiz_NotAMachine_NotADesk
    xiz_InvalidLine_NotADesk := hxiz_InvalidLine_NotADesk
    xiz_InvalidWord_NotADesk := hxiz_InvalidWord_NotADesk
    xiz_InvalidStand_NotADesk := hxiz_InvalidStand_NotADesk
    xiz_InvalidLetter_NotADesk := hxiz_InvalidLetter_NotADesk
    xiz_InvalidTexts_NotADesk := hxiz_InvalidTexts_NotADesk
    xiz_InvalidBook_NotADesk := hxiz_InvalidBook_NotADesk
    xiz_InvalidEnds_NotADesk := hxiz_InvalidEnds_NotADesk
    xiz_InvalidArrows_NotADesk := hxiz_InvalidArrows_NotADesk
    xiz_InvalidDeeds_NotADesk := hxiz_InvalidDeeds_NotADesk
    xiz_Busy_NotADesk := hxiz_Busy_NotADesk
    xiz_NothingToUndo_NotADesk := hxiz_NothingToUndo_NotADesk
    xiz_TooMany_NotADesk := hxiz_TooMany_NotADesk
    xiz_InvalidCount_NotAMachine := hxiz_InvalidCount_NotAMachine
    xiz_InvalidText_NotAMachine := hxiz_InvalidText_NotAMachine
    xiz_NotADesk_NotAMachine := hxiz_NotADesk_NotAMachine
    xiz_InvalidLine_NotAMachine := hxiz_InvalidLine_NotAMachine
    xiz_InvalidWord_NotAMachine := hxiz_InvalidWord_NotAMachine
    xiz_InvalidStand_NotAMachine := hxiz_InvalidStand_NotAMachine
    xiz_InvalidLetter_NotAMachine := hxiz_InvalidLetter_NotAMachine
    xiz_InvalidTexts_NotAMachine := hxiz_InvalidTexts_NotAMachine
    xiz_InvalidBook_NotAMachine := hxiz_InvalidBook_NotAMachine
    xiz_InvalidEnds_NotAMachine := hxiz_InvalidEnds_NotAMachine
    xiz_InvalidArrows_NotAMachine := hxiz_InvalidArrows_NotAMachine
    xiz_InvalidDeeds_NotAMachine := hxiz_InvalidDeeds_NotAMachine
    xiz_Busy_NotAMachine := hxiz_Busy_NotAMachine
    xiz_NothingToUndo_NotAMachine := hxiz_NothingToUndo_NotAMachine
    xiz_TooMany_NotAMachine := hxiz_TooMany_NotAMachine
    xiz_InvalidCount_InvalidLetter := hxiz_InvalidCount_InvalidLetter
    xiz_InvalidText_InvalidLetter := hxiz_InvalidText_InvalidLetter
    xiz_NotADesk_InvalidLetter := hxiz_NotADesk_InvalidLetter
    xiz_NotAMachine_InvalidLetter := hxiz_NotAMachine_InvalidLetter
    xiz_InvalidLine_InvalidLetter := hxiz_InvalidLine_InvalidLetter
    xiz_InvalidWord_InvalidLetter := hxiz_InvalidWord_InvalidLetter
    xiz_InvalidStand_InvalidLetter := hxiz_InvalidStand_InvalidLetter
    xiz_InvalidTexts_InvalidLetter := hxiz_InvalidTexts_InvalidLetter
    xiz_InvalidBook_InvalidLetter := hxiz_InvalidBook_InvalidLetter
    xiz_InvalidEnds_InvalidLetter := hxiz_InvalidEnds_InvalidLetter
    xiz_InvalidArrows_InvalidLetter := hxiz_InvalidArrows_InvalidLetter
    xiz_InvalidDeeds_InvalidLetter := hxiz_InvalidDeeds_InvalidLetter
    xiz_Busy_InvalidLetter := hxiz_Busy_InvalidLetter
    xiz_NothingToUndo_InvalidLetter := hxiz_NothingToUndo_InvalidLetter
    xiz_TooMany_InvalidLetter := hxiz_TooMany_InvalidLetter
    xiz_InvalidText_InvalidCount := hxiz_InvalidText_InvalidCount
    xiz_NotADesk_InvalidCount := hxiz_NotADesk_InvalidCount
    xiz_NotAMachine_InvalidCount := hxiz_NotAMachine_InvalidCount
    xiz_InvalidLine_InvalidCount := hxiz_InvalidLine_InvalidCount
    xiz_InvalidWord_InvalidCount := hxiz_InvalidWord_InvalidCount
    xiz_InvalidStand_InvalidCount := hxiz_InvalidStand_InvalidCount
    xiz_InvalidLetter_InvalidCount := hxiz_InvalidLetter_InvalidCount
    xiz_InvalidTexts_InvalidCount := hxiz_InvalidTexts_InvalidCount
    xiz_InvalidBook_InvalidCount := hxiz_InvalidBook_InvalidCount
    xiz_InvalidEnds_InvalidCount := hxiz_InvalidEnds_InvalidCount
    xiz_InvalidArrows_InvalidCount := hxiz_InvalidArrows_InvalidCount
    xiz_InvalidDeeds_InvalidCount := hxiz_InvalidDeeds_InvalidCount
    xiz_Busy_InvalidCount := hxiz_Busy_InvalidCount
    xiz_NothingToUndo_InvalidCount := hxiz_NothingToUndo_InvalidCount
    xiz_TooMany_InvalidCount := hxiz_TooMany_InvalidCount
    xiz_InvalidCount_InvalidWord := hxiz_InvalidCount_InvalidWord
    xiz_InvalidText_InvalidWord := hxiz_InvalidText_InvalidWord
    xiz_NotADesk_InvalidWord := hxiz_NotADesk_InvalidWord
    xiz_NotAMachine_InvalidWord := hxiz_NotAMachine_InvalidWord
    xiz_InvalidLine_InvalidWord := hxiz_InvalidLine_InvalidWord
    xiz_InvalidStand_InvalidWord := hxiz_InvalidStand_InvalidWord
    xiz_InvalidLetter_InvalidWord := hxiz_InvalidLetter_InvalidWord
    xiz_InvalidTexts_InvalidWord := hxiz_InvalidTexts_InvalidWord
    xiz_InvalidBook_InvalidWord := hxiz_InvalidBook_InvalidWord
    xiz_InvalidEnds_InvalidWord := hxiz_InvalidEnds_InvalidWord
    xiz_InvalidArrows_InvalidWord := hxiz_InvalidArrows_InvalidWord
    xiz_InvalidDeeds_InvalidWord := hxiz_InvalidDeeds_InvalidWord
    xiz_Busy_InvalidWord := hxiz_Busy_InvalidWord
    xiz_NothingToUndo_InvalidWord := hxiz_NothingToUndo_InvalidWord
    xiz_TooMany_InvalidWord := hxiz_TooMany_InvalidWord
    xiz_InvalidCount_InvalidStand := hxiz_InvalidCount_InvalidStand
    xiz_InvalidText_InvalidStand := hxiz_InvalidText_InvalidStand
    xiz_NotADesk_InvalidStand := hxiz_NotADesk_InvalidStand
    xiz_NotAMachine_InvalidStand := hxiz_NotAMachine_InvalidStand
    xiz_InvalidLine_InvalidStand := hxiz_InvalidLine_InvalidStand
    xiz_InvalidWord_InvalidStand := hxiz_InvalidWord_InvalidStand
    xiz_InvalidLetter_InvalidStand := hxiz_InvalidLetter_InvalidStand
    xiz_InvalidTexts_InvalidStand := hxiz_InvalidTexts_InvalidStand
    xiz_InvalidBook_InvalidStand := hxiz_InvalidBook_InvalidStand
    xiz_InvalidEnds_InvalidStand := hxiz_InvalidEnds_InvalidStand
    xiz_InvalidArrows_InvalidStand := hxiz_InvalidArrows_InvalidStand
    xiz_InvalidDeeds_InvalidStand := hxiz_InvalidDeeds_InvalidStand
    xiz_Busy_InvalidStand := hxiz_Busy_InvalidStand
    xiz_NothingToUndo_InvalidStand := hxiz_NothingToUndo_InvalidStand
    xiz_TooMany_InvalidStand := hxiz_TooMany_InvalidStand
    xiz_InvalidCount_InvalidArrows := hxiz_InvalidCount_InvalidArrows
    xiz_InvalidText_InvalidArrows := hxiz_InvalidText_InvalidArrows
    xiz_NotADesk_InvalidArrows := hxiz_NotADesk_InvalidArrows
    xiz_NotAMachine_InvalidArrows := hxiz_NotAMachine_InvalidArrows
    xiz_InvalidLine_InvalidArrows := hxiz_InvalidLine_InvalidArrows
    xiz_InvalidWord_InvalidArrows := hxiz_InvalidWord_InvalidArrows
    xiz_InvalidStand_InvalidArrows := hxiz_InvalidStand_InvalidArrows
    xiz_InvalidLetter_InvalidArrows := hxiz_InvalidLetter_InvalidArrows
    xiz_InvalidTexts_InvalidArrows := hxiz_InvalidTexts_InvalidArrows
    xiz_InvalidBook_InvalidArrows := hxiz_InvalidBook_InvalidArrows
    xiz_InvalidEnds_InvalidArrows := hxiz_InvalidEnds_InvalidArrows
    xiz_InvalidDeeds_InvalidArrows := hxiz_InvalidDeeds_InvalidArrows
    xiz_Busy_InvalidArrows := hxiz_Busy_InvalidArrows
    xiz_NothingToUndo_InvalidArrows := hxiz_NothingToUndo_InvalidArrows
    xiz_TooMany_InvalidArrows := hxiz_TooMany_InvalidArrows
    xiz_InvalidCount_InvalidLine := hxiz_InvalidCount_InvalidLine
    xiz_InvalidText_InvalidLine := hxiz_InvalidText_InvalidLine
    xiz_NotADesk_InvalidLine := hxiz_NotADesk_InvalidLine
    xiz_NotAMachine_InvalidLine := hxiz_NotAMachine_InvalidLine
    xiz_InvalidWord_InvalidLine := hxiz_InvalidWord_InvalidLine
    xiz_InvalidStand_InvalidLine := hxiz_InvalidStand_InvalidLine
    xiz_InvalidLetter_InvalidLine := hxiz_InvalidLetter_InvalidLine
    xiz_InvalidTexts_InvalidLine := hxiz_InvalidTexts_InvalidLine
    xiz_InvalidBook_InvalidLine := hxiz_InvalidBook_InvalidLine
    xiz_InvalidEnds_InvalidLine := hxiz_InvalidEnds_InvalidLine
    xiz_InvalidArrows_InvalidLine := hxiz_InvalidArrows_InvalidLine
    xiz_InvalidDeeds_InvalidLine := hxiz_InvalidDeeds_InvalidLine
    xiz_Busy_InvalidLine := hxiz_Busy_InvalidLine
    xiz_NothingToUndo_InvalidLine := hxiz_NothingToUndo_InvalidLine
    xiz_TooMany_InvalidLine := hxiz_TooMany_InvalidLine
    xiz_InvalidCount_InvalidBook := hxiz_InvalidCount_InvalidBook
    xiz_InvalidText_InvalidBook := hxiz_InvalidText_InvalidBook
    xiz_NotADesk_InvalidBook := hxiz_NotADesk_InvalidBook
    xiz_NotAMachine_InvalidBook := hxiz_NotAMachine_InvalidBook
    xiz_InvalidLine_InvalidBook := hxiz_InvalidLine_InvalidBook
    xiz_InvalidWord_InvalidBook := hxiz_InvalidWord_InvalidBook
    xiz_InvalidStand_InvalidBook := hxiz_InvalidStand_InvalidBook
    xiz_InvalidLetter_InvalidBook := hxiz_InvalidLetter_InvalidBook
    xiz_InvalidTexts_InvalidBook := hxiz_InvalidTexts_InvalidBook
    xiz_InvalidEnds_InvalidBook := hxiz_InvalidEnds_InvalidBook
    xiz_InvalidArrows_InvalidBook := hxiz_InvalidArrows_InvalidBook
    xiz_InvalidDeeds_InvalidBook := hxiz_InvalidDeeds_InvalidBook
    xiz_Busy_InvalidBook := hxiz_Busy_InvalidBook
    xiz_NothingToUndo_InvalidBook := hxiz_NothingToUndo_InvalidBook
    xiz_TooMany_InvalidBook := hxiz_TooMany_InvalidBook
    xiz_InvalidCount_InvalidEnds := hxiz_InvalidCount_InvalidEnds
    xiz_InvalidText_InvalidEnds := hxiz_InvalidText_InvalidEnds
    xiz_NotADesk_InvalidEnds := hxiz_NotADesk_InvalidEnds
    xiz_NotAMachine_InvalidEnds := hxiz_NotAMachine_InvalidEnds
    xiz_InvalidLine_InvalidEnds := hxiz_InvalidLine_InvalidEnds
    xiz_InvalidWord_InvalidEnds := hxiz_InvalidWord_InvalidEnds
    xiz_InvalidStand_InvalidEnds := hxiz_InvalidStand_InvalidEnds
    xiz_InvalidLetter_InvalidEnds := hxiz_InvalidLetter_InvalidEnds
    xiz_InvalidTexts_InvalidEnds := hxiz_InvalidTexts_InvalidEnds
    xiz_InvalidBook_InvalidEnds := hxiz_InvalidBook_InvalidEnds
    xiz_InvalidArrows_InvalidEnds := hxiz_InvalidArrows_InvalidEnds
    xiz_InvalidDeeds_InvalidEnds := hxiz_InvalidDeeds_InvalidEnds
    xiz_Busy_InvalidEnds := hxiz_Busy_InvalidEnds
    xiz_NothingToUndo_InvalidEnds := hxiz_NothingToUndo_InvalidEnds
    xiz_TooMany_InvalidEnds := hxiz_TooMany_InvalidEnds
    xiz_InvalidCount_InvalidDeeds := hxiz_InvalidCount_InvalidDeeds
    xiz_InvalidText_InvalidDeeds := hxiz_InvalidText_InvalidDeeds
    xiz_NotADesk_InvalidDeeds := hxiz_NotADesk_InvalidDeeds
    xiz_NotAMachine_InvalidDeeds := hxiz_NotAMachine_InvalidDeeds
    xiz_InvalidLine_InvalidDeeds := hxiz_InvalidLine_InvalidDeeds
    xiz_InvalidWord_InvalidDeeds := hxiz_InvalidWord_InvalidDeeds
    xiz_InvalidStand_InvalidDeeds := hxiz_InvalidStand_InvalidDeeds
    xiz_InvalidLetter_InvalidDeeds := hxiz_InvalidLetter_InvalidDeeds
    xiz_InvalidTexts_InvalidDeeds := hxiz_InvalidTexts_InvalidDeeds
    xiz_InvalidBook_InvalidDeeds := hxiz_InvalidBook_InvalidDeeds
    xiz_InvalidEnds_InvalidDeeds := hxiz_InvalidEnds_InvalidDeeds
    xiz_InvalidArrows_InvalidDeeds := hxiz_InvalidArrows_InvalidDeeds
    xiz_Busy_InvalidDeeds := hxiz_Busy_InvalidDeeds
    xiz_NothingToUndo_InvalidDeeds := hxiz_NothingToUndo_InvalidDeeds
    xiz_TooMany_InvalidDeeds := hxiz_TooMany_InvalidDeeds
    xiz_InvalidCount_InvalidTexts := hxiz_InvalidCount_InvalidTexts
    xiz_InvalidText_InvalidTexts := hxiz_InvalidText_InvalidTexts
    xiz_NotADesk_InvalidTexts := hxiz_NotADesk_InvalidTexts
    xiz_NotAMachine_InvalidTexts := hxiz_NotAMachine_InvalidTexts
    xiz_InvalidLine_InvalidTexts := hxiz_InvalidLine_InvalidTexts
    xiz_InvalidWord_InvalidTexts := hxiz_InvalidWord_InvalidTexts
    xiz_InvalidStand_InvalidTexts := hxiz_InvalidStand_InvalidTexts
    xiz_InvalidLetter_InvalidTexts := hxiz_InvalidLetter_InvalidTexts
    xiz_InvalidBook_InvalidTexts := hxiz_InvalidBook_InvalidTexts
    xiz_InvalidEnds_InvalidTexts := hxiz_InvalidEnds_InvalidTexts
    xiz_InvalidArrows_InvalidTexts := hxiz_InvalidArrows_InvalidTexts
    xiz_InvalidDeeds_InvalidTexts := hxiz_InvalidDeeds_InvalidTexts
    xiz_Busy_InvalidTexts := hxiz_Busy_InvalidTexts
    xiz_NothingToUndo_InvalidTexts := hxiz_NothingToUndo_InvalidTexts
    xiz_TooMany_InvalidTexts := hxiz_TooMany_InvalidTexts
    xiz_InvalidCount_TooMany := hxiz_InvalidCount_TooMany
    xiz_InvalidText_TooMany := hxiz_InvalidText_TooMany
    xiz_NotADesk_TooMany := hxiz_NotADesk_TooMany
    xiz_NotAMachine_TooMany := hxiz_NotAMachine_TooMany
    xiz_InvalidLine_TooMany := hxiz_InvalidLine_TooMany
    xiz_InvalidWord_TooMany := hxiz_InvalidWord_TooMany
    xiz_InvalidStand_TooMany := hxiz_InvalidStand_TooMany
    xiz_InvalidLetter_TooMany := hxiz_InvalidLetter_TooMany
    xiz_InvalidTexts_TooMany := hxiz_InvalidTexts_TooMany
    xiz_InvalidBook_TooMany := hxiz_InvalidBook_TooMany
    xiz_InvalidEnds_TooMany := hxiz_InvalidEnds_TooMany
    xiz_InvalidArrows_TooMany := hxiz_InvalidArrows_TooMany
    xiz_InvalidDeeds_TooMany := hxiz_InvalidDeeds_TooMany
    xiz_Busy_TooMany := hxiz_Busy_TooMany
    xiz_NothingToUndo_TooMany := hxiz_NothingToUndo_TooMany
    xiz_InvalidCount_Busy := hxiz_InvalidCount_Busy
    xiz_InvalidText_Busy := hxiz_InvalidText_Busy
    xiz_NotADesk_Busy := hxiz_NotADesk_Busy
    xiz_NotAMachine_Busy := hxiz_NotAMachine_Busy
    xiz_InvalidLine_Busy := hxiz_InvalidLine_Busy
    xiz_InvalidWord_Busy := hxiz_InvalidWord_Busy
    xiz_InvalidStand_Busy := hxiz_InvalidStand_Busy
    xiz_InvalidLetter_Busy := hxiz_InvalidLetter_Busy
    xiz_InvalidTexts_Busy := hxiz_InvalidTexts_Busy
    xiz_InvalidBook_Busy := hxiz_InvalidBook_Busy
    xiz_InvalidEnds_Busy := hxiz_InvalidEnds_Busy
    xiz_InvalidArrows_Busy := hxiz_InvalidArrows_Busy
    xiz_InvalidDeeds_Busy := hxiz_InvalidDeeds_Busy
    xiz_NothingToUndo_Busy := hxiz_NothingToUndo_Busy
    xiz_TooMany_Busy := hxiz_TooMany_Busy
    xiz_InvalidCount_NothingToUndo := hxiz_InvalidCount_NothingToUndo
    xiz_InvalidText_NothingToUndo := hxiz_InvalidText_NothingToUndo
    xiz_NotADesk_NothingToUndo := hxiz_NotADesk_NothingToUndo
    xiz_NotAMachine_NothingToUndo := hxiz_NotAMachine_NothingToUndo
    xiz_InvalidLine_NothingToUndo := hxiz_InvalidLine_NothingToUndo
    xiz_InvalidWord_NothingToUndo := hxiz_InvalidWord_NothingToUndo
    xiz_InvalidStand_NothingToUndo := hxiz_InvalidStand_NothingToUndo
    xiz_InvalidLetter_NothingToUndo := hxiz_InvalidLetter_NothingToUndo
    xiz_InvalidTexts_NothingToUndo := hxiz_InvalidTexts_NothingToUndo
    xiz_InvalidBook_NothingToUndo := hxiz_InvalidBook_NothingToUndo
    xiz_InvalidEnds_NothingToUndo := hxiz_InvalidEnds_NothingToUndo
    xiz_InvalidArrows_NothingToUndo := hxiz_InvalidArrows_NothingToUndo
    xiz_InvalidDeeds_NothingToUndo := hxiz_InvalidDeeds_NothingToUndo
    xiz_Busy_NothingToUndo := hxiz_Busy_NothingToUndo
    xiz_TooMany_NothingToUndo := hxiz_TooMany_NothingToUndo
    n_InvalidCount := rfl
    n_InvalidText := rfl
    n_NotADesk := rfl
    n_NotAMachine := rfl
    n_InvalidLine := rfl
    n_InvalidWord := rfl
    n_InvalidStand := rfl
    n_InvalidLetter := rfl
    n_InvalidTexts := rfl
    n_InvalidBook := rfl
    n_InvalidEnds := rfl
    n_InvalidArrows := rfl
    n_InvalidDeeds := rfl
    n_Busy := rfl
    n_NothingToUndo := rfl
    n_TooMany := rfl
    hW := rfl
    gvn := gvn_of (l := [])
    nn_Machine := rfl
    nn_Desk := rfl
    nn_Console := rfl
    nn_Kept := rfl
    nn_Trial := rfl
    nn_Run := rfl
    nn_Paths := rfl
    nn_Readings := rfl
    nn_InputError := rfl
    nn_StateError := rfl
    nn_SizeError := rfl
    a__law_pinch := f0
    fd__law_pinch := _
    F__law_pinch := fun_mk (st := s__law_pinch) l0 e0 k0
    g__law_pinch := PySem.W.mg_of KX G a0
    a__law_one := f1
    fd__law_one := _
    F__law_one := fun_mk (st := s__law_one) l1 e1 k1
    g__law_one := PySem.W.mg_of KX G a1
    a__law_value_errors := f2
    fd__law_value_errors := _
    F__law_value_errors := fun_mk (st := s__law_value_errors) l2 e2 k2
    g__law_value_errors := PySem.W.mg_of KX G a2
    a__law_index_errors := f3
    fd__law_index_errors := _
    F__law_index_errors := fun_mk (st := s__law_index_errors) l3 e3 k3
    g__law_index_errors := PySem.W.mg_of KX G a3
    a__law_bases := f4
    fd__law_bases := _
    F__law_bases := fun_mk (st := s__law_bases) l4 e4 k4
    g__law_bases := PySem.W.mg_of KX G a4
    a__law_instances := f5
    fd__law_instances := _
    F__law_instances := fun_mk (st := s__law_instances) l5 e5 k5
    g__law_instances := PySem.W.mg_of KX G a5
    a__law_right := f6
    fd__law_right := _
    F__law_right := fun_mk (st := s__law_right) l6 e6 k6
    g__law_right := PySem.W.mg_of KX G a6
    a__law_sack := f7
    fd__law_sack := _
    F__law_sack := fun_mk (st := s__law_sack) l7 e7 k7
    g__law_sack := PySem.W.mg_of KX G a7
    a_law := fa
    fd_law := _
    F_law := fun_mk (st := s_law) l8 e8 k8
    g_law := PySem.W.mg_of KX G a8
    t_MOST_DEEDS := t_MOST_DEEDS
    g_MOST_DEEDS := PySem.W.mg_of KX G g_MOST_DEEDS
    t_MOST_WORD := t_MOST_WORD
    g_MOST_WORD := PySem.W.mg_of KX G g_MOST_WORD
    t_MOST_LETTERS := t_MOST_LETTERS
    g_MOST_LETTERS := PySem.W.mg_of KX G g_MOST_LETTERS
    t_MOST_STANDS := t_MOST_STANDS
    g_MOST_STANDS := PySem.W.mg_of KX G g_MOST_STANDS
    c_InvalidCount := C14
    g_InvalidCount := PySem.W.mg_of KX G aC14
    c_InvalidText := C13
    g_InvalidText := PySem.W.mg_of KX G aC13
    c_NotADesk := C12
    g_NotADesk := PySem.W.mg_of KX G aC12
    c_NotAMachine := C11
    g_NotAMachine := PySem.W.mg_of KX G aC11
    c_InvalidLine := C18
    g_InvalidLine := PySem.W.mg_of KX G aC18
    c_InvalidWord := C17
    g_InvalidWord := PySem.W.mg_of KX G aC17
    c_InvalidStand := C16
    g_InvalidStand := PySem.W.mg_of KX G aC16
    c_InvalidLetter := C15
    g_InvalidLetter := PySem.W.mg_of KX G aC15
    c_InvalidTexts := C22
    g_InvalidTexts := PySem.W.mg_of KX G aC22
    c_InvalidBook := C21
    g_InvalidBook := PySem.W.mg_of KX G aC21
    c_InvalidEnds := C20
    g_InvalidEnds := PySem.W.mg_of KX G aC20
    c_InvalidArrows := C19
    g_InvalidArrows := PySem.W.mg_of KX G aC19
    c_InvalidDeeds := C23
    g_InvalidDeeds := PySem.W.mg_of KX G aC23
    c_Busy := C25
    g_Busy := PySem.W.mg_of KX G aC25
    c_NothingToUndo := C24
    g_NothingToUndo := PySem.W.mg_of KX G aC24
    c_TooMany := C26
    g_TooMany := PySem.W.mg_of KX G aC26
    c_SizeError := C10
    g_SizeError := PySem.W.mg_of KX G aC10
    c_StateError := C9
    g_StateError := PySem.W.mg_of KX G aC9
    c_InputError := C8
    g_InputError := PySem.W.mg_of KX G aC8
    z_ArithmeticError := PySem.W.mg_none_of KX G z_ArithmeticError
    z_LookupError := PySem.W.mg_none_of KX G z_LookupError
    z_ValueError := PySem.W.mg_none_of KX G z_ValueError
    z_abs := PySem.W.mg_none_of KX G z_abs
    z_all := PySem.W.mg_none_of KX G z_all
    z_divmod := PySem.W.mg_none_of KX G z_divmod
    z_int := PySem.W.mg_none_of KX G z_int
    z_isinstance := PySem.W.mg_none_of KX G z_isinstance
    z_len := PySem.W.mg_none_of KX G z_len
    z_max := PySem.W.mg_none_of KX G z_max
    z_min := PySem.W.mg_none_of KX G z_min
    z_range := PySem.W.mg_none_of KX G z_range
    z_repr := PySem.W.mg_none_of KX G z_repr
  }
  exact ⟨T.fd_law, fun s v => .of_eq rfl, fun base _ _ => ⟨_, rfl, rfl, w_law T⟩⟩
end K07

end
section
set_option maxRecDepth 100000
set_option maxHeartbeats 4000000
namespace MC
open PySem L2

theorem nd {α : Sort _} {a b : α} (e : a = b) : a = b := e
/-- so that simp leaves Q alone -/
inductive Dm {α : Type} (Q : α → PH → Prop) : Type where
  | mk
/-- it ends well, and with Q -/
def Ws {α : Type} (r : R α) (Q : α → PH → Prop) (_ : Dm Q := .mk) : Prop := ∃ a h, r = .ok a h ∧ Q a h
/-- one of two, both left alone by simp -/
@[reducible] def RS {β : Type} (_ _ : R β) : Type := R β
def sel {β : Type} (c : Bool) (a b : R β) : RS a b := bif c then a else b
@[simp] theorem sel_true {β : Type} {a b : R β} : sel true a b = a := nd rfl
@[simp] theorem sel_false {β : Type} {a b : R β} : sel false a b = b := nd rfl
theorem Ws.bind {α β : Type} {r : R α} {f : α → PH → R β} {P : α → PH → Prop} {Q : β → PH → Prop} (w : Ws r P) (i : ∀ a h, P a h → Ws (f a h) Q) : Ws (r.bind f) Q := by
  obtain ⟨a, h, e, p⟩ := w
  rw [e]
  exact i a h p
theorem Ws.mono {α : Type} {r : R α} {P Q : α → PH → Prop} (w : Ws r P) (i : ∀ a h, P a h → Q a h) : Ws r Q := by
  obtain ⟨a, h, e, p⟩ := w
  exact ⟨a, h, e, i a h p⟩
@[simp] theorem Ws_ok {α : Type} {a : α} {h : PH} {Q : α → PH → Prop} : Ws (.ok a h) Q ↔ Q a h :=
  ⟨fun ⟨_, _, e, q⟩ => by cases e; exact q, fun q => ⟨a, h, rfl, q⟩⟩
@[simp] theorem Ws_stuck {α : Type} {Q : α → PH → Prop} : Ws (.stuck : R α) Q ↔ False := ⟨fun ⟨_, _, e, _⟩ => (by cases e), False.elim⟩
theorem Ws.eq {α : Type} {r : R α} {a : α} {h : PH} {Q : α → PH → Prop} (e : r = .ok a h) (q : Q a h) : Ws r Q := ⟨a, h, e, q⟩

section
variable {α β : Type} {env : En} {h : PH} {x : PV} {xs : List PV}
@[simp] theorem bind_ok {a : α} {f : α → PH → R β} : (R.ok a h).bind f = f a h := nd rfl
@[simp] theorem bind_st {f : α → PH → R β} : (R.stuck : R α).bind f = .stuck := nd rfl
@[simp] theorem noX_ok {a : α} : noX (R.ok a h) = .ok a h := nd rfl
@[simp] theorem e_nil : mNil env h = .ok (.nx env) h := nd rfl
@[simp] theorem e_seq {a b : MS} : mSeq a b env h = (a env h).bind fun f h1 => match f with
  | .nx e => b e h1
  | .rt v => .ok (.rt v) h1
  | .bk e => .ok (.bk e) h1
  | .ct e => .ok (.ct e) h1 := nd rfl
@[simp] theorem e_set {i : Nat} {m : ME} : mSet i m env h = (m env h).bind fun x h1 => .ok (.nx (env.set i (some x))) h1 := nd rfl
@[simp] theorem e_drop {m : ME} : mDrop m env h = (m env h).bind fun _ h1 => .ok (.nx env) h1 := nd rfl
@[simp] theorem e_ret {m : ME} : mRet m env h = (m env h).bind fun x h1 => .ok (.rt x) h1 := nd rfl
@[simp] theorem e_retN : mRetN env h = .ok (.rt .non) h := nd rfl
@[simp] theorem e_ifS {t : MT} {a b : MS} : mIfS t a b env h = (t env h).bind fun c h1 => sel c (a env h1) (b env h1) := nd rfl
@[simp] theorem e_break : mBreak env h = .ok (.bk env) h := nd rfl
@[simp] theorem e_cont : mCont env h = .ok (.ct env) h := nd rfl
@[simp] theorem e_asg {m : ME} {g : MG} : mAsg m g env h = (m env h).bind fun x h1 => (g x env h1).bind fun e h2 => .ok (.nx e) h2 := nd rfl
@[simp] theorem e_gname {i : Nat} : gName' i x env h = .ok (env.set i (some x)) h := nd rfl
@[simp] theorem e_gsnil : gsNil [] env h = .ok env h := nd rfl
@[simp] theorem e_gscons {g : MG} {gs : MGs} : gsCons g gs (x :: xs) env h = (g x env h).bind fun e h1 => gs xs e h1 := nd rfl
@[simp] theorem e_gtup {n : Nat} {gs : MGs} : gTup' n gs (.tup xs) env h = sel (xs.length == n) (gs xs env h) .stuck := nd rfl
@[simp] theorem e_par {i j : Nat} {ma mb : ME} : mPar i j ma mb env h = (ma env h).bind fun x h1 => (mb env h1).bind fun y h2 => .ok (.nx ((env.set i (some x)).set j (some y))) h2 := nd rfl
@[simp] theorem e_par3 {i j l : Nat} {ma mb mc : ME} : mPar3 i j l ma mb mc env h = (ma env h).bind fun x h1 => (mb env h1).bind fun y h2 => (mc env h2).bind fun z h3 => .ok (.nx (((env.set i (some x)).set j (some y)).set l (some z))) h3 := nd rfl
@[simp] theorem e_fun {n : Nat} {b : MS} : mFun n b xs h = (b (xs.map some ++ List.replicate (n - xs.length) none) h).bind fun f h1 => match f with
  | .nx _ => .ok .non h1
  | .rt v => .ok v h1
  | _ => .stuck := nd rfl
@[simp] theorem e_var {i : Nat} : mVar i env h = match env[i]? with
  | some (some x) => .ok x h
  | _ => .stuck := nd rfl
@[simp] theorem e_c : mC x env h = .ok x h := nd rfl
@[simp] theorem e_manil : maNil env h = .ok [] h := nd rfl
@[simp] theorem e_macons {m : ME} {ms : MA} : maCons m ms env h = (m env h).bind fun x h1 => (ms env h1).bind fun xs h2 => .ok (x :: xs) h2 := nd rfl
@[simp] theorem e_tup {ms : MA} : mTup ms env h = (ms env h).bind fun xs h1 => if xs.length ≤ LIM then .ok (.tup xs) h1 else .stuck := nd rfl
@[simp] theorem e_lst {ms : MA} : mLst ms env h = (ms env h).bind fun xs h1 => if xs.length ≤ LIM then .ok (.ref h1.length) (h1 ++ [.lst xs]) else .stuck := nd rfl
@[simp] theorem e_op {op : O2} {ma mb : ME} : mOp op ma mb env h = (ma env h).bind fun x h1 => (mb env h1).bind fun y h2 => op h2 x y := nd rfl
@[simp] theorem e_un {op : O1} {ma : ME} : mUn op ma env h = (ma env h).bind fun x h1 => op h1 x := nd rfl
@[simp] theorem e_tb {m : ME} : mTB m env h = asB (m env h) := nd rfl
@[simp] theorem e_asb {r : R PV} : asB r = r.bind fun x h => match x with
  | .bl b => .ok b h
  | _ => .stuck := nd rfl
@[simp] theorem e_tru {m : ME} : mTru m env h = (m env h).bind fun x h1 => match truth h1 x with
  | some b => .ok b h1
  | none => .stuck := nd rfl
@[simp] theorem e_and {a b : MT} : mAnd a b env h = (a env h).bind fun c h1 => sel c (b env h1) (.ok false h1) := nd rfl
@[simp] theorem e_or {a b : MT} : mOr a b env h = (a env h).bind fun c h1 => sel c (.ok true h1) (b env h1) := nd rfl
@[simp] theorem e_not {a : MT} : mNot a env h = (a env h).bind fun c h1 => .ok (!c) h1 := nd rfl
@[simp] theorem e_if {t : MT} {a b : ME} : mIf t a b env h = (t env h).bind fun c h1 => sel c (a env h1) (b env h1) := nd rfl
@[simp] theorem e_andV {a b : ME} : mAndV a b env h = (a env h).bind fun x h1 => match x with
  | .bl c => sel c (b env h1) (.ok (.bl false) h1)
  | _ => .stuck := nd rfl
@[simp] theorem e_orV {a b : ME} : mOrV a b env h = (a env h).bind fun x h1 => match x with
  | .bl c => sel c (.ok (.bl true) h1) (b env h1)
  | _ => .stuck := nd rfl
@[simp] theorem e_notV {a : ME} : mNotV a env h = (a env h).bind fun x h1 => match x with
  | .bl c => .ok (.bl (!c)) h1
  | _ => .stuck := nd rfl
@[simp] theorem e_ch {f g : O2} {ma mb mc : ME} : mCh f g ma mb mc env h = (ma env h).bind fun x h1 => (mb env h1).bind fun y h2 => (f h2 x y).bind fun z h3 => match z with
  | .bl true => (mc env h3).bind fun u h4 => g h4 y u
  | .bl false => .ok (.bl false) h3
  | _ => .stuck := nd rfl
@[simp] theorem e_cl0 {op : OC} {n : Nat} {ma : MA} : mCl0 op n ma env h = (ma env h).bind fun xs h1 => sel (xs.length == n) (op h1 xs) .stuck := nd rfl
@[simp] theorem e_cl {op : OC} {n j : Nat} {ma mk : MA} : mCl op n j ma mk env h = (ma env h).bind fun xs h1 => (mk env h1).bind fun ys h2 => sel (xs.length == n && ys.length == j) (op h2 (xs ++ ys)) .stuck := nd rfl
@[simp] theorem e_bt {op : OC} {ma : MA} : mBt op ma env h = (ma env h).bind fun xs h1 => op h1 xs := nd rfl
@[simp] theorem e_bm {ty : Nat} {op : OC} {mo : ME} {ma : MA} : mBM ty op mo ma env h = (mo env h).bind fun x h1 => sel (isTy h1 ty x) ((ma env h1).bind fun xs h2 => op h2 (x :: xs)) .stuck := nd rfl
@[simp] theorem e_opF {m : MF} {ix : List Nat} {dp : List PV} : opF m ix dp h xs = callG takeBack m (gI ix (xs ++ dp)) h := nd rfl
@[simp] theorem e_opC {c : Nat} {m : MF} {ix : List Nat} {dp : List PV} : opC c m ix dp h xs = callG takeFrz (initM c m ix dp) xs h := nd rfl
@[simp] theorem e_sl {m : ME} {l u : MO} : mSl m l u env h = (m env h).bind fun x h1 => (l env h1).bind fun lo h2 => (u env h2).bind fun hi h3 => opSl h3 x lo hi := nd rfl
@[simp] theorem e_monone : moNone env h = .ok none h := nd rfl
@[simp] theorem e_mosome {m : ME} : moSome m env h = (m env h).bind fun x h1 => match x with
  | .int i => .ok (some i) h1
  | _ => .stuck := nd rfl
@[simp] theorem e_for {mi : MI} {g : MG} {b : MS} : mFor mi g b env h = (mi env h).bind fun p h1 => forL g b p.2 p.1 env h1 := nd rfl
@[simp] theorem e_miV {m : ME} : miV m env h = (m env h).bind fun x h1 => match srcV h1 x with
  | some p => .ok p h1
  | none => srcD h1 x := nd rfl
@[simp] theorem e_rng1 {ma : MA} : miRng1 ma env h = (ma env h).bind fun xs h1 => match xs with
  | [.int j] => bif inR j then .ok (seqI 0 j.toNat, []) h1 else .stuck
  | _ => .stuck := nd rfl
@[simp] theorem e_enum {ma : MA} : miEnum ma env h = (ma env h).bind fun xs h1 => match xs with
  | [x] => match seqP h1 x with
    | some ys => .ok (numbered 0 ys, wtOf ys x) h1
    | none => .stuck
  | _ => .stuck := nd rfl
@[simp] theorem e_zip {ma : MA} : miZip ma env h = (ma env h).bind fun xs h1 => match xs with
  | [x, y] => match x, y with
    | .tup xs, .tup ys => .ok (pairs xs ys, []) h1
    | x, y => match lstP h1 x, lstP h1 y with
      | some xs, some ys => .ok (pairs xs ys, wtOf xs x ++ wtOf ys y) h1
      | _, _ => .stuck
  | _ => .stuck := nd rfl
@[simp] theorem e_lc {mi : MI} {g : Tg} {t : MT} {m : ME} {vs : List Nat} : mLc mi g t m vs env h = (mi env h).bind fun p h1 => lcL g t m p.2 (wipeE env vs) p.1 [] h1 := nd rfl
@[simp] theorem e_yes : mYes env h = .ok true h := nd rfl
@[simp] theorem e_gsub {op : O3} {mo mi : ME} : gSubM op mo mi x env h = (mo env h).bind fun o h1 => (mi env h1).bind fun i h2 => (op h2 o i x).bind fun _ h3 => .ok env h3 := nd rfl
@[simp] theorem e_setF {cs : List Nat} {f : Nm} {mo me : ME} : mSetF cs f mo me env h = (me env h).bind fun v h1 => (mo env h1).bind fun o h2 => match o with
  | .ref n => match h2[n]? with
    | some (.ins c fs) => bif cs.contains c && decide (fs.length < 1000) then .ok (.nx env) (h2.set n (.ins c (putP f v fs))) else .stuck
    | _ => .stuck
  | _ => .stuck := nd rfl
@[simp] theorem e_fld {cs : List Nat} {f : Nm} {m : ME} : mFld cs f m env h = (m env h).bind fun x h1 => match fldsOf h1 x with
  | some (c, fs) => bif cs.contains c then (match lookF f fs with
    | some v => .ok v h1
    | none => .stuck) else .stuck
  | none => .stuck := nd rfl
@[simp] theorem e_isi {tb cs : List (Nat × Bool)} {m : ME} : mIsi tb cs m env h = (m env h).bind fun x h1 => match kindP h1 x with
  | some k => match isiT tb cs k with
    | some b => .ok (.bl b) h1
    | none => .stuck
  | none => .stuck := nd rfl
@[simp] theorem e_rev {m : ME} : mRev m env h = (m env h).bind fun x h1 => match x with
  | .str s => bif decide (s.length ≤ LIM) then .ok (.str s.reverse) h1 else .stuck
  | x => match lstP h1 x with
    | some ys => .ok (.ref h1.length) (h1 ++ [.lst ys.reverse])
    | none => .stuck := nd rfl
@[simp] theorem e_aug {i : Nat} {op : O2} {me : ME} : mAug i op me env h = match env[i]? with
  | some (some x) => (me env h).bind fun y h1 => (op h1 x y).bind fun z h2 => .ok (.nx (env.set i (some z))) h2
  | _ => .stuck := nd rfl
@[simp] theorem v_add {i j : Int} : opAdd h (.int i) (.int j) = .ok (.int (i + j)) h := nd rfl
@[simp] theorem v_addS {a b : List Nat} : opAdd h (.str a) (.str b) = bif decide (a.length + b.length ≤ LIM) then .ok (.str (a ++ b)) h else .stuck := nd rfl
@[simp] theorem v_addT {a b : List PV} : opAdd h (.tup a) (.tup b) = bif decide (a.length + b.length ≤ LIM) then .ok (.tup (a ++ b)) h else .stuck := nd rfl
@[simp] theorem v_sub {i j : Int} : opSub h (.int i) (.int j) = .ok (.int (i - j)) h := nd rfl
theorem v_mul {i j : Int} (c : (-(2 ^ 64) < i ∧ i < 2 ^ 64) ∨ (-(2 ^ 64) < j ∧ j < 2 ^ 64)) : opMul h (.int i) (.int j) = .ok (.int (i * j)) h := by
  have : ((decide (-(2 ^ 64) < i) && decide (i < 2 ^ 64)) || (decide (-(2 ^ 64) < j) && decide (j < 2 ^ 64))) = true := by simpa using c
  show (bif (decide (-(2 ^ 64) < i) && decide (i < 2 ^ 64)) || (decide (-(2 ^ 64) < j) && decide (j < 2 ^ 64)) then (R.ok (.int (i * j)) h : R PV) else .stuck) = _
  rw [this]; rfl
@[simp] theorem v_mod {i j : Int} : opMod h (.int i) (.int j) = bif decide (0 < j) then .ok (.int (i % j)) h else .stuck := nd rfl
@[simp] theorem v_fdiv {i j : Int} : opFdiv h (.int i) (.int j) = bif decide (0 < j) && decide (j < 1073741824) then .ok (.int (i / j)) h else .stuck := nd rfl
@[simp] theorem v_neg {i : Int} {g : Int → Int} : unI g h (.int i) = .ok (.int (g i)) h := nd rfl
@[simp] theorem v_lt {i j : Int} : opLt h (.int i) (.int j) = .ok (.bl (decide (i < j))) h := nd rfl
@[simp] theorem v_le {i j : Int} : opLe h (.int i) (.int j) = .ok (.bl (decide (i ≤ j))) h := nd rfl
@[simp] theorem v_gt {i j : Int} : opGt h (.int i) (.int j) = .ok (.bl (decide (j < i))) h := nd rfl
@[simp] theorem v_ge {i j : Int} : opGe h (.int i) (.int j) = .ok (.bl (decide (j ≤ i))) h := nd rfl
@[simp] theorem v_is {neg : Bool} : opIs neg h x .non = .ok (.bl (bif neg then !isNon x else isNon x)) h := nd rfl
@[simp] theorem v_bint {i : Int} : bInt h [.int i] = .ok (.int i) h := nd rfl
@[simp] theorem v_babs {i : Int} : bAbs h [.int i] = .ok (.int (if i < 0 then -i else i)) h := nd rfl
@[simp] theorem v_bmax {i j : Int} : bMax2 h [.int i, .int j] = .ok (.int (if j > i then j else i)) h := nd rfl
@[simp] theorem v_bmin {i j : Int} : bMin2 h [.int i, .int j] = .ok (.int (if j < i then j else i)) h := nd rfl
@[simp] theorem v_bdm {i j : Int} : bDivmod h [.int i, .int j] = bif decide (0 < j) && decide (j < B30) then .ok (.tup [.int (i / j), .int (i % j)]) h else .stuck := nd rfl
@[simp] theorem v_btup {ys : List PV} : bTuple h [.tup ys] = .ok (.tup ys) h := nd rfl
@[simp] theorem v_btupR {n : Nat} {ys : List PV} (e : h[n]? = some (.lst ys)) : bTuple h [.ref n] = .ok (.tup ys) h := by
  show (match seqP h (.ref n) with
    | some ys => R.ok (PV.tup ys) h
    | none => .stuck) = _
  have : seqP h (.ref n) = some ys := by simp [seqP, e]
  rw [this]
end
end MC

end
section
set_option maxRecDepth 100000
set_option maxHeartbeats 4000000
namespace MC
open PySem L2

mutual
theorem ren_no (f : Nat → Option Nat) : ∀ x : PV, noRef x = true → renV f x = some x
  | .non, _ | .bl _, _ | .int _, _ | .str _, _ | .gl _, _ => by unfold renV; rfl
  | .tup xs, h => by unfold renV; rw [rens_no f xs (by unfold noRef at h; exact h)]
  | .scr xs, h => by unfold renV; rw [rens_no f xs (by unfold noRef at h; exact h)]
  | .rdic xs, h => by unfold renV; rw [renk_no f xs (by unfold noRef at h; exact h)]
  | .ins c fs, h => by unfold renV; rw [renf_no f fs (by unfold noRef at h; exact h)]
  | .exn c fs, h => by unfold renV; rw [renf_no f fs (by unfold noRef at h; exact h)]
  | .exv c fs, h => by unfold renV; rw [renf_no f fs (by unfold noRef at h; exact h)]
  | .ref n, h => by unfold noRef at h; cases h
theorem rens_no (f : Nat → Option Nat) : ∀ x : List PV, noRefs x = true → renVs f x = some x
  | [], _ => by unfold renVs; rfl
  | x :: xs, h => by
    unfold noRefs at h
    rw [Bool.and_eq_true] at h
    unfold renVs
    rw [ren_no f x h.1, rens_no f xs h.2]
theorem renk_no (f : Nat → Option Nat) : ∀ x : List (PV × PV), noRefK x = true → renK f x = some x
  | [], _ => by unfold renK; rfl
  | (k, x) :: xs, h => by
    unfold noRefK at h
    rw [Bool.and_eq_true, Bool.and_eq_true] at h
    unfold renK
    rw [ren_no f x h.2.1, renk_no f xs h.2.2]
theorem renf_no (f : Nat → Option Nat) : ∀ x : List (Nm × PV), noRefF x = true → renF f x = some x
  | [], _ => by unfold renF; rfl
  | (k, x) :: xs, h => by
    unfold noRefF at h
    rw [Bool.and_eq_true] at h
    unfold renF
    rw [ren_no f x h.1, renf_no f xs h.2]
end
mutual
theorem refs_no : ∀ x : PV, noRef x = true → refsV x = []
  | .non, _ | .bl _, _ | .int _, _ | .str _, _ | .gl _, _ => by unfold refsV; rfl
  | .tup xs, h => by unfold refsV; exact refss_no xs (by unfold noRef at h; exact h)
  | .scr xs, h => by unfold refsV; exact refss_no xs (by unfold noRef at h; exact h)
  | .rdic xs, h => by unfold refsV; exact refsk_no xs (by unfold noRef at h; exact h)
  | .ins c fs, h => by unfold refsV; exact refsf_no fs (by unfold noRef at h; exact h)
  | .exn c fs, h => by unfold refsV; exact refsf_no fs (by unfold noRef at h; exact h)
  | .exv c fs, h => by unfold refsV; exact refsf_no fs (by unfold noRef at h; exact h)
  | .ref n, h => by unfold noRef at h; cases h
theorem refss_no : ∀ x : List PV, noRefs x = true → refsVs x = []
  | [], _ => by unfold refsVs; rfl
  | x :: xs, h => by
    unfold noRefs at h
    rw [Bool.and_eq_true] at h
    unfold refsVs
    rw [refs_no x h.1, refss_no xs h.2]; rfl
theorem refsk_no : ∀ x : List (PV × PV), noRefK x = true → refsK x = []
  | [], _ => by unfold refsK; rfl
  | (k, x) :: xs, h => by
    unfold noRefK at h
    rw [Bool.and_eq_true, Bool.and_eq_true] at h
    unfold refsK
    first
      | rw [refs_no x h.2.1, refsk_no xs h.2.2]; rfl
      | simp [refs_no x h.2.1, refsk_no xs h.2.2, refs_no k h.1]
theorem refsf_no : ∀ x : List (Nm × PV), noRefF x = true → refsF x = []
  | [], _ => by unfold refsF; rfl
  | (k, x) :: xs, h => by
    unfold noRefF at h
    rw [Bool.and_eq_true] at h
    unfold refsF
    rw [refs_no x h.1, refsf_no xs h.2]; rfl
end
section
variable {m : MF} {xs : List PV} {h g : PH} {v : PV} {j k : Nat}
theorem reach0 (h : PH) : reach h FUEL [] [] = some [] := by unfold FUEL; rfl
theorem reach1 {o : PO} (e : h[j]? = some o) (r : refsO o = []) : reach h FUEL [j] [] = some [j] := by
  show reach h (1598 + 1 + 1) [j] [] = _
  unfold reach
  simp only [List.contains_nil, cond_false, e, r, List.append_nil, List.nil_append]
  unfold reach
  rfl
theorem flatO_of {ys : List PV} (hy : noRefs ys = true) : refsO (.lst ys) = [] ∧ ∀ f, renO f (.lst ys) = some (.lst ys) := by
  refine ⟨by unfold refsO; exact refss_no ys hy, fun f => ?_⟩
  simp only [renO, rens_no f ys hy]
theorem idx_hd : idx [j] j = some 0 := by unfold idx; simp
theorem call_one {ys zs : List PV} (hj : h[j]? = some (.lst ys)) (hy : noRefs ys = true) (hx : noRefs xs = true) (hm : m (.ref 0 :: xs) [.lst ys] = .ok v g) (hg : g[0]? = some (.lst zs)) (hz : noRefs zs = true) (hv : noRef v = true) :
    callG takeBack m (.ref j :: xs) h = .ok v (h.set j (.lst zs)) := by
  obtain ⟨y1, y2⟩ := flatO_of hy
  obtain ⟨z1, z2⟩ := flatO_of hz
  have v1 : noRefs [v] = true := by unfold noRefs; rw [hv]; rfl
  have e2 : takeBack h [j] v g = .ok v (h.set j (.lst zs)) := by
    have : takeL h [j] [v] g = some ([], [v], h.set j (.lst zs)) := by
      unfold takeL
      have r0 : reach g FUEL (refsVs [v] ++ List.range [j].length) [] = some [0] := by
        rw [refss_no [v] v1]; exact reach1 hg z1
      rw [r0]
      have n0 : newsOf [j] [0] = [] := by simp [newsOf]
      simp only [n0]
      rw [rens_no _ [v] v1]
      have p0 : mapO (pick g (backF [j] [] h.length)) (List.range [j].length) = some [.lst zs] := by
        show mapO _ [0] = _
        simp [mapO, pick, hg, z2]
      rw [p0]
      simp [mapO, setAll]
    unfold takeBack
    rw [this]
  unfold callG
  have rr : refsVs (.ref j :: xs) = [j] := by unfold refsVs refsV; rw [refss_no xs hx]; rfl
  rw [rr, reach1 hj y1]
  have a0 : renVs (idx [j]) (.ref j :: xs) = some (.ref 0 :: xs) := by
    unfold renVs
    rw [rens_no _ xs hx]
    unfold renV
    rw [idx_hd]
  have h0 : mapO (pick h (idx [j])) [j] = some [.lst ys] := by simp [mapO, pick, hj, y2]
  simp only [a0, h0, hm]
  exact e2
theorem call_newl {ys : List PV} {i : Nat} (hx : noRefs xs = true) (hm : m xs [] = .ok (.ref i) g) (hg : g[i]? = some (.lst ys)) (hy : noRefs ys = true) : callG takeBack m xs h = .ok (.ref h.length) (h ++ [.lst ys]) := by
  obtain ⟨y1, y2⟩ := flatO_of hy
  have e2 : takeBack h [] (.ref i) g = .ok (.ref h.length) (h ++ [.lst ys]) := by
    have : takeL h [] [.ref i] g = some ([i], [.ref h.length], h ++ [.lst ys]) := by
      unfold takeL
      have r0 : reach g FUEL (refsVs [.ref i] ++ List.range ([] : List Nat).length) [] = some [i] := by
        have : refsVs [PV.ref i] = [i] := by unfold refsVs refsV refsVs; rfl
        rw [this]; exact reach1 hg y1
      rw [r0]
      have n0 : newsOf [] [i] = [i] := by simp [newsOf]
      simp only [n0]
      have b0 : backF [] [i] h.length i = some h.length := by simp [backF, idx_hd]
      have p0 : renVs (backF [] [i] h.length) [PV.ref i] = some [.ref h.length] := by unfold renVs renVs renV; rw [b0]
      rw [p0]
      have q0 : mapO (pick g (backF [] [i] h.length)) [i] = some [.lst ys] := by simp [mapO, pick, hg, y2]
      rw [q0]
      simp [mapO, setAll]
    unfold takeBack
    rw [this]
  unfold callG
  rw [refss_no xs hx, reach0]
  show (match renVs (idx []) xs, (some [] : Option PH) with
    | some as, some hc => _
    | _, _ => _) = _
  rw [rens_no _ xs hx]
  simp only [hm]
  exact e2
end
end MC
namespace MC
open PySem L2
@[simp] theorem Ws_noX {α : Type} {r : R α} {Q : α → PH → Prop} : Ws (noX r) Q ↔ Ws r Q := by
  cases r with
  | ok a h => exact Iff.rfl
  | exc c fs h => exact ⟨fun ⟨_, _, e, _⟩ => (by cases e), fun ⟨_, _, e, _⟩ => (by cases e)⟩
  | stuck => exact Iff.rfl
/-- behind a turn -/
def turnQ (I : En → PH → Prop) (Q : Fl → PH → Prop) : Fl → PH → Prop := fun f h => match f with
  | .nx e => I e h
  | .ct e => I e h
  | .bk e => Q (.nx e) h
  | .rt v => Q (.rt v) h
@[simp] theorem turn_nx {I : En → PH → Prop} {Q : Fl → PH → Prop} {e : En} {h : PH} : turnQ I Q (.nx e) h = I e h := nd rfl
@[simp] theorem turn_ct {I : En → PH → Prop} {Q : Fl → PH → Prop} {e : En} {h : PH} : turnQ I Q (.ct e) h = I e h := nd rfl
@[simp] theorem turn_bk {I : En → PH → Prop} {Q : Fl → PH → Prop} {e : En} {h : PH} : turnQ I Q (.bk e) h = Q (.nx e) h := nd rfl
@[simp] theorem turn_rt {I : En → PH → Prop} {Q : Fl → PH → Prop} {v : PV} {h : PH} : turnQ I Q (.rt v) h = Q (.rt v) h := nd rfl
theorem Ws_for {g : MG} {b : MS} {wt : Wt} {Q : Fl → PH → Prop} : ∀ {xs : List PV} (I : Nat → En → PH → Prop) {env : En} {h : PH}, I 0 env h → (∀ i env h, I i env h → watch wt h = true) →
    (∀ i x env h, xs[i]? = some x → I i env h → Ws (g x env h) fun e h1 => Ws (b e h1) (turnQ (I (i + 1)) Q)) → (∀ env h, I xs.length env h → Q (.nx env) h) → Ws (forL g b wt xs env h) Q
  | [], I, env, h, h0, hw, _, hd => by
    unfold forL
    rw [hw 0 env h h0]
    exact Ws_ok.mpr (hd env h h0)
  | x :: xs, I, env, h, h0, hw, hs, hd => by
    unfold forL
    rw [hw 0 env h h0, cond_true]
    refine Ws.bind (hs 0 x env h rfl h0) fun e h1 w => Ws.bind w fun f h2 q => ?_
    have go : ∀ e2, I 1 e2 h2 → Ws (forL g b wt xs e2 h2) Q := fun e2 q => Ws_for (fun i => I (i + 1)) q (fun i => hw (i + 1)) (fun i x env h e => hs (i + 1) x env h (by simpa using e)) hd
    cases f with
    | nx e2 => exact go e2 q
    | ct e2 => exact go e2 q
    | bk e2 => exact Ws_ok.mpr q
    | rt v => exact Ws_ok.mpr q
theorem Ws_lc {g : Tg} {t : MT} {m : ME} {wt : Wt} {e0 : En} {Q : PV → PH → Prop} : ∀ {xs : List PV} (I : Nat → List PV → PH → Prop) {acc : List PV} {h : PH}, I 0 acc h → (∀ i acc h, I i acc h → watch wt h = true) →
    (∀ i x acc h, xs[i]? = some x → I i acc h → ∃ e, tgM g x e0 = some e ∧ Ws (t e h) fun c h1 => bif c then Ws (m e h1) (fun y h2 => acc.length < LIM ∧ I (i + 1) (acc ++ [y]) h2) else I (i + 1) acc h1) →
    (∀ acc h, I xs.length acc h → Q (.ref h.length) (h ++ [.lst acc])) → Ws (lcL g t m wt e0 xs acc h) Q
  | [], I, acc, h, h0, hw, _, hd => by
    unfold lcL
    rw [hw 0 acc h h0]
    exact Ws_ok.mpr (hd acc h h0)
  | x :: xs, I, acc, h, h0, hw, hs, hd => by
    unfold lcL
    rw [hw 0 acc h h0, cond_true]
    obtain ⟨e, he, w⟩ := hs 0 x acc h rfl h0
    rw [he]
    have go : ∀ acc2 h2, I 1 acc2 h2 → Ws (lcL g t m wt e0 xs acc2 h2) Q := fun acc2 h2 q => Ws_lc (fun i => I (i + 1)) q (fun i => hw (i + 1)) (fun i x acc h e => hs (i + 1) x acc h (by simpa using e)) hd
    refine Ws.bind (Ws_noX.mpr w) fun c h1 q => ?_
    cases c with
    | false => exact go acc h1 q
    | true =>
      refine Ws.bind (Ws_noX.mpr q) fun y h2 ⟨hl, q2⟩ => ?_
      rw [decide_eq_true hl]
      exact go _ _ q2
end MC
namespace MC
open PySem L2
@[simp] theorem gI_nil {α : Type} {l : List α} : gI [] l = [] := nd rfl
@[simp] theorem gI_cons {α : Type} {i : Nat} {ix : List Nat} {l : List α} : gI (i :: ix) l = match l[i]? with
  | some x => x :: gI ix l
  | none => gI ix l := by
  unfold gI
  rw [List.filterMap_cons]
  cases l[i]? <;> rfl
section
variable {h : PH}
@[simp] theorem v_eqI {i j : Int} : opEq h (.int i) (.int j) = .ok (.bl (decide (i = j))) h := by
  have : (i == j) = decide (i = j) := by by_cases e : i = j <;> simp [e]
  show (bif SeqAt.shaped (.int i) && SeqAt.shaped (.int j) then (R.ok (.bl (PyData.eqv (.int i) (.int j))) h : R PV) else .stuck) = _
  simp [SeqAt.shaped, PyData.eqv, PyData.canLay0, PyData.depth, this]
@[simp] theorem v_neI {i j : Int} : opNe h (.int i) (.int j) = .ok (.bl (!decide (i = j))) h := by
  have : (i == j) = decide (i = j) := by by_cases e : i = j <;> simp [e]
  show (bif SeqAt.shaped (.int i) && SeqAt.shaped (.int j) then (R.ok (.bl (!PyData.eqv (.int i) (.int j))) h : R PV) else .stuck) = _
  simp [SeqAt.shaped, PyData.eqv, PyData.canLay0, PyData.depth, this]
/-- a comprehension whose items are f of the source's -/
theorem Ws_map {g : Tg} {m : ME} {e0 : En} {Q : PV → PH → Prop} (f : PV → PV) (J : PH → Prop) {xs : List PV} (j0 : J h) (hl : xs.length ≤ LIM) (hs : ∀ x ∈ xs, ∀ h, J h → ∃ e, tgM g x e0 = some e ∧ Ws (m e h) fun y h' => y = f x ∧ J h')
    (hd : ∀ h0, J h0 → Q (.ref h0.length) (h0 ++ [.lst (xs.map f)])) : Ws (lcL g mYes m [] e0 xs [] h) Q := by
  refine Ws_lc (fun i acc h => i ≤ xs.length ∧ acc = (xs.take i).map f ∧ J h) ⟨Nat.zero_le _, rfl, j0⟩ (fun _ _ _ _ => rfl) (fun i x acc h e ⟨hi, ea, jh⟩ => ?_) fun acc h ⟨_, ea, jh⟩ => ?_
  · have hlt := (List.getElem?_eq_some_iff.mp e).1
    obtain ⟨e1, t1, w⟩ := hs x (List.mem_of_getElem? e) h jh
    refine ⟨e1, t1, ?_⟩
    rw [e_yes, Ws_ok, cond_true]
    refine w.mono fun y h' ⟨ey, jh'⟩ => ⟨?_, hlt, ?_, jh'⟩
    · subst ea
      rw [List.length_map, List.length_take]
      omega
    · subst ea; subst ey
      rw [List.take_add_one, e, List.map_append]; rfl
  · subst ea
    rw [List.take_length]
    exact hd h jh
theorem bls_true : ∀ n : Nat, blsP (List.replicate n (PV.bl true)) = some (List.replicate n true)
  | 0 => rfl
  | n + 1 => by simp [List.replicate_succ, blsP, bls_true n]
theorem all_last {ys : List PV} {bs : List Bool} (e : blsP ys = some bs) : bAll (h ++ [PO.lst ys]) [PV.ref h.length] = .ok (PV.bl (bs.all id)) (h ++ [PO.lst ys]) := by
  have : lstP (h ++ [PO.lst ys]) (.ref h.length) = some ys := by simp [lstP]
  simp only [bAll, this, e]
end
end MC
namespace MC
open PySem L2
section
variable {α β γ : Type} {h : PH} {x y : PV}
@[simp] theorem bind_asc {r : R α} {f : α → PH → R β} {g : β → PH → R γ} : (r.bind f).bind g = r.bind fun a h => (f a h).bind g := by cases r <;> rfl
@[simp] theorem src_tup {xs : List PV} : srcV h (.tup xs) = some (xs, []) := nd rfl
@[simp] theorem src_scr {xs : List PV} : srcV h (.scr xs) = some (xs, []) := nd rfl
@[simp] theorem src_str {s : List Nat} : srcV h (.str s) = some (signsOf s, []) := nd rfl
theorem src_ref {n : Nat} {xs : List PV} (e : h[n]? = some (.lst xs)) : srcV h (.ref n) = some (xs, [(n, xs)]) := by simp [srcV, e]
@[simp] theorem seq_tup {xs : List PV} : seqP h (.tup xs) = some xs := nd rfl
@[simp] theorem wt_tup {xs ys : List PV} : wtOf ys (.tup xs) = [] := nd rfl
@[simp] theorem wt_ref {n : Nat} {ys : List PV} : wtOf ys (.ref n) = [(n, ys)] := nd rfl
@[simp] theorem kd_non : kindP h .non = some (.inl 0) := nd rfl
@[simp] theorem kd_bl {b : Bool} : kindP h (.bl b) = some (.inl 1) := nd rfl
@[simp] theorem kd_int {i : Int} : kindP h (.int i) = some (.inl 2) := nd rfl
@[simp] theorem kd_str {s : List Nat} : kindP h (.str s) = some (.inl 3) := nd rfl
@[simp] theorem kd_tup {s : List PV} : kindP h (.tup s) = some (.inl 4) := nd rfl
@[simp] theorem kd_ins {c : Nat} {fs : List (Nm × PV)} : kindP h (.ins c fs) = some (.inr c) := nd rfl
@[simp] theorem tr_non : truth h .non = some false := nd rfl
@[simp] theorem tr_bl {b : Bool} : truth h (.bl b) = some b := nd rfl
@[simp] theorem tr_int {i : Int} : truth h (.int i) = some (i != 0) := nd rfl
@[simp] theorem len_tup {xs : List PV} : bLen h [.tup xs] = .ok (.int xs.length) h := nd rfl
@[simp] theorem fld_ins {c : Nat} {fs : List (Nm × PV)} : fldsOf h (.ins c fs) = some (c, fs) := nd rfl
@[simp] theorem ty_str {s : List Nat} : isTy h 0 (.str s) = true := nd rfl
theorem ty_lst {n : Nat} {xs : List PV} (e : h[n]? = some (.lst xs)) : isTy h 1 (.ref n) = true := by simp [isTy, lstP, e]
@[simp] theorem nn_non : MC.isNon .non = true := nd rfl
@[simp] theorem nn_int {i : Int} : MC.isNon (.int i) = false := nd rfl
@[simp] theorem nn_tup {i : List PV} : MC.isNon (.tup i) = false := nd rfl
@[simp] theorem nn_str {i : List Nat} : MC.isNon (.str i) = false := nd rfl
theorem mapB {g : Tg} {m : ME} {e0 : En} {Q : β → PH → Prop} {k : PV → PH → R β} (f : PV → PV) (J : PH → Prop) {xs : List PV} (j0 : J h) (hl : xs.length ≤ LIM) (hs : ∀ x ∈ xs, ∀ h, J h → ∃ e, tgM g x e0 = some e ∧ Ws (m e h) fun y h' => y = f x ∧ J h')
    (hd : ∀ h0, J h0 → Ws (k (.ref h0.length) (h0 ++ [.lst (xs.map f)])) Q) : Ws ((lcL g mYes m [] e0 xs [] h).bind k) Q :=
  Ws.bind (Ws_map (Q := fun v h' => ∃ h0, J h0 ∧ v = .ref h0.length ∧ h' = h0 ++ [.lst (xs.map f)]) f J j0 hl hs fun h0 j => ⟨h0, j, rfl, rfl⟩) fun v h' ⟨h0, j, e1, e2⟩ => by rw [e1, e2]; exact hd h0 j
theorem forB {g : MG} {b : MS} {wt : Wt} {Q : β → PH → Prop} {k : Fl → PH → R β} {xs : List PV} (I : Nat → En → PH → Prop) {env : En} (h0 : I 0 env h) (hw : ∀ i env h, I i env h → watch wt h = true)
    (hs : ∀ i x env h, xs[i]? = some x → I i env h → Ws (g x env h) fun e h1 => Ws (b e h1) (turnQ (I (i + 1)) fun f h => Ws (k f h) Q)) (hd : ∀ env h, I xs.length env h → Ws (k (.nx env) h) Q) : Ws ((forL g b wt xs env h).bind k) Q :=
  Ws.bind (Ws_for I h0 hw hs hd) fun _ _ q => q
end
end MC

end
section
set_option maxRecDepth 100000
set_option maxHeartbeats 4000000
namespace MC
open PySem L2
section
variable {h : PH} {n : Nat}
theorem repr_str_le (s : List Nat) (hs : ∀ c ∈ s, c < 1114112) : (reprText (S s)).length ≤ 10 * s.length + 2 := by
  have := StrLaws.reprText_len (S s) (fun c hc => by
    rw [S_list] at hc
    exact Nat.lt_trans (hs c hc) (by decide))
  rw [S_len] at this
  exact this
theorem v_neS {s t : List Nat} (hs : PyData.strOk (S s) = true) (ht : PyData.strOk (S t) = true) : opNe h (.str s) (.str t) = .ok (.bl (!decide (s = t))) h := by
  have : (S s == S t) = decide (s = t) := by
    by_cases e : s = t
    · subst e; simp
    · have : S s ≠ S t := fun z => e (S_inj z)
      simp [e, this]
  unfold opNe by2
  rw [show toD h DEP (.str s) = some (.str (S s)) from rfl, show toD h DEP (.str t) = some (.str (S t)) from rfl]
  simp [SeqAt.shaped, PyData.eqv, PyData.canLay0, PyData.depth, this, hs, ht]
theorem atI_nat' {α : Type} {xs : List α} {i : Nat} {x : α} (e : xs[i]? = some x) : L2.atI xs (i : Int) = some x := atI_nat e
theorem ix_tup {xs : List PV} {i : Nat} {x : PV} (e : xs[i]? = some x) : opIx h (.tup xs) (.int i) = .ok x h := by
  show (match L2.atI xs (i : Int) with
    | some v => R.ok v h
    | none => .stuck) = _
  rw [atI_nat' e]
theorem ix_ref {xs : List PV} {i : Nat} {x : PV} (e0 : h[n]? = some (.lst xs)) (e : xs[i]? = some x) : opIx h (.ref n) (.int i) = .ok x h := by
  have : opIx h (.ref n) (.int i) = ixL h xs (.int i) := by simp [opIx, e0]
  rw [this]
  show (match L2.atI xs (i : Int) with
    | some v => R.ok v h
    | none => .stuck) = _
  rw [atI_nat' e]
theorem ix_str {s : List Nat} {i : Nat} {c : Nat} (e : s[i]? = some c) (hl : s.length ≤ LIM) : opIx h (.str s) (.int i) = .ok (.str [c]) h := by
  show (match L2.atI s (i : Int) with
    | some c => bif decide (s.length ≤ LIM) then R.ok (PV.str [c]) h else .stuck
    | none => .stuck) = _
  rw [atI_nat' e]
  simp [hl]
theorem last_at {ys : List PO} {o : PO} : (ys ++ [o])[ys.length]? = some o := by simp
end
end MC

end
section
set_option maxRecDepth 100000
set_option maxHeartbeats 4000000
namespace MC
open PySem L2
def skd (a b c : Int) : PO := .lst [.int a, .int b, .int c]
/-- the j-th object is a draw list -/
def Dr (j : Nat) (h : PH) : Prop := ∃ a b c, h[j]? = some (skd a b c)
/-- all but the j-th object stands -/
def But (j : Nat) (h h' : PH) : Prop := h'.length = h.length ∧ ∀ i, i ≠ j → h'[i]? = h[i]?
theorem But.refl {j : Nat} {h : PH} : But j h h := ⟨rfl, fun _ _ => rfl⟩
theorem But.trans {j : Nat} {h h1 h2 : PH} (a : But j h h1) (b : But j h1 h2) : But j h h2 := ⟨b.1.trans a.1, fun i n => (b.2 i n).trans (a.2 i n)⟩
theorem Dr.lt {j : Nat} {h : PH} (d : Dr j h) : j < h.length := by
  obtain ⟨a, b, c, e⟩ := d
  exact (List.getElem?_eq_some_iff.mp e).1
theorem get_app {h : PH} {i : Nat} {o : PO} {os : List PO} (e : h[i]? = some o) : (h ++ os)[i]? = some o := by
  rw [List.getElem?_append_left (List.getElem?_eq_some_iff.mp e).1]; exact e
/-- a function of draws: xs its other arguments, P its answer -/
def Fs (m : MF) (xs : List PV) (P : PV → Prop) : Prop := ∀ a b c, Ws (m (.ref 0 :: xs) [skd a b c]) fun v g => Dr 0 g ∧ noRef v = true ∧ P v
section
variable {α : Type} {m : MF} {xs : List PV} {P : PV → Prop} {h : PH} {j : Nat} {k : PV → PH → R α} {Q : α → PH → Prop}
theorem Fs.call (F : Fs m xs P) (hx : noRefs xs = true) (d : Dr j h) : Ws (callG takeBack m (.ref j :: xs) h) fun v h' => noRef v = true ∧ P v ∧ Dr j h' ∧ But j h h' := by
  have hl := d.lt
  obtain ⟨a, b, c, e⟩ := d
  obtain ⟨v, g, e1, ⟨a', b', c', e2⟩, nv, p⟩ := F a b c
  refine ⟨v, h.set j (skd a' b' c'), call_one (ys := [.int a, .int b, .int c]) (zs := [.int a', .int b', .int c']) e (by rfl) hx e1 e2 (by rfl) nv, nv, p, ⟨a', b', c', ?_⟩, ?_, fun i hi => ?_⟩
  · rw [List.getElem?_set_self hl]
  · rw [List.length_set]
  · rw [List.getElem?_set_ne (Ne.symm hi)]
end
section
variable {β : Type} {h : PH}
theorem watch_mk {k : Nat} {ys : List PV} (e : h[k]? = some (.lst ys)) : watch [(k, ys)] h = true := by
  simp [watch, e, beqVs_rf]
end
end MC

end
section
set_option maxRecDepth 100000
set_option maxHeartbeats 4000000
namespace MC
open PySem L2
theorem ok_app {a b : Str} (ha : PyData.strOk a = true) (hb : PyData.strOk b = true) : PyData.strOk (a ++ b) = true := by
  unfold PyData.strOk at *
  show (a.cps ++ b.cps).all _ = true
  rw [Array.all_append, ha, hb]; rfl
theorem ok_text : ∀ (ts : List Str) (k : Nat) (acc : Str), PyData.strOk acc = true → (∀ t ∈ ts, PyData.strOk t = true) → PyData.strOk (textFrom k acc ts) = true
  | [], _, _, h, _ => h
  | t :: r, k, acc, h, ht => by
    have e : PyData.strOk ((if k > 0 then ", " else "" : String) : Str) = true := by split <;> decide +kernel
    exact ok_text r (k + 1) _ (ok_app (ok_app h e) (ht t List.mem_cons_self)) fun x hx => ht x (List.mem_cons_of_mem _ hx)
theorem ok_list (ts : List Str) (h : ∀ t ∈ ts, PyData.strOk t = true) : PyData.strOk (listText ts) = true := by
  unfold listText
  exact ok_app (ok_text ts 0 _ (by decide +kernel) h) (by decide +kernel)
end MC

end
section
set_option maxRecDepth 100000
set_option maxHeartbeats 4000000
namespace MC
open PySem L2
mutual
/-- a value without objects, as data -/
def pd : PV → Option PyData
  | .non => some .none
  | .bl b => some (.bool b)
  | .int i => some (.int i)
  | .str s => some (.str (S s))
  | .tup xs => match pds xs with
    | some ds => some (.tuple ds)
    | none => none
  | _ => none
def pds : List PV → Option (List PyData)
  | [] => some []
  | x :: xs => match pd x, pds xs with
    | some d, some ds => some (d :: ds)
    | _, _ => none
end
mutual
/-- ints of fewer than K bits, signs that are signs; K bounds the texts -/
def pok (K : Nat) : PV → Bool
  | .non => true
  | .bl _ => true
  | .int i => decide (i.natAbs.log2 < K)
  | .str s => s.all fun c => decide (c < 1114112)
  | .tup xs => poks K xs
  | _ => false
def poks (K : Nat) : List PV → Bool
  | [] => true
  | x :: xs => pok K x && poks K xs
end
mutual
/-- how many nodes and signs -/
def pnd : PV → Nat
  | .str s => s.length + 1
  | .tup xs => pnds xs + 1
  | _ => 1
def pnds : List PV → Nat
  | [] => 0
  | x :: xs => pnd x + pnds xs
end
mutual
def pdp : PV → Nat
  | .tup xs => pdps xs + 1
  | _ => 0
def pdps : List PV → Nat
  | [] => 0
  | x :: xs => max (pdp x) (pdps xs)
end
theorem okA {cs : Array Nat} : PyData.strOk ⟨cs⟩ = true ↔ ∀ c ∈ cs.toList, c < 1114112 := by
  unfold PyData.strOk
  rw [← Array.all_toList, List.all_eq_true]
  simp
theorem ch_lt (c : Char) : c.toNat < 1114112 := by
  have h := c.valid
  simp only [UInt32.isValidChar, Nat.isValidChar] at h
  have : c.toNat = c.val.toNat := rfl
  omega
theorem ok_ofS (s : String) : PyData.strOk (Str.ofString s) = true := by
  rw [Str.ofString_eq_toList]
  refine okA.mpr fun c hc => ?_
  simp only [List.mem_map] at hc
  obtain ⟨d, _, rfl⟩ := hc
  exact ch_lt d
theorem rc_lt (q c : Nat) (hq : q < 1114112) (hc : c < 1114112) : ∀ d ∈ Builtin.Str.reprChar q c, d < 1114112 := by
  have dg : ∀ w : Nat, ∀ d ∈ (List.replicate (w - ((Nat.toDigits 16 c).map Char.toNat).length) 48 ++ (Nat.toDigits 16 c).map Char.toNat : List Nat), d < 1114112 := by
    intro w d hd
    rcases List.mem_append.mp hd with h | h
    · rw [List.eq_of_mem_replicate h]; decide
    · obtain ⟨x, _, rfl⟩ := List.mem_map.mp h
      exact ch_lt x
  intro d hd
  unfold Builtin.Str.reprChar at hd
  simp only at hd
  split at hd
  · simp at hd; omega
  split at hd
  · simp at hd; omega
  split at hd
  · simp at hd; omega
  split at hd
  · simp at hd; omega
  split at hd
  · simp at hd; omega
  split at hd
  · rcases List.mem_append.mp hd with h | h
    · simp at h; omega
    · exact dg 2 d h
  split at hd
  · rcases List.mem_append.mp hd with h | h
    · simp at h; omega
    · exact dg 4 d h
  · rcases List.mem_append.mp hd with h | h
    · simp at h; omega
    · exact dg 8 d h
theorem rfold_lt (q : Nat) (hq : q < 1114112) : ∀ (s : List Nat) (acc : Array Nat), (∀ c ∈ s, c < 1114112) → (∀ c ∈ acc.toList, c < 1114112) → ∀ c ∈ (s.foldl (fun out c => out ++ (Builtin.Str.reprChar q c).toArray) acc).toList, c < 1114112
  | [], _, _, h => h
  | c :: s, acc, hs, h => by
    rw [List.foldl_cons]
    refine rfold_lt q hq s _ (fun d hd => hs d (List.mem_cons_of_mem _ hd)) fun d hd => ?_
    rw [Array.toList_append] at hd
    rcases List.mem_append.mp hd with a | a
    · exact h d a
    · exact rc_lt q c hq (hs c List.mem_cons_self) d a
theorem ok_reprS (s : List Nat) (hs : ∀ c ∈ s, c < 1114112) : PyData.strOk (reprText (S s)) = true := by
  have hq : reprQuote (S s) < 1114112 := by unfold reprQuote; split <;> decide
  unfold reprText
  refine okA.mpr ?_
  have f : (S s).cps.foldl (fun out c => out ++ (Builtin.Str.reprChar (reprQuote (S s)) c).toArray) #[reprQuote (S s)] = s.foldl (fun out c => out ++ (Builtin.Str.reprChar (reprQuote (S s)) c).toArray) #[reprQuote (S s)] := by
    rw [← Array.foldl_toList]; rfl
  rw [f]
  intro c hc
  rw [Array.toList_push] at hc
  rcases List.mem_append.mp hc with h | h
  · exact rfold_lt _ hq s _ hs (by simpa using hq) c h
  · rw [List.mem_singleton.mp h]; exact hq
theorem ok_joinL (sep : Str) (hs : PyData.strOk sep = true) : ∀ ts : List Str, (∀ t ∈ ts, PyData.strOk t = true) → PyData.strOk (Str.join sep ts) = true
  | [], _ => (by decide +kernel : PyData.strOk Str.empty = true)
  | [t], h => h t List.mem_cons_self
  | t :: u :: r, h => ok_app (ok_app (h t List.mem_cons_self) hs) (ok_joinL sep hs (u :: r) fun y hy => h y (List.mem_cons_of_mem _ hy))
theorem ok_tuple (ts : List Str) (h : ∀ t ∈ ts, PyData.strOk t = true) : PyData.strOk (tupleText ts) = true := by
  unfold tupleText
  refine ok_app (ok_app (by decide +kernel) (ok_joinL _ (by decide +kernel) ts h)) ?_
  split <;> decide +kernel
/-- what is needed of data whose text is asked for -/
structure Good (K : Nat) (n : Nat) (d : PyData) : Prop where
  s1 : d.showable = true
  s2 : d.hasDict = false
  s3 : d.shown.length + 2 ≤ (K + 12) * n
  s4 : PyData.strOk d.shown = true
theorem int_len {i : Int} {K : Nat} (hK : 0 < K) (h : i.natAbs.log2 < K) : (PyData.shown (.int i)).length ≤ K + 1 := by
  rw [PyData.shown_int, Str.ofString_eq_toList]
  show (List.map Char.toNat (toString i).toList).toArray.size ≤ K + 1
  rw [List.size_toArray, List.length_map]
  exact int_text_length_le hK h
theorem sum_two (ts : List Str) : ((ts.map (·.length)).sum + 2 * ts.length) = (ts.map fun t => t.length + 2).sum := by
  induction ts with
  | nil => rfl
  | cons t r ih => simp only [List.map_cons, List.sum_cons, List.length_cons]; omega
mutual
theorem pd_good {K : Nat} (hK : 0 < K) (h2 : K ≤ 1920) : ∀ x : PV, pok K x = true → ∃ d, pd x = some d ∧ Good K (pnd x) d ∧ d.depth ≤ pdp x
  | .non, _ => ⟨_, rfl, ⟨rfl, rfl, by rw [PyData.shown_none]; show 4 + 2 ≤ (K + 12) * 1; omega, by decide +kernel⟩, Nat.le_refl _⟩
  | .bl b, _ => ⟨_, rfl, ⟨rfl, rfl, by
      have : (PyData.shown (.bool b)).length ≤ 5 := by cases b <;> decide
      show _ ≤ (K + 12) * 1
      omega, by cases b <;> decide +kernel⟩, Nat.le_refl _⟩
  | .int i, h => by
    have h1 : i.natAbs.log2 < K := by unfold pok at h; simpa using h
    have := int_len hK h1
    refine ⟨_, rfl, ⟨?_, rfl, by show _ ≤ (K + 12) * 1; omega, by rw [PyData.shown_int]; exact ok_ofS _⟩, Nat.le_refl _⟩
    simp [PyData.showable]; omega
  | .str s, h => by
    have h1 : ∀ c ∈ s, c < 1114112 := by unfold pok at h; simpa using h
    have := repr_str_le s h1
    refine ⟨_, rfl, ⟨rfl, rfl, ?_, by rw [PyData.shown_str]; exact ok_reprS s h1⟩, Nat.le_refl _⟩
    rw [PyData.shown_str]
    show _ ≤ (K + 12) * (s.length + 1)
    have q : 10 * s.length + 12 ≤ (K + 12) * (s.length + 1) := by
      have : 12 * (s.length + 1) ≤ (K + 12) * (s.length + 1) := Nat.mul_le_mul_right _ (by omega)
      omega
    omega
  | .tup xs, h => by
    obtain ⟨ds, e, g1, g2, g3, g4, g5⟩ := pds_good hK h2 xs (by unfold pok at h; exact h)
    refine ⟨.tuple ds, by simp [pd, e], ⟨by simpa [PyData.showable] using g1, by simpa [PyData.hasDict] using g2, ?_, ?_⟩, ?_⟩
    · have l := tupleText_len_le (PyData.shownAll ds)
      have s2 := sum_two (PyData.shownAll ds)
      show (tupleText (PyData.shownAll ds)).length + 2 ≤ (K + 12) * (pnds xs + 1)
      rw [Nat.mul_add]
      omega
    · show PyData.strOk (tupleText (PyData.shownAll ds)) = true
      exact ok_tuple _ g4
    · simp only [PyData.depth, pdp]; omega
theorem pds_good {K : Nat} (hK : 0 < K) (h2 : K ≤ 1920) : ∀ xs : List PV, poks K xs = true → ∃ ds, pds xs = some ds ∧ PyData.showableAll ds = true ∧ PyData.hasDictAll ds = false ∧ ((PyData.shownAll ds).map fun t => t.length + 2).sum ≤ (K + 12) * pnds xs ∧ (∀ t ∈ PyData.shownAll ds, PyData.strOk t = true) ∧ PyData.depthAll ds ≤ pdps xs
  | [], _ => ⟨[], rfl, rfl, rfl, Nat.le_refl _, (fun _ h => by simp [PyData.shownAll] at h), Nat.le_refl _⟩
  | x :: xs, h => by
    unfold poks at h
    rw [Bool.and_eq_true] at h
    obtain ⟨d, e, g, gd⟩ := pd_good hK h2 x h.1
    obtain ⟨ds, e2, g1, g2, g3, g4, g5⟩ := pds_good hK h2 xs h.2
    refine ⟨d :: ds, by simp [pds, e, e2], by simp [PyData.showableAll, g.s1, g1], by simp [PyData.hasDictAll, g.s2, g2], ?_, ?_, ?_⟩
    · simp only [PyData.shownAll, List.map_cons, List.sum_cons, pnds]
      have := g.s3
      rw [Nat.mul_add]
      omega
    · intro t ht
      simp only [PyData.shownAll] at ht
      rcases List.mem_cons.mp ht with rfl | q
      · exact g.s4
      · exact g4 t q
    · simp only [PyData.depthAll, pdps]; omega
end
section
variable {h : PH} {n K : Nat} {xs : List PV}
end
end MC

end
section
set_option maxRecDepth 100000
set_option maxHeartbeats 4000000
namespace MC
open PySem L2
section
variable {m : MF} {xs as : List PV} {h g hc : PH} {u v : PV} {fp live : List Nat} {os ns : List PO}
/-- a list of lists in a heap -/
def LL (h : PH) (v : PV) (zss : List (List PV)) : Prop := ∃ (i : Nat) (js : List Nat), v = .ref i ∧ h[i]? = some (.lst (js.map PV.ref)) ∧ (i :: js).Nodup ∧ js.length = zss.length ∧ ∀ (t j : Nat), js[t]? = some j → ∃ zs, zss[t]? = some zs ∧ h[j]? = some (.lst zs) ∧ noRefs zs = true
end
end MC

end
section
set_option maxRecDepth 100000
set_option maxHeartbeats 4000000
namespace MM
open PySem L2 MC
def gl (n : Int) (v : PV) : Prop := v = .non ∨ ∃ i, v = .int i ∧ 0 ≤ i ∧ i < n
def rowOk (n : Int) (L : Nat) (x : PV) : Prop := ∃ gs, x = .tup gs ∧ gs.length = L ∧ ∀ g ∈ gs, gl n g
theorem ints_noref : ∀ is : List Int, noRefs (is.map PV.int) = true
  | [] => rfl
  | i :: is => by
    rw [List.map_cons]
    unfold noRefs
    rw [ints_noref is]; rfl
/-- the ends: ever greater, within the stands -/
def endsOk (n : Int) (is : List Int) : Prop := is.Pairwise (· < ·) ∧ ∀ i ∈ is, 0 ≤ i ∧ i < n
/-- a machine's value -/
def mach (L : Nat) (rows : List PV) (is : List Int) : PV := .ins 0 [([108, 101, 116, 116, 101, 114, 115], .int L), ([97, 114, 114, 111, 119, 115], .tup rows), ([101, 110, 100, 115], .tup (is.map PV.int))]
structure MachOk (L : Nat) (rows : List PV) (is : List Int) : Prop where
  l1 : 1 ≤ L
  l5 : L ≤ 5
  n1 : 1 ≤ rows.length
  n8 : rows.length ≤ 8
  rws : ∀ r ∈ rows, rowOk rows.length L r
  ends : endsOk rows.length is
theorem lim_of {n : Nat} (h : n ≤ 1000) : n ≤ LIM := Nat.le_trans h (by decide)
section
variable {L : Nat} {rows : List PV} {is : List Int} {ws us : List (List Nat)}
end
end MM

end
section
set_option maxRecDepth 100000
set_option maxHeartbeats 4000000
namespace MC
open PySem L2
section
variable {β : Type} {h : PH} {n : Nat}
theorem app_c {xs : List PV} {v : PV} (e : h[n]? = some (.lst xs)) (hl : xs.length < LIM) : oAppend h [.ref n, v] = .ok .non (h.set n (.lst (xs ++ [v]))) := by
  simp only [oAppend, e, decide_eq_true hl, cond_true]
theorem len_seqI {n : Nat} : (seqI 0 n).length = n := by unfold seqI; rw [List.length_map, List.length_range]
theorem mem_seqI {n : Nat} {x : PV} (h : x ∈ seqI 0 n) : ∃ i : Nat, i < n ∧ x = .int i := by
  unfold seqI at h
  obtain ⟨i, hi, e⟩ := List.mem_map.mp h
  exact ⟨i, List.mem_range.mp hi, by rw [← e]; simp⟩
theorem inR_small {i : Int} (h0 : 0 ≤ i) (h1 : i ≤ 1000) : inR i = true := by unfold inR L62; simp; omega
theorem ix_last {xs : List PV} {x : PV} (e0 : h[n]? = some (.lst (xs ++ [x]))) : opIx h (.ref n) (.int (-1)) = .ok x h := by
  have : opIx h (.ref n) (.int (-1)) = ixL h (xs ++ [x]) (.int (-1)) := by simp [opIx, e0]
  rw [this]
  have z : L2.atI (xs ++ [x]) (-1) = some x := by
    unfold L2.atI
    have : ixN (xs ++ [x]).length (-1) = some xs.length := by unfold ixN; simp; omega
    rw [this]; simp
  show (match L2.atI (xs ++ [x]) (-1) with
    | some v => R.ok v h
    | none => .stuck) = _
  rw [z]
end
end MC
namespace MM
open PySem L2 MC
def ov : Option Nat → PV
  | none => .non
  | some g => .int g
def rowV (r : List (Option Nat)) : PV := .tup (r.map ov)
def rowsV (rs : List (List (Option Nat))) : List PV := rs.map rowV
def enI (es : List Nat) : List Int := es.map fun (e : Nat) => (e : Int)
def gsOf (rs : List (List (Option Nat))) (k : Nat) : List Nat := ((rs[k]?).getD []).filterMap id
/-- how many rows of t letters lead from stand k to an end -/
def Bt (rs : List (List (Option Nat))) (es : List Nat) : Nat → Nat → Nat
  | 0, k => if k ∈ es then 1 else 0
  | t + 1, k => ((gsOf rs k).map (Bt rs es t)).sum
def cnts (rs : List (List (Option Nat))) (es : List Nat) (t : Nat) : List PV := (List.range rs.length).map fun k => .int (Bt rs es t k)
section
variable {L : Nat} {rs : List (List (Option Nat))} {es : List Nat}
theorem rowsV_len : (rowsV rs).length = rs.length := by unfold rowsV; rw [List.length_map]
/-- a good machine, as data -/
def TO (L : Nat) (rs : List (List (Option Nat))) (es : List Nat) : Prop := MachOk L (rowsV rs) (enI es)
def mk (L : Nat) (rs : List (List (Option Nat))) (es : List Nat) : PV := mach L (rowsV rs) (enI es)
theorem TO.row (o : TO L rs es) {k : Nat} {r : List (Option Nat)} (e : rs[k]? = some r) : r.length = L ∧ ∀ g, some g ∈ r → g < rs.length := by
  have := o.rws (rowV r) (by unfold rowsV; exact List.mem_map.mpr ⟨r, List.mem_of_getElem? e, rfl⟩)
  obtain ⟨gs, q1, q2, q3⟩ := this
  have q1 : r.map ov = gs := by
    unfold rowV at q1
    exact PV.tup.inj q1
  subst q1
  refine ⟨by simpa using q2, fun g hg => ?_⟩
  have := q3 (ov (some g)) (List.mem_map.mpr ⟨_, hg, rfl⟩)
  rw [rowsV_len] at this
  rcases this with q | ⟨i, q, a, b⟩
  · cases q
  · have : (g : Int) = i := by unfold ov at q; exact PV.int.inj q
    omega
theorem TO.goals (o : TO L rs es) (k : Nat) : (gsOf rs k).length ≤ 5 ∧ ∀ g ∈ gsOf rs k, g < rs.length := by
  unfold gsOf
  cases e : rs[k]? with
  | none => exact ⟨Nat.zero_le _, fun _ h => nomatch h⟩
  | some r =>
    obtain ⟨l, h⟩ := o.row e
    refine ⟨?_, fun g hg => ?_⟩
    · have := List.length_filterMap_le id r
      have := o.l5
      show (r.filterMap id).length ≤ 5
      omega
    · obtain ⟨x, hx, q⟩ := List.mem_filterMap.mp hg
      have : x = some g := q
      exact h g (this ▸ hx)
theorem n8 (o : TO L rs es) : 1 ≤ rs.length ∧ rs.length ≤ 8 := by
  have h1 := o.n1
  have h8 := o.n8
  rw [rowsV_len] at h1 h8
  exact ⟨h1, h8⟩
/-- the list of lists that grows -/
def AC (rs : List (List (Option Nat))) (es : List Nat) (i : Nat) (h : PH) : Prop := ∃ js : List Nat, h[1]? = some (.lst (js.map PV.ref)) ∧ (1 :: js).Nodup ∧ js.length = i + 1 ∧ ∀ (t j : Nat), js[t]? = some j → h[j]? = some (.lst (cnts rs es t))
theorem AC.more {i : Nat} {h : PH} (hi : i < 300) : AC rs es i h → ∃ j, h[j]? = some (.lst (cnts rs es i)) ∧ isTy h 1 (.ref 1) = true ∧ opIx h (.ref 1) (.int (-1)) = .ok (.ref j) h ∧ ∃ h', oAppend (h ++ [PO.lst (cnts rs es (i + 1))]) [.ref 1, .ref h.length] = .ok .non h' ∧ AC rs es (i + 1) h' := by
  intro ⟨js, h1, nd, lj, hj⟩
  have nn := List.nodup_cons.mp nd
  obtain ⟨j, ej⟩ : ∃ j, js[i]? = some j := ⟨_, List.getElem?_eq_getElem (by omega)⟩
  have sp : js = js.take i ++ [j] := by
    have a : js.take (i + 1) = js := List.take_of_length_le (by omega)
    rw [List.take_add_one, ej] at a
    exact a.symm
  have spm : js.map PV.ref = (js.take i).map PV.ref ++ [.ref j] := by
    have := congrArg (List.map PV.ref) sp
    rw [List.map_append] at this
    exact this
  have l1 := (List.getElem?_eq_some_iff.mp h1).1
  refine ⟨j, hj i j ej, ty_lst h1, ix_last (xs := (js.take i).map PV.ref) (by rw [h1, spm]), _, app_c (get_app h1) (by rw [List.length_map]; exact Nat.lt_of_le_of_lt (show js.length ≤ 301 by omega) (by decide)), js ++ [h.length], ?_, ?_, by simp [lj], fun t k e => ?_⟩
  · rw [List.getElem?_set_self (by rw [List.length_append]; omega)]; simp
  · have lt : ∀ k ∈ js, k < h.length := fun k hk => by
      obtain ⟨t, et⟩ := List.mem_iff_getElem?.mp hk
      exact (List.getElem?_eq_some_iff.mp (hj t k et)).1
    refine List.nodup_cons.mpr ⟨?_, ?_⟩
    · intro q
      rcases List.mem_append.mp q with q | q
      · exact nn.1 q
      · have := List.mem_singleton.mp q
        omega
    · refine List.nodup_append.mpr ⟨nn.2, by simp, fun a ha b hb q => ?_⟩
      have := lt a ha
      rw [List.mem_singleton.mp hb] at q
      omega
  · have ne : ∀ k ∈ js, 1 ≠ k := fun k hk q => nn.1 (q ▸ hk)
    by_cases ht : t < js.length
    · rw [List.getElem?_append_left ht] at e
      rw [List.getElem?_set_ne (ne k (List.mem_of_getElem? e))]
      exact get_app (hj t k e)
    · rw [List.getElem?_append_right (by omega)] at e
      have : t - js.length = 0 := by
        rcases Nat.eq_zero_or_pos (t - js.length) with z | z
        · exact z
        · rw [List.getElem?_eq_none (by simp; omega)] at e; cases e
      rw [this] at e
      have e : h.length = k := by simpa using e
      subst e
      rw [List.getElem?_set_ne (by omega), show t = i + 1 by omega]
      simp
theorem _root_.MC.LL.two {h : PH} {v : PV} {zss : List (List PV)} (l : LL h v zss) {t k : Nat} {zs : List PV} {z : PV} (e : zss[t]? = some zs) (e2 : zs[k]? = some z) : ∃ j, opIx h v (.int t) = .ok (.ref j) h ∧ opIx h (.ref j) (.int k) = .ok z h := by
  obtain ⟨i, js, rfl, e0, nd, hlen, he⟩ := l
  have : t < js.length := by rw [hlen]; exact (List.getElem?_eq_some_iff.mp e).1
  obtain ⟨zs', q1, q2, q3⟩ := he t js[t] (List.getElem?_eq_getElem this)
  rw [e] at q1
  cases q1
  exact ⟨js[t], ix_ref e0 (by rw [List.getElem?_map, List.getElem?_eq_getElem this]; rfl), ix_ref q2 e2⟩
end
end MM

end
section
set_option maxRecDepth 100000
namespace MM
open PySem L2 MC
end MM

end
section
set_option maxRecDepth 100000
set_option maxHeartbeats 4000000
namespace MM
open PySem L2 MC
def dg (n : Int) (v : PV) : Prop := ∃ d, v = .int d ∧ 0 ≤ d ∧ d < n
/-- a plan: letters, rows, ends -/
def plnV (L : Nat) (rows : List PV) (is : List Int) : PV := .tup [.int L, .tup rows, .tup (is.map PV.int)]
def pl (L : Nat) (rs : List (List (Option Nat))) (es : List Nat) : PV := plnV L (rowsV rs) (enI es)
end MM

end
section
set_option maxRecDepth 100000
set_option maxHeartbeats 4000000
namespace MM
open PySem L2 MC
end MM

end
section
set_option maxRecDepth 100000
set_option maxHeartbeats 4000000
namespace MM
open PySem L2 MC
section
variable {L : Nat} {rs : List (List (Option Nat))} {es : List Nat}
end
end MM

end
section
set_option maxRecDepth 100000
set_option maxHeartbeats 4000000
namespace MC
open PySem L2
theorem cut_to {α : Type} (xs : List α) (j : Nat) : cutG xs none (some (j : Int)) = xs.take j := by
  unfold cutG
  rw [show HT.sIx xs.length 0 none = 0 from rfl, HT.sIx_nat]
  simp only [List.drop_zero, Nat.sub_zero]
  rw [← List.take_eq_take_min]
theorem len_scr {xs : List PV} {h : PH} : bLen h [.scr xs] = .ok (.int xs.length) h := by simp only [bLen, seqP]
theorem ix_scr {h : PH} {xs : List PV} {i : Nat} {x : PV} (e : xs[i]? = some x) : opIx h (.scr xs) (.int i) = .ok x h := by
  have z : L2.atI xs (i : Int) = some x := atI_nat e
  simp only [opIx, ixL, z]
theorem sl_scr {h : PH} {xs : List PV} {lo hi : Option Int} : opSl h (.scr xs) lo hi = .ok (.ref h.length) (h ++ [.lst (cutG xs lo hi)]) := by simp only [opSl]
end MC
namespace MM
open PySem L2 MC
theorem m61 (k : Int) (h : PH) : opMul h (.int k) (.int 61) = .ok (.int (k * 61)) h := v_mul (.inr (by decide))
/-- what all laws of this family begin with -/
theorem cases_five (ns : List Int) : ∃ n : Nat, (if 2 < (if (5 : Int) < (ns.length : Int) then 5 else (ns.length : Int)) then (if (5 : Int) < (ns.length : Int) then 5 else (ns.length : Int)) else 2) = (n : Int) ∧ n ≤ 5 := by
  by_cases h5 : (5 : Int) < (ns.length : Int)
  · simp only [h5, if_true]; exact ⟨5, rfl, by omega⟩
  · simp only [h5, if_false]
    by_cases h2 : (2 : Int) < (ns.length : Int)
    · simp only [h2, if_true]; exact ⟨ns.length, rfl, by omega⟩
    · simp only [h2, if_false]; exact ⟨2, rfl, by omega⟩
section
variable {L : Nat} {rs : List (List (Option Nat))} {es : List Nat}
end
end MM

end
section
set_option maxRecDepth 100000
set_option maxHeartbeats 4000000
namespace MC
open PySem L2
end MC
namespace MM
open PySem L2 MC
section
variable {L : Nat} {rs : List (List (Option Nat))} {es : List Nat} {K : Nat}
end
end MM

end
section
set_option maxRecDepth 100000
set_option maxHeartbeats 4000000
namespace MM
open PySem L2 MC
theorem pinch_ok (n : Int) (h0 : 0 < n) (h1 : n < B30) (a b c : Int) : ∃ d a' b' c', 0 ≤ d ∧ d < n ∧ m__law_pinch [.ref 0, .int n] [skd a b c] = .ok (.int d) [skd a' b' c'] := by
  have m1 : ∀ h (i : Int), opMul h (.int i) (.int 53047) = .ok (.int (i * 53047)) h := fun h i => v_mul (.inr (by decide))
  have m2 : ∀ h (i : Int), opMul h (.int i) (.int 80021) = .ok (.int (i * 80021)) h := fun h i => v_mul (.inr (by decide))
  have m3 : ∀ h (i : Int), opMul h (.int i) (.int 83) = .ok (.int (i * 83)) h := fun h i => v_mul (.inr (by decide))
  have ix0 : ∀ (a b c : Int), opIx [skd a b c] (.ref 0) (.int 0) = .ok (.int a) [skd a b c] := fun _ _ _ => rfl
  have ix1 : ∀ (a b c : Int), opIx [skd a b c] (.ref 0) (.int 1) = .ok (.int b) [skd a b c] := fun _ _ _ => rfl
  have ix2 : ∀ (a b c : Int), opIx [skd a b c] (.ref 0) (.int 2) = .ok (.int c) [skd a b c] := fun _ _ _ => rfl
  have p0 : ∀ (a b c x : Int), oSetIx [skd a b c] (.ref 0) (.int 0) (.int x) = .ok () [skd x b c] := fun _ _ _ _ => rfl
  have p1 : ∀ (a b c x : Int), oSetIx [skd a b c] (.ref 0) (.int 1) (.int x) = .ok () [skd a x c] := fun _ _ _ _ => rfl
  have p2 : ∀ (a b c x : Int), oSetIx [skd a b c] (.ref 0) (.int 2) (.int x) = .ok () [skd a b x] := fun _ _ _ _ => rfl
  by_cases hb : 0 < b
  · refine ⟨b % n, a + 4, b / n, c, Int.emod_nonneg _ (by omega), Int.emod_lt_of_pos _ h0, ?_⟩
    unfold m__law_pinch
    simp [b__law_pinch, ix0, ix1, p0, p1, hb, h0, h1]
  · refine ⟨((c * 53047 + (a + 4) * 80021 + c / 14009 * 83) % 1999999417 / 389) % n, a + 4, b, (c * 53047 + (a + 4) * 80021 + c / 14009 * 83) % 1999999417, Int.emod_nonneg _ (by omega), Int.emod_lt_of_pos _ h0, ?_⟩
    unfold m__law_pinch
    simp [b__law_pinch, ix0, ix1, ix2, p0, p1, p2, m1, m2, m3, hb, h0, h1]
theorem m73 (k : Int) (h : PH) : opMul h (.int 73) (.int k) = .ok (.int (73 * k)) h := v_mul (.inl (by decide))
theorem m2311 (k : Int) (h : PH) : opMul h (.int 2311) (.int k) = .ok (.int (2311 * k)) h := v_mul (.inl (by decide))
theorem m50021 (k : Int) (h : PH) : opMul h (.int k) (.int 50021) = .ok (.int (k * 50021)) h := v_mul (.inr (by decide))
theorem pow14 (h : PH) : opPow h (.int 10) (.int 14) = .ok (.int 100000000000000) h := by rfl
theorem sack_w (ns : List Int) (k : Nat) (hk : k ≤ 4) : Ws (m__law_sack [.scr (ns.map PV.int), .int k] []) fun v g => ∃ i a b c, v = .ref i ∧ g[i]? = some (skd a b c) := by
  unfold m__law_sack
  simp [b__law_sack, len_scr]
  refine Ws.bind (P := fun v g => g = [] ∧ ∃ o : Int, v = .int o) ?_ fun v g ⟨eg, o, ev⟩ => ?_
  · by_cases hl : k < ns.length
    · have e : ∀ h, opIx h (.scr (ns.map PV.int)) (.int (k : Int)) = .ok (.int ns[k]) h := fun h => ix_scr (by rw [List.getElem?_map, List.getElem?_eq_getElem hl]; rfl)
      simp [hl, e]
    · simp [hl, m73]
  · subst eg; subst ev
    have c14 : cutG (ns.map PV.int) none (some 14) = (ns.take 14).map PV.int := by
      have := cut_to (ns.map PV.int) 14
      rw [List.map_take]
      exact this
    simp [m2311, sl_scr, c14]
    simp only [← List.map_take]
    rw [src_ref (h := [PO.lst (List.map PV.int (ns.take 14))]) (n := 0) rfl]
    simp
    simp only [← List.map_take]
    refine forB (fun t e h => ∃ m x, e = [some (.scr (ns.map PV.int)), some (.int k), some (.int o), some (.int m), x] ∧ h = [PO.lst (List.map PV.int (ns.take 14))]) ⟨_, _, rfl, rfl⟩ (fun _ _ _ ⟨_, _, _, q⟩ => by rw [q]; exact watch_mk rfl) (fun t x env h hx ⟨m, y, ee, eh⟩ => ?_) fun env h ⟨m, y, ee, eh⟩ => ?_
    · subst ee; subst eh
      rw [List.getElem?_map] at hx
      obtain ⟨z, _, rfl⟩ := Option.map_eq_some_iff.mp hx
      simp [m50021]
    · subst ee; subst eh
      simp [pow14, m61]
      by_cases h1 : o < 0
      · simp [h1, LIM, pow14, m61]
        exact ⟨_, _, _, rfl⟩
      · simp [h1]
        by_cases h2 : 100000000000000 ≤ o
        · simp [h2, LIM, pow14, m61]
          exact ⟨_, _, _, rfl⟩
        · simp [h2, LIM, pow14, m61]
          exact ⟨_, _, _, rfl⟩
theorem sack_c (ns : List Int) (k : Nat) (hk : k ≤ 4) (h : PH) : ∃ a b c, callG takeBack m__law_sack [.scr (ns.map PV.int), .int k] h = .ok (.ref h.length) (h ++ [skd a b c]) := by
  obtain ⟨v, g, e, i, a, b, c, rfl, hg⟩ := sack_w ns k hk
  exact ⟨a, b, c, call_newl (ys := [.int a, .int b, .int c]) (by simp [noRefs, noRef, ints_noref]) e hg (by rfl)⟩
end MM

end
section
set_option maxRecDepth 100000
set_option maxHeartbeats 4000000
namespace MC
open PySem L2
section
variable {m : MF} {xs as : List PV} {h g : PH} {v : PV}
end
end MC
namespace MM
open PySem L2 MC
def smp : PV → Bool
  | .non => true
  | .bl _ => true
  | .int _ => true
  | .str _ => true
  | .tup xs => noRefs xs
  | _ => false
theorem smp_no {x : PV} (h : smp x = true) : noRef x = true := by
  cases x <;> first | rfl | (unfold smp at h; unfold noRef; exact h) | cases h
def okA : PV → Bool
  | .int i => decide (0 ≤ i) && decide (i ≤ 300)
  | _ => false
section
variable {L : Nat} {rs : List (List (Option Nat))} {es : List Nat}
end
end MM

end
section
set_option maxRecDepth 100000
set_option maxHeartbeats 4000000
namespace MC
open PySem L2

mutual
theorem ren_tot {f : Nat → Option Nat} : ∀ x : PV, (∀ n ∈ refsV x, ∃ m, f n = some m) → ∃ y, renV f x = some y
  | .non, _ | .bl _, _ | .int _, _ | .str _, _ | .gl _, _ => by unfold renV; exact ⟨_, rfl⟩
  | .tup xs, h => by
    obtain ⟨ys, e⟩ := rens_tot xs (by unfold refsV at h; exact h)
    unfold renV; rw [e]; exact ⟨_, rfl⟩
  | .scr xs, h => by
    obtain ⟨ys, e⟩ := rens_tot xs (by unfold refsV at h; exact h)
    unfold renV; rw [e]; exact ⟨_, rfl⟩
  | .rdic xs, h => by
    obtain ⟨ys, e⟩ := renk_tot xs (by unfold refsV at h; exact h)
    unfold renV; rw [e]; exact ⟨_, rfl⟩
  | .ins c fs, h => by
    obtain ⟨ys, e⟩ := renf_tot fs (by unfold refsV at h; exact h)
    unfold renV; rw [e]; exact ⟨_, rfl⟩
  | .exn c fs, h => by
    obtain ⟨ys, e⟩ := renf_tot fs (by unfold refsV at h; exact h)
    unfold renV; rw [e]; exact ⟨_, rfl⟩
  | .exv c fs, h => by
    obtain ⟨ys, e⟩ := renf_tot fs (by unfold refsV at h; exact h)
    unfold renV; rw [e]; exact ⟨_, rfl⟩
  | .ref n, h => by
    obtain ⟨m, e⟩ := h n (by unfold refsV; exact List.mem_singleton.mpr rfl)
    unfold renV; rw [e]; exact ⟨_, rfl⟩
theorem rens_tot {f : Nat → Option Nat} : ∀ x : List PV, (∀ n ∈ refsVs x, ∃ m, f n = some m) → ∃ y, renVs f x = some y
  | [], _ => by unfold renVs; exact ⟨_, rfl⟩
  | x :: xs, h => by
    unfold refsVs at h
    obtain ⟨y, e1⟩ := ren_tot x fun n hn => h n (List.mem_append_left _ hn)
    obtain ⟨ys, e2⟩ := rens_tot xs fun n hn => h n (List.mem_append_right _ hn)
    unfold renVs; rw [e1, e2]; exact ⟨_, rfl⟩
theorem renk_tot {f : Nat → Option Nat} : ∀ x : List (PV × PV), (∀ n ∈ refsK x, ∃ m, f n = some m) → ∃ y, renK f x = some y
  | [], _ => by unfold renK; exact ⟨_, rfl⟩
  | (k, x) :: xs, h => by
    unfold refsK at h
    obtain ⟨y, e1⟩ := ren_tot x fun n hn => h n (List.mem_append_left _ hn)
    obtain ⟨ys, e2⟩ := renk_tot xs fun n hn => h n (List.mem_append_right _ hn)
    unfold renK; rw [e1, e2]; exact ⟨_, rfl⟩
theorem renf_tot {f : Nat → Option Nat} : ∀ x : List (Nm × PV), (∀ n ∈ refsF x, ∃ m, f n = some m) → ∃ y, renF f x = some y
  | [], _ => by unfold renF; exact ⟨_, rfl⟩
  | (k, x) :: xs, h => by
    unfold refsF at h
    obtain ⟨y, e1⟩ := ren_tot x fun n hn => h n (List.mem_append_left _ hn)
    obtain ⟨ys, e2⟩ := renf_tot xs fun n hn => h n (List.mem_append_right _ hn)
    unfold renF; rw [e1, e2]; exact ⟨_, rfl⟩
end
mutual
/-- what was renamed leads to renamed objects, comes back, and leads to as many -/
theorem ren_back {f b : Nat → Option Nat} (hb : ∀ n m, f n = some m → b m = some n) : ∀ (x y : PV), renV f x = some y → renV b y = some x ∧ (∀ m ∈ refsV y, ∃ n ∈ refsV x, f n = some m) ∧ (refsV y).length = (refsV x).length
  | .non, y, e | .bl _, y, e | .int _, y, e | .str _, y, e | .gl _, y, e => by unfold renV at e; cases e; exact ⟨by unfold renV; rfl, fun m hm => (by unfold refsV at hm; cases hm), rfl⟩
  | .tup xs, y, e => by
    unfold renV at e
    cases q : renVs f xs with
    | none => rw [q] at e; cases e
    | some ys =>
      rw [q] at e; cases e
      obtain ⟨a, c, d⟩ := rens_back hb xs ys q
      exact ⟨by unfold renV; rw [a], by unfold refsV; exact c, by unfold refsV; exact d⟩
  | .scr xs, y, e => by
    unfold renV at e
    cases q : renVs f xs with
    | none => rw [q] at e; cases e
    | some ys =>
      rw [q] at e; cases e
      obtain ⟨a, c, d⟩ := rens_back hb xs ys q
      exact ⟨by unfold renV; rw [a], by unfold refsV; exact c, by unfold refsV; exact d⟩
  | .rdic xs, y, e => by
    unfold renV at e
    cases q : renK f xs with
    | none => rw [q] at e; cases e
    | some ys =>
      rw [q] at e; cases e
      obtain ⟨a, c, d⟩ := renk_back hb xs ys q
      exact ⟨by unfold renV; rw [a], by unfold refsV; exact c, by unfold refsV; exact d⟩
  | .ins k xs, y, e => by
    unfold renV at e
    cases q : renF f xs with
    | none => rw [q] at e; cases e
    | some ys =>
      rw [q] at e; cases e
      obtain ⟨a, c, d⟩ := renf_back hb xs ys q
      exact ⟨by unfold renV; rw [a], by unfold refsV; exact c, by unfold refsV; exact d⟩
  | .exn k xs, y, e => by
    unfold renV at e
    cases q : renF f xs with
    | none => rw [q] at e; cases e
    | some ys =>
      rw [q] at e; cases e
      obtain ⟨a, c, d⟩ := renf_back hb xs ys q
      exact ⟨by unfold renV; rw [a], by unfold refsV; exact c, by unfold refsV; exact d⟩
  | .exv k xs, y, e => by
    unfold renV at e
    cases q : renF f xs with
    | none => rw [q] at e; cases e
    | some ys =>
      rw [q] at e; cases e
      obtain ⟨a, c, d⟩ := renf_back hb xs ys q
      exact ⟨by unfold renV; rw [a], by unfold refsV; exact c, by unfold refsV; exact d⟩
  | .ref n, y, e => by
    unfold renV at e
    cases q : f n with
    | none => rw [q] at e; cases e
    | some m =>
      rw [q] at e; cases e
      refine ⟨by unfold renV; rw [hb n m q], fun k hk => ?_, by unfold refsV; rfl⟩
      unfold refsV at hk ⊢
      rw [List.mem_singleton.mp hk]
      exact ⟨n, List.mem_singleton.mpr rfl, q⟩
theorem rens_back {f b : Nat → Option Nat} (hb : ∀ n m, f n = some m → b m = some n) : ∀ (x y : List PV), renVs f x = some y → renVs b y = some x ∧ (∀ m ∈ refsVs y, ∃ n ∈ refsVs x, f n = some m) ∧ (refsVs y).length = (refsVs x).length
  | [], y, e => by unfold renVs at e; cases e; exact ⟨by unfold renVs; rfl, fun m hm => (by unfold refsVs at hm; cases hm), rfl⟩
  | x :: xs, y, e => by
    unfold renVs at e
    cases q1 : renV f x with
    | none => rw [q1] at e; cases e
    | some y1 =>
      cases q2 : renVs f xs with
      | none => rw [q1, q2] at e; cases e
      | some ys =>
        rw [q1, q2] at e; cases e
        obtain ⟨a1, c1, d1⟩ := ren_back hb x y1 q1
        obtain ⟨a2, c2, d2⟩ := rens_back hb xs ys q2
        refine ⟨by unfold renVs; rw [a1, a2], fun m hm => ?_, by unfold refsVs; rw [List.length_append, List.length_append, d1, d2]⟩
        unfold refsVs at hm ⊢
        rcases List.mem_append.mp hm with z | z
        · obtain ⟨n, h1, h2⟩ := c1 m z; exact ⟨n, List.mem_append_left _ h1, h2⟩
        · obtain ⟨n, h1, h2⟩ := c2 m z; exact ⟨n, List.mem_append_right _ h1, h2⟩
theorem renk_back {f b : Nat → Option Nat} (hb : ∀ n m, f n = some m → b m = some n) : ∀ (x y : List (PV × PV)), renK f x = some y → renK b y = some x ∧ (∀ m ∈ refsK y, ∃ n ∈ refsK x, f n = some m) ∧ (refsK y).length = (refsK x).length
  | [], y, e => by unfold renK at e; cases e; exact ⟨by unfold renK; rfl, fun m hm => (by unfold refsK at hm; cases hm), rfl⟩
  | (k, x) :: xs, y, e => by
    unfold renK at e
    cases q1 : renV f x with
    | none => rw [q1] at e; cases e
    | some y1 =>
      cases q2 : renK f xs with
      | none => rw [q1, q2] at e; cases e
      | some ys =>
        rw [q1, q2] at e; cases e
        obtain ⟨a1, c1, d1⟩ := ren_back hb x y1 q1
        obtain ⟨a2, c2, d2⟩ := renk_back hb xs ys q2
        refine ⟨by unfold renK; rw [a1, a2], fun m hm => ?_, by unfold refsK; rw [List.length_append, List.length_append, d1, d2]⟩
        unfold refsK at hm ⊢
        rcases List.mem_append.mp hm with z | z
        · obtain ⟨n, h1, h2⟩ := c1 m z; exact ⟨n, List.mem_append_left _ h1, h2⟩
        · obtain ⟨n, h1, h2⟩ := c2 m z; exact ⟨n, List.mem_append_right _ h1, h2⟩
theorem renf_back {f b : Nat → Option Nat} (hb : ∀ n m, f n = some m → b m = some n) : ∀ (x y : List (Nm × PV)), renF f x = some y → renF b y = some x ∧ (∀ m ∈ refsF y, ∃ n ∈ refsF x, f n = some m) ∧ (refsF y).length = (refsF x).length
  | [], y, e => by unfold renF at e; cases e; exact ⟨by unfold renF; rfl, fun m hm => (by unfold refsF at hm; cases hm), rfl⟩
  | (k, x) :: xs, y, e => by
    unfold renF at e
    cases q1 : renV f x with
    | none => rw [q1] at e; cases e
    | some y1 =>
      cases q2 : renF f xs with
      | none => rw [q1, q2] at e; cases e
      | some ys =>
        rw [q1, q2] at e; cases e
        obtain ⟨a1, c1, d1⟩ := ren_back hb x y1 q1
        obtain ⟨a2, c2, d2⟩ := renf_back hb xs ys q2
        refine ⟨by unfold renF; rw [a1, a2], fun m hm => ?_, by unfold refsF; rw [List.length_append, List.length_append, d1, d2]⟩
        unfold refsF at hm ⊢
        rcases List.mem_append.mp hm with z | z
        · obtain ⟨n, h1, h2⟩ := c1 m z; exact ⟨n, List.mem_append_left _ h1, h2⟩
        · obtain ⟨n, h1, h2⟩ := c2 m z; exact ⟨n, List.mem_append_right _ h1, h2⟩
end
end MC

end
section
set_option maxRecDepth 100000
set_option maxHeartbeats 4000000
namespace MC
open PySem L2
end MC
namespace MM
open PySem L2 MC
end MM

end
section
set_option maxRecDepth 100000
set_option maxHeartbeats 4000000
namespace MC
open PySem L2
/-- an object that leads to no other -/
def Flat (o : PO) : Prop := refsO o = [] ∧ ∀ f, renO f o = some o
theorem flat_l {ys : List PV} (hy : noRefs ys = true) : Flat (.lst ys) := flatO_of hy
section
variable {m : MF} {xs as : List PV} {h g hc : PH} {u v : PV}
end
end MC

end
section
set_option maxRecDepth 100000
set_option maxHeartbeats 4000000
namespace MM
open PySem L2 MC
def stepG (rs : List (List (Option Nat))) (k p : Nat) : Option Nat := ((((rs[k]?).getD [])[p]?).getD none)
section
variable {L : Nat} {rs : List (List (Option Nat))} {es : List Nat}
def bk (ws : List (List Nat)) : PV := .tup (ws.map PV.str)
end
end MM

end
section
set_option maxRecDepth 100000
set_option maxHeartbeats 4000000
namespace MM
open PySem L2 MC
section
variable {L : Nat} {rs : List (List (Option Nat))} {es : List Nat}
end
end MM

end
section
set_option maxRecDepth 100000
set_option maxHeartbeats 4000000
namespace MM
open PySem L2 MC
end MM

end
section
set_option maxRecDepth 100000
set_option maxHeartbeats 4000000
namespace MM
open PySem L2 MC
end MM

end
section
set_option maxRecDepth 100000
set_option maxHeartbeats 4000000
namespace MM
open PySem L2 MC
end MM

end
section
set_option maxRecDepth 100000
set_option maxHeartbeats 4000000
namespace MM
open PySem L2 MC
section
variable {L : Nat} {rs : List (List (Option Nat))} {es : List Nat}
end
end MM

end
section
set_option maxRecDepth 100000
set_option maxHeartbeats 4000000
namespace MC
open PySem L2
end MC
namespace MM
open PySem L2 MC
section
variable {L : Nat} {rs : List (List (Option Nat))} {es : List Nat}
/-- the goals of a stand -/
def succ (rs : List (List (Option Nat))) (j g : Nat) : Prop := ∃ p, stepG rs j p = some g
end
end MM
namespace MC
open PySem L2
end MC
namespace MM
open PySem L2 MC
end MM

end
section
set_option maxRecDepth 100000
set_option maxHeartbeats 4000000
namespace MM
open PySem L2 MC
section
variable {L : Nat} {rs : List (List (Option Nat))} {es : List Nat}
end
end MM

end
section
set_option maxRecDepth 100000
set_option maxHeartbeats 4000000
namespace MM
open PySem L2 MC
section
variable {L : Nat} {rs : List (List (Option Nat))} {es : List Nat}
end
end MM

end
section
set_option maxRecDepth 100000
set_option maxHeartbeats 4000000
namespace MM
open PySem L2 MC
section
variable {L : Nat} {rs : List (List (Option Nat))} {es : List Nat}
def tA (x : Nat × Nat × Nat) : PV := .tup [.int x.1, .int x.2.1, .int x.2.2]
end
end MM

end
section
set_option maxRecDepth 100000
set_option maxHeartbeats 4000000
namespace MM
open PySem L2 MC
end MM

end
section
set_option maxRecDepth 100000
set_option maxHeartbeats 4000000
namespace MM
open PySem L2 MC
section
variable {L : Nat} {rs : List (List (Option Nat))} {es : List Nat}
end
end MM

end
section
set_option maxRecDepth 100000
set_option maxHeartbeats 4000000
namespace MM
open PySem L2 MC
section
variable {L : Nat} {rs : List (List (Option Nat))} {es : List Nat}
theorem smps_no {xs : List PV} (hx : ∀ x ∈ xs, smp x = true) : noRefs xs = true := by
  induction xs with
  | nil => rfl
  | cons x xs ih =>
    show (noRef x && noRefs xs) = true
    rw [smp_no (hx x List.mem_cons_self), ih fun y hy => hx y (List.mem_cons_of_mem _ hy)]; rfl
end
end MM

end
section
set_option maxRecDepth 100000
set_option maxHeartbeats 4000000
namespace MC
open PySem L2
section
variable {m : MF} {xs as : List PV} {h g hc : PH} {u v : PV}
end
end MC

end
section
set_option maxRecDepth 100000
set_option maxHeartbeats 4000000
namespace MM
open PySem L2 MC
/-- a plain list -/
def LF (h : PH) (n : Nat) : Prop := ∃ ys, h[n]? = some (.lst ys) ∧ noRefs ys = true
section
variable {L : Nat} {rs : List (List (Option Nat))} {es : List Nat}
/-- a page that is no tuple -/
def NT (z : PV) (h : PH) : Prop := z = .non ∨ ∃ n o k, z = .ref n ∧ h[n]? = some o ∧ Flat o ∧ (k = 5 ∨ k = 6) ∧ kindP [o] (.ref 0) = some (.inl k)
end
end MM

end
section
set_option maxRecDepth 100000
set_option maxHeartbeats 4000000
namespace MM
open PySem L2 MC
def iv (xs : List PV) (j : Nat) : Int := match xs[j]? with
  | some (.int i) => i
  | _ => 0
section
variable {L : Nat} {rs : List (List (Option Nat))} {es : List Nat}
end
end MM

end
section
set_option maxRecDepth 100000
set_option maxHeartbeats 4000000
namespace MM
open PySem L2 MC
/-- a dict of numbers with values -/
def dv (kvs : List (Nat × PV)) : List (PV × PV) := kvs.map fun p => (.int p.1, p.2)
end MM
namespace MM
open PySem L2 MC
end MM

end
section
set_option maxRecDepth 100000
set_option maxHeartbeats 4000000
namespace MM
open PySem L2 MC
def smps (xs : List PV) : Prop := ∀ x ∈ xs, smp x = true
/-- a page: a plain tuple, one with an empty list in it, or no tuple -/
def PgX (z : PV) (h : PH) : Prop := (∃ ys, z = .tup ys ∧ smps ys) ∨ (∃ pre post n, z = .tup (pre ++ .ref n :: post) ∧ smps pre ∧ smps post ∧ LF h n) ∨ NT z h
/-- the same, at no place of the draws -/
def PgN (z : PV) (h : PH) : Prop := PgX z h ∧ ∀ i ∈ refsV z, i ≠ 0
theorem refss_app : ∀ xs ys : List PV, refsVs (xs ++ ys) = refsVs xs ++ refsVs ys
  | [], _ => rfl
  | x :: xs, ys => by
    show refsV x ++ refsVs (xs ++ ys) = (refsV x ++ refsVs xs) ++ refsVs ys
    rw [refss_app xs ys, List.append_assoc]
theorem renVs_app {f : Nat → Option Nat} {xs ys us ws : List PV} (e : renVs f xs = some us) (e2 : renVs f ys = some ws) : renVs f (xs ++ ys) = some (us ++ ws) := by
  induction xs generalizing us with
  | nil => unfold renVs at e; cases e; exact e2
  | cons x xs ih =>
    unfold renVs at e
    cases h1 : renV f x with
    | none => rw [h1] at e; cases e
    | some u =>
      cases h2 : renVs f xs with
      | none => rw [h1, h2] at e; cases e
      | some us' =>
        rw [h1, h2] at e
        cases e
        rw [List.cons_append]
        unfold renVs
        rw [h1, ih h2]; rfl
theorem ref_mid {pre post : List PV} {n : Nat} (p : smps pre) (q : smps post) : refsV (.tup (pre ++ .ref n :: post)) = [n] := by
  unfold refsV
  rw [refss_app, refss_no pre (smps_no p)]
  show [] ++ (refsV (.ref n) ++ refsVs post) = _
  rw [refss_no post (smps_no q)]
  simp [refsV]
theorem ren_mid {pre post : List PV} {n k : Nat} {f : Nat → Option Nat} (p : smps pre) (q : smps post) (e : f n = some k) : renV f (.tup (pre ++ .ref n :: post)) = some (.tup (pre ++ .ref k :: post)) := by
  have : renVs f (pre ++ .ref n :: post) = some (pre ++ .ref k :: post) := renVs_app (rens_no f pre (smps_no p)) (by
    unfold renVs
    rw [rens_no f post (smps_no q)]
    simp [renV, e])
  unfold renV
  rw [this]
theorem PgN.ok {v : PV} {g : PH} (p : PgN v g) : (refsV v).length ≤ 100 ∧ ∀ i ∈ refsV v, i ≠ 0 ∧ ∃ o, g[i]? = some o ∧ Flat o := by
  obtain ⟨q, nz⟩ := p
  rcases q with ⟨ys, rfl, h⟩ | ⟨pre, post, n, rfl, h1, h2, h3⟩ | rfl | ⟨n, o, k, rfl, e, fo, _⟩
  · have : refsV (.tup ys) = [] := refs_no _ (by show noRefs ys = true; exact smps_no h)
    rw [this]
    exact ⟨Nat.zero_le _, fun _ z => nomatch z⟩
  · rw [ref_mid h1 h2] at nz ⊢
    exact ⟨by simp, fun i hi => ⟨nz i hi, by rw [List.mem_singleton.mp hi]; obtain ⟨ys, h3, ny⟩ := h3; exact ⟨_, h3, flat_l ny⟩⟩⟩
  · exact ⟨Nat.zero_le _, fun _ z => nomatch z⟩
  · have : refsV (.ref n) = [n] := by simp [refsV]
    rw [this] at nz ⊢
    exact ⟨by simp, fun i hi => ⟨nz i hi, by rw [List.mem_singleton.mp hi]; exact ⟨_, e, fo⟩⟩⟩
theorem PgX.ren {v x : PV} {g h' : PH} {f : Nat → Option Nat} (p : PgX v g) (e : renV f v = some x) (hf : ∀ i ∈ refsV v, ∃ k, f i = some k ∧ h'[k]? = g[i]?) : PgX x h' := by
  rcases p with ⟨ys, rfl, h⟩ | ⟨pre, post, n, rfl, h1, h2, h3⟩ | rfl | ⟨n, o, k, rfl, e0, fo, hk, kd⟩
  · rw [ren_no f _ (by show noRefs ys = true; exact smps_no h)] at e
    cases e
    exact .inl ⟨ys, rfl, h⟩
  · obtain ⟨k, fk, hk⟩ := hf n (by rw [ref_mid h1 h2]; simp)
    rw [ren_mid h1 h2 fk] at e
    cases e
    obtain ⟨ys, h3, ny⟩ := h3
    exact .inr (.inl ⟨pre, post, k, rfl, h1, h2, ys, hk.trans h3, ny⟩)
  · simp [renV] at e
    subst e
    exact .inr (.inr (.inl rfl))
  · obtain ⟨k', fk, hk'⟩ := hf n (by simp [refsV])
    simp [renV, fk] at e
    subst e
    exact .inr (.inr (.inr ⟨k', o, k, rfl, hk'.trans e0, fo, hk, kd⟩))
theorem PgX.same {z : PV} {h h' : PH} (p : PgX z h) (s : ∀ i ∈ refsV z, h'[i]? = h[i]?) : PgX z h' := by
  rcases p with p | ⟨pre, post, n, rfl, h1, h2, h3⟩ | e | ⟨n, o, k, rfl, e0, q⟩
  · exact .inl p
  · obtain ⟨ys, h3, ny⟩ := h3
    exact .inr (.inl ⟨pre, post, n, rfl, h1, h2, ys, (s n (by rw [ref_mid h1 h2]; simp)).trans h3, ny⟩)
  · exact .inr (.inr (.inl e))
  · exact .inr (.inr (.inr ⟨n, o, k, rfl, (s n (by simp [refsV])).trans e0, q⟩))
end MM

end
section
set_option maxRecDepth 100000
set_option maxHeartbeats 4000000
namespace MM
open PySem L2 MC
section
variable {L : Nat} {rs : List (List (Option Nat))} {es : List Nat}
end
end MM

end
section
set_option maxRecDepth 100000
set_option maxHeartbeats 4000000
namespace MM
open PySem L2 MC
end MM

end
section
set_option maxRecDepth 100000
set_option maxHeartbeats 4000000
namespace MC
open PySem L2
section
variable {m : MF} {xs as : List PV} {h g hc : PH} {u v : PV}
/-- what hangs on a value z alone: its references and its renaming -/
structure Tpl (T : PV → List PV) : Prop where
  refs : ∀ z k, k ∈ refsVs (T z) → k ∈ refsV z
  ne : ∀ z, refsV z ≠ [] → refsVs (T z) ≠ []
  len : ∀ z, (refsV z).length ≤ 1 → (refsVs (T z)).length ≤ 300
  ren : ∀ f z z', renV f z = some z' → renVs f (T z) = some (T z')
  no : ∀ z, noRef z = true → noRefs (T z) = true
/-- a value that is bad in any heap: plain, or with one flat object in it -/
def BadP (P : PV → PH → Prop) (z : PV) (h : PH) : Prop := (noRef z = true ∧ ∀ h, P z h) ∨ ∃ (B : Nat → PV) (n : Nat) (o : PO), z = B n ∧ h[n]? = some o ∧ Flat o ∧ (∀ n, refsV (B n) = [n]) ∧ (∀ f n q, f n = some q → renV f (B n) = some (B q)) ∧ ∀ h n, h[n]? = some o → P (B n) h
theorem BadP.p {P : PV → PH → Prop} {z : PV} {h : PH} (b : BadP P z h) : P z h := by
  rcases b with ⟨_, q⟩ | ⟨B, n, o, rfl, e, _, _, _, q⟩
  · exact q h
  · exact q h n e
end
end MC

end
section
set_option maxRecDepth 100000
set_option maxHeartbeats 4000000
namespace MC
open PySem L2
/-- a bad value stays bad where it is handed over -/
theorem BadP.ren {P : PV → PH → Prop} {z z' : PV} {h hc : PH} {f : Nat → Option Nat} (b : BadP P z h) (tot : ∀ n ∈ refsV z, ∃ q, f n = some q) (r : renV f z = some z') (p : ∀ n q, f n = some q → ∃ o, hc[q]? = some o ∧ pick h f n = some o) : BadP P z' hc := by
  rcases b with ⟨nz, q⟩ | ⟨B, n, o, rfl, e, fo, b1, b2, q⟩
  · rw [ren_no _ _ nz] at r
    cases r
    exact .inl ⟨nz, q⟩
  · cases fn : f n with
    | none =>
      obtain ⟨m, em⟩ := tot n (by rw [b1]; simp)
      rw [fn] at em; cases em
    | some m =>
      rw [b2 f n m fn] at r
      cases r
      obtain ⟨o', h1, h2⟩ := p n m fn
      refine .inr ⟨B, m, o, rfl, ?_, fo, b1, b2, q⟩
      unfold pick at h2
      rw [e] at h2
      rw [h1]
      exact h2.symm.trans (fo.2 f)
theorem BadP.keep {P : PV → PH → Prop} {z : PV} {h g : PH} (b : BadP P z h) (k : ∀ i o, i ∈ refsV z → h[i]? = some o → g[i]? = some o) : BadP P z g := by
  rcases b with ⟨nz, q⟩ | ⟨B, n, o, rfl, e, fo, b1, b2, q⟩
  · exact .inl ⟨nz, q⟩
  · exact .inr ⟨B, n, o, rfl, k n o (by rw [b1]; simp) e, fo, b1, b2, q⟩
theorem BadP.flat {P : PV → PH → Prop} {z : PV} {h : PH} (b : BadP P z h) : ∀ i ∈ refsV z, ∃ o, h[i]? = some o ∧ Flat o := by
  rcases b with ⟨nz, q⟩ | ⟨B, n, o, rfl, e, fo, b1, b2, q⟩
  · intro i hi; rw [refs_no _ nz] at hi; cases hi
  · intro i hi; rw [b1] at hi; rw [List.mem_singleton.mp hi]; exact ⟨o, e, fo⟩
theorem BadP.len {P : PV → PH → Prop} {z : PV} {h : PH} (b : BadP P z h) : (refsV z).length ≤ 1 := by
  rcases b with ⟨nz, q⟩ | ⟨B, n, o, rfl, e, fo, b1, b2, q⟩
  · rw [refs_no _ nz]; exact Nat.zero_le _
  · rw [b1]; exact Nat.le_refl _
end MC
namespace MM
open PySem L2 MC
end MM

end
section
set_option maxRecDepth 100000
set_option maxHeartbeats 4000000
namespace MC
open PySem L2
/-- data of a value in a heap, with bounds of its text -/
structure HG (h : PH) (K n dp : Nat) (x : PV) (d : PyData) : Prop where
  td : ∀ m, dp < m → toDq h m x = some d
  s1 : d.showable = true
  s3 : d.shown.length + 2 ≤ (K + 12) * n
  s4 : PyData.strOk d.shown = true
  de : d.depth ≤ dp
structure HGs (h : PH) (K n dp : Nat) (xs : List PV) (ds : List PyData) : Prop where
  td : ∀ m, dp < m → mapO (toDq h m) xs = some ds
  s1 : PyData.showableAll ds = true
  s3 : ((PyData.shownAll ds).map fun t => t.length + 2).sum ≤ (K + 12) * n
  s4 : ∀ t ∈ PyData.shownAll ds, PyData.strOk t = true
  de : PyData.depthAll ds ≤ dp
def pdD (x : PV) : PyData := (pd x).getD .none
section
variable {h : PH} {K n m dp dq : Nat} {x : PV} {xs : List PV} {d : PyData} {ds : List PyData}
mutual
theorem toDq_pd (h : PH) : ∀ (n : Nat) (x : PV) (d : PyData), pd x = some d → pdp x < n → toDq h n x = some d
  | 0, _, _, _, l => absurd l (Nat.not_lt_zero _)
  | n + 1, .non, d, e, _ => by simpa [pd, toDq] using e
  | n + 1, .bl b, d, e, _ => by simpa [pd, toDq] using e
  | n + 1, .int i, d, e, _ => by simpa [pd, toDq] using e
  | n + 1, .str s, d, e, _ => by simpa [pd, toDq] using e
  | n + 1, .tup xs, d, e, l => by
    unfold pd at e
    simp only [pdp] at l
    cases e1 : pds xs with
    | none => rw [e1] at e; cases e
    | some ds =>
      rw [e1] at e
      show (mapO (toDq h n) xs).map .tuple = some d
      rw [toDqs_pd h n xs ds e1 (by omega)]
      exact e
  | _ + 1, .scr xs, _, e, _ | _ + 1, .rdic xs, _, e, _ | _ + 1, .ins _ fs, _, e, _ | _ + 1, .ref m, _, e, _ | _ + 1, .gl m, _, e, _ | _ + 1, .exn c fs, _, e, _ | _ + 1, .exv c fs, _, e, _ => by simp [pd] at e
theorem toDqs_pd (h : PH) : ∀ (n : Nat) (xs : List PV) (ds : List PyData), pds xs = some ds → pdps xs < n → mapO (toDq h n) xs = some ds
  | _, [], ds, e, _ => by simp only [pds] at e; rw [← Option.some.inj e]; rfl
  | n, y :: ys, ds, e, l => by
    simp only [pdps] at l
    unfold pds at e
    cases e1 : pd y with
    | none => rw [e1] at e; cases e
    | some d1 =>
      cases e2 : pds ys with
      | none => simp only [e1, e2] at e; cases e
      | some ds1 =>
        simp only [e1, e2] at e
        unfold mapO
        rw [toDq_pd h n y d1 e1 (by omega), toDqs_pd h n ys ds1 e2 (by omega)]
        exact e
end
theorem HG.pl (hK : 0 < K) (h2 : K ≤ 1920) (g : pok K x = true) : HG h K (pnd x) (pdp x) x (pdD x) := by
  obtain ⟨d, e, G, gd⟩ := pd_good hK h2 x g
  have : pdD x = d := by unfold pdD; rw [e]; rfl
  rw [this]
  exact ⟨fun m l => toDq_pd h m x d e l, G.s1, G.s3, G.s4, gd⟩
theorem HG.w (g : HG h K n dp x d) (l1 : n ≤ m) (l2 : dp ≤ dq) : HG h K m dq x d :=
  ⟨fun k l => g.td k (by omega), g.s1, Nat.le_trans g.s3 (Nat.mul_le_mul_left _ l1), g.s4, Nat.le_trans g.de l2⟩
theorem HGs.nil : HGs h K 0 dp [] [] := ⟨fun _ _ => rfl, rfl, Nat.le_refl _, (fun _ z => nomatch z), Nat.zero_le _⟩
theorem HGs.cons (g : HG h K n dp x d) (gs : HGs h K m dp xs ds) : HGs h K (n + m) dp (x :: xs) (d :: ds) where
  td := fun k l => by unfold mapO; rw [g.td k l, gs.td k l]
  s1 := by simp [PyData.showableAll, g.s1, gs.s1]
  s3 := by
    have h1 := g.s3
    have h2 := gs.s3
    simp only [PyData.shownAll, List.map_cons, List.sum_cons]
    rw [Nat.mul_add]; omega
  s4 := fun t ht => by
    simp only [PyData.shownAll] at ht
    rcases List.mem_cons.mp ht with rfl | q
    · exact g.s4
    · exact gs.s4 t q
  de := by have h1 := g.de; have h2 := gs.de; simp only [PyData.depthAll]; omega
theorem HG.lst {p : Nat} (e : h[p]? = some (.lst xs)) (gs : HGs h K n dp xs ds) : HG h K (n + 1) (dp + 1) (.ref p) (.list ds) where
  td := fun k l => by
    obtain ⟨j, rfl⟩ : ∃ j, k = j + 1 := ⟨k - 1, by omega⟩
    show (match h[p]? with
      | some (.lst xs) => (mapO (toDq h j) xs).map PyData.list
      | some (.dic false []) => some (.dict [])
      | _ => none) = _
    rw [e]
    simp only [gs.td j (by omega)]; rfl
  s1 := by simpa [PyData.showable] using gs.s1
  s3 := by
    have l := listText_len_le (PyData.shownAll ds)
    have s2 := sum_two (PyData.shownAll ds)
    have h1 := gs.s3
    show (listText (PyData.shownAll ds)).length + 2 ≤ (K + 12) * (n + 1)
    rw [Nat.mul_add]; omega
  s4 := ok_list _ gs.s4
  de := by have h1 := gs.de; simp only [PyData.depth]; omega
theorem HG.tup (gs : HGs h K n dp xs ds) : HG h K (n + 1) (dp + 1) (.tup xs) (.tuple ds) where
  td := fun k l => by
    obtain ⟨j, rfl⟩ : ∃ j, k = j + 1 := ⟨k - 1, by omega⟩
    show (mapO (toDq h j) xs).map PyData.tuple = _
    rw [gs.td j (by omega)]; rfl
  s1 := by simpa [PyData.showable] using gs.s1
  s3 := by
    have l := tupleText_len_le (PyData.shownAll ds)
    have s2 := sum_two (PyData.shownAll ds)
    have h1 := gs.s3
    show (tupleText (PyData.shownAll ds)).length + 2 ≤ (K + 12) * (n + 1)
    rw [Nat.mul_add]; omega
  s4 := ok_tuple _ gs.s4
  de := by have h1 := gs.de; simp only [PyData.depth]; omega
theorem HG.dic {p : Nat} (e : h[p]? = some (.dic false [])) : HG h K 1 1 (.ref p) (.dict []) where
  td := fun k l => by
    obtain ⟨j, rfl⟩ : ∃ j, k = j + 1 := ⟨k - 1, by omega⟩
    show (match h[p]? with
      | some (.lst xs) => (mapO (toDq h j) xs).map PyData.list
      | some (.dic false []) => some (.dict [])
      | _ => none) = _
    rw [e]
  s1 := rfl
  s3 := by show 2 + 2 ≤ (K + 12) * 1; omega
  s4 := by decide +kernel
  de := by decide

/-- the text of a list, a tuple or an empty dict by its data -/
theorem repr_q1 (g : HG h K n dp x d) (hr : isRefV x = true) (hd : dp < 20) (hl : (K + 12) * n ≤ LIM) : bReprQ h [x] = .ok (.str d.shown.cps.toList) h := by
  have e : toDq h DEP x = some d := g.td _ hd
  have hs := g.s3
  have hde := g.de
  have q : reprDq h x = some d.shown.cps.toList := by
    unfold reprDq
    rw [e]
    have l1 : d.depth ≤ 60 := by omega
    have l2 : d.shown.length ≤ LIM := by omega
    simp [g.s1, l1, l2]
  unfold bReprQ
  cases x <;> first | (cases hr; done) | (simp [isRefV, q])
theorem HG.okS (g : HG h K n dp x d) : PyData.strOk (S d.shown.cps.toList) = true := by rw [S_of]; exact g.s4
end

section
variable {α β : Type} {env : En} {h : PH}
@[simp] theorem bind_exc {c : Nat} {fs : List (Nm × PV)} {f : α → PH → R β} : (R.exc c fs h : R α).bind f = .exc c fs h := nd rfl
@[simp] theorem e_raise {c : Nat} {f : Nm} {m : ME} : mRaise c f m env h = (m env h).bind fun x h1 => .exc c [(f, x)] h1 := nd rfl
@[simp] theorem e_raise0 {c : Nat} : mRaise0 c env h = .exc c [] h := nd rfl
@[simp] theorem e_lam {N i : Nat} {hds : List Hd} {b : MS} {m : ME} : mLam N i hds b m env h = outR N i hds b (m env h) := nd rfl
end
/-- a value that is bad in any heap: plain, or with one flat object in it, perhaps more than once -/
def BadQ (P : PV → PH → Prop) (z : PV) (h : PH) : Prop := (noRef z = true ∧ ∀ h, P z h) ∨ ∃ (B : Nat → PV) (n : Nat) (o : PO), z = B n ∧ h[n]? = some o ∧ Flat o ∧ (∀ n, refsV (B n) ≠ [] ∧ (refsV (B n)).length ≤ 20 ∧ ∀ k ∈ refsV (B n), k = n) ∧ (∀ f n q, f n = some q → renV f (B n) = some (B q)) ∧ ∀ h n, h[n]? = some o → P (B n) h
section
variable {P Q : PV → PH → Prop} {z : PV} {h : PH}
theorem BadQ.p (b : BadQ P z h) : P z h := by
  rcases b with ⟨_, q⟩ | ⟨B, n, o, rfl, e, _, _, _, q⟩
  · exact q h
  · exact q h n e
theorem BadQ.imp (b : BadQ P z h) (i : ∀ z h, P z h → Q z h) : BadQ Q z h := by
  rcases b with ⟨n, q⟩ | ⟨B, n, o, e1, e2, e3, e4, e5, q⟩
  · exact .inl ⟨n, fun h => i _ _ (q h)⟩
  · exact .inr ⟨B, n, o, e1, e2, e3, e4, e5, fun h n e => i _ _ (q h n e)⟩
theorem BadQ.ren {z' : PV} {hc : PH} {f : Nat → Option Nat} (b : BadQ P z h) (tot : ∀ n ∈ refsV z, ∃ q, f n = some q) (r : renV f z = some z') (p : ∀ n q, n ∈ refsV z → f n = some q → ∃ o, hc[q]? = some o ∧ pick h f n = some o) : BadQ P z' hc := by
  rcases b with ⟨nz, q⟩ | ⟨B, n, o, rfl, e, fo, b1, b2, q⟩
  · rw [ren_no _ _ nz] at r
    cases r
    exact .inl ⟨nz, q⟩
  · obtain ⟨k, hk⟩ := List.exists_mem_of_ne_nil _ (b1 n).1
    have kn := (b1 n).2.2 k hk
    subst kn
    obtain ⟨m, fn⟩ := tot k hk
    rw [b2 f k m fn] at r
    cases r
    obtain ⟨o', h1, h2⟩ := p k m hk fn
    refine .inr ⟨B, m, o, rfl, ?_, fo, b1, b2, q⟩
    unfold pick at h2
    rw [e] at h2
    rw [h1]
    exact h2.symm.trans (fo.2 f)
theorem BadQ.keep {g : PH} (b : BadQ P z h) (k : ∀ i o, i ∈ refsV z → h[i]? = some o → g[i]? = some o) : BadQ P z g := by
  rcases b with ⟨nz, q⟩ | ⟨B, n, o, rfl, e, fo, b1, b2, q⟩
  · exact .inl ⟨nz, q⟩
  · obtain ⟨j, hj⟩ := List.exists_mem_of_ne_nil _ (b1 n).1
    have := (b1 n).2.2 j hj
    subst this
    exact .inr ⟨B, j, o, rfl, k j o hj e, fo, b1, b2, q⟩
theorem BadQ.flat (b : BadQ P z h) : ∀ i ∈ refsV z, ∃ o, h[i]? = some o ∧ Flat o := by
  rcases b with ⟨nz, q⟩ | ⟨B, n, o, rfl, e, fo, b1, b2, q⟩
  · intro i hi; rw [refs_no _ nz] at hi; cases hi
  · intro i hi; rw [(b1 n).2.2 i hi]; exact ⟨o, e, fo⟩
theorem BadQ.len (b : BadQ P z h) : (refsV z).length ≤ 20 := by
  rcases b with ⟨nz, q⟩ | ⟨B, n, o, rfl, e, fo, b1, b2, q⟩
  · rw [refs_no _ nz]; exact Nat.zero_le _
  · exact (b1 n).2.1
end
end MC

end
section
set_option maxRecDepth 100000
set_option maxHeartbeats 4000000
namespace MC
open PySem L2
/-- refs name lists in h that hold the rows, none of them at s -/
def Rw (h : PH) (s : Nat) : List PV → List (List PV) → Prop
  | [], [] => True
  | r :: rs, xs :: xss => (∃ m, r = .ref m ∧ m ≠ s ∧ h[m]? = some (.lst xs)) ∧ Rw h s rs xss
  | _, _ => False
theorem Rw.keep {h g : PH} {s t : Nat} : ∀ {rs : List PV} {xss : List (List PV)}, Rw h s rs xss → (∀ m o, m ≠ s → h[m]? = some o → m ≠ t ∧ g[m]? = some o) → Rw g t rs xss
  | [], [], _, _ => trivial
  | _ :: _, _ :: _, ⟨⟨m, e1, e2, e3⟩, r⟩, k => ⟨⟨m, e1, (k m _ e2 e3).1, (k m _ e2 e3).2⟩, r.keep k⟩
  | [], _ :: _, z, _ | _ :: _, [], z, _ => z.elim
theorem Rw.len {h : PH} {s : Nat} : ∀ {rs : List PV} {xss : List (List PV)}, Rw h s rs xss → rs.length = xss.length
  | [], [], _ => rfl
  | _ :: _, _ :: _, ⟨_, r⟩ => by rw [List.length_cons, List.length_cons, r.len]
  | [], _ :: _, z | _ :: _, [], z => z.elim
/-- what stands beside s -/
def Beside (s : Nat) (h h' : PH) : Prop := h.length ≤ h'.length ∧ ∀ j o, j ≠ s → h[j]? = some o → h'[j]? = some o
theorem Beside.trans {s : Nat} {a b c : PH} (x : Beside s a b) (y : Beside s b c) : Beside s a c := ⟨Nat.le_trans x.1 y.1, fun j o n e => y.2 j o n (x.2 j o n e)⟩
theorem Beside.refl {s : Nat} {a : PH} : Beside s a a := ⟨Nat.le_refl _, fun _ _ _ e => e⟩
theorem mapO_imp {α β : Type} {f g : α → Option β} (i : ∀ x d, f x = some d → g x = some d) : ∀ {xs : List α} {ds : List β}, mapO f xs = some ds → mapO g xs = some ds
  | [], _, e => e
  | x :: xs, ds, e => by
    unfold mapO at e ⊢
    cases e1 : f x with
    | none => rw [e1] at e; cases e
    | some d =>
      rw [e1] at e
      rw [i x d e1]
      cases e2 : mapO f xs with
      | none => simp only [e2] at e; cases e
      | some es => simp only [e2] at e; rw [mapO_imp i e2]; exact e
theorem toDq_keep {h g : PH} : ∀ (n : Nat) (x : PV) (d : PyData), toDq h n x = some d → (∀ (m : Nat) (o : PO), h[m]? = some o → g[m]? = some o) → toDq g n x = some d
  | 0, _, _, e, _ => by cases e
  | n + 1, x, d, e, k => by
    cases x with
    | non => exact e
    | bl b => exact e
    | int i => exact e
    | str s => exact e
    | tup xs =>
      have e' : (mapO (toDq h n) xs).map PyData.tuple = some d := e
      show (mapO (toDq g n) xs).map PyData.tuple = some d
      cases e2 : mapO (toDq h n) xs with
      | none => rw [e2] at e'; cases e'
      | some ds => rw [mapO_imp (fun x d q => toDq_keep n x d q k) e2]; rw [e2] at e'; exact e'
    | ref m =>
      have e' : (match h[m]? with
        | some (.lst xs) => (mapO (toDq h n) xs).map PyData.list
        | some (.dic false []) => some (.dict [])
        | _ => none) = some d := e
      show (match g[m]? with
        | some (.lst xs) => (mapO (toDq g n) xs).map PyData.list
        | some (.dic false []) => some (.dict [])
        | _ => none) = some d
      split at e'
      · rename_i xs e1
        rw [k m _ e1]
        cases e2 : mapO (toDq h n) xs with
        | none => rw [e2] at e'; cases e'
        | some ds => simp only; rw [mapO_imp (fun x d q => toDq_keep n x d q k) e2]; rw [e2] at e'; exact e'
      · rename_i e1
        rw [k m _ e1]
        exact e'
      · cases e'
    | scr xs => cases e
    | rdic xs => cases e
    | ins c fs => cases e
    | gl i => cases e
    | exn c fs => cases e
    | exv c fs => cases e
theorem HG.keep {h g : PH} {K n dp : Nat} {x : PV} {d : PyData} (a : HG h K n dp x d) (k : ∀ (m : Nat) (o : PO), h[m]? = some o → g[m]? = some o) : HG g K n dp x d :=
  ⟨fun m l => toDq_keep m x d (a.td m l) k, a.s1, a.s3, a.s4, a.de⟩
/-- the data of a value in a heap -/
def ddq (h : PH) (x : PV) : PyData := (toDq h 17 x).getD .none
theorem HG.dd {h : PH} {K n dp : Nat} {x : PV} {d : PyData} (a : HG h K n dp x d) (l : dp < 17) : ddq h x = d := by unfold ddq; rw [a.td 17 l]; rfl
/-- values whose text is bounded -/
def Tx1 (h : PH) (K n dp : Nat) (x : PV) : Prop := ∃ d, HG h K n dp x d
theorem Tx1.keep {h g : PH} {K n dp : Nat} {x : PV} (a : Tx1 h K n dp x) (k : ∀ (m : Nat) (o : PO), h[m]? = some o → g[m]? = some o) : Tx1 g K n dp x := a.imp fun _ b => b.keep k
theorem Tx1.dd {h g : PH} {K n dp : Nat} {x : PV} (a : Tx1 h K n dp x) (l : dp < 17) (k : ∀ (m : Nat) (o : PO), h[m]? = some o → g[m]? = some o) : ddq g x = ddq h x := by
  obtain ⟨d, b⟩ := a
  rw [b.dd l, (b.keep k).dd l]
theorem Tx1.pl {h : PH} {K n dp : Nat} {x : PV} (hK : 0 < K) (h2 : K ≤ 1920) (g : pok K x = true) (l1 : pnd x ≤ n) (l2 : pdp x ≤ dp) : Tx1 h K n dp x := ⟨_, (HG.pl hK h2 g).w l1 l2⟩
section
variable {env : En} {h : PH} {xs : List PV} {fs : List (Nm × PV)}
@[simp] theorem e_xf {cs : List Nat} {f : Nm} {m : ME} : mXf cs f m env h = (m env h).bind fun x h1 => match x with
  | .exn c fs => bif cs.contains c then (match lookF f fs with
    | some v => .ok v h1
    | none => .stuck) else .stuck
  | _ => .stuck := nd rfl
@[simp] theorem e_xi {tb : List (Nat × Bool)} {m : ME} : mXi tb m env h = (m env h).bind fun x h1 => match x with
  | .exn c _ => (match tb.lookup c with
    | some b => .ok (.bl b) h1
    | none => .stuck)
  | _ => .stuck := nd rfl
end

section
variable {env : En} {h : PH} {a b : MS} {Q : Fl → PH → Prop}
theorem Ws.seq {P : En → PH → Prop} (w : Ws (a env h) fun f g => ∃ e, f = .nx e ∧ P e g) (i : ∀ e g, P e g → Ws (b e g) Q) : Ws (mSeq a b env h) Q := by
  rw [e_seq]
  refine Ws.bind w fun f g ⟨e, ef, p⟩ => ?_
  subst ef
  exact i e g p
theorem Ws.fn {n : Nat} {xs : List PV} {P : PV → PH → Prop} (w : Ws (b (xs.map some ++ List.replicate (n - xs.length) none) h) fun f g => ∃ v, f = .rt v ∧ P v g) : Ws (mFun n b xs h) P := by
  rw [e_fun]
  refine Ws.bind w fun f g ⟨e, ef, p⟩ => ?_
  subst ef
  exact Ws_ok.mpr p
end
end MC

end
section
set_option maxRecDepth 100000
namespace MM
open PySem L2 MC
end MM

end
section
set_option maxRecDepth 100000
set_option maxHeartbeats 4000000
namespace MC
open PySem L2
end MC

end
section
set_option maxRecDepth 100000
set_option maxHeartbeats 4000000
namespace MC
open PySem L2
section
variable {env : En} {h : PH}
end
end MC
namespace MM
open PySem L2 MC
section
variable {a : Nat} {fs : List (Nm × PV)} {hc h : PH}
end
end MM

end
section
set_option maxRecDepth 100000
set_option maxHeartbeats 4000000
namespace MM
open PySem L2 MC
section
variable {a : Nat} {fs : List (Nm × PV)} {hc h : PH}
end
end MM

end
section
set_option maxRecDepth 100000
set_option maxHeartbeats 4000000
namespace MM
open PySem L2 MC
section
variable {a : Nat} {fs : List (Nm × PV)} {hc h : PH} {x : PV} {t : List Nat}
end
end MM

end
section
set_option maxRecDepth 100000
set_option maxHeartbeats 4000000
namespace K07
open PySem L2 MC MM
/-- the drawn values, the list and the dict at n and n + 1 -/
def mn (n : Nat) : List PV := [.non, .int 0, .bl false, .str [120], .tup [.int 2, .str [121]], .ref n, .ref (n + 1), .int 10000000000000000000, .tup [], .int (-7)]
def okR : R Fl → Bool
  | .ok (.rt (.bl true)) (.lst [.int _, .int _, .int _] :: _) => true
  | _ => false
theorem okR_to {r : R Fl} (h : okR r = true) : Ws r fun v g => v = .rt (.bl true) ∧ Dr 0 g := by
  unfold okR at h
  split at h
  · exact ⟨_, _, rfl, rfl, _, _, _, rfl⟩
  · cases h
/-- how the heap stands behind the draw -/
def hs (a b c : Int) : PH := [skd a b c, .lst [.int 3], .dic false [], .lst (mn 1)]
def tb7 (h : PH) (fp : List Nat) : R PV → R PV
  | .ok v g => takeBack h fp v g
  | .exc _ _ _ => .stuck
  | .stuck => .stuck
def gs (a b c : Int) : PH := [skd a b c, .lst (mn 2), .lst [.int 3], .dic false []]
theorem pinch_w (a b c : Int) : ∃ (d : Nat) (a' b' c' : Int), d < 10 ∧ callG takeBack m__law_pinch [.ref 0, .int 10] (gs a b c) = .ok (.int d) (gs a' b' c') := by
  obtain ⟨d, a', b', c', d0, d1, e⟩ := pinch_ok 10 (by decide) (by decide) a b c
  obtain ⟨j, rfl, hj⟩ : ∃ j : Nat, d = j ∧ j < 10 := ⟨d.toNat, by omega, by omega⟩
  refine ⟨j, a', b', c', hj, ?_⟩
  have z : callG takeBack m__law_pinch [.ref 0, .int 10] (gs a b c) = tb7 (gs a b c) [0] (m__law_pinch [.ref 0, .int 10] [skd a b c]) := by kernel_rfl
  rw [z, e]
  kernel_rfl
theorem one_w (a b c : Int) : ∃ (x : PV) (a' b' c' : Int), x ∈ mn 1 ∧ callG takeBack m__law_one [.ref 0, .ref 3] (hs a b c) = .ok x (hs a' b' c') := by
  obtain ⟨j, a', b', c', hj, e⟩ := pinch_w a b c
  have z : callG takeBack m__law_one [.ref 0, .ref 3] (hs a b c) = tb7 (hs a b c) [0, 3, 1, 2] (m__law_one [.ref 0, .ref 1] (gs a b c)) := by kernel_rfl
  have l1 : bLen (gs a b c) [.ref 1] = .ok (.int 10) (gs a b c) := by kernel_rfl
  have go : ∀ x y, opIx (gs a' b' c') (.ref 1) (.int j) = .ok x (gs a' b' c') → tb7 (hs a b c) [0, 3, 1, 2] (.ok x (gs a' b' c')) = .ok y (hs a' b' c') → y ∈ mn 1 →
      ∃ (x : PV) (a' b' c' : Int), x ∈ mn 1 ∧ callG takeBack m__law_one [.ref 0, .ref 3] (hs a b c) = .ok x (hs a' b' c') := fun x y h1 h2 h3 => by
    refine ⟨y, a', b', c', h3, ?_⟩
    have w : m__law_one [.ref 0, .ref 1] (gs a b c) = .ok x (gs a' b' c') := by
      unfold m__law_one
      simp [b__law_one, l1, e, h1]
    rw [z, w, h2]
  have : j = 0 ∨ j = 1 ∨ j = 2 ∨ j = 3 ∨ j = 4 ∨ j = 5 ∨ j = 6 ∨ j = 7 ∨ j = 8 ∨ j = 9 := by omega
  rcases this with rfl | rfl | rfl | rfl | rfl | rfl | rfl | rfl | rfl | rfl
  · exact go .non .non (by kernel_rfl) (by kernel_rfl) (by simp [mn])
  · exact go (.int 0) (.int 0) (by kernel_rfl) (by kernel_rfl) (by simp [mn])
  · exact go (.bl false) (.bl false) (by kernel_rfl) (by kernel_rfl) (by simp [mn])
  · exact go (.str [120]) (.str [120]) (by kernel_rfl) (by kernel_rfl) (by simp [mn])
  · exact go (.tup [.int 2, .str [121]]) (.tup [.int 2, .str [121]]) (by kernel_rfl) (by kernel_rfl) (by simp [mn])
  · exact go (.ref 2) (.ref 1) (by kernel_rfl) (by kernel_rfl) (by simp [mn])
  · exact go (.ref 3) (.ref 2) (by kernel_rfl) (by kernel_rfl) (by simp [mn])
  · exact go (.int 10000000000000000000) (.int 10000000000000000000) (by kernel_rfl) (by kernel_rfl) (by simp [mn])
  · exact go (.tup []) (.tup []) (by kernel_rfl) (by kernel_rfl) (by simp [mn])
  · exact go (.int (-7)) (.int (-7)) (by kernel_rfl) (by kernel_rfl) (by simp [mn])
def er (f : Nm) (x : PV) (cs : List Nat) : List PV := cs.map fun c => .exv c [(f, x)]
def h2 (x : PV) (a b c : Int) : PH := hs a b c ++ [.lst (er [118, 97, 108, 117, 101] x [11, 12, 13, 14, 15, 16, 17, 18, 11, 12, 13, 14, 15, 16, 17, 18]), .lst (er [105, 110, 100, 101, 120] x [19, 20, 21, 22, 23, 19, 20, 21, 22, 23])]
def h3 (x : PV) (a b c : Int) : PH := h2 x a b c ++ [.lst [.exv 24 [], .exv 25 []], .lst (er [108, 105, 109, 105, 116] x [26, 26])]
def h4 (x : PV) (a b c : Int) : PH := h3 x a b c ++ [.lst (List.replicate 16 x), .lst (List.replicate 10 x), .lst (List.replicate 26 x), .lst (List.replicate 2 x), .lst (List.replicate 28 x)]
def h5 (x : PV) (a b c : Int) : PH := h4 x a b c ++ [.lst [x], .lst (List.replicate 28 x), .lst [.int 16, .int 10], .lst [.int 16, .int 10]]
def e1 (x : PV) : En := [some (.ref 0), some x, none, none, none, none, none, none, none, none]
def e2 (x : PV) : En := [some (.ref 0), some x, some (.ref 4), some (.ref 5), none, none, none, none, none, none]
def e3 (x : PV) : En := [some (.ref 0), some x, some (.ref 4), some (.ref 5), some (.ref 6), some (.ref 7), none, none, none, none]
def e4 (x : PV) : En := [some (.ref 0), some x, some (.ref 4), some (.ref 5), some (.ref 6), some (.ref 7), some (.ref 12), none, none, none]
def ten (P : PV → Prop) : Prop := P .non ∧ P (.int 0) ∧ P (.bl false) ∧ P (.str [120]) ∧ P (.tup [.int 2, .str [121]]) ∧ P (.ref 1) ∧ P (.ref 2) ∧ P (.int 10000000000000000000) ∧ P (.tup []) ∧ P (.int (-7))
theorem ten_to {P : PV → Prop} (t : ten P) {x : PV} (hx : x ∈ mn 1) : P x := by
  obtain ⟨t1, t2, t3, t4, t5, t6, t7, t8, t9, t0⟩ := t
  simp only [mn, List.mem_cons, List.not_mem_nil, or_false] at hx
  rcases hx with rfl | rfl | rfl | rfl | rfl | rfl | rfl | rfl | rfl | rfl <;> assumption
/-- the text of a list with this value in each place -/
theorem rep_x {x : PV} (hx : x ∈ mn 1) (m : Nat) (hm : m ≤ 30) : ∃ t, PyData.strOk (S t) = true ∧ ∀ (h : PH) (p : Nat), h[1]? = some (.lst [.int 3]) → h[2]? = some (.dic false []) → h[p]? = some (.lst (List.replicate m x)) → bReprQ h [.ref p] = .ok (.str t) h := by
  have g : ∃ d, ∀ h : PH, h[1]? = some (.lst [.int 3]) → h[2]? = some (.dic false []) → HG h 100 8 3 x d := by
    have pl : ∀ x, pok 100 x = true → pnd x ≤ 8 → pdp x ≤ 3 → ∃ d, ∀ h : PH, h[1]? = some (.lst [.int 3]) → h[2]? = some (.dic false []) → HG h 100 8 3 x d := fun x p l1 l2 => ⟨pdD x, fun h _ _ => (HG.pl (by decide) (by decide) p).w l1 l2⟩
    refine ten_to (P := fun x => ∃ d, ∀ h : PH, h[1]? = some (.lst [.int 3]) → h[2]? = some (.dic false []) → HG h 100 8 3 x d) ⟨pl _ (by decide +kernel) (by decide +kernel) (by decide +kernel), pl _ (by decide +kernel) (by decide +kernel) (by decide +kernel), pl _ (by decide +kernel) (by decide +kernel) (by decide +kernel), pl _ (by decide +kernel) (by decide +kernel) (by decide +kernel), pl _ (by decide +kernel) (by decide +kernel) (by decide +kernel), ?_, ?_, pl _ (by decide +kernel) (by decide +kernel) (by decide +kernel), pl _ (by decide +kernel) (by decide +kernel) (by decide +kernel), pl _ (by decide +kernel) (by decide +kernel) (by decide +kernel)⟩ hx
    · exact ⟨_, fun h q1 q2 => (HG.lst q1 (HGs.cons ((HG.pl (x := .int 3) (by decide) (by decide) (by decide +kernel)).w (m := 1) (dq := 2) (by decide +kernel) (by decide +kernel)) HGs.nil)).w (by decide) (by decide)⟩
    · exact ⟨_, fun h q1 q2 => (HG.dic q2).w (by decide) (by decide)⟩
  obtain ⟨d, g⟩ := g
  have gs : ∀ (m : Nat) (h : PH), h[1]? = some (.lst [.int 3]) → h[2]? = some (.dic false []) → HGs h 100 (8 * m) 3 (List.replicate m x) (List.replicate m d) := fun m h q1 q2 => by
    induction m with
    | zero => exact (HGs.nil : HGs h 100 0 3 [] [])
    | succ m ih => 
      rw [List.replicate_succ, List.replicate_succ, show 8 * (m + 1) = 8 + 8 * m by omega]
      exact HGs.cons (g h q1 q2) ih
  have G : ∀ (h : PH) (p : Nat), h[1]? = some (.lst [.int 3]) → h[2]? = some (.dic false []) → h[p]? = some (.lst (List.replicate m x)) → HG h 100 (8 * m + 1) 4 (.ref p) (.list (List.replicate m d)) := fun h p q1 q2 q3 => HG.lst q3 (gs m h q1 q2)
  have l : (100 + 12) * (8 * m + 1) ≤ LIM := Nat.le_trans (Nat.mul_le_mul_left 112 (show 8 * m + 1 ≤ 241 by omega)) (by decide)
  refine ⟨_, ?_, fun h p q1 q2 q3 => repr_q1 (G h p q1 q2 q3) rfl (by decide) l⟩
  exact (G [.lst [], .lst [.int 3], .dic false [], .lst (List.replicate m x)] 3 rfl rfl rfl).okS
theorem right_f : Fs m__law_right [] (fun v => v = .bl true) := fun a b c => by
  unfold m__law_right b__law_right
  refine Ws.fn ?_
  refine Ws.seq (P := fun e g => ∃ (x : PV) (a' b' c' : Int), x ∈ mn 1 ∧ e = e1 x ∧ g = hs a' b' c') ?_ fun e g ⟨x, a, b, c, hx, ee, eg⟩ => ?_
  · obtain ⟨x, a', b', c', hx, e⟩ := one_w a b c
    refine Ws.eq (a := .nx (e1 x)) (h := hs a' b' c') ?_ ⟨_, rfl, x, a', b', c', hx, rfl, rfl⟩
    have z : ∀ m, mSet 1 (mCl0 (opF m [0, 1] []) 2 (maCons (mVar 0) (maCons (mLst (maCons (mC .non) (maCons (mC (.int 0)) (maCons (mC (.bl false)) (maCons (mC (.str [120])) (maCons (mTup (maCons (mC (.int 2)) (maCons (mC (.str [121])) maNil))) (maCons (mLst (maCons (mC (.int 3)) maNil)) (maCons mDict0 (maCons (mOp opPow (mC (.int 10)) (mC (.int 19))) (maCons (mTup maNil) (maCons (mUn (unI fun i => -i) (mC (.int 7))) maNil))))))))))) maNil))) ([some (.ref 0)] ++ List.replicate 9 none) [skd a b c] = (callG takeBack m [.ref 0, .ref 3] (hs a b c)).bind fun x h => .ok (.nx (e1 x)) h := fun m => by kernel_rfl
    exact (z _).trans (by rw [e]; rfl)
  subst ee eg
  refine Ws.seq (P := fun e g => e = e2 x ∧ g = h2 x a b c) (Ws.eq (a := .nx (e2 x)) (h := h2 x a b c) ?_ ⟨_, rfl, rfl, rfl⟩) fun e g ⟨ee, eg⟩ => ?_
  · simp only [mn, List.mem_cons, List.not_mem_nil, or_false] at hx
    rcases hx with rfl | rfl | rfl | rfl | rfl | rfl | rfl | rfl | rfl | rfl <;> kernel_rfl
  subst ee eg
  refine Ws.seq (P := fun e g => e = e3 x ∧ g = h3 x a b c) (Ws.eq (a := .nx (e3 x)) (h := h3 x a b c) ?_ ⟨_, rfl, rfl, rfl⟩) fun e g ⟨ee, eg⟩ => ?_
  · simp only [mn, List.mem_cons, List.not_mem_nil, or_false] at hx
    rcases hx with rfl | rfl | rfl | rfl | rfl | rfl | rfl | rfl | rfl | rfl <;> kernel_rfl
  subst ee eg
  refine Ws.seq (P := fun e g => e = e4 x ∧ g = h4 x a b c) (Ws.eq (a := .nx (e4 x)) (h := h4 x a b c) ?_ ⟨_, rfl, rfl, rfl⟩) fun e g ⟨ee, eg⟩ => ?_
  · simp only [mn, List.mem_cons, List.not_mem_nil, or_false] at hx
    rcases hx with rfl | rfl | rfl | rfl | rfl | rfl | rfl | rfl | rfl | rfl <;> kernel_rfl
  subst ee eg
  refine Ws.seq (P := fun e g => e = e4 x ∧ g = h5 x a b c) ?_ fun e g ⟨ee, eg⟩ => ?_
  · obtain ⟨t, ht, rp⟩ := rep_x hx 28 (by decide)
    have r1 : bReprQ (h4 x a b c) [.ref 12] = .ok (.str t) (h4 x a b c) := rp _ _ rfl rfl rfl
    have r2 : bReprQ (h4 x a b c ++ [.lst [x], .lst (List.replicate 28 x)]) [.ref 14] = .ok (.str t) (h4 x a b c ++ [.lst [x], .lst (List.replicate 28 x)]) := rp _ _ rfl rfl rfl
    refine Ws.eq (a := .nx (e4 x)) (h := h5 x a b c) ?_ ⟨_, rfl, rfl, rfl⟩
    have y1 : ∀ br : OC, (mTB (mOp opNe (mBt br (maCons (mVar 6) maNil)) (mBt br (maCons (mOp opMul (mLst (maCons (mVar 1) maNil)) (mBt bLen (maCons (mVar 6) maNil))) maNil)))) (e4 x) (h4 x a b c) =
        ((br (h4 x a b c) [.ref 12]).bind fun u g => ((mBt br (maCons (mOp opMul (mLst (maCons (mVar 1) maNil)) (mBt bLen (maCons (mVar 6) maNil))) maNil)) (e4 x) g).bind fun v g => opNe g u v).bind fun z g => (match z with
          | .bl b => .ok b g
          | _ => .stuck) := fun br => by kernel_rfl
    have y2 : ∀ br : OC, (mBt br (maCons (mOp opMul (mLst (maCons (mVar 1) maNil)) (mBt bLen (maCons (mVar 6) maNil))) maNil)) (e4 x) (h4 x a b c) = br (h4 x a b c ++ [.lst [x], .lst (List.replicate 28 x)]) [.ref 14] := fun br => by kernel_rfl
    have t1 : (mTB (mOp opNe (mBt bReprQ (maCons (mVar 6) maNil)) (mBt bReprQ (maCons (mOp opMul (mLst (maCons (mVar 1) maNil)) (mBt bLen (maCons (mVar 6) maNil))) maNil)))) (e4 x) (h4 x a b c) = .ok false (h4 x a b c ++ [.lst [x], .lst (List.replicate 28 x)]) := by
      rw [y1, r1, bind_ok, y2, r2, bind_ok, v_neS ht ht]
      simp
    have y3 : ∀ m : MT, m (e4 x) (h4 x a b c) = .ok false (h4 x a b c ++ [.lst [x], .lst (List.replicate 28 x)]) →
        mIfS (mOr m (mTB (mOp opNe (mLst (maCons (mBt bLen (maCons (mVar 2) maNil)) (maCons (mBt bLen (maCons (mVar 3) maNil)) maNil))) (mLst (maCons (mC (.int 16)) (maCons (mC (.int 10)) maNil)))))) (mSeq (mRet (mC (.bl false))) mNil) mNil (e4 x) (h4 x a b c) = .ok (.nx (e4 x)) (h5 x a b c) := fun m hm => by
      have y4 : (mTB (mOp opNe (mLst (maCons (mBt bLen (maCons (mVar 2) maNil)) (maCons (mBt bLen (maCons (mVar 3) maNil)) maNil))) (mLst (maCons (mC (.int 16)) (maCons (mC (.int 10)) maNil))))) (e4 x) (h4 x a b c ++ [.lst [x], .lst (List.replicate 28 x)]) = .ok false (h5 x a b c) := by kernel_rfl
      rw [e_ifS, e_or, hm, bind_ok]
      exact (congrArg (fun r : R Bool => r.bind fun c h1 => sel c (mSeq (mRet (mC (.bl false))) mNil (e4 x) h1) (mNil (e4 x) h1)) y4).trans rfl
    exact y3 _ t1
  subst ee eg
  refine (?_ : Ws _ fun v g => v = .rt (.bl true) ∧ Dr 0 g).mono fun v g ⟨e, d⟩ => by subst e; exact ⟨_, rfl, d, rfl, rfl⟩
  refine okR_to ?_
  simp only [mn, List.mem_cons, List.not_mem_nil, or_false] at hx
  rcases hx with rfl | rfl | rfl | rfl | rfl | rfl | rfl | rfl | rfl | rfl <;> kernel_rfl
theorem law_w (ns : List Int) (hl : ns.length ≤ 63) : Ws (m_law [.scr (ns.map PV.int)] []) fun v _ => v = .bl true := by
  unfold m_law
  simp [b_law, len_scr]
  obtain ⟨n, en, hn⟩ := cases_five ns
  rw [en, inR_small (i := (n : Int)) (by omega) (by omega)]
  simp
  refine mapB (fun _ => .bl true) (fun _ => True) trivial (by rw [len_seqI]; exact lim_of (by omega)) (fun x hx h _ => ⟨_, rfl, ?_⟩) fun h0 _ => ?_
  · obtain ⟨k, hk, rfl⟩ := mem_seqI hx
    obtain ⟨a, b, c, es⟩ := sack_c ns k (by omega) h
    simp [wipeE, es]
    exact (right_f.call (h := h ++ [skd a b c]) (j := h.length) rfl ⟨a, b, c, last_at⟩).mono fun v h' ⟨_, p, _⟩ => ⟨p, trivial⟩
  · have e : (seqI 0 n).map (fun _ => PV.bl true) = List.replicate n (.bl true) := by rw [List.map_const', len_seqI]
    rw [e]
    simp [all_last (bls_true n)]
theorem law_true (ns : List Int) (hl : ns.length ≤ 63) : ∃ h, m_law [.scr (ns.map PV.int)] [] = .ok (.bl true) h := by
  obtain ⟨v, g, e, rfl⟩ := law_w ns hl
  exact ⟨g, e⟩
end K07

end
open PySem PySem.W PyProof.Rows
set_option maxRecDepth 100000 in
set_option maxHeartbeats 0 in
theorem PySem.Challenge.cw_liketongues_k07_errors_and_limits_holds : PySem.Challenge.rw_liketongues_k07_errors_and_limits.Holds := by
  w_on; o_law; k_head; (case hw => w_witness2)
  k_fill
  refine MC.walkM (l := PySem.Challenge.rw_liketongues_k07_errors_and_limits) (n := 63) (k := 5) (x := "_law_script") (m := K07.m_law) rfl (by decide) rfl ⟨rfl, by decide, by decide⟩ (fun w h Y => PySem.W.kIn_of Y) ?F K07.law_true
  case F =>
    intro w mg fa h KX G hmg
    refine' K07.all_mk KX G hmg ?aC14 ?aC13 ?aC12 ?aC11 ?aC18 ?aC17 ?aC16 ?aC15 ?aC22 ?aC21 ?aC20 ?aC19 ?aC23 ?aC25 ?aC24 ?aC26 ?aC10 ?aC9 ?aC8 ?xia14 ?xib14 ?xic14 ?xid14 ?xie14 ?xif14 ?xig14 ?xih14 ?xij14 ?xik14 ?xil14 ?xia13 ?xib13 ?xic13 ?xid13 ?xie13 ?xif13 ?xig13 ?xih13 ?xij13 ?xik13 ?xil13 ?xia12 ?xib12 ?xic12 ?xid12 ?xie12 ?xif12 ?xig12 ?xih12 ?xij12 ?xik12 ?xil12 ?xia11 ?xib11 ?xic11 ?xid11 ?xie11 ?xif11 ?xig11 ?xih11 ?xij11 ?xik11 ?xil11 ?xia18 ?xib18 ?xic18 ?xid18 ?xie18 ?xif18 ?xig18 ?xih18 ?xij18 ?xik18 ?xil18 ?xia17 ?xib17 ?xic17 ?xid17 ?xie17 ?xif17 ?xig17 ?xih17 ?xij17 ?xik17 ?xil17 ?xia16 ?xib16 ?xic16 ?xid16 ?xie16 ?xif16 ?xig16 ?xih16 ?xij16 ?xik16 ?xil16 ?xia15 ?xib15 ?xic15 ?xid15 ?xie15 ?xif15 ?xig15 ?xih15 ?xij15 ?xik15 ?xil15 ?xia22 ?xib22 ?xic22 ?xid22 ?xie22 ?xif22 ?xig22 ?xih22 ?xij22 ?xik22 ?xil22 ?xia21 ?xib21 ?xic21 ?xid21 ?xie21 ?xif21 ?xig21 ?xih21 ?xij21 ?xik21 ?xil21 ?xia20 ?xib20 ?xic20 ?xid20 ?xie20 ?xif20 ?xig20 ?xih20 ?xij20 ?xik20 ?xil20 ?xia19 ?xib19 ?xic19 ?xid19 ?xie19 ?xif19 ?xig19 ?xih19 ?xij19 ?xik19 ?xil19 ?xia23 ?xib23 ?xic23 ?xid23 ?xie23 ?xif23 ?xig23 ?xih23 ?xij23 ?xik23 ?xil23 ?xia26 ?xib26 ?xic26 ?xid26 ?xie26 ?xif26 ?xig26 ?xih26 ?xij26 ?xik26 ?xil26 ?hxq_Busy ?hxk_Busy ?hxs_Busy ?hxy_Busy ?hxq_NothingToUndo ?hxk_NothingToUndo ?hxs_NothingToUndo ?hxy_NothingToUndo ?hxn_InvalidCount ?hxn_InvalidText ?hxn_NotADesk ?hxn_NotAMachine ?hxn_InvalidLine ?hxn_InvalidWord ?hxn_InvalidStand ?hxn_InvalidLetter ?hxn_InvalidTexts ?hxn_InvalidBook ?hxn_InvalidEnds ?hxn_InvalidArrows ?hxn_InvalidDeeds ?hxn_TooMany ?hxga_InvalidCount ?hxgg_InvalidCount ?hxs_InvalidCount ?hxhd_InvalidCount ?hxha_InvalidCount ?hxhm_InvalidCount ?hxga_InvalidText ?hxgg_InvalidText ?hxs_InvalidText ?hxhd_InvalidText ?hxha_InvalidText ?hxhm_InvalidText ?hxga_NotADesk ?hxgg_NotADesk ?hxs_NotADesk ?hxhd_NotADesk ?hxha_NotADesk ?hxhm_NotADesk ?hxga_NotAMachine ?hxgg_NotAMachine ?hxs_NotAMachine ?hxhd_NotAMachine ?hxha_NotAMachine ?hxhm_NotAMachine ?hxga_InvalidLine ?hxgg_InvalidLine ?hxs_InvalidLine ?hxhd_InvalidLine ?hxha_InvalidLine ?hxhm_InvalidLine ?hxga_InvalidWord ?hxgg_InvalidWord ?hxs_InvalidWord ?hxhd_InvalidWord ?hxha_InvalidWord ?hxhm_InvalidWord ?hxga_InvalidStand ?hxgg_InvalidStand ?hxs_InvalidStand ?hxhd_InvalidStand ?hxha_InvalidStand ?hxhm_InvalidStand ?hxga_InvalidLetter ?hxgg_InvalidLetter ?hxs_InvalidLetter ?hxhd_InvalidLetter ?hxha_InvalidLetter ?hxhm_InvalidLetter ?hxga_InvalidTexts ?hxgg_InvalidTexts ?hxs_InvalidTexts ?hxhd_InvalidTexts ?hxha_InvalidTexts ?hxhm_InvalidTexts ?hxga_InvalidBook ?hxgg_InvalidBook ?hxs_InvalidBook ?hxhd_InvalidBook ?hxha_InvalidBook ?hxhm_InvalidBook ?hxga_InvalidEnds ?hxgg_InvalidEnds ?hxs_InvalidEnds ?hxhd_InvalidEnds ?hxha_InvalidEnds ?hxhm_InvalidEnds ?hxga_InvalidArrows ?hxgg_InvalidArrows ?hxs_InvalidArrows ?hxhd_InvalidArrows ?hxha_InvalidArrows ?hxhm_InvalidArrows ?hxga_InvalidDeeds ?hxgg_InvalidDeeds ?hxs_InvalidDeeds ?hxhd_InvalidDeeds ?hxha_InvalidDeeds ?hxhm_InvalidDeeds ?hxga_Busy ?hxgg_Busy ?hxhd_Busy ?hxha_Busy ?hxhm_Busy ?hxga_NothingToUndo ?hxgg_NothingToUndo ?hxhd_NothingToUndo ?hxha_NothingToUndo ?hxhm_NothingToUndo ?hxga_TooMany ?hxgg_TooMany ?hxs_TooMany ?hxhd_TooMany ?hxha_TooMany ?hxhm_TooMany ?hxhn ?hxht ?hxiz_InvalidCount_SizeError ?hxiz_InvalidText_SizeError ?hxiz_NotADesk_SizeError ?hxiz_NotAMachine_SizeError ?hxiz_InvalidLine_SizeError ?hxiz_InvalidWord_SizeError ?hxiz_InvalidStand_SizeError ?hxiz_InvalidLetter_SizeError ?hxiz_InvalidTexts_SizeError ?hxiz_InvalidBook_SizeError ?hxiz_InvalidEnds_SizeError ?hxiz_InvalidArrows_SizeError ?hxiz_InvalidDeeds_SizeError ?hxiz_Busy_SizeError ?hxiz_NothingToUndo_SizeError ?hxiz_TooMany_SizeError ?hxiz_InvalidCount_StateError ?hxiz_InvalidText_StateError ?hxiz_NotADesk_StateError ?hxiz_NotAMachine_StateError ?hxiz_InvalidLine_StateError ?hxiz_InvalidWord_StateError ?hxiz_InvalidStand_StateError ?hxiz_InvalidLetter_StateError ?hxiz_InvalidTexts_StateError ?hxiz_InvalidBook_StateError ?hxiz_InvalidEnds_StateError ?hxiz_InvalidArrows_StateError ?hxiz_InvalidDeeds_StateError ?hxiz_Busy_StateError ?hxiz_NothingToUndo_StateError ?hxiz_TooMany_StateError ?hxiz_InvalidCount_InputError ?hxiz_InvalidText_InputError ?hxiz_NotADesk_InputError ?hxiz_NotAMachine_InputError ?hxiz_InvalidLine_InputError ?hxiz_InvalidWord_InputError ?hxiz_InvalidStand_InputError ?hxiz_InvalidLetter_InputError ?hxiz_InvalidTexts_InputError ?hxiz_InvalidBook_InputError ?hxiz_InvalidEnds_InputError ?hxiz_InvalidArrows_InputError ?hxiz_InvalidDeeds_InputError ?hxiz_Busy_InputError ?hxiz_NothingToUndo_InputError ?hxiz_TooMany_InputError ?hxiz_InvalidCount_ArithmeticError ?hxiz_InvalidText_ArithmeticError ?hxiz_NotADesk_ArithmeticError ?hxiz_NotAMachine_ArithmeticError ?hxiz_InvalidLine_ArithmeticError ?hxiz_InvalidWord_ArithmeticError ?hxiz_InvalidStand_ArithmeticError ?hxiz_InvalidLetter_ArithmeticError ?hxiz_InvalidTexts_ArithmeticError ?hxiz_InvalidBook_ArithmeticError ?hxiz_InvalidEnds_ArithmeticError ?hxiz_InvalidArrows_ArithmeticError ?hxiz_InvalidDeeds_ArithmeticError ?hxiz_Busy_ArithmeticError ?hxiz_NothingToUndo_ArithmeticError ?hxiz_TooMany_ArithmeticError ?hxiz_InvalidCount_LookupError ?hxiz_InvalidText_LookupError ?hxiz_NotADesk_LookupError ?hxiz_NotAMachine_LookupError ?hxiz_InvalidLine_LookupError ?hxiz_InvalidWord_LookupError ?hxiz_InvalidStand_LookupError ?hxiz_InvalidLetter_LookupError ?hxiz_InvalidTexts_LookupError ?hxiz_InvalidBook_LookupError ?hxiz_InvalidEnds_LookupError ?hxiz_InvalidArrows_LookupError ?hxiz_InvalidDeeds_LookupError ?hxiz_Busy_LookupError ?hxiz_NothingToUndo_LookupError ?hxiz_TooMany_LookupError ?hxiz_InvalidCount_ValueError ?hxiz_InvalidText_ValueError ?hxiz_NotADesk_ValueError ?hxiz_NotAMachine_ValueError ?hxiz_InvalidLine_ValueError ?hxiz_InvalidWord_ValueError ?hxiz_InvalidStand_ValueError ?hxiz_InvalidLetter_ValueError ?hxiz_InvalidTexts_ValueError ?hxiz_InvalidBook_ValueError ?hxiz_InvalidEnds_ValueError ?hxiz_InvalidArrows_ValueError ?hxiz_InvalidDeeds_ValueError ?hxiz_Busy_ValueError ?hxiz_NothingToUndo_ValueError ?hxiz_TooMany_ValueError ?hxiz_InvalidCount_InvalidText ?hxiz_NotADesk_InvalidText ?hxiz_NotAMachine_InvalidText ?hxiz_InvalidLine_InvalidText ?hxiz_InvalidWord_InvalidText ?hxiz_InvalidStand_InvalidText ?hxiz_InvalidLetter_InvalidText ?hxiz_InvalidTexts_InvalidText ?hxiz_InvalidBook_InvalidText ?hxiz_InvalidEnds_InvalidText ?hxiz_InvalidArrows_InvalidText ?hxiz_InvalidDeeds_InvalidText ?hxiz_Busy_InvalidText ?hxiz_NothingToUndo_InvalidText ?hxiz_TooMany_InvalidText ?hxiz_InvalidCount_NotADesk ?hxiz_InvalidText_NotADesk ?hxiz_NotAMachine_NotADesk ?hxiz_InvalidLine_NotADesk ?hxiz_InvalidWord_NotADesk ?hxiz_InvalidStand_NotADesk ?hxiz_InvalidLetter_NotADesk ?hxiz_InvalidTexts_NotADesk ?hxiz_InvalidBook_NotADesk ?hxiz_InvalidEnds_NotADesk ?hxiz_InvalidArrows_NotADesk ?hxiz_InvalidDeeds_NotADesk ?hxiz_Busy_NotADesk ?hxiz_NothingToUndo_NotADesk ?hxiz_TooMany_NotADesk ?hxiz_InvalidCount_NotAMachine ?hxiz_InvalidText_NotAMachine ?hxiz_NotADesk_NotAMachine ?hxiz_InvalidLine_NotAMachine ?hxiz_InvalidWord_NotAMachine ?hxiz_InvalidStand_NotAMachine ?hxiz_InvalidLetter_NotAMachine ?hxiz_InvalidTexts_NotAMachine ?hxiz_InvalidBook_NotAMachine ?hxiz_InvalidEnds_NotAMachine ?hxiz_InvalidArrows_NotAMachine ?hxiz_InvalidDeeds_NotAMachine ?hxiz_Busy_NotAMachine ?hxiz_NothingToUndo_NotAMachine ?hxiz_TooMany_NotAMachine ?hxiz_InvalidCount_InvalidLetter ?hxiz_InvalidText_InvalidLetter ?hxiz_NotADesk_InvalidLetter ?hxiz_NotAMachine_InvalidLetter ?hxiz_InvalidLine_InvalidLetter ?hxiz_InvalidWord_InvalidLetter ?hxiz_InvalidStand_InvalidLetter ?hxiz_InvalidTexts_InvalidLetter ?hxiz_InvalidBook_InvalidLetter ?hxiz_InvalidEnds_InvalidLetter ?hxiz_InvalidArrows_InvalidLetter ?hxiz_InvalidDeeds_InvalidLetter ?hxiz_Busy_InvalidLetter ?hxiz_NothingToUndo_InvalidLetter ?hxiz_TooMany_InvalidLetter ?hxiz_InvalidText_InvalidCount ?hxiz_NotADesk_InvalidCount ?hxiz_NotAMachine_InvalidCount ?hxiz_InvalidLine_InvalidCount ?hxiz_InvalidWord_InvalidCount ?hxiz_InvalidStand_InvalidCount ?hxiz_InvalidLetter_InvalidCount ?hxiz_InvalidTexts_InvalidCount ?hxiz_InvalidBook_InvalidCount ?hxiz_InvalidEnds_InvalidCount ?hxiz_InvalidArrows_InvalidCount ?hxiz_InvalidDeeds_InvalidCount ?hxiz_Busy_InvalidCount ?hxiz_NothingToUndo_InvalidCount ?hxiz_TooMany_InvalidCount ?hxiz_InvalidCount_InvalidWord ?hxiz_InvalidText_InvalidWord ?hxiz_NotADesk_InvalidWord ?hxiz_NotAMachine_InvalidWord ?hxiz_InvalidLine_InvalidWord ?hxiz_InvalidStand_InvalidWord ?hxiz_InvalidLetter_InvalidWord ?hxiz_InvalidTexts_InvalidWord ?hxiz_InvalidBook_InvalidWord ?hxiz_InvalidEnds_InvalidWord ?hxiz_InvalidArrows_InvalidWord ?hxiz_InvalidDeeds_InvalidWord ?hxiz_Busy_InvalidWord ?hxiz_NothingToUndo_InvalidWord ?hxiz_TooMany_InvalidWord ?hxiz_InvalidCount_InvalidStand ?hxiz_InvalidText_InvalidStand ?hxiz_NotADesk_InvalidStand ?hxiz_NotAMachine_InvalidStand ?hxiz_InvalidLine_InvalidStand ?hxiz_InvalidWord_InvalidStand ?hxiz_InvalidLetter_InvalidStand ?hxiz_InvalidTexts_InvalidStand ?hxiz_InvalidBook_InvalidStand ?hxiz_InvalidEnds_InvalidStand ?hxiz_InvalidArrows_InvalidStand ?hxiz_InvalidDeeds_InvalidStand ?hxiz_Busy_InvalidStand ?hxiz_NothingToUndo_InvalidStand ?hxiz_TooMany_InvalidStand ?hxiz_InvalidCount_InvalidArrows ?hxiz_InvalidText_InvalidArrows ?hxiz_NotADesk_InvalidArrows ?hxiz_NotAMachine_InvalidArrows ?hxiz_InvalidLine_InvalidArrows ?hxiz_InvalidWord_InvalidArrows ?hxiz_InvalidStand_InvalidArrows ?hxiz_InvalidLetter_InvalidArrows ?hxiz_InvalidTexts_InvalidArrows ?hxiz_InvalidBook_InvalidArrows ?hxiz_InvalidEnds_InvalidArrows ?hxiz_InvalidDeeds_InvalidArrows ?hxiz_Busy_InvalidArrows ?hxiz_NothingToUndo_InvalidArrows ?hxiz_TooMany_InvalidArrows ?hxiz_InvalidCount_InvalidLine ?hxiz_InvalidText_InvalidLine ?hxiz_NotADesk_InvalidLine ?hxiz_NotAMachine_InvalidLine ?hxiz_InvalidWord_InvalidLine ?hxiz_InvalidStand_InvalidLine ?hxiz_InvalidLetter_InvalidLine ?hxiz_InvalidTexts_InvalidLine ?hxiz_InvalidBook_InvalidLine ?hxiz_InvalidEnds_InvalidLine ?hxiz_InvalidArrows_InvalidLine ?hxiz_InvalidDeeds_InvalidLine ?hxiz_Busy_InvalidLine ?hxiz_NothingToUndo_InvalidLine ?hxiz_TooMany_InvalidLine ?hxiz_InvalidCount_InvalidBook ?hxiz_InvalidText_InvalidBook ?hxiz_NotADesk_InvalidBook ?hxiz_NotAMachine_InvalidBook ?hxiz_InvalidLine_InvalidBook ?hxiz_InvalidWord_InvalidBook ?hxiz_InvalidStand_InvalidBook ?hxiz_InvalidLetter_InvalidBook ?hxiz_InvalidTexts_InvalidBook ?hxiz_InvalidEnds_InvalidBook ?hxiz_InvalidArrows_InvalidBook ?hxiz_InvalidDeeds_InvalidBook ?hxiz_Busy_InvalidBook ?hxiz_NothingToUndo_InvalidBook ?hxiz_TooMany_InvalidBook ?hxiz_InvalidCount_InvalidEnds ?hxiz_InvalidText_InvalidEnds ?hxiz_NotADesk_InvalidEnds ?hxiz_NotAMachine_InvalidEnds ?hxiz_InvalidLine_InvalidEnds ?hxiz_InvalidWord_InvalidEnds ?hxiz_InvalidStand_InvalidEnds ?hxiz_InvalidLetter_InvalidEnds ?hxiz_InvalidTexts_InvalidEnds ?hxiz_InvalidBook_InvalidEnds ?hxiz_InvalidArrows_InvalidEnds ?hxiz_InvalidDeeds_InvalidEnds ?hxiz_Busy_InvalidEnds ?hxiz_NothingToUndo_InvalidEnds ?hxiz_TooMany_InvalidEnds ?hxiz_InvalidCount_InvalidDeeds ?hxiz_InvalidText_InvalidDeeds ?hxiz_NotADesk_InvalidDeeds ?hxiz_NotAMachine_InvalidDeeds ?hxiz_InvalidLine_InvalidDeeds ?hxiz_InvalidWord_InvalidDeeds ?hxiz_InvalidStand_InvalidDeeds ?hxiz_InvalidLetter_InvalidDeeds ?hxiz_InvalidTexts_InvalidDeeds ?hxiz_InvalidBook_InvalidDeeds ?hxiz_InvalidEnds_InvalidDeeds ?hxiz_InvalidArrows_InvalidDeeds ?hxiz_Busy_InvalidDeeds ?hxiz_NothingToUndo_InvalidDeeds ?hxiz_TooMany_InvalidDeeds ?hxiz_InvalidCount_InvalidTexts ?hxiz_InvalidText_InvalidTexts ?hxiz_NotADesk_InvalidTexts ?hxiz_NotAMachine_InvalidTexts ?hxiz_InvalidLine_InvalidTexts ?hxiz_InvalidWord_InvalidTexts ?hxiz_InvalidStand_InvalidTexts ?hxiz_InvalidLetter_InvalidTexts ?hxiz_InvalidBook_InvalidTexts ?hxiz_InvalidEnds_InvalidTexts ?hxiz_InvalidArrows_InvalidTexts ?hxiz_InvalidDeeds_InvalidTexts ?hxiz_Busy_InvalidTexts ?hxiz_NothingToUndo_InvalidTexts ?hxiz_TooMany_InvalidTexts ?hxiz_InvalidCount_TooMany ?hxiz_InvalidText_TooMany ?hxiz_NotADesk_TooMany ?hxiz_NotAMachine_TooMany ?hxiz_InvalidLine_TooMany ?hxiz_InvalidWord_TooMany ?hxiz_InvalidStand_TooMany ?hxiz_InvalidLetter_TooMany ?hxiz_InvalidTexts_TooMany ?hxiz_InvalidBook_TooMany ?hxiz_InvalidEnds_TooMany ?hxiz_InvalidArrows_TooMany ?hxiz_InvalidDeeds_TooMany ?hxiz_Busy_TooMany ?hxiz_NothingToUndo_TooMany ?hxiz_InvalidCount_Busy ?hxiz_InvalidText_Busy ?hxiz_NotADesk_Busy ?hxiz_NotAMachine_Busy ?hxiz_InvalidLine_Busy ?hxiz_InvalidWord_Busy ?hxiz_InvalidStand_Busy ?hxiz_InvalidLetter_Busy ?hxiz_InvalidTexts_Busy ?hxiz_InvalidBook_Busy ?hxiz_InvalidEnds_Busy ?hxiz_InvalidArrows_Busy ?hxiz_InvalidDeeds_Busy ?hxiz_NothingToUndo_Busy ?hxiz_TooMany_Busy ?hxiz_InvalidCount_NothingToUndo ?hxiz_InvalidText_NothingToUndo ?hxiz_NotADesk_NothingToUndo ?hxiz_NotAMachine_NothingToUndo ?hxiz_InvalidLine_NothingToUndo ?hxiz_InvalidWord_NothingToUndo ?hxiz_InvalidStand_NothingToUndo ?hxiz_InvalidLetter_NothingToUndo ?hxiz_InvalidTexts_NothingToUndo ?hxiz_InvalidBook_NothingToUndo ?hxiz_InvalidEnds_NothingToUndo ?hxiz_InvalidArrows_NothingToUndo ?hxiz_InvalidDeeds_NothingToUndo ?hxiz_Busy_NothingToUndo ?hxiz_TooMany_NothingToUndo ?a0 ?l0 ?e0 ?k0 ?a1 ?l1 ?e1 ?k1 ?a2 ?l2 ?e2 ?k2 ?a3 ?l3 ?e3 ?k3 ?a4 ?l4 ?e4 ?k4 ?a5 ?l5 ?e5 ?k5 ?a6 ?l6 ?e6 ?k6 ?a7 ?l7 ?e7 ?k7 ?a8 ?l8 ?e8 ?k8 ?g_MOST_DEEDS ?g_MOST_WORD ?g_MOST_LETTERS ?g_MOST_STANDS ?z_ArithmeticError ?z_LookupError ?z_ValueError ?z_abs ?z_all ?z_divmod ?z_int ?z_isinstance ?z_len ?z_max ?z_min ?z_range ?z_repr
    (case aC14 => k_is); (case aC13 => k_is); (case aC12 => k_is); (case aC11 => k_is); (case aC18 => k_is); (case aC17 => k_is); (case aC16 => k_is); (case aC15 => k_is); (case aC22 => k_is); (case aC21 => k_is); (case aC20 => k_is); (case aC19 => k_is); (case aC23 => k_is); (case aC25 => k_is); (case aC24 => k_is); (case aC26 => k_is); (case aC10 => k_is); (case aC9 => k_is); (case aC8 => k_is); (case xia14 => k_is); (case xib14 => k_is); (case xic14 => k_is); (case xid14 => k_is); (case xie14 => k_is); (case xif14 => k_is); (case xig14 => first | rfl | decide +kernel); (case xih14 => k_is); (case xij14 => k_is); (case xik14 => k_is); (case xil14 => k_is); (case xia13 => k_is); (case xib13 => k_is); (case xic13 => k_is); (case xid13 => k_is); (case xie13 => k_is); (case xif13 => k_is); (case xig13 => first | rfl | decide +kernel); (case xih13 => k_is); (case xij13 => k_is); (case xik13 => k_is); (case xil13 => k_is); (case xia12 => k_is); (case xib12 => k_is); (case xic12 => k_is); (case xid12 => k_is); (case xie12 => k_is); (case xif12 => k_is); (case xig12 => first | rfl | decide +kernel); (case xih12 => k_is); (case xij12 => k_is); (case xik12 => k_is); (case xil12 => k_is); (case xia11 => k_is); (case xib11 => k_is); (case xic11 => k_is); (case xid11 => k_is); (case xie11 => k_is); (case xif11 => k_is); (case xig11 => first | rfl | decide +kernel); (case xih11 => k_is); (case xij11 => k_is); (case xik11 => k_is); (case xil11 => k_is); (case xia18 => k_is); (case xib18 => k_is); (case xic18 => k_is); (case xid18 => k_is); (case xie18 => k_is); (case xif18 => k_is); (case xig18 => first | rfl | decide +kernel); (case xih18 => k_is); (case xij18 => k_is); (case xik18 => k_is); (case xil18 => k_is); (case xia17 => k_is); (case xib17 => k_is); (case xic17 => k_is); (case xid17 => k_is); (case xie17 => k_is); (case xif17 => k_is); (case xig17 => first | rfl | decide +kernel); (case xih17 => k_is); (case xij17 => k_is); (case xik17 => k_is); (case xil17 => k_is); (case xia16 => k_is); (case xib16 => k_is); (case xic16 => k_is); (case xid16 => k_is); (case xie16 => k_is); (case xif16 => k_is); (case xig16 => first | rfl | decide +kernel); (case xih16 => k_is); (case xij16 => k_is); (case xik16 => k_is); (case xil16 => k_is); (case xia15 => k_is); (case xib15 => k_is); (case xic15 => k_is); (case xid15 => k_is); (case xie15 => k_is); (case xif15 => k_is); (case xig15 => first | rfl | decide +kernel); (case xih15 => k_is); (case xij15 => k_is); (case xik15 => k_is); (case xil15 => k_is); (case xia22 => k_is); (case xib22 => k_is); (case xic22 => k_is); (case xid22 => k_is); (case xie22 => k_is); (case xif22 => k_is); (case xig22 => first | rfl | decide +kernel); (case xih22 => k_is); (case xij22 => k_is); (case xik22 => k_is); (case xil22 => k_is); (case xia21 => k_is); (case xib21 => k_is); (case xic21 => k_is); (case xid21 => k_is); (case xie21 => k_is); (case xif21 => k_is); (case xig21 => first | rfl | decide +kernel); (case xih21 => k_is); (case xij21 => k_is); (case xik21 => k_is); (case xil21 => k_is); (case xia20 => k_is); (case xib20 => k_is); (case xic20 => k_is); (case xid20 => k_is); (case xie20 => k_is); (case xif20 => k_is); (case xig20 => first | rfl | decide +kernel); (case xih20 => k_is); (case xij20 => k_is); (case xik20 => k_is); (case xil20 => k_is); (case xia19 => k_is); (case xib19 => k_is); (case xic19 => k_is); (case xid19 => k_is); (case xie19 => k_is); (case xif19 => k_is); (case xig19 => first | rfl | decide +kernel); (case xih19 => k_is); (case xij19 => k_is); (case xik19 => k_is); (case xil19 => k_is); (case xia23 => k_is); (case xib23 => k_is); (case xic23 => k_is); (case xid23 => k_is); (case xie23 => k_is); (case xif23 => k_is); (case xig23 => first | rfl | decide +kernel); (case xih23 => k_is); (case xij23 => k_is); (case xik23 => k_is); (case xil23 => k_is); (case xia26 => k_is); (case xib26 => k_is); (case xic26 => k_is); (case xid26 => k_is); (case xie26 => k_is); (case xif26 => k_is); (case xig26 => first | rfl | decide +kernel); (case xih26 => k_is); (case xij26 => k_is); (case xik26 => k_is); (case xil26 => k_is); (case hxq_Busy => k_exc); (case hxk_Busy => k_is); (case hxs_Busy => k_is); (case hxy_Busy => k_is); (case hxq_NothingToUndo => k_exc); (case hxk_NothingToUndo => k_is); (case hxs_NothingToUndo => k_is); (case hxy_NothingToUndo => k_is); (case hxn_InvalidCount => k_is); (case hxn_InvalidText => k_is); (case hxn_NotADesk => k_is); (case hxn_NotAMachine => k_is); (case hxn_InvalidLine => k_is); (case hxn_InvalidWord => k_is); (case hxn_InvalidStand => k_is); (case hxn_InvalidLetter => k_is); (case hxn_InvalidTexts => k_is); (case hxn_InvalidBook => k_is); (case hxn_InvalidEnds => k_is); (case hxn_InvalidArrows => k_is); (case hxn_InvalidDeeds => k_is); (case hxn_TooMany => k_is); (case hxga_InvalidCount => k_is); (case hxgg_InvalidCount => k_is); (case hxs_InvalidCount => k_is); (case hxhd_InvalidCount => k_is); (case hxha_InvalidCount => k_is); (case hxhm_InvalidCount => k_is); (case hxga_InvalidText => k_is); (case hxgg_InvalidText => k_is); (case hxs_InvalidText => k_is); (case hxhd_InvalidText => k_is); (case hxha_InvalidText => k_is); (case hxhm_InvalidText => k_is); (case hxga_NotADesk => k_is); (case hxgg_NotADesk => k_is); (case hxs_NotADesk => k_is); (case hxhd_NotADesk => k_is); (case hxha_NotADesk => k_is); (case hxhm_NotADesk => k_is); (case hxga_NotAMachine => k_is); (case hxgg_NotAMachine => k_is); (case hxs_NotAMachine => k_is); (case hxhd_NotAMachine => k_is); (case hxha_NotAMachine => k_is); (case hxhm_NotAMachine => k_is); (case hxga_InvalidLine => k_is); (case hxgg_InvalidLine => k_is); (case hxs_InvalidLine => k_is); (case hxhd_InvalidLine => k_is); (case hxha_InvalidLine => k_is); (case hxhm_InvalidLine => k_is); (case hxga_InvalidWord => k_is); (case hxgg_InvalidWord => k_is); (case hxs_InvalidWord => k_is); (case hxhd_InvalidWord => k_is); (case hxha_InvalidWord => k_is); (case hxhm_InvalidWord => k_is); (case hxga_InvalidStand => k_is); (case hxgg_InvalidStand => k_is); (case hxs_InvalidStand => k_is); (case hxhd_InvalidStand => k_is); (case hxha_InvalidStand => k_is); (case hxhm_InvalidStand => k_is); (case hxga_InvalidLetter => k_is); (case hxgg_InvalidLetter => k_is); (case hxs_InvalidLetter => k_is); (case hxhd_InvalidLetter => k_is); (case hxha_InvalidLetter => k_is); (case hxhm_InvalidLetter => k_is); (case hxga_InvalidTexts => k_is); (case hxgg_InvalidTexts => k_is); (case hxs_InvalidTexts => k_is); (case hxhd_InvalidTexts => k_is); (case hxha_InvalidTexts => k_is); (case hxhm_InvalidTexts => k_is); (case hxga_InvalidBook => k_is); (case hxgg_InvalidBook => k_is); (case hxs_InvalidBook => k_is); (case hxhd_InvalidBook => k_is); (case hxha_InvalidBook => k_is); (case hxhm_InvalidBook => k_is); (case hxga_InvalidEnds => k_is); (case hxgg_InvalidEnds => k_is); (case hxs_InvalidEnds => k_is); (case hxhd_InvalidEnds => k_is); (case hxha_InvalidEnds => k_is); (case hxhm_InvalidEnds => k_is); (case hxga_InvalidArrows => k_is); (case hxgg_InvalidArrows => k_is); (case hxs_InvalidArrows => k_is); (case hxhd_InvalidArrows => k_is); (case hxha_InvalidArrows => k_is); (case hxhm_InvalidArrows => k_is); (case hxga_InvalidDeeds => k_is); (case hxgg_InvalidDeeds => k_is); (case hxs_InvalidDeeds => k_is); (case hxhd_InvalidDeeds => k_is); (case hxha_InvalidDeeds => k_is); (case hxhm_InvalidDeeds => k_is); (case hxga_Busy => k_is); (case hxgg_Busy => k_is); (case hxhd_Busy => k_is); (case hxha_Busy => k_is); (case hxhm_Busy => k_is); (case hxga_NothingToUndo => k_is); (case hxgg_NothingToUndo => k_is); (case hxhd_NothingToUndo => k_is); (case hxha_NothingToUndo => k_is); (case hxhm_NothingToUndo => k_is); (case hxga_TooMany => k_is); (case hxgg_TooMany => k_is); (case hxs_TooMany => k_is); (case hxhd_TooMany => k_is); (case hxha_TooMany => k_is); (case hxhm_TooMany => k_is); (case hxhn => k_is); (case hxht => k_is); (case hxiz_InvalidCount_SizeError => kit_is); (case hxiz_InvalidText_SizeError => kit_is); (case hxiz_NotADesk_SizeError => kit_is); (case hxiz_NotAMachine_SizeError => kit_is); (case hxiz_InvalidLine_SizeError => kit_is); (case hxiz_InvalidWord_SizeError => kit_is); (case hxiz_InvalidStand_SizeError => kit_is); (case hxiz_InvalidLetter_SizeError => kit_is); (case hxiz_InvalidTexts_SizeError => kit_is); (case hxiz_InvalidBook_SizeError => kit_is); (case hxiz_InvalidEnds_SizeError => kit_is); (case hxiz_InvalidArrows_SizeError => kit_is); (case hxiz_InvalidDeeds_SizeError => kit_is); (case hxiz_Busy_SizeError => kit_is); (case hxiz_NothingToUndo_SizeError => kit_is); (case hxiz_TooMany_SizeError => kit_is); (case hxiz_InvalidCount_StateError => kit_is); (case hxiz_InvalidText_StateError => kit_is); (case hxiz_NotADesk_StateError => kit_is); (case hxiz_NotAMachine_StateError => kit_is); (case hxiz_InvalidLine_StateError => kit_is); (case hxiz_InvalidWord_StateError => kit_is); (case hxiz_InvalidStand_StateError => kit_is); (case hxiz_InvalidLetter_StateError => kit_is); (case hxiz_InvalidTexts_StateError => kit_is); (case hxiz_InvalidBook_StateError => kit_is); (case hxiz_InvalidEnds_StateError => kit_is); (case hxiz_InvalidArrows_StateError => kit_is); (case hxiz_InvalidDeeds_StateError => kit_is); (case hxiz_Busy_StateError => kit_is); (case hxiz_NothingToUndo_StateError => kit_is); (case hxiz_TooMany_StateError => kit_is); (case hxiz_InvalidCount_InputError => kit_is); (case hxiz_InvalidText_InputError => kit_is); (case hxiz_NotADesk_InputError => kit_is); (case hxiz_NotAMachine_InputError => kit_is); (case hxiz_InvalidLine_InputError => kit_is); (case hxiz_InvalidWord_InputError => kit_is); (case hxiz_InvalidStand_InputError => kit_is); (case hxiz_InvalidLetter_InputError => kit_is); (case hxiz_InvalidTexts_InputError => kit_is); (case hxiz_InvalidBook_InputError => kit_is); (case hxiz_InvalidEnds_InputError => kit_is); (case hxiz_InvalidArrows_InputError => kit_is); (case hxiz_InvalidDeeds_InputError => kit_is); (case hxiz_Busy_InputError => kit_is); (case hxiz_NothingToUndo_InputError => kit_is); (case hxiz_TooMany_InputError => kit_is); (case hxiz_InvalidCount_ArithmeticError => k_is); (case hxiz_InvalidText_ArithmeticError => k_is); (case hxiz_NotADesk_ArithmeticError => k_is); (case hxiz_NotAMachine_ArithmeticError => k_is); (case hxiz_InvalidLine_ArithmeticError => k_is); (case hxiz_InvalidWord_ArithmeticError => k_is); (case hxiz_InvalidStand_ArithmeticError => k_is); (case hxiz_InvalidLetter_ArithmeticError => k_is); (case hxiz_InvalidTexts_ArithmeticError => k_is); (case hxiz_InvalidBook_ArithmeticError => k_is); (case hxiz_InvalidEnds_ArithmeticError => k_is); (case hxiz_InvalidArrows_ArithmeticError => k_is); (case hxiz_InvalidDeeds_ArithmeticError => k_is); (case hxiz_Busy_ArithmeticError => k_is); (case hxiz_NothingToUndo_ArithmeticError => k_is); (case hxiz_TooMany_ArithmeticError => k_is); (case hxiz_InvalidCount_LookupError => k_is); (case hxiz_InvalidText_LookupError => k_is); (case hxiz_NotADesk_LookupError => k_is); (case hxiz_NotAMachine_LookupError => k_is); (case hxiz_InvalidLine_LookupError => k_is); (case hxiz_InvalidWord_LookupError => k_is); (case hxiz_InvalidStand_LookupError => k_is); (case hxiz_InvalidLetter_LookupError => k_is); (case hxiz_InvalidTexts_LookupError => k_is); (case hxiz_InvalidBook_LookupError => k_is); (case hxiz_InvalidEnds_LookupError => k_is); (case hxiz_InvalidArrows_LookupError => k_is); (case hxiz_InvalidDeeds_LookupError => k_is); (case hxiz_Busy_LookupError => k_is); (case hxiz_NothingToUndo_LookupError => k_is); (case hxiz_TooMany_LookupError => k_is); (case hxiz_InvalidCount_ValueError => k_is); (case hxiz_InvalidText_ValueError => k_is); (case hxiz_NotADesk_ValueError => k_is); (case hxiz_NotAMachine_ValueError => k_is); (case hxiz_InvalidLine_ValueError => k_is); (case hxiz_InvalidWord_ValueError => k_is); (case hxiz_InvalidStand_ValueError => k_is); (case hxiz_InvalidLetter_ValueError => k_is); (case hxiz_InvalidTexts_ValueError => k_is); (case hxiz_InvalidBook_ValueError => k_is); (case hxiz_InvalidEnds_ValueError => k_is); (case hxiz_InvalidArrows_ValueError => k_is); (case hxiz_InvalidDeeds_ValueError => k_is); (case hxiz_Busy_ValueError => k_is); (case hxiz_NothingToUndo_ValueError => k_is); (case hxiz_TooMany_ValueError => k_is); (case hxiz_InvalidCount_InvalidText => kit_is); (case hxiz_NotADesk_InvalidText => kit_is); (case hxiz_NotAMachine_InvalidText => kit_is); (case hxiz_InvalidLine_InvalidText => kit_is); (case hxiz_InvalidWord_InvalidText => kit_is); (case hxiz_InvalidStand_InvalidText => kit_is); (case hxiz_InvalidLetter_InvalidText => kit_is); (case hxiz_InvalidTexts_InvalidText => kit_is); (case hxiz_InvalidBook_InvalidText => kit_is); (case hxiz_InvalidEnds_InvalidText => kit_is); (case hxiz_InvalidArrows_InvalidText => kit_is); (case hxiz_InvalidDeeds_InvalidText => kit_is); (case hxiz_Busy_InvalidText => kit_is); (case hxiz_NothingToUndo_InvalidText => kit_is); (case hxiz_TooMany_InvalidText => kit_is); (case hxiz_InvalidCount_NotADesk => kit_is); (case hxiz_InvalidText_NotADesk => kit_is); (case hxiz_NotAMachine_NotADesk => kit_is); (case hxiz_InvalidLine_NotADesk => kit_is); (case hxiz_InvalidWord_NotADesk => kit_is); (case hxiz_InvalidStand_NotADesk => kit_is); (case hxiz_InvalidLetter_NotADesk => kit_is); (case hxiz_InvalidTexts_NotADesk => kit_is); (case hxiz_InvalidBook_NotADesk => kit_is); (case hxiz_InvalidEnds_NotADesk => kit_is); (case hxiz_InvalidArrows_NotADesk => kit_is); (case hxiz_InvalidDeeds_NotADesk => kit_is); (case hxiz_Busy_NotADesk => kit_is); (case hxiz_NothingToUndo_NotADesk => kit_is); (case hxiz_TooMany_NotADesk => kit_is); (case hxiz_InvalidCount_NotAMachine => kit_is); (case hxiz_InvalidText_NotAMachine => kit_is); (case hxiz_NotADesk_NotAMachine => kit_is); (case hxiz_InvalidLine_NotAMachine => kit_is); (case hxiz_InvalidWord_NotAMachine => kit_is); (case hxiz_InvalidStand_NotAMachine => kit_is); (case hxiz_InvalidLetter_NotAMachine => kit_is); (case hxiz_InvalidTexts_NotAMachine => kit_is); (case hxiz_InvalidBook_NotAMachine => kit_is); (case hxiz_InvalidEnds_NotAMachine => kit_is); (case hxiz_InvalidArrows_NotAMachine => kit_is); (case hxiz_InvalidDeeds_NotAMachine => kit_is); (case hxiz_Busy_NotAMachine => kit_is); (case hxiz_NothingToUndo_NotAMachine => kit_is); (case hxiz_TooMany_NotAMachine => kit_is); (case hxiz_InvalidCount_InvalidLetter => kit_is); (case hxiz_InvalidText_InvalidLetter => kit_is); (case hxiz_NotADesk_InvalidLetter => kit_is); (case hxiz_NotAMachine_InvalidLetter => kit_is); (case hxiz_InvalidLine_InvalidLetter => kit_is); (case hxiz_InvalidWord_InvalidLetter => kit_is); (case hxiz_InvalidStand_InvalidLetter => kit_is); (case hxiz_InvalidTexts_InvalidLetter => kit_is); (case hxiz_InvalidBook_InvalidLetter => kit_is); (case hxiz_InvalidEnds_InvalidLetter => kit_is); (case hxiz_InvalidArrows_InvalidLetter => kit_is); (case hxiz_InvalidDeeds_InvalidLetter => kit_is); (case hxiz_Busy_InvalidLetter => kit_is); (case hxiz_NothingToUndo_InvalidLetter => kit_is); (case hxiz_TooMany_InvalidLetter => kit_is); (case hxiz_InvalidText_InvalidCount => kit_is); (case hxiz_NotADesk_InvalidCount => kit_is); (case hxiz_NotAMachine_InvalidCount => kit_is); (case hxiz_InvalidLine_InvalidCount => kit_is); (case hxiz_InvalidWord_InvalidCount => kit_is); (case hxiz_InvalidStand_InvalidCount => kit_is); (case hxiz_InvalidLetter_InvalidCount => kit_is); (case hxiz_InvalidTexts_InvalidCount => kit_is); (case hxiz_InvalidBook_InvalidCount => kit_is); (case hxiz_InvalidEnds_InvalidCount => kit_is); (case hxiz_InvalidArrows_InvalidCount => kit_is); (case hxiz_InvalidDeeds_InvalidCount => kit_is); (case hxiz_Busy_InvalidCount => kit_is); (case hxiz_NothingToUndo_InvalidCount => kit_is); (case hxiz_TooMany_InvalidCount => kit_is); (case hxiz_InvalidCount_InvalidWord => kit_is); (case hxiz_InvalidText_InvalidWord => kit_is); (case hxiz_NotADesk_InvalidWord => kit_is); (case hxiz_NotAMachine_InvalidWord => kit_is); (case hxiz_InvalidLine_InvalidWord => kit_is); (case hxiz_InvalidStand_InvalidWord => kit_is); (case hxiz_InvalidLetter_InvalidWord => kit_is); (case hxiz_InvalidTexts_InvalidWord => kit_is); (case hxiz_InvalidBook_InvalidWord => kit_is); (case hxiz_InvalidEnds_InvalidWord => kit_is); (case hxiz_InvalidArrows_InvalidWord => kit_is); (case hxiz_InvalidDeeds_InvalidWord => kit_is); (case hxiz_Busy_InvalidWord => kit_is); (case hxiz_NothingToUndo_InvalidWord => kit_is); (case hxiz_TooMany_InvalidWord => kit_is); (case hxiz_InvalidCount_InvalidStand => kit_is); (case hxiz_InvalidText_InvalidStand => kit_is); (case hxiz_NotADesk_InvalidStand => kit_is); (case hxiz_NotAMachine_InvalidStand => kit_is); (case hxiz_InvalidLine_InvalidStand => kit_is); (case hxiz_InvalidWord_InvalidStand => kit_is); (case hxiz_InvalidLetter_InvalidStand => kit_is); (case hxiz_InvalidTexts_InvalidStand => kit_is); (case hxiz_InvalidBook_InvalidStand => kit_is); (case hxiz_InvalidEnds_InvalidStand => kit_is); (case hxiz_InvalidArrows_InvalidStand => kit_is); (case hxiz_InvalidDeeds_InvalidStand => kit_is); (case hxiz_Busy_InvalidStand => kit_is); (case hxiz_NothingToUndo_InvalidStand => kit_is); (case hxiz_TooMany_InvalidStand => kit_is); (case hxiz_InvalidCount_InvalidArrows => kit_is); (case hxiz_InvalidText_InvalidArrows => kit_is); (case hxiz_NotADesk_InvalidArrows => kit_is); (case hxiz_NotAMachine_InvalidArrows => kit_is); (case hxiz_InvalidLine_InvalidArrows => kit_is); (case hxiz_InvalidWord_InvalidArrows => kit_is); (case hxiz_InvalidStand_InvalidArrows => kit_is); (case hxiz_InvalidLetter_InvalidArrows => kit_is); (case hxiz_InvalidTexts_InvalidArrows => kit_is); (case hxiz_InvalidBook_InvalidArrows => kit_is); (case hxiz_InvalidEnds_InvalidArrows => kit_is); (case hxiz_InvalidDeeds_InvalidArrows => kit_is); (case hxiz_Busy_InvalidArrows => kit_is); (case hxiz_NothingToUndo_InvalidArrows => kit_is); (case hxiz_TooMany_InvalidArrows => kit_is); (case hxiz_InvalidCount_InvalidLine => kit_is); (case hxiz_InvalidText_InvalidLine => kit_is); (case hxiz_NotADesk_InvalidLine => kit_is); (case hxiz_NotAMachine_InvalidLine => kit_is); (case hxiz_InvalidWord_InvalidLine => kit_is); (case hxiz_InvalidStand_InvalidLine => kit_is); (case hxiz_InvalidLetter_InvalidLine => kit_is); (case hxiz_InvalidTexts_InvalidLine => kit_is); (case hxiz_InvalidBook_InvalidLine => kit_is); (case hxiz_InvalidEnds_InvalidLine => kit_is); (case hxiz_InvalidArrows_InvalidLine => kit_is); (case hxiz_InvalidDeeds_InvalidLine => kit_is); (case hxiz_Busy_InvalidLine => kit_is); (case hxiz_NothingToUndo_InvalidLine => kit_is); (case hxiz_TooMany_InvalidLine => kit_is); (case hxiz_InvalidCount_InvalidBook => kit_is); (case hxiz_InvalidText_InvalidBook => kit_is); (case hxiz_NotADesk_InvalidBook => kit_is); (case hxiz_NotAMachine_InvalidBook => kit_is); (case hxiz_InvalidLine_InvalidBook => kit_is); (case hxiz_InvalidWord_InvalidBook => kit_is); (case hxiz_InvalidStand_InvalidBook => kit_is); (case hxiz_InvalidLetter_InvalidBook => kit_is); (case hxiz_InvalidTexts_InvalidBook => kit_is); (case hxiz_InvalidEnds_InvalidBook => kit_is); (case hxiz_InvalidArrows_InvalidBook => kit_is); (case hxiz_InvalidDeeds_InvalidBook => kit_is); (case hxiz_Busy_InvalidBook => kit_is); (case hxiz_NothingToUndo_InvalidBook => kit_is); (case hxiz_TooMany_InvalidBook => kit_is); (case hxiz_InvalidCount_InvalidEnds => kit_is); (case hxiz_InvalidText_InvalidEnds => kit_is); (case hxiz_NotADesk_InvalidEnds => kit_is); (case hxiz_NotAMachine_InvalidEnds => kit_is); (case hxiz_InvalidLine_InvalidEnds => kit_is); (case hxiz_InvalidWord_InvalidEnds => kit_is); (case hxiz_InvalidStand_InvalidEnds => kit_is); (case hxiz_InvalidLetter_InvalidEnds => kit_is); (case hxiz_InvalidTexts_InvalidEnds => kit_is); (case hxiz_InvalidBook_InvalidEnds => kit_is); (case hxiz_InvalidArrows_InvalidEnds => kit_is); (case hxiz_InvalidDeeds_InvalidEnds => kit_is); (case hxiz_Busy_InvalidEnds => kit_is); (case hxiz_NothingToUndo_InvalidEnds => kit_is); (case hxiz_TooMany_InvalidEnds => kit_is); (case hxiz_InvalidCount_InvalidDeeds => kit_is); (case hxiz_InvalidText_InvalidDeeds => kit_is); (case hxiz_NotADesk_InvalidDeeds => kit_is); (case hxiz_NotAMachine_InvalidDeeds => kit_is); (case hxiz_InvalidLine_InvalidDeeds => kit_is); (case hxiz_InvalidWord_InvalidDeeds => kit_is); (case hxiz_InvalidStand_InvalidDeeds => kit_is); (case hxiz_InvalidLetter_InvalidDeeds => kit_is); (case hxiz_InvalidTexts_InvalidDeeds => kit_is); (case hxiz_InvalidBook_InvalidDeeds => kit_is); (case hxiz_InvalidEnds_InvalidDeeds => kit_is); (case hxiz_InvalidArrows_InvalidDeeds => kit_is); (case hxiz_Busy_InvalidDeeds => kit_is); (case hxiz_NothingToUndo_InvalidDeeds => kit_is); (case hxiz_TooMany_InvalidDeeds => kit_is); (case hxiz_InvalidCount_InvalidTexts => kit_is); (case hxiz_InvalidText_InvalidTexts => kit_is); (case hxiz_NotADesk_InvalidTexts => kit_is); (case hxiz_NotAMachine_InvalidTexts => kit_is); (case hxiz_InvalidLine_InvalidTexts => kit_is); (case hxiz_InvalidWord_InvalidTexts => kit_is); (case hxiz_InvalidStand_InvalidTexts => kit_is); (case hxiz_InvalidLetter_InvalidTexts => kit_is); (case hxiz_InvalidBook_InvalidTexts => kit_is); (case hxiz_InvalidEnds_InvalidTexts => kit_is); (case hxiz_InvalidArrows_InvalidTexts => kit_is); (case hxiz_InvalidDeeds_InvalidTexts => kit_is); (case hxiz_Busy_InvalidTexts => kit_is); (case hxiz_NothingToUndo_InvalidTexts => kit_is); (case hxiz_TooMany_InvalidTexts => kit_is); (case hxiz_InvalidCount_TooMany => kit_is); (case hxiz_InvalidText_TooMany => kit_is); (case hxiz_NotADesk_TooMany => kit_is); (case hxiz_NotAMachine_TooMany => kit_is); (case hxiz_InvalidLine_TooMany => kit_is); (case hxiz_InvalidWord_TooMany => kit_is); (case hxiz_InvalidStand_TooMany => kit_is); (case hxiz_InvalidLetter_TooMany => kit_is); (case hxiz_InvalidTexts_TooMany => kit_is); (case hxiz_InvalidBook_TooMany => kit_is); (case hxiz_InvalidEnds_TooMany => kit_is); (case hxiz_InvalidArrows_TooMany => kit_is); (case hxiz_InvalidDeeds_TooMany => kit_is); (case hxiz_Busy_TooMany => kit_is); (case hxiz_NothingToUndo_TooMany => kit_is); (case hxiz_InvalidCount_Busy => kit_is); (case hxiz_InvalidText_Busy => kit_is); (case hxiz_NotADesk_Busy => kit_is); (case hxiz_NotAMachine_Busy => kit_is); (case hxiz_InvalidLine_Busy => kit_is); (case hxiz_InvalidWord_Busy => kit_is); (case hxiz_InvalidStand_Busy => kit_is); (case hxiz_InvalidLetter_Busy => kit_is); (case hxiz_InvalidTexts_Busy => kit_is); (case hxiz_InvalidBook_Busy => kit_is); (case hxiz_InvalidEnds_Busy => kit_is); (case hxiz_InvalidArrows_Busy => kit_is); (case hxiz_InvalidDeeds_Busy => kit_is); (case hxiz_NothingToUndo_Busy => kit_is); (case hxiz_TooMany_Busy => kit_is); (case hxiz_InvalidCount_NothingToUndo => kit_is); (case hxiz_InvalidText_NothingToUndo => kit_is); (case hxiz_NotADesk_NothingToUndo => kit_is); (case hxiz_NotAMachine_NothingToUndo => kit_is); (case hxiz_InvalidLine_NothingToUndo => kit_is); (case hxiz_InvalidWord_NothingToUndo => kit_is); (case hxiz_InvalidStand_NothingToUndo => kit_is); (case hxiz_InvalidLetter_NothingToUndo => kit_is); (case hxiz_InvalidTexts_NothingToUndo => kit_is); (case hxiz_InvalidBook_NothingToUndo => kit_is); (case hxiz_InvalidEnds_NothingToUndo => kit_is); (case hxiz_InvalidArrows_NothingToUndo => kit_is); (case hxiz_InvalidDeeds_NothingToUndo => kit_is); (case hxiz_Busy_NothingToUndo => kit_is); (case hxiz_TooMany_NothingToUndo => kit_is); (case a0 => k_is); (case l0 => k_is); (case e0 => k_is); (case k0 => k_is); (case a1 => k_is); (case l1 => k_is); (case e1 => k_is); (case k1 => k_is); (case a2 => k_is); (case l2 => k_is); (case e2 => k_is); (case k2 => k_is); (case a3 => k_is); (case l3 => k_is); (case e3 => k_is); (case k3 => k_is); (case a4 => k_is); (case l4 => k_is); (case e4 => k_is); (case k4 => k_is); (case a5 => k_is); (case l5 => k_is); (case e5 => k_is); (case k5 => k_is); (case a6 => k_is); (case l6 => k_is); (case e6 => k_is); (case k6 => k_is); (case a7 => k_is); (case l7 => k_is); (case e7 => k_is); (case k7 => k_is); (case a8 => k_is); (case l8 => k_is); (case e8 => k_is); (case k8 => k_is); (case g_MOST_DEEDS => k_is); (case g_MOST_WORD => k_is); (case g_MOST_LETTERS => k_is); (case g_MOST_STANDS => k_is); (case z_ArithmeticError => k_is); (case z_LookupError => k_is); (case z_ValueError => k_is); (case z_abs => k_is); (case z_all => k_is); (case z_divmod => k_is); (case z_int => k_is); (case z_isinstance => k_is); (case z_len => k_is); (case z_max => k_is); (case z_min => k_is); (case z_range => k_is); (case z_repr => k_is)
