import PyProof.Rows.All
import Wide.All
import OpenK.AllK
import Wide.FinOn
import HandS.Base
import HandS.Call
import HandS.List
import HandS.Words
import HandS.Lambda
import HandS.HotCalls
import KE.KDictKeyed
import KE.KDictWalk
import HandS.TupAny
import HandS.TupMul
import HandS.Deep
import HandS.IsInst
import HandS.Text
import HandS.TupLe
import HandS.Style
import HandS.Dict
import HandS.Ends
import HandS.Comp
import HandS.Iter
import HandS.Walk
import HandS.More
import HandS.WordsDict
import HandS.Replace
import PyProof.ReprRoads
import KE.KRevSl
import KE.GoesEnum
import HandS.Zip
import HandS.ForMost
import HandS.EndTab
import KE.KNestM
import HandS.Star
import HandS.SortKw
import HandS.DictTup
import KE.KMinKey
import HandS.SortInts
import HandS.FStr
import HandS.Conv
import HandS.RaiseMore
import PyProof.InstNe
import HandS.MapObj
import KE.KDictCopyH
import KE.KDictDisplayH
import HandS.SetFor
import HandS.Strs
import HandS.StrMore
import PyProof.Rows.RegReprOcc
import KE.GoesZip
import KE.GoesMore
import PyProof.MeetsIn
import PyProof.Rows.Range3
import KE.RegKTryMore
import HandS.TryOnly
import KE.SortData
import KE.DataCmp
import KE.DataMinMax
import HandS.WideBits
import HandS.TupLen
import PyProof.TupleOfStr
import HandS.ExcCtx
import HandS.ExcInit
import KE.KTryMore
import KE.KExcIs
import KE.KEqDict
import HandS.ExcField
import HandS.ExcIs
import PySem.Challenge.RW_liketongues_k80_texts_written
import PyProof.ReprLen
set_option Elab.async false
set_option linter.all false
section
set_option maxRecDepth 100000
set_option maxHeartbeats 4000000
namespace MC
open PySem PySem.Spec PyProof.Rows L2

/-- a name: its signs -/
abbrev Nm := List Nat

/-- pure values; ref n: the n-th object of the list heap; scr, rdic, ins: objects that nobody changes any more (lists, dicts, instances) -/
inductive PV where
  | non
  | bl (b : Bool)
  | int (i : Int)
  | str (s : List Nat)
  | tup (xs : List PV)
  | scr (xs : List PV)
  | rdic (kvs : List (PV × PV))
  | ins (c : Nat) (fs : List (Nm × PV))
  | ref (n : Nat)
  | gl (i : Nat)
  | exn (c : Nat) (fs : List (Nm × PV))
  deriving Inhabited

/-- objects that may change -/
inductive PO where
  | lst (xs : List PV)
  | ins (c : Nat) (fs : List (Nm × PV))
  | dic (lk : Bool) (kvs : List (PV × PV))
  | dit (lk : Bool) (kvs : List (PV × PV))
  deriving Inhabited
abbrev PH := List PO

/-- what the text's top has left: its written part, its classes and its values by number -/
structure Wo where
  K : PySem.W.Frag
  cl : Nat → Option Addr
  gv : Nat → Option V
  W : World
  T : List (Addr × Str) := []
  ex : Option (Addr × Obj) := none

def nmS (k : Nm) : Str := ⟨k.toArray⟩

/-- a dict's key: an int or a text -/
def keyP : PV → Option Key
  | .int i => some (.inl i)
  | .str s => some (.inr ⟨s.toArray⟩)
  | _ => none

/-- a list that nobody changes: an object of the written part, or one that is known to the object -/
def ScrL (w : Wo) (M : Addr → Prop) (H : Hp) (a : Addr) (vs : List V) : Prop :=
  (∃ (o : Obj) (its : Array Value) (n : Nat), w.K.lookup a = some o ∧ o.cls = .type "list" ∧ o.dict = none ∧ o.data = .seq its n ∧ its.size ≤ sizeLine ∧ Vals vs its.toList) ∨
    ∃ o, H a = some (.frz o (.lst vs)) ∧ ¬ M a
theorem ScrL.sq {w : Wo} {M : Addr → Prop} {H : Hp} {a : Addr} {vs : List V} (h : ScrL w M H a vs) : SqL w.K H a vs := h.elim .inr fun ⟨o, e, _⟩ => .inl (.inr ⟨o, e⟩)

mutual
inductive VR (w : Wo) (M : Addr → Prop) (rho : List Addr) (H : Hp) : PV → V → Prop
  | non : VR w M rho H .non .non
  | bl (b : Bool) : VR w M rho H (.bl b) (.bl b)
  | int (i : Int) : VR w M rho H (.int i) (.int i)
  | str (s : List Nat) : VR w M rho H (.str s) (.str ⟨s.toArray⟩)
  | tup {xs : List PV} {vs : List V} {a : Addr} : SqT w.K H a vs → VRs w M rho H xs vs → VR w M rho H (.tup xs) (.ref a)
  | scr {xs : List PV} {vs : List V} {a : Addr} : ScrL w M H a vs → VRs w M rho H xs vs → VR w M rho H (.scr xs) (.ref a)
  | rdic {kvs : List (PV × PV)} {ks : List (Key × V)} {a : Addr} {o : Obj} : H a = some (.frz o (.dK ks)) → ¬ M a → KRs w M rho H kvs ks → VR w M rho H (.rdic kvs) (.ref a)
  | ins {c : Nat} {C dx a : Addr} {fs : List (Nm × PV)} {gs : List (Str × V)} : w.cl c = some C → H a = some (.ins C dx gs) → ¬ M a → FRs w M rho H fs gs → VR w M rho H (.ins c fs) (.ref a)
  | ref {n : Nat} {a : Addr} : rho[n]? = some a → VR w M rho H (.ref n) (.ref a)
  | gl {i : Nat} {v : V} : w.gv i = some v → VR w M rho H (.gl i) v
  | exn {c : Nat} {C a : Addr} {d : Option Addr} {oe : Obj} {fs : List (Nm × PV)} {gs : List (Str × V)} : w.ex = some (a, oe) → Zc (.ref C) d oe → (∃ vs, oe.data = .fields vs) → w.cl c = some C → (∀ x, d = some x → H x = some (.xd gs) ∧ ¬ M x) → (d = none → gs = []) → FRs w M rho H fs gs → VR w M rho H (.exn c fs) (.ref a)
inductive VRs (w : Wo) (M : Addr → Prop) (rho : List Addr) (H : Hp) : List PV → List V → Prop
  | nil : VRs w M rho H [] []
  | cons {x : PV} {v : V} {xs : List PV} {vs : List V} : VR w M rho H x v → VRs w M rho H xs vs → VRs w M rho H (x :: xs) (v :: vs)
inductive FRs (w : Wo) (M : Addr → Prop) (rho : List Addr) (H : Hp) : List (Nm × PV) → List (Str × V) → Prop
  | nil : FRs w M rho H [] []
  | cons {k : Nm} {x : PV} {v : V} {fs : List (Nm × PV)} {gs : List (Str × V)} : VR w M rho H x v → FRs w M rho H fs gs → FRs w M rho H ((k, x) :: fs) ((nmS k, v) :: gs)
inductive KRs (w : Wo) (M : Addr → Prop) (rho : List Addr) (H : Hp) : List (PV × PV) → List (Key × V) → Prop
  | nil : KRs w M rho H [] []
  | cons {k x : PV} {j : Key} {v : V} {fs : List (PV × PV)} {gs : List (Key × V)} : keyP k = some j → VR w M rho H x v → KRs w M rho H fs gs → KRs w M rho H ((k, x) :: fs) ((j, v) :: gs)
end

mutual
/-- a key of a dict whose keys are tuples -/
def nkP : PV → Option NestedKey
  | .non => some .none
  | .bl b => some (.num (if b = true then 1 else 0))
  | .int i => some (.num i)
  | .str s => some (.text ⟨s.toArray⟩)
  | .tup xs => match nkPs xs with
    | some ks => some (.tup ks)
    | none => none
  | .scr _ => none
  | .rdic _ => none
  | .ins _ _ => none
  | .ref _ => none
  | .gl _ => none
  | .exn _ _ => none
def nkPs : List PV → Option (List NestedKey)
  | [] => some []
  | x :: xs => match nkP x with
    | some k => match nkPs xs with
      | some ks => some (k :: ks)
      | none => none
    | none => none
end
/-- a dict whose keys are tuples, by its entries -/
def TDO (W : World) (a : Addr) (xs : List (NestedKey × Addr × Value)) : HO := .ext fun h => ∃ o es ep, h.get? a = some o ∧ o.ExactDict ∧ o.data = .dict es ep ∧ es.toList = xs.map fun x => ⟨x.1.hash W, .ref x.2.1, x.2.2⟩
inductive TRs (w : Wo) (M : Addr → Prop) (rho : List Addr) (H : Hp) : List (PV × PV) → List (NestedKey × Addr × Value) → Prop
  | nil : TRs w M rho H [] []
  | cons {k x : PV} {nk : NestedKey} {a : Addr} {u : Value} {v : V} {fs : List (PV × PV)} {gs : List (NestedKey × Addr × Value)} : nkP k = some nk → nk.depth ≤ 8 → VR w M rho H k (.ref a) → VR w M rho H x v → RelV v u → TRs w M rho H fs gs → TRs w M rho H ((k, x) :: fs) ((nk, a, u) :: gs)

def OR (w : Wo) (M : Addr → Prop) (rho : List Addr) (H : Hp) (a : Addr) : PO → Prop
  | .lst xs => ∃ vs, H a = some (.lst vs) ∧ VRs w M rho H xs vs
  | .ins c fs => ∃ C dx gs, w.cl c = some C ∧ H a = some (.ins C dx gs) ∧ FRs w M rho H fs gs
  | .dic lk kvs => ∃ ks, (bif lk then ∃ o, H a = some (.frz o (.dK ks)) else H a = some (.dK ks)) ∧ KRs w M rho H kvs ks
  | .dit lk kvs => ∃ xs, (bif lk then ∃ o, H a = some (.frz o (TDO w.W a xs)) else H a = some (TDO w.W a xs)) ∧ (a == sysModules) = false ∧ xs.length ≤ sizeLine ∧ (xs.map (·.1)).Nodup ∧ TRs w M rho H kvs xs

/-- the tables of code objects -/
def TabsM (w : Wo) (M : Addr → Prop) (H : Hp) : Prop := ∀ p ∈ w.T, ∃ ps : Array Value, H p.1 = some (.tbl ps) ∧ TriplesOk ps.toList ∧ ∀ (pos : Pos) (cv : Value), codeAmong pos ps.toList = some cv → ∃ c, cv = .ref c ∧ H c = some (LamX.CodeO c p.2) ∧ ¬ M c
structure HR (w : Wo) (M : Addr → Prop) (rho : List Addr) (H : Hp) (h : PH) : Prop where
  len : h.length = rho.length
  nd : rho.Nodup
  mem : ∀ b ∈ rho, M b
  live : ∀ b, M b → H b ≠ none
  ob : ∀ (n : Nat) (o : PO), h[n]? = some o → ∃ a, rho[n]? = some a ∧ OR w M rho H a o
  tabs : TabsM w M H

structure Step (M : Addr → Prop) (rho : List Addr) (H : Hp) (M' : Addr → Prop) (rho' : List Addr) (H' : Hp) : Prop where
  ext : ∀ (n : Nat) a, rho[n]? = some a → rho'[n]? = some a
  mono : ∀ b, M b → M' b
  fresh : ∀ b, M' b → M b ∨ H b = none
  new : ∀ b ∈ rho', b ∈ rho ∨ H b = none
  frame : ∀ b o, b ∉ rho → H b = some o → (∀ ps, o ≠ .tbl ps) → H' b = some o
  there : ∀ b, H b ≠ none → H' b ≠ none
  frz : ∀ b o u, H b = some (.frz o u) → H' b = some (.frz o u)

section
variable {w : Wo} {M M1 M2 : Addr → Prop} {rho rho1 rho2 : List Addr} {H H1 H2 : Hp} {h h1 : PH}

theorem Step.refl : Step M rho H M rho H := ⟨fun _ _ e => e, fun _ e => e, fun _ e => .inl e, fun _ e => .inl e, fun _ _ _ e _ => e, fun _ e => e, fun _ _ _ e => e⟩
theorem Step.trans (a : Step M rho H M1 rho1 H1) (b : Step M1 rho1 H1 M2 rho2 H2) : Step M rho H M2 rho2 H2 where
  ext := fun n x e => b.ext n x (a.ext n x e)
  mono := fun x e => b.mono x (a.mono x e)
  fresh := fun x e => by
    rcases b.fresh x e with e | e
    · exact a.fresh x e
    · refine .inr ?_
      cases q : H x with
      | none => rfl
      | some o => exact absurd e (a.there x (by rw [q]; exact Option.some_ne_none _))
  new := fun x e => by
    rcases b.new x e with e | e
    · exact a.new x e
    · refine .inr ?_
      cases q : H x with
      | none => rfl
      | some o => exact absurd e (a.there x (by rw [q]; exact Option.some_ne_none _))
  frame := fun x o n e nt => by
    refine b.frame x o (fun z => ?_) (a.frame x o n e nt) nt
    rcases a.new x z with z | z
    · exact n z
    · rw [z] at e; cases e
  there := fun x e => b.there x (a.there x e)
  frz := fun x o u e => b.frz x o u (a.frz x o u e)

/-- no tuple -/
def noT : HO → Bool
  | .tup _ => false
  | .frz _ (.tup _) => false
  | .tbl _ => false
  | _ => true
theorem OR.some {a : Addr} {o : PO} (r : OR w M rho H a o) : ∃ u, H a = some u ∧ noT u = true := by
  cases o with
  | lst xs => obtain ⟨vs, e, _⟩ := r; exact ⟨_, e, rfl⟩
  | ins c fs => obtain ⟨_, _, _, _, e, _⟩ := r; exact ⟨_, e, rfl⟩
  | dic lk kvs =>
    obtain ⟨ks, e, _⟩ := r
    cases lk with
    | false => exact ⟨_, e, rfl⟩
    | true => obtain ⟨o, e⟩ := e; exact ⟨_, e, rfl⟩
  | dit lk kvs =>
    obtain ⟨ks, e, _⟩ := r
    cases lk with
    | false => exact ⟨_, e, rfl⟩
    | true => obtain ⟨o, e⟩ := e; exact ⟨_, e, rfl⟩
theorem HR.at (r : HR w M rho H h) {b : Addr} (hb : b ∈ rho) : ∃ u, H b = some u ∧ noT u = true := by
  obtain ⟨n, hn, e⟩ := List.mem_iff_getElem.mp hb
  have hl : n < h.length := by rw [r.len]; exact hn
  obtain ⟨a, ha, q⟩ := r.ob n h[n] (List.getElem?_eq_getElem hl)
  rw [List.getElem?_eq_getElem hn, e] at ha
  cases ha
  exact q.some
theorem Step.sqT (st : Step M rho H M1 rho1 H1) (r : HR w M rho H h) {K : PySem.W.Frag} {a : Addr} {vs : List V} (q : SqT K H a vs) : SqT K H1 a vs := by
  rcases q with (q | ⟨o, q⟩) | q
  · refine .inl (.inl (st.frame a _ (fun z => ?_) q fun ps z => by cases z))
    obtain ⟨u, e, n⟩ := r.at z
    rw [q] at e; cases e; cases n
  · refine .inl (.inr ⟨o, st.frame a _ (fun z => ?_) q fun ps z => by cases z⟩)
    obtain ⟨u, e, n⟩ := r.at z
    rw [q] at e; cases e; cases n
  · exact .inr q
theorem Step.no (st : Step M rho H M1 rho1 H1) {a : Addr} {u : HO} (q : H a = some u) (n : ¬ M a) : ¬ M1 a := fun z => by
  rcases st.fresh a z with z | z
  · exact n z
  · rw [q] at z; cases z
theorem Step.at (st : Step M rho H M1 rho1 H1) (r : HR w M rho H h) {a : Addr} {u : HO} (q : H a = some u) (n : ¬ M a) (nt : ∀ ps, u ≠ .tbl ps := by intro ps z; cases z) : H1 a = some u :=
  st.frame a u (fun z => n (r.mem a z)) q nt
theorem Step.scr (st : Step M rho H M1 rho1 H1) (r : HR w M rho H h) {a : Addr} {vs : List V} (q : ScrL w M H a vs) : ScrL w M1 H1 a vs := by
  rcases q with q | ⟨o, q, n⟩
  · exact .inl q
  · exact .inr ⟨o, st.at r q n, st.no q n⟩
mutual
theorem VR.step (st : Step M rho H M1 rho1 H1) (r : HR w M rho H h) : ∀ {x : PV} {v : V}, VR w M rho H x v → VR w M1 rho1 H1 x v
  | _, _, .non => .non
  | _, _, .bl b => .bl b
  | _, _, .int i => .int i
  | _, _, .str s => .str s
  | _, _, .tup q s => .tup (st.sqT r q) (VRs.step st r s)
  | _, _, .scr q s => .scr (st.scr r q) (VRs.step st r s)
  | _, _, .rdic e n s => .rdic (st.at r e n) (st.no e n) (KRs.step st r s)
  | _, _, .ins c e n s => .ins c (st.at r e n) (st.no e n) (FRs.step st r s)
  | _, _, .ref e => .ref (st.ext _ _ e)
  | _, _, .gl e => .gl e
  | _, _, .exn e1 e2 e3 e4 e5 e6 s => .exn e1 e2 e3 e4 (fun x hx => ⟨st.at r (e5 x hx).1 (e5 x hx).2, st.no (e5 x hx).1 (e5 x hx).2⟩) e6 (FRs.step st r s)
theorem VRs.step (st : Step M rho H M1 rho1 H1) (r : HR w M rho H h) : ∀ {xs : List PV} {vs : List V}, VRs w M rho H xs vs → VRs w M1 rho1 H1 xs vs
  | _, _, .nil => .nil
  | _, _, .cons a b => .cons (VR.step st r a) (VRs.step st r b)
theorem FRs.step (st : Step M rho H M1 rho1 H1) (r : HR w M rho H h) : ∀ {fs : List (Nm × PV)} {gs : List (Str × V)}, FRs w M rho H fs gs → FRs w M1 rho1 H1 fs gs
  | _, _, .nil => .nil
  | _, _, .cons a b => .cons (VR.step st r a) (FRs.step st r b)
theorem KRs.step (st : Step M rho H M1 rho1 H1) (r : HR w M rho H h) : ∀ {fs : List (PV × PV)} {gs : List (Key × V)}, KRs w M rho H fs gs → KRs w M1 rho1 H1 fs gs
  | _, _, .nil => .nil
  | _, _, .cons k a b => .cons k (VR.step st r a) (KRs.step st r b)
end

theorem TRs.step (st : Step M rho H M1 rho1 H1) (r : HR w M rho H h) : ∀ {fs : List (PV × PV)} {gs : List (NestedKey × Addr × Value)}, TRs w M rho H fs gs → TRs w M1 rho1 H1 fs gs
  | _, _, .nil => .nil
  | _, _, .cons k d a b c q => .cons k d (a.step st r) (b.step st r) c (TRs.step st r q)
theorem TRs.length : ∀ {fs : List (PV × PV)} {gs : List (NestedKey × Addr × Value)}, TRs w M rho H fs gs → gs.length = fs.length
  | _, _, .nil => rfl
  | _, _, .cons _ _ _ _ _ b => by rw [List.length_cons, List.length_cons, TRs.length b]
theorem VRs.length : ∀ {xs : List PV} {vs : List V}, VRs w M rho H xs vs → vs.length = xs.length
  | _, _, .nil => rfl
  | _, _, .cons _ b => by rw [List.length_cons, List.length_cons, VRs.length b]
theorem VRs.get : ∀ {xs : List PV} {vs : List V} {i : Nat} {x : PV}, VRs w M rho H xs vs → xs[i]? = some x → ∃ v, vs[i]? = some v ∧ VR w M rho H x v
  | _, _, i, _, .nil, e => by simp at e
  | _, _, 0, _, .cons a _, e => by simp at e; subst e; exact ⟨_, rfl, a⟩
  | _, _, i + 1, x, .cons _ b, e => by
    obtain ⟨v, h1, h2⟩ := VRs.get (i := i) (x := x) b (by simpa using e)
    exact ⟨v, by simpa using h1, h2⟩
theorem VRs.append : ∀ {xs ys : List PV} {vs us : List V}, VRs w M rho H xs vs → VRs w M rho H ys us → VRs w M rho H (xs ++ ys) (vs ++ us)
  | _, _, _, _, .nil, s => s
  | _, _, _, _, .cons r t, s => .cons r (VRs.append t s)
theorem VRs.take : ∀ {xs : List PV} {vs : List V} (n : Nat), VRs w M rho H xs vs → VRs w M rho H (xs.take n) (vs.take n)
  | _, _, 0, _ => .nil
  | _, _, _ + 1, .nil => .nil
  | _, _, n + 1, .cons r t => .cons r (VRs.take n t)
theorem VRs.drop : ∀ {xs : List PV} {vs : List V} (n : Nat), VRs w M rho H xs vs → VRs w M rho H (xs.drop n) (vs.drop n)
  | _, _, 0, r => r
  | _, _, _ + 1, .nil => .nil
  | _, _, n + 1, .cons _ t => VRs.drop n t
theorem VRs.set {x : PV} {v : V} (r : VR w M rho H x v) : ∀ {xs : List PV} {vs : List V} (i : Nat), VRs w M rho H xs vs → VRs w M rho H (xs.set i x) (vs.set i v)
  | _, _, _, .nil => .nil
  | _, _, 0, .cons _ t => .cons r t
  | _, _, i + 1, .cons q t => .cons q (VRs.set r i t)

/-- all that stood stands, more may be laid -/
theorem Step.grow (e : ∀ b o, H b = some o → H1 b = some o) : Step M rho H M rho H1 where
  ext := fun _ _ e => e
  mono := fun _ e => e
  fresh := fun _ e => .inl e
  new := fun _ e => .inl e
  frame := fun b o _ q _ => e b o q
  there := fun b q z => by
    cases p : H b with
    | none => exact q p
    | some o => rw [e b o p] at z; cases z
  frz := fun b o u q => e b _ q
theorem OR.step (st : Step M rho H M1 rho1 H1) (r : HR w M rho H h) {a : Addr} {o : PO} (e : H1 a = H a) (q : OR w M rho H a o) : OR w M1 rho1 H1 a o := by
  cases o with
  | lst xs => obtain ⟨vs, p, s⟩ := q; exact ⟨vs, e.trans p, s.step st r⟩
  | ins c fs => obtain ⟨C, dx, gs, p1, p, s⟩ := q; exact ⟨C, dx, gs, p1, e.trans p, s.step st r⟩
  | dic lk kvs =>
    obtain ⟨ks, p, s⟩ := q
    refine ⟨ks, ?_, s.step st r⟩
    cases lk with
    | false => exact e.trans p
    | true => obtain ⟨o, p⟩ := p; exact ⟨o, e.trans p⟩
  | dit lk kvs =>
    obtain ⟨ks, p, z1, z2, z3, s⟩ := q
    refine ⟨ks, ?_, z1, z2, z3, s.step st r⟩
    cases lk with
    | false => exact e.trans p
    | true => obtain ⟨o, p⟩ := p; exact ⟨o, e.trans p⟩
theorem TabsM.grow (t : TabsM w M H) (e : ∀ b o, H b = some o → H1 b = some o) (m : ∀ b, H b ≠ none → M1 b → M b) : TabsM w M1 H1 := fun p hp => by
  obtain ⟨ps, h1, h2, h3⟩ := t p hp
  refine ⟨ps, e _ _ h1, h2, fun pos cv hc => ?_⟩
  obtain ⟨c, e1, e2, e3⟩ := h3 pos cv hc
  exact ⟨c, e1, e _ _ e2, fun z => e3 (m c (by rw [e2]; exact Option.some_ne_none _) z)⟩
theorem HR.grow (r : HR w M rho H h) (e : ∀ b o, H b = some o → H1 b = some o) : HR w M rho H1 h where
  len := r.len
  nd := r.nd
  mem := r.mem
  live := fun b m => (Step.grow (M := M) (rho := rho) e).there b (r.live b m)
  ob := fun n o q => by
    obtain ⟨a, ha, s⟩ := r.ob n o q
    obtain ⟨u, hu, _⟩ := s.some
    exact ⟨a, ha, s.step (Step.grow e) r ((e a u hu).trans hu.symm)⟩
  tabs := r.tabs.grow e fun _ _ z => z
theorem same_upd {p : Addr} {o : HO} (n : H p = none) : ∀ b u, H b = some u → upd H p o b = some u := fun b u e => by
  rw [upd_ne (ne_of_none e n)]; exact e

/-- a new object of the list heap -/
theorem Step.alloc {p : Addr} {o : HO} (n : H p = none) : Step M rho H (fun b => M b ∨ b = p) (rho ++ [p]) (upd H p o) where
  ext := fun i a e => by
    have hi : i < rho.length := (List.getElem?_eq_some_iff.mp e).1
    rw [List.getElem?_append_left hi]; exact e
  mono := fun b e => .inl e
  fresh := fun b e => e.elim .inl fun z => .inr (by rw [z]; exact n)
  new := fun b e => by
    rcases List.mem_append.mp e with z | z
    · exact .inl z
    · rw [List.mem_singleton.mp z]; exact .inr n
  frame := fun b u _ e _ => same_upd n b u e
  there := fun b e => (Step.grow (M := M) (rho := rho) (same_upd (o := o) n)).there b e
  frz := fun b u v e => same_upd n b _ e
theorem HR.alloc (r : HR w M rho H h) {p : Addr} {o : HO} (n : H p = none) {po : PO} (q : OR w (fun b => M b ∨ b = p) (rho ++ [p]) (upd H p o) p po) :
    HR w (fun b => M b ∨ b = p) (rho ++ [p]) (upd H p o) (h ++ [po]) where
  len := by rw [List.length_append, List.length_append, r.len]; rfl
  nd := by
    refine List.nodup_append.mpr ⟨r.nd, (by simp), fun a ha b hb e => ?_⟩
    rw [List.mem_singleton] at hb
    subst e; subst hb
    exact r.live _ (r.mem _ ha) n
  mem := fun b hb => (List.mem_append.mp hb).elim (fun z => .inl (r.mem b z)) fun z => .inr (List.mem_singleton.mp z)
  live := fun b hb => hb.elim (fun z => (Step.alloc (M := M) (rho := rho) (o := o) n).there b (r.live b z)) fun z => by rw [z, upd_same]; exact Option.some_ne_none _
  ob := fun i u e => by
    by_cases hi : i < h.length
    · rw [List.getElem?_append_left hi] at e
      obtain ⟨a, ha, s⟩ := r.ob i u e
      obtain ⟨v, hv, _⟩ := s.some
      exact ⟨a, (Step.alloc (M := M) (rho := rho) (o := o) n).ext i a ha, s.step (Step.alloc n) r (upd_ne (ne_of_none hv n))⟩
    · have hi2 : i = h.length := by
        have z := (List.getElem?_eq_some_iff.mp e).1
        rw [List.length_append, List.length_singleton] at z
        omega
      subst hi2
      rw [List.getElem?_append_right (Nat.le_refl _), Nat.sub_self] at e
      cases e
      refine ⟨p, ?_, q⟩
      rw [List.getElem?_append_right (by rw [r.len]; exact Nat.le_refl _), r.len, Nat.sub_self]
      rfl
  tabs := r.tabs.grow (same_upd n) fun b hb z => z.elim id fun q => absurd (by rw [q]; exact n) hb
/-- the n-th object is written -/
theorem Step.write (r : HR w M rho H h) {n : Nat} {a : Addr} {o : HO} (e : rho[n]? = some a) (nf : ∀ p u, H a ≠ some (.frz p u)) : Step M rho H M rho (upd H a o) where
  ext := fun _ _ e => e
  mono := fun _ e => e
  fresh := fun _ e => .inl e
  new := fun _ e => .inl e
  frame := fun b u nb q _ => by
    rw [upd_ne]
    · exact q
    · rintro rfl
      exact nb (List.mem_of_getElem? e)
  there := fun b q => by
    by_cases hb : b = a
    · subst hb; rw [upd_same]; exact Option.some_ne_none _
    · rw [upd_ne hb]; exact q
  frz := fun b p u q => by
    rw [upd_ne]
    · exact q
    · rintro rfl
      exact nf p u q
theorem TabsM.write (t : TabsM w M H) {a : Addr} {o : HO} (m : M a) (nt : ∀ ps, H a ≠ some (.tbl ps)) : TabsM w M (upd H a o) := fun p hp => by
  obtain ⟨ps, h1, h2, h3⟩ := t p hp
  refine ⟨ps, ?_, h2, fun pos cv hc => ?_⟩
  · rw [upd_ne]
    · exact h1
    · rintro rfl
      exact nt ps h1
  · obtain ⟨c, e1, e2, e3⟩ := h3 pos cv hc
    refine ⟨c, e1, ?_, e3⟩
    rw [upd_ne]
    · exact e2
    · rintro rfl
      exact e3 m
theorem HR.notTab (r : HR w M rho H h) {b : Addr} (hb : b ∈ rho) (ps : Array Value) : H b ≠ some (.tbl ps) := fun z => by
  obtain ⟨u, e, n⟩ := r.at hb
  rw [z] at e; cases e; cases n
theorem HR.write (r : HR w M rho H h) {n : Nat} {a : Addr} {o : HO} {po : PO} (e : rho[n]? = some a) (nf : ∀ p u, H a ≠ some (.frz p u)) (q : OR w M rho (upd H a o) a po) : HR w M rho (upd H a o) (h.set n po) where
  len := by rw [List.length_set]; exact r.len
  nd := r.nd
  mem := r.mem
  live := fun b hb => (Step.write r (o := o) e nf).there b (r.live b hb)
  ob := fun i u z => by
    by_cases hi : i = n
    · subst hi
      have hl : i < h.length := by
        have := (List.getElem?_eq_some_iff.mp z).1
        rwa [List.length_set] at this
      rw [List.getElem?_set_self hl] at z
      cases z
      exact ⟨a, e, q⟩
    · rw [List.getElem?_set_ne (Ne.symm hi)] at z
      obtain ⟨b, hb, s⟩ := r.ob i u z
      refine ⟨b, hb, s.step (Step.write r e nf) r (upd_ne ?_)⟩
      rintro rfl
      obtain ⟨h1, e1⟩ := List.getElem?_eq_some_iff.mp hb
      obtain ⟨h2, e2⟩ := List.getElem?_eq_some_iff.mp e
      exact hi ((List.getElem_inj r.nd).mp (e1.trans e2.symm))
  tabs := r.tabs.write (r.mem a (List.mem_of_getElem? e)) (r.notTab (List.mem_of_getElem? e))
end

/-- an outcome: a value and the heap behind it; an exception (its class, its attributes); or nothing is said -/
inductive R (α : Type) where
  | ok (a : α) (h : PH)
  | exc (c : Nat) (fs : List (Nm × PV)) (h : PH)
  | stuck
/-- the kind depends on f, so that simp leaves f alone -/
@[reducible] def RT {α β : Type} (_ : α → PH → R β) : Type := R β
def R.bind {α β : Type} (r : R α) (f : α → PH → R β) : RT f := match r with
  | .ok a h => f a h
  | .exc c fs h => .exc c fs h
  | .stuck => .stuck
/-- what is wanted of an exception -/
abbrev XC := Nat → List (Nm × PV) → PH → (Addr → Prop) → List Addr → Hp → Prop
abbrev KC (α : Type) := α → PH → (Addr → Prop) → List Addr → Hp → Prop
def Out {α : Type} (w : Wo) (EX : XC) (M : Addr → Prop) (rho : List Addr) (H : Hp) (r : R α) (k : KC α) : Prop := match r with
  | .ok a h => ∀ M' rho' H', Step M rho H M' rho' H' → HR w M' rho' H' h → k a h M' rho' H'
  | .exc c fs h => ∀ M' rho' H', Step M rho H M' rho' H' → HR w M' rho' H' h → EX c fs h M' rho' H'
  | .stuck => False
section
variable {w : Wo} {EX : XC} {M M1 : Addr → Prop} {rho rho1 : List Addr} {H H1 : Hp} {α β : Type}
theorem Out.step {r : R α} {k : KC α} (o : Out w EX M rho H r k) (st : Step M rho H M1 rho1 H1) : Out w EX M1 rho1 H1 r k := by
  cases r with
  | ok a h => exact fun M' rho' H' s q => o M' rho' H' (st.trans s) q
  | exc c fs h => exact fun M' rho' H' s q => o M' rho' H' (st.trans s) q
  | stuck => exact o
theorem Out.bind {r : R α} {f : α → PH → R β} {k : KC β} (o : Out w EX M rho H (r.bind f) k) : Out w EX M rho H r fun a h M' rho' H' => Out w EX M' rho' H' (f a h) k := by
  cases r with
  | ok a h => exact fun M' rho' H' s _ => Out.step (show Out w EX M rho H (f a h) k from o) s
  | exc c fs h => exact o
  | stuck => exact o
theorem Out.imp {r : R α} {k k' : KC α} (o : Out w EX M rho H r k) (i : ∀ a h M' rho' H', Step M rho H M' rho' H' → HR w M' rho' H' h → k a h M' rho' H' → k' a h M' rho' H') : Out w EX M rho H r k' := by
  cases r with
  | ok a h => exact fun M' rho' H' s q => i a h M' rho' H' s q (o M' rho' H' s q)
  | exc c fs h => exact o
  | stuck => exact o
theorem Out.now {a : α} {h : PH} {k : KC α} (o : Out w EX M rho H (.ok a h) k) (q : HR w M rho H h) : k a h M rho H := o M rho H Step.refl q
end
end MC

end
section
set_option maxRecDepth 100000
set_option maxHeartbeats 4000000
namespace MC
open PySem PySem.Spec PyProof.Rows L2

/-- slots -/
abbrev Sl := L2.St
abbrev ME0 := List (Option PV) → PH → R PV
/-- the mirrors: of an expression, a test, an argument list -/
abbrev ME := ME0
abbrev MT := List (Option PV) → PH → R Bool
abbrev MA := List (Option PV) → PH → R (List PV)

/-- what a context must be for the rules; hot: an exception is handled there, w tells which -/
structure CxtG (hot : Bool) (w : Wo) (k : Nat) (X : Cx) : Prop where
  hK : X.K = w.K
  hW : X.w = w.W
  calmP : hot = false → X.calm = true ∧ X.A.handled = none
  pinP : hot = true → ∃ p, w.ex = some p ∧ p ∈ X.pn ∧ L2H.Hot1 X.A p
  roomH : L2H.RoomH k X.A
  grd : X.A.guards = some []
  own : PassesOwn (model X.prog X.w) X.A X.env X.xe
abbrev Cxt := CxtG false
theorem CxtG.calm {w : Wo} {k : Nat} {X : Cx} (C : CxtG false w k X) : X.calm = true := (C.calmP rfl).1
theorem CxtG.room {w : Wo} {k : Nat} {X : Cx} (C : CxtG false w k X) : Room k X.A := ⟨(C.calmP rfl).2, C.roomH.dp, C.roomH.un⟩
theorem Cxt.mk {w : Wo} {k : Nat} {X : Cx} (hK : X.K = w.K) (hW : X.w = w.W) (calm : X.calm = true) (room : Room k X.A) (grd : X.A.guards = some []) (own : PassesOwn (model X.prog X.w) X.A X.env X.xe) : Cxt w k X :=
  ⟨hK, hW, fun _ => ⟨calm, room.hd⟩, fun z => (nomatch z), ⟨room.dp, room.un⟩, grd, own⟩

inductive ER (w : Wo) (M : Addr → Prop) (rho : List Addr) (H : Hp) : List (Option PV) → Sl → Prop
  | nil : ER w M rho H [] []
  | has {x : PV} {v : V} {e : List (Option PV)} {s : Sl} : VR w M rho H x v → ER w M rho H e s → ER w M rho H (some x :: e) (some v :: s)
  | no {v : Option V} {e : List (Option PV)} {s : Sl} : ER w M rho H e s → ER w M rho H (none :: e) (v :: s)
section
variable {w : Wo} {M M1 : Addr → Prop} {rho rho1 : List Addr} {H H1 : Hp} {h : PH}
theorem ER.step (st : Step M rho H M1 rho1 H1) (r : HR w M rho H h) : ∀ {e : List (Option PV)} {s : Sl}, ER w M rho H e s → ER w M1 rho1 H1 e s
  | _, _, .nil => .nil
  | _, _, .has a b => .has (a.step st r) (ER.step st r b)
  | _, _, .no b => .no (ER.step st r b)
theorem ER.get : ∀ {e : List (Option PV)} {s : Sl} {i : Nat} {x : PV}, ER w M rho H e s → e[i]? = some (some x) → ∃ v, s[i]? = some (some v) ∧ VR w M rho H x v
  | _, _, i, _, .nil, q => by simp at q
  | _, _, 0, _, .has a _, q => by simp at q; subst q; exact ⟨_, rfl, a⟩
  | _, _, 0, _, .no _, q => by simp at q
  | _, _, i + 1, x, .has _ b, q => by
    obtain ⟨v, h1, h2⟩ := ER.get (i := i) (x := x) b (by simpa using q)
    exact ⟨v, by simpa using h1, h2⟩
  | _, _, i + 1, x, .no b, q => by
    obtain ⟨v, h1, h2⟩ := ER.get (i := i) (x := x) b (by simpa using q)
    exact ⟨v, by simpa using h1, h2⟩
theorem ER.set {x : PV} {v : V} (r : VR w M rho H x v) : ∀ {e : List (Option PV)} {s : Sl} (i : Nat), ER w M rho H e s → ER w M rho H (e.set i (some x)) (s.set i (some v))
  | _, _, _, .nil => .nil
  | _, _, 0, .has _ b => .has r b
  | _, _, 0, .no b => .has r b
  | _, _, i + 1, .has a b => .has a (ER.set r i b)
  | _, _, i + 1, .no b => .no (ER.set r i b)
theorem ER.drop : ∀ {e : List (Option PV)} {s : Sl} (i : Nat) (v : Option V), ER w M rho H e s → ER w M rho H (e.set i none) (s.set i v)
  | _, _, _, _, .nil => .nil
  | _, _, 0, _, .has _ b => .no b
  | _, _, 0, _, .no b => .no b
  | _, _, i + 1, v, .has a b => .has a (ER.drop i v b)
  | _, _, i + 1, v, .no b => .no (ER.drop i v b)
theorem ER.length : ∀ {e : List (Option PV)} {s : Sl}, ER w M rho H e s → e.length = s.length
  | _, _, .nil => rfl
  | _, _, .has _ b => by rw [List.length_cons, List.length_cons, ER.length b]
  | _, _, .no b => by rw [List.length_cons, List.length_cons, ER.length b]
end

/-- a value's end -/
def KV (w : Wo) (Q : VK) : KC PV := fun x _ M rho H => ∀ v, VR w M rho H x v → Q v H
def KA (w : Wo) (Q : List V → Hp → Prop) : KC (List PV) := fun xs _ M rho H => ∀ vs, VRs w M rho H xs vs → Q vs H
def KB (Q : Bool → Hp → Prop) : KC Bool := fun b _ _ _ H => Q b H
/-- the readings -/
def tM (w : Wo) (EX : XC) (m : ME) : TE := fun σ H Q => ∃ M rho env h, ER w M rho H env σ ∧ HR w M rho H h ∧ Out w EX M rho H (m env h) (KV w Q)
def tT (w : Wo) (EX : XC) (m : MT) : TT := fun σ H Q => ∃ M rho env h, ER w M rho H env σ ∧ HR w M rho H h ∧ Out w EX M rho H (m env h) (KB Q)
def tA (w : Wo) (EX : XC) (m : MA) : TA := fun σ H Q => ∃ M rho env h, ER w M rho H env σ ∧ HR w M rho H h ∧ Out w EX M rho H (m env h) (KA w Q)
theorem PE.imp {X : Cx} {e : Expr} {t t' : TE} (p : PE X e t) (i : ∀ σ H Q, t' σ H Q → t σ H Q) : PE X e t' := ⟨fun pins s σ H Q I h => p.run pins s σ H Q I (i σ H Q h)⟩
theorem PT.imp {X : Cx} {e : Expr} {t t' : TT} (p : PT X e t) (i : ∀ σ H Q, t' σ H Q → t σ H Q) : PT X e t' := ⟨fun pins s σ H Q I h => p.run pins s σ H Q I (i σ H Q h)⟩
theorem PW.imp {X : Cx} {e : Expr} {t t' : TT} (p : PW X e t) (i : ∀ σ H Q, t' σ H Q → t σ H Q) : PW X e t' := ⟨fun wh pins s σ H Q I h => p.run wh pins s σ H Q I (i σ H Q h)⟩
theorem PA.imp {X : Cx} {es : List Expr} {t t' : TA} (p : PA X es t) (i : ∀ σ H Q, t' σ H Q → t σ H Q) : PA X es t' := ⟨fun ps pins s σ H Q I h => p.run ps pins s σ H Q I (i σ H Q h)⟩

section
variable {w : Wo} {EX : XC} {M : Addr → Prop} {rho : List Addr} {H : Hp} {env : List (Option PV)} {σ : Sl} {h : PH}
/-- from an outcome with any end to the reading -/
theorem tM.of {m : ME} {k : KC PV} {Q : VK} (er : ER w M rho H env σ) (hr : HR w M rho H h) (o : Out w EX M rho H (m env h) k)
    (i : ∀ x h1 M1 rho1 H1 v, Step M rho H M1 rho1 H1 → ER w M1 rho1 H1 env σ → HR w M1 rho1 H1 h1 → k x h1 M1 rho1 H1 → VR w M1 rho1 H1 x v → Q v H1) : tM w EX m σ H Q :=
  ⟨M, rho, env, h, er, hr, o.imp fun x h1 M1 rho1 H1 st hr1 q v r => i x h1 M1 rho1 H1 v st (er.step st hr) hr1 q r⟩
theorem tT.of {m : MT} {k : KC Bool} {Q : Bool → Hp → Prop} (er : ER w M rho H env σ) (hr : HR w M rho H h) (o : Out w EX M rho H (m env h) k)
    (i : ∀ x h1 M1 rho1 H1, Step M rho H M1 rho1 H1 → ER w M1 rho1 H1 env σ → HR w M1 rho1 H1 h1 → k x h1 M1 rho1 H1 → Q x H1) : tT w EX m σ H Q :=
  ⟨M, rho, env, h, er, hr, o.imp fun x h1 M1 rho1 H1 st hr1 q => i x h1 M1 rho1 H1 st (er.step st hr) hr1 q⟩
theorem tA.of {m : MA} {k : KC (List PV)} {Q : List V → Hp → Prop} (er : ER w M rho H env σ) (hr : HR w M rho H h) (o : Out w EX M rho H (m env h) k)
    (i : ∀ x h1 M1 rho1 H1 v, Step M rho H M1 rho1 H1 → ER w M1 rho1 H1 env σ → HR w M1 rho1 H1 h1 → k x h1 M1 rho1 H1 → VRs w M1 rho1 H1 x v → Q v H1) : tA w EX m σ H Q :=
  ⟨M, rho, env, h, er, hr, o.imp fun x h1 M1 rho1 H1 st hr1 q v r => i x h1 M1 rho1 H1 v st (er.step st hr) hr1 q r⟩
end

def mVar (i : Nat) : ME := fun env h => match env[i]? with
  | some (some x) => .ok x h
  | _ => .stuck
def mC (x : PV) : ME := fun _ h => .ok x h
section
variable {w : Wo} {EX : XC} {X : Cx} {k : Nat}
theorem me_var (i : Nat) {x : Str} {pos : Pos} (hN : X.N[i]? = some x := by rfl) (hv : Vis X.env.scope x := by first | exact Or.inl rfl | exact Or.inr (Or.inl rfl) | exact Or.inr (Or.inr rfl)) (hd : (x == ("__debug__" : Str)) = false := by decide)
    (hcd : (x == ("__classdict__" : Str)) = false := by decide) : PE X (.Name x pos) (tM w EX (mVar i)) := by
  refine PE.imp (pv i hN hv hd hcd) fun σ H Q h => ?_
  obtain ⟨M, rho, env, hh, er, hr, o⟩ := h
  unfold mVar at o
  cases e : env[i]? with
  | none => rw [e] at o; exact o.elim
  | some a =>
    cases a with
    | none => rw [e] at o; exact o.elim
    | some x =>
      rw [e] at o
      obtain ⟨v, e1, r⟩ := er.get e
      exact ⟨v, e1, o.now hr v r⟩
theorem me_const {e : Expr} {v : V} {x : PV} (p : PE X e (tC v)) (r : ∀ M rho H, VR w M rho H x v) : PE X e (tM w EX (mC x)) := by
  refine PE.imp p fun σ H Q h => ?_
  obtain ⟨M, rho, env, hh, er, hr, o⟩ := h
  exact o.now hr v (r M rho H)
theorem me_int {i : Int} {j pos} : PE X (.Constant (.int i) j pos) (tM w EX (mC (.int i))) := me_const pe_int fun _ _ _ => .int i
theorem me_bl {b : Bool} {j pos} : PE X (.Constant (.bool b) j pos) (tM w EX (mC (.bl b))) := me_const pe_bl fun _ _ _ => .bl b
theorem me_non {j pos} : PE X (.Constant .none j pos) (tM w EX (mC .non)) := me_const pe_non fun _ _ _ => .non
theorem me_str {x : Str} {j pos} (s : List Nat) (e : x = ⟨s.toArray⟩ := by decide +kernel) : PE X (.Constant (.str x) j pos) (tM w EX (mC (.str s))) := by
  subst e
  exact me_const pe_str fun _ _ _ => .str s
end

def LIM : Nat := 16777216
theorem lim_eq : (sizeLine : Nat) = LIM := sizeLine_eq
def maNil : MA := fun _ h => .ok [] h
def maCons (m : ME) (ms : MA) : MA := fun env h => (m env h).bind fun x h1 => (ms env h1).bind fun xs h2 => .ok (x :: xs) h2
def mTup (ms : MA) : ME := fun env h => (ms env h).bind fun xs h1 => if xs.length ≤ LIM then .ok (.tup xs) h1 else .stuck
def mLst (ms : MA) : ME := fun env h => (ms env h).bind fun xs h1 => if xs.length ≤ LIM then .ok (.ref h1.length) (h1 ++ [.lst xs]) else .stuck
section
variable {w : Wo} {EX : XC} {X : Cx} {k : Nat} {M : Addr → Prop} {rho : List Addr} {H : Hp} {h : PH}
theorem ma_nil : PA X [] (tA w EX maNil) := by
  refine PA.imp pa_nil fun σ H Q h => ?_
  obtain ⟨M, rho, env, hh, er, hr, o⟩ := h
  exact o.now hr [] .nil
theorem ma_cons {e : Expr} {es : List Expr} {m : ME} {ms : MA} (ha : PE X e (tM w EX m)) (hb : PA X es (tA w EX ms)) (hs : starEach (e :: es) X.env = (false, eval e X.env) :: starEach es X.env := by rfl) : PA X (e :: es) (tA w EX (maCons m ms)) := by
  refine PA.imp (pa_cons ha hb hs) fun σ H Q h => ?_
  obtain ⟨M, rho, env, hh, er, hr, o⟩ := h
  refine tM.of er hr o.bind fun x h1 M1 rho1 H1 v st1 er1 hr1 o1 rv => ?_
  refine ⟨M1, rho1, env, h1, er1, hr1, (Out.bind o1).imp fun ys h2 M2 rho2 H2 st2 hr2 o2 us rs => ?_⟩
  exact o2.now hr2 (v :: us) (.cons (rv.step st2 hr1) rs)
/-- a new tuple -/
theorem KV.tup {xs : List PV} {vs : List V} {Q : VK} (hr : HR w M rho H h) (o : Out w EX M rho H (.ok (.tup xs) h) (KV w Q)) (r : VRs w M rho H xs vs) : ∀ p, H p = none → Q (.ref p) (upd H p (.tup vs)) := fun p n =>
  o M rho _ (Step.grow (same_upd n)) (hr.grow (same_upd n)) _ (.tup (SqT.of upd_same) (r.step (Step.grow (same_upd n)) hr))
/-- a new list -/
theorem KV.lst {xs : List PV} {vs : List V} {Q : VK} (hr : HR w M rho H h) (o : Out w EX M rho H (.ok (.ref h.length) (h ++ [.lst xs])) (KV w Q)) (r : VRs w M rho H xs vs) : ∀ p, H p = none → Q (.ref p) (upd H p (.lst vs)) := fun p n => by
  have st := Step.alloc (M := M) (rho := rho) (o := .lst vs) n
  have r2 := r.step st hr
  refine o _ _ _ st (hr.alloc n ⟨vs, upd_same, r2⟩) _ (.ref ?_)
  rw [List.getElem?_append_right (by rw [hr.len]; exact Nat.le_refl _), hr.len, Nat.sub_self]
  rfl
theorem me_tup {es : List Expr} {ms : MA} {x1 pos} (ha : PA X es (tA w EX ms)) : PE X (.Tuple es x1 pos) (tM w EX (mTup ms)) := by
  refine PE.imp (pe_tup ha) fun σ H Q h => ?_
  obtain ⟨M, rho, env, hh, er, hr, o⟩ := h
  refine tA.of er hr o.bind fun xs h1 M1 rho1 H1 vs st1 er1 hr1 o1 rs => ?_
  by_cases hl : xs.length ≤ LIM
  · simp only [hl, if_true] at o1
    exact ⟨by rw [rs.length, lim_eq]; exact hl, KV.tup hr1 o1 rs⟩
  · simp only [hl, if_false] at o1
    exact o1.elim
theorem me_lst {es : List Expr} {ms : MA} {pos} (ha : PA X es (tA w EX ms)) : PE X (.List es pos) (tM w EX (mLst ms)) := by
  refine PE.imp (pe_lst ha) fun σ H Q h => ?_
  obtain ⟨M, rho, env, hh, er, hr, o⟩ := h
  refine tA.of er hr o.bind fun xs h1 M1 rho1 H1 vs st1 er1 hr1 o1 rs => ?_
  by_cases hl : xs.length ≤ LIM
  · simp only [hl, if_true] at o1
    exact ⟨by rw [rs.length, lim_eq]; exact hl, KV.lst hr1 o1 rs⟩
  · simp only [hl, if_false] at o1
    exact o1.elim
end

abbrev O2 := PH → PV → PV → R PV
abbrev O1 := PH → PV → R PV
def r2 (w : Wo) (EX : XC) (op : O2) : R2 := fun x y H Q => ∃ M rho h px py, HR w M rho H h ∧ VR w M rho H px x ∧ VR w M rho H py y ∧ Out w EX M rho H (op h px py) (KV w Q)
def r1 (w : Wo) (EX : XC) (op : O1) : V → Hp → VK → Prop := fun x H Q => ∃ M rho h px, HR w M rho H h ∧ VR w M rho H px x ∧ Out w EX M rho H (op h px) (KV w Q)
def rA (w : Wo) (EX : XC) (op : PH → List PV → R PV) : List V → Hp → VK → Prop := fun xs H Q => ∃ M rho h ps, HR w M rho H h ∧ VRs w M rho H ps xs ∧ Out w EX M rho H (op h ps) (KV w Q)
def mOp (op : O2) (ma mb : ME) : ME := fun env h => (ma env h).bind fun x h1 => (mb env h1).bind fun y h2 => op h2 x y
def mUn (op : O1) (ma : ME) : ME := fun env h => (ma env h).bind fun x h1 => op h1 x
section
variable {w : Wo} {EX : XC} {X : Cx} {k : Nat} {a b : Expr} {ma mb : ME} {pos : Pos}
theorem tM_op {op : O2} {σ : Sl} {H : Hp} {Q : VK} (h : tM w EX (mOp op ma mb) σ H Q) : tOp (r2 w EX op) (tM w EX ma) (tM w EX mb) σ H Q := by
  obtain ⟨M, rho, env, hh, er, hr, o⟩ := h
  refine tM.of er hr o.bind fun x h1 M1 rho1 H1 v st1 er1 hr1 o1 rv => ?_
  refine ⟨M1, rho1, env, h1, er1, hr1, (Out.bind o1).imp fun y h2 M2 rho2 H2 st2 hr2 o2 u ru => ?_⟩
  exact ⟨M2, rho2, h2, x, y, hr2, rv.step st2 hr1, ru, o2⟩
theorem me_op {op : Operator} {f : O2} (ho : OpR X (binaryOp op) (r2 w EX f)) (ha : PE X a (tM w EX ma)) (hb : PE X b (tM w EX mb)) : PE X (.BinOp a op b pos) (tM w EX (mOp f ma mb)) :=
  PE.imp (pe_op ho ha hb) fun _ _ _ h => tM_op h
theorem me_cmp {op : CmpOp} {f : O2} (ho : OpR X (compareOp op) (r2 w EX f)) (ha : PE X a (tM w EX ma)) (hb : PE X b (tM w EX mb)) (hm : behindInMarks op b = false) : PE X (.Compare a [op] [b] pos) (tM w EX (mOp f ma mb)) :=
  PE.imp (pe_cmpR ho ha hb hm) fun _ _ _ h => tM_op h
end

/-- of a bool -/
def asB (r : R PV) : R Bool := r.bind fun x h => match x with
  | .bl b => .ok b h
  | _ => .stuck
def mTB (m : ME) : MT := fun env h => asB (m env h)
section
variable {w : Wo} {EX : XC} {X : Cx} {k : Nat} {a b c : Expr} {ma mb mc : ME} {pos : Pos}
theorem tM_test {σ : Sl} {H : Hp} {Q : Bool → Hp → Prop} (h : tT w EX (mTB ma) σ H Q) : tTest (tM w EX ma) σ H Q := by
  obtain ⟨M, rho, env, hh, er, hr, o⟩ := h
  refine tM.of er hr (Out.bind o) fun x h1 M1 rho1 H1 v st1 er1 hr1 o1 rv => ?_
  cases rv with
  | bl b => exact ⟨b, rfl, o1.now hr1⟩
  | _ => exact (show False from o1).elim
theorem mt_cmp {op : CmpOp} {f : O2} (ho : OpR X (compareOp op) (r2 w EX f)) (ha : PE X a (tM w EX ma)) (hb : PE X b (tM w EX mb)) (hm : behindInMarks op b = false) : PT X (.Compare a [op] [b] pos) (tT w EX (mTB (mOp f ma mb))) := by
  refine PT.imp (pt_cmpR ho ha hb hm) fun σ H Q h => ?_
  exact tM_op (show tM w EX (mOp f ma mb) σ H _ from tM_test h)
/-- a < b < c -/
def mCh (f g : O2) (ma mb mc : ME) : ME := fun env h => (ma env h).bind fun x h1 => (mb env h1).bind fun y h2 => (f h2 x y).bind fun z h3 => match z with
  | .bl true => (mc env h3).bind fun u h4 => g h4 y u
  | .bl false => .ok (.bl false) h3
  | _ => .stuck
theorem tM_ch {f g : O2} {σ : Sl} {H : Hp} {Q : VK} (h : tM w EX (mCh f g ma mb mc) σ H Q) : tChain (r2 w EX f) (r2 w EX g) (tM w EX ma) (tM w EX mb) (tM w EX mc) σ H Q := by
  obtain ⟨M, rho, env, hh, er, hr, o⟩ := h
  refine tM.of er hr o.bind fun x h1 M1 rho1 H1 v st1 er1 hr1 o1 rv => ?_
  refine ⟨M1, rho1, env, h1, er1, hr1, (Out.bind o1).imp fun y h2 M2 rho2 H2 st2 hr2 o2 u ru => ?_⟩
  refine ⟨M2, rho2, h2, x, y, hr2, rv.step st2 hr1, ru, (Out.bind o2).imp fun z h3 M3 rho3 H3 st3 hr3 o3 t rt => ?_⟩
  have er3 := (er1.step st2 hr1).step st3 hr2
  cases rt with
  | bl b =>
    refine ⟨b, rfl, ?_⟩
    cases b with
    | false => exact o3.now hr3 _ (.bl false)
    | true =>
      refine iteT (tM.of er3 hr3 (Out.bind (show Out w EX M3 rho3 H3 ((mc env h3).bind fun u h4 => g h4 y u) _ from o3)) fun p h4 M4 rho4 H4 q st4 er4 hr4 o4 rq => ?_)
      exact ⟨M4, rho4, h4, y, p, hr4, (ru.step st3 hr2).step st4 hr3, rq, o4⟩
  | _ => exact (show False from o3).elim
end
end MC

end
section
set_option maxRecDepth 100000
set_option maxHeartbeats 4000000
namespace MC
open PySem PySem.Spec PyProof.Rows L2

def S (l : List Nat) : Str := ⟨l.toArray⟩
theorem S_len (l : List Nat) : (S l).length = l.length := by show l.toArray.size = _; simp
theorem S_app (a b : List Nat) : S a ++ S b = S (a ++ b) := by
  show (⟨a.toArray ++ b.toArray⟩ : Str) = ⟨(a ++ b).toArray⟩
  simp
theorem S_inj {a b : List Nat} (h : S a = S b) : a = b := by
  have := congrArg (fun z : Str => z.cps.toList) h
  simpa [S] using this
theorem S_list (l : List Nat) : (S l).cps.toList = l := by simp [S]
theorem S_of (z : Str) : S z.cps.toList = z := by cases z; simp [S]

def opI (C : Int → Int → Bool) (g : Int → Int → PV) : O2 := fun h x y => match x, y with
  | .int i, .int j => bif C i j then .ok (g i j) h else .stuck
  | _, _ => .stuck
def unI (g : Int → Int) : O1 := fun h x => match x with
  | .int i => .ok (.int (g i)) h
  | _ => .stuck
section
variable {w : Wo} {EX : XC} {X : Cx} {k : Nat}
theorem oI {f : Value → Value → Sem Value} {C : Int → Int → Bool} {D : Int → Int → Prop} {g : Int → Int → PV} {g' : Int → Int → V} (ho : OpR X f (rI D g')) (hC : ∀ i j, C i j = true → D i j) (hg : ∀ i j M rho H, VR w M rho H (g i j) (g' i j)) :
    OpR X f (r2 w EX (opI C g)) := by
  intro pins s σ H x y v u Q I rx ry ⟨M, rho, h, px, py, hr, vx, vy, o⟩
  cases vx <;> try exact (show False from o).elim
  cases vy <;> try exact (show False from o).elim
  rename_i i j
  cases e : C i j with
  | false =>
    have o' : Out w EX M rho H (bif C i j then .ok (g i j) h else .stuck) (KV w Q) := o
    rw [e] at o'
    exact (show False from o').elim
  | true =>
    have o' : Out w EX M rho H (bif C i j then .ok (g i j) h else .stuck) (KV w Q) := o
    rw [e] at o'
    exact ho pins s σ H _ _ v u Q I rx ry ⟨i, j, rfl, rfl, hC i j e, (show Out w EX M rho H (.ok (g i j) h) (KV w Q) from o').now hr _ (hg i j M rho H)⟩
theorem oI0 {f : Value → Value → Sem Value} {g : Int → Int → PV} {g' : Int → Int → V} (ho : OpR X f (rI0 g')) (hg : ∀ i j M rho H, VR w M rho H (g i j) (g' i j)) : OpR X f (r2 w EX (opI (fun _ _ => true) g)) :=
  oI (D := fun _ _ => True) (fun pins s σ H x y v u Q I rx ry ⟨i, j, e1, e2, _, q⟩ => ho pins s σ H x y v u Q I rx ry ⟨i, j, e1, e2, q⟩) (fun _ _ _ => trivial) hg
def opSub : O2 := opI (fun _ _ => true) fun i j => .int (i - j)
def opMod : O2 := opI (fun _ j => decide (0 < j)) fun i j => .int (i % j)
def opFdiv : O2 := opI (fun _ j => decide (0 < j) && decide (j < 1073741824)) fun i j => .int (i / j)
def opPow : O2 := opI (fun i j => decide (0 ≤ j) && decide (j ≤ 1000000) && decide (i.natAbs < 2 ^ 64)) fun i j => .int (i ^ j.toNat)
theorem o_sub : OpR X (binaryOp .Sub) (r2 w EX opSub) := oI0 op_sub fun _ _ _ _ _ => .int _
theorem o_mod : OpR X (binaryOp .Mod) (r2 w EX opMod) := oI op_mod (fun _ _ h => of_decide_eq_true h) fun _ _ _ _ _ => .int _
theorem o_fdiv : OpR X (binaryOp .FloorDiv) (r2 w EX opFdiv) := oI op_fdiv (fun _ _ h => by
  rw [Bool.and_eq_true] at h
  exact ⟨of_decide_eq_true h.1, of_decide_eq_true h.2⟩) fun _ _ _ _ _ => .int _
theorem o_pow : OpR X (binaryOp .Pow) (r2 w EX opPow) := oI op_pow (fun _ _ h => by
  rw [Bool.and_eq_true, Bool.and_eq_true] at h
  exact ⟨of_decide_eq_true h.1.1, of_decide_eq_true h.1.2, of_decide_eq_true h.2⟩) fun _ _ _ _ _ => .int _
def opAdd : O2 := fun h x y => match x, y with
  | .int i, .int j => .ok (.int (i + j)) h
  | .str a, .str b => bif decide (a.length + b.length ≤ LIM) then .ok (.str (a ++ b)) h else .stuck
  | .tup a, .tup b => bif decide (a.length + b.length ≤ LIM) then .ok (.tup (a ++ b)) h else .stuck
  | .ref n, .ref m => match h[n]?, h[m]? with
    | some (.lst a), some (.lst b) => bif decide (a.length + b.length ≤ LIM) then .ok (.ref h.length) (h ++ [.lst (a ++ b)]) else .stuck
    | _, _ => .stuck
  | _, _ => .stuck
theorem Out.lim {M : Addr → Prop} {rho : List Addr} {H : Hp} {α : Type} {c : Prop} [Decidable c] {r : R α} {kk : KC α} (o : Out w EX M rho H (bif decide c then r else .stuck) kk) : c ∧ Out w EX M rho H r kk := by
  by_cases h : c
  · rw [decide_eq_true h] at o; exact ⟨h, o⟩
  · rw [decide_eq_false h] at o; exact (show False from o).elim
theorem HR.lst {M : Addr → Prop} {rho : List Addr} {H : Hp} {h : PH} (hr : HR w M rho H h) {n : Nat} {a : Addr} {xs : List PV} (e : h[n]? = some (.lst xs)) (ha : rho[n]? = some a) : ∃ vs, H a = some (.lst vs) ∧ VRs w M rho H xs vs := by
  obtain ⟨b, hb, q⟩ := hr.ob n _ e
  rw [ha] at hb; cases hb
  exact q
theorem o_add {hh : Bool} (C : CxtG hh w k X) : OpR X (binaryOp .Add) (r2 w EX opAdd) := by
  intro pins s σ H x y v u Q I rx ry ⟨M, rho, h, px, py, hr, vx, vy, o⟩
  cases vx with
  | int i =>
    cases vy <;> try exact (show False from o).elim
    exact op_add pins s σ H _ _ v u Q I rx ry ⟨_, _, rfl, rfl, (show Out w EX M rho H (.ok _ h) (KV w Q) from o).now hr _ (.int _)⟩
  | str a =>
    cases vy <;> try exact (show False from o).elim
    obtain ⟨hl, o2⟩ := Out.lim o
    refine op_add_str pins s σ H _ _ v u Q I rx ry ⟨_, _, rfl, rfl, ?_, ?_⟩
    · show (S _).length + (S _).length ≤ _
      rw [S_len, S_len, lim_eq]; exact hl
    · show Q (.str (S _ ++ S _)) H
      rw [S_app]
      exact o2.now hr _ (.str _)
  | @tup a vs A ha sa =>
    cases vy <;> try exact (show False from o).elim
    rename_i b us B hb sb
    obtain ⟨hl, o2⟩ := Out.lim o
    refine op_catA pins s σ H _ _ v u Q I rx ry ⟨A, B, vs, us, rfl, rfl, by rw [C.hK]; exact ha, by rw [C.hK]; exact hb, by rw [sa.length, sb.length, lim_eq]; exact hl, fun e => ?_, fun _ e => ?_, fun _ _ => ?_⟩
    · subst e
      cases sa
      exact o2.now hr _ (.tup hb sb)
    · subst e
      cases sb
      rw [List.append_nil] at o2
      exact o2.now hr _ (.tup ha sa)
    · exact KV.tup hr o2 (sa.append sb)
  | @ref n A ha =>
    cases vy <;> try exact (show False from o).elim
    rename_i m B hb
    have o' : Out w EX M rho H (match h[n]?, h[m]? with
      | some (.lst a), some (.lst b) => bif decide (a.length + b.length ≤ LIM) then .ok (.ref h.length) (h ++ [.lst (a ++ b)]) else .stuck
      | _, _ => .stuck) (KV w Q) := o
    split at o'
    · rename_i xs ys e1 e2
      obtain ⟨hl, o2⟩ := Out.lim o'
      obtain ⟨vs, h1, s1⟩ := hr.lst e1 ha
      obtain ⟨us, h2, s2⟩ := hr.lst e2 hb
      exact op_cat pins s σ H _ _ v u Q I rx ry ⟨A, B, vs, us, rfl, rfl, h1, h2, by rw [s1.length, s2.length, lim_eq]; exact hl, KV.lst hr o2 (s1.append s2)⟩
    · exact (show False from o').elim
  | _ => exact (show False from o).elim
end
theorem tuple_mul1 (l : Addr) (items : Array Value) (n : Nat) (dd : Option Addr) (sl : Array (Option Value)) (u : Tok) :
    Meets (Builtin.«tuple.__mul__» ⟨[.ref l, .int 1 u], []⟩) (fun _ R s => s.heap.get? l = some { cls := .type "tuple", dict := dd, data := .seq items n, slots := sl } ∧ R (.ok (.ret (Value.ref l))) s) :=
  .of_wp fun prog w A R s h => by
    obtain ⟨hp, g, d, tk, os⟩ := s
    obtain ⟨hl, h⟩ := h
    have f1 := AutoSeq1.idx_int
    wp_walk using wpAny_loadPart' hl
    repeat (first
      | (refine wpAny_ite_true (by simp) ?_; wp_walk using wpAny_loadPart' hl)
      | (refine wpAny_ite_false (by simp) ?_; wp_walk using wpAny_loadPart' hl))
    exact ⟨_, rfl, h⟩

def opMul : O2 := fun h x y => match x, y with
  | .int i, .int j => bif (decide (-(2 ^ 64) < i) && decide (i < 2 ^ 64)) || (decide (-(2 ^ 64) < j) && decide (j < 2 ^ 64)) then .ok (.int (i * j)) h else .stuck
  | .str a, .int j => bif decide (-1000000 ≤ j) && decide (j ≤ 1000) && decide (a.length ≤ 1000) then .ok (.str (List.replicate j.toNat a).flatten) h else .stuck
  | .tup a, .int j => bif decide (1 ≤ j) && decide (j ≤ 1000) && decide (1 ≤ a.length) && decide (a.length ≤ 1000) then .ok (.tup (List.replicate j.toNat a).flatten) h else .stuck
  | .ref n, .int j => match h[n]? with
    | some (.lst a) => bif decide (-1000000 ≤ j) && decide (j ≤ 1000) && decide (a.length ≤ 1000) then .ok (.ref h.length) (h ++ [.lst (List.replicate j.toNat a).flatten]) else .stuck
    | _ => .stuck
  | _, _ => .stuck
theorem Out.bif {w : Wo} {EX : XC} {M : Addr → Prop} {rho : List Addr} {H : Hp} {α : Type} {c : Bool} {r : R α} {kk : KC α} (o : Out w EX M rho H (bif c then r else .stuck) kk) : c = true ∧ Out w EX M rho H r kk := by
  cases c with
  | true => exact ⟨rfl, o⟩
  | false => exact (show False from o).elim
theorem VRs.rep {w : Wo} {M : Addr → Prop} {rho : List Addr} {H : Hp} {xs : List PV} {vs : List V} (r : VRs w M rho H xs vs) : ∀ j : Nat, VRs w M rho H (List.replicate j xs).flatten (List.replicate j vs).flatten
  | 0 => .nil
  | j + 1 => by
    rw [List.replicate_succ, List.replicate_succ, List.flatten_cons, List.flatten_cons]
    exact r.append (VRs.rep r j)
theorem rep_one {α : Type} (l : List α) : (List.replicate 1 l).flatten = l := by simp
theorem foldl_repS (l : List Nat) : ∀ (j : Nat) (acc : List Nat), List.foldl (fun x y => x ++ y) acc.toArray (List.replicate j l.toArray) = (acc ++ (List.replicate j l).flatten).toArray
  | 0, acc => by simp
  | j + 1, acc => by
    rw [List.replicate_succ, List.foldl_cons, show acc.toArray ++ l.toArray = (acc ++ l).toArray by simp, foldl_repS l j (acc ++ l), List.replicate_succ, List.flatten_cons, List.append_assoc]
theorem S_rep (l : List Nat) (j : Int) : Txt.mul (S l) j = S (List.replicate j.toNat l).flatten := by
  unfold Txt.mul
  by_cases h1 : j < 1
  · rw [if_pos h1, show j.toNat = 0 by omega]
    rfl
  · rw [if_neg h1]
    by_cases h2 : (j == 1 || (S l).length == 0) = true
    · rw [if_pos h2]
      rw [S_len] at h2
      simp only [Bool.or_eq_true, beq_iff_eq] at h2
      rcases h2 with h2 | h2
      · subst h2
        show S l = S (List.replicate 1 l).flatten
        rw [rep_one]
      · have : l = [] := List.eq_nil_of_length_eq_zero h2
        subst this
        simp [S]
    · rw [if_neg h2]
      have e := foldl_repS l j.toNat []
      show (⟨List.foldl (fun x y => x ++ y) #[] (List.replicate j.toNat l.toArray)⟩ : Str) = ⟨(List.replicate j.toNat l).flatten.toArray⟩
      rw [e]
      simp
theorem o_mul {w : Wo} {EX : XC} {X : Cx} {k : Nat} {hh : Bool} (C : CxtG hh w k X) : OpR X (binaryOp .Mult) (r2 w EX opMul) := by
  intro pins s σ H x y v u Q I rx ry ⟨M, rho, h, px, py, hr, vx, vy, o⟩
  cases vx with
  | int i =>
    cases vy <;> try exact (show False from o).elim
    rename_i j
    obtain ⟨hc, o2⟩ := Out.bif o
    refine op_mul pins s σ H _ _ v u Q I rx ry ⟨i, j, rfl, rfl, ?_, o2.now hr _ (.int _)⟩
    simp only [Bool.or_eq_true, Bool.and_eq_true, decide_eq_true_eq] at hc
    exact hc
  | str a =>
    cases vy <;> try exact (show False from o).elim
    rename_i j
    obtain ⟨hc, o2⟩ := Out.bif o
    simp only [Bool.and_eq_true, decide_eq_true_eq] at hc
    obtain ⟨t, rfl⟩ := rx
    obtain ⟨t', rfl⟩ := ry
    refine SB.mul (mulOk_of 1000 1000 (by show (S a).length ≤ _; rw [S_len]; exact hc.2) (by omega) (by omega) (by decide) (by decide)) fun t2 k2 => ?_
    refine ⟨.str _, H, I.tok _, ⟨t2, rfl⟩, ?_⟩
    show Q (.str (Txt.mul (S a) j)) H
    rw [S_rep]
    exact o2.now hr _ (.str _)
  | @tup a vs A ha sa =>
    cases vy <;> try exact (show False from o).elim
    rename_i j
    obtain ⟨hc, o2⟩ := Out.bif o
    simp only [Bool.and_eq_true, decide_eq_true_eq] at hc
    obtain ⟨⟨⟨h1, h2⟩, h3⟩, h4⟩ := hc
    have hl := sa.length
    by_cases e : j = 1
    · subst e
      have o3 : Out w EX M rho H (.ok (.tup (List.replicate 1 a).flatten) h) (KV w Q) := o2
      rw [rep_one] at o3
      have q := o3.now hr _ (.tup ha sa)
      cases rx
      obtain ⟨t, rfl⟩ := ry
      obtain ⟨its, r, ⟨⟨cls, dd, data, sl⟩, ho, hcl, n, hd⟩, hs⟩ := I.tuple (show SqT X.K H A vs by rw [C.hK]; exact ha)
      simp only at hcl hd
      subst hcl hd
      exact wpAny_binaryOp_repeat_ref (T := "tuple") (U := "int") (by decide) ⟨_, ho, rfl⟩ (fun s' => typeIs_int s' 1 t) noFill_tuple_mul F.fills_int_mul F.slot_int_rmul repeat_tuple F.slot_int_index.lookup
        (call_meets F.slot_int_rmul (typeIs_int s 1 t) F.entry_int_rmul (F.args_int_rmul_2 _ _) (int_rmul_tuple 1 t A its.toArray n dd sl)
          ⟨ho, rfl, ⟨_, ho, rfl⟩, call_meets F.slot_tuple_mul ⟨_, ho, rfl⟩ F.entry_tuple_mul (F.args_tuple_mul_2 _ _) (tuple_mul1 A its.toArray n dd sl t) ⟨ho, ⟨.ref A, H, I, rfl, q⟩⟩⟩)
    · refine op_repT pins s σ H _ _ v u Q I rx ry ⟨A, j, vs, rfl, rfl, by rw [C.hK]; exact ha, fun z => ?_, by omega, by omega, by omega, KV.tup hr o2 (sa.rep _)⟩
      rw [z] at hl
      simp at hl
      omega
  | @ref n A ha =>
    cases vy <;> try exact (show False from o).elim
    rename_i j
    have o' : Out w EX M rho H (match h[n]? with
      | some (.lst a) => bif decide (-1000000 ≤ j) && decide (j ≤ 1000) && decide (a.length ≤ 1000) then .ok (.ref h.length) (h ++ [.lst (List.replicate j.toNat a).flatten]) else .stuck
      | _ => .stuck) (KV w Q) := o
    split at o'
    · rename_i xs e1
      obtain ⟨hc, o2⟩ := Out.bif o'
      simp only [Bool.and_eq_true, decide_eq_true_eq] at hc
      obtain ⟨⟨h1, h2⟩, h3⟩ := hc
      obtain ⟨vs, h4, s1⟩ := hr.lst e1 ha
      refine op_rep pins s σ H _ _ v u Q I rx ry ⟨A, j, vs, rfl, rfl, h4, by omega, by omega, ?_, KV.lst hr o2 (s1.rep _)⟩
      rw [s1.length, lim_eq]
      have : xs.length * j.toNat ≤ 1000 * 1000 := Nat.mul_le_mul h3 (by omega)
      show _ ≤ 16777216
      omega
    · exact (show False from o').elim
  | _ => exact (show False from o).elim

def mapO {α β : Type} (f : α → Option β) : List α → Option (List β)
  | [] => some []
  | x :: xs => match f x with
    | none => none
    | some y => match mapO f xs with
      | none => none
      | some ys => some (y :: ys)
/-- a value as data -/
def toD (h : PH) : Nat → PV → Option PyData
  | 0, _ => none
  | n + 1, x => match x with
    | .non => some .none
    | .bl b => some (.bool b)
    | .int i => some (.int i)
    | .str s => some (.str (S s))
    | .tup xs => (mapO (toD h n) xs).map .tuple
    | .scr xs => (mapO (toD h n) xs).map .list
    | .ref m => match h[m]? with
      | some (.lst xs) => (mapO (toD h n) xs).map .list
      | _ => none
    | _ => none
def DEP : Nat := 20
section
variable {w : Wo} {EX : XC} {X : Cx} {k : Nat} {M : Addr → Prop} {rho : List Addr} {H : Hp} {h : PH}
theorem mapO_dp (hr : HR w M rho H h) {f : PV → Option PyData} (hf : ∀ x d v, f x = some d → VR w M rho H x v → Dp w.K H v d) : ∀ {xs : List PV} {vs : List V} {ds : List PyData}, mapO f xs = some ds → VRs w M rho H xs vs → DpAll w.K H vs ds
  | [], _, _, e, r => by
    cases r
    cases e
    exact .nil
  | x :: xs, _, ds, e, r => by
    cases r with
    | cons r1 r2 =>
      unfold mapO at e
      cases e1 : f x with
      | none => rw [e1] at e; cases e
      | some d =>
        rw [e1] at e
        cases e2 : mapO f xs with
        | none => simp only [e2] at e; cases e
        | some ds' =>
          simp only [e2] at e
          cases e
          exact .cons (hf x d _ e1 r1) (mapO_dp hr hf e2 r2)
theorem toD_dp (hr : HR w M rho H h) : ∀ (n : Nat) (x : PV) (d : PyData) (v : V), toD h n x = some d → VR w M rho H x v → Dp w.K H v d := by
  intro n
  induction n with
  | zero => intro x d v e; cases e
  | succ n ih =>
    intro x d v e r
    cases r with
    | non => cases e; exact .non
    | bl b => cases e; exact .bl b
    | int i => cases e; exact .int i
    | str s => cases e; exact .str _
    | @tup xs vs A ha sa =>
      have e' : (mapO (toD h n) xs).map PyData.tuple = some d := e
      cases e2 : mapO (toD h n) xs with
      | none => rw [e2] at e'; cases e'
      | some ds => rw [e2] at e'; cases e'; exact .tup ha (mapO_dp hr ih e2 sa)
    | @scr xs vs A ha sa =>
      have e' : (mapO (toD h n) xs).map PyData.list = some d := e
      cases e2 : mapO (toD h n) xs with
      | none => rw [e2] at e'; cases e'
      | some ds => rw [e2] at e'; cases e'; exact .lst ha.sq (mapO_dp hr ih e2 sa)
    | @ref m A ha =>
      have e' : (match h[m]? with
        | some (.lst xs) => (mapO (toD h n) xs).map PyData.list
        | _ => none) = some d := e
      split at e'
      · rename_i xs e1
        obtain ⟨vs, h4, s1⟩ := hr.lst e1 ha
        cases e2 : mapO (toD h n) xs with
        | none => rw [e2] at e'; cases e'
        | some ds => rw [e2] at e'; cases e'; exact .lst (SqL.of h4) (mapO_dp hr ih e2 s1)
      · cases e'
    | _ => cases e
/-- two values as data -/
def by2 (f : PyData → PyData → Bool) : O2 := fun h x y => match toD h DEP x, toD h DEP y with
  | some d, some e => bif SeqAt.shaped d && SeqAt.shaped e then .ok (.bl (f d e)) h else .stuck
  | _, _ => .stuck
def opEq : O2 := by2 fun d e => PyData.eqv d e
def opNe : O2 := by2 fun d e => !PyData.eqv d e
theorem by2_out {f : PyData → PyData → Bool} {x y : PV} {kk : KC PV} (o : Out w EX M rho H (by2 f h x y) kk) : ∃ d e, toD h DEP x = some d ∧ toD h DEP y = some e ∧ SeqAt.shaped d = true ∧ SeqAt.shaped e = true ∧ Out w EX M rho H (.ok (.bl (f d e)) h) kk := by
  unfold by2 at o
  split at o
  · rename_i d e e1 e2
    obtain ⟨hc, o2⟩ := Out.bif o
    rw [Bool.and_eq_true] at hc
    exact ⟨d, e, e1, e2, hc.1, hc.2, o2⟩
  · exact (show False from o).elim
theorem CxtG.units {hh : Bool} (C : CxtG hh w k X) : X.A.units + 190 < cLine := by have := C.roomH.un; omega
theorem o_eq {hh : Bool} (C : CxtG hh w k X) : OpR X (compareOp .Eq) (r2 w EX opEq) := by
  intro pins s σ H x y v u Q I rx ry ⟨M, rho, h, px, py, hr, vx, vy, o⟩
  obtain ⟨d, e, e1, e2, s1, s2, o2⟩ := by2_out o
  have hu := C.units
  exact op_eqD (by omega) pins s σ H _ _ v u Q I rx ry ⟨d, e, by rw [C.hK]; exact toD_dp hr _ _ _ _ e1 vx, by rw [C.hK]; exact toD_dp hr _ _ _ _ e2 vy, s1, s2, o2.now hr _ (.bl _)⟩
theorem o_ne {hh : Bool} (C : CxtG hh w k X) : OpR X (compareOp .NotEq) (r2 w EX opNe) := by
  intro pins s σ H x y v u Q I rx ry ⟨M, rho, h, px, py, hr, vx, vy, o⟩
  obtain ⟨d, e, e1, e2, s1, s2, o2⟩ := by2_out o
  have hu := C.units
  exact op_neD (by omega) pins s σ H _ _ v u Q I rx ry ⟨d, e, by rw [C.hK]; exact toD_dp hr _ _ _ _ e1 vx, by rw [C.hK]; exact toD_dp hr _ _ _ _ e2 vy, s1, s2, o2.now hr _ (.bl _)⟩
end
end MC

end
section
set_option maxRecDepth 100000
set_option maxHeartbeats 4000000
namespace MC
open PySem PySem.Spec PyProof.Rows L2

def truth (h : PH) : PV → Option Bool
  | .non => some false
  | .bl b => some b
  | .int i => some (i != 0)
  | .str s => bif decide (s.length ≤ LIM) then some (!s.isEmpty) else none
  | .tup xs => some (!xs.isEmpty)
  | .scr xs => some (!xs.isEmpty)
  | .ref n => match h[n]? with
    | some (.lst xs) => some (!xs.isEmpty)
    | some (.dic false kvs) => some (!kvs.isEmpty)
    | _ => none
  | _ => none
def mTru (m : ME) : MT := fun env h => (m env h).bind fun x h1 => match truth h1 x with
  | some b => .ok b h1
  | none => .stuck
def mAnd (a b : MT) : MT := fun env h => (a env h).bind fun c h1 => bif c then b env h1 else .ok false h1
def mOr (a b : MT) : MT := fun env h => (a env h).bind fun c h1 => bif c then .ok true h1 else b env h1
def mNot (a : MT) : MT := fun env h => (a env h).bind fun c h1 => .ok (!c) h1
def mIf (t : MT) (a b : ME) : ME := fun env h => (t env h).bind fun c h1 => bif c then a env h1 else b env h1
def mAndV (a b : ME) : ME := fun env h => (a env h).bind fun x h1 => match x with
  | .bl c => bif c then b env h1 else .ok (.bl false) h1
  | _ => .stuck
def mOrV (a b : ME) : ME := fun env h => (a env h).bind fun x h1 => match x with
  | .bl c => bif c then .ok (.bl true) h1 else b env h1
  | _ => .stuck
def mNotV (a : ME) : ME := fun env h => (a env h).bind fun x h1 => match x with
  | .bl c => .ok (.bl (!c)) h1
  | _ => .stuck
theorem empty_len {α β : Type} {xs : List α} {ys : List β} (h : ys.length = xs.length) : (!ys.isEmpty) = !xs.isEmpty := by
  cases xs <;> cases ys <;> first | rfl | (simp at h)
section
variable {w : Wo} {EX : XC} {X : Cx} {k : Nat} {M : Addr → Prop} {rho : List Addr} {H : Hp} {h : PH} {a b c : Expr} {ma mb : ME} {ta tb : MT} {pos : Pos} {rest : List Expr}
theorem KRs.length : ∀ {kvs : List (PV × PV)} {ks : List (Key × V)}, KRs w M rho H kvs ks → ks.length = kvs.length
  | _, _, .nil => rfl
  | _, _, .cons _ _ b => by rw [List.length_cons, List.length_cons, KRs.length b]
theorem truth_ok (hr : HR w M rho H h) {x : PV} {v : V} {b : Bool} (r : VR w M rho H x v) (e : truth h x = some b) : TruV w.K v H b := by
  cases r with
  | non => cases e; exact rfl
  | bl b => cases e; exact rfl
  | int i => cases e; exact rfl
  | str s =>
    have e' : (bif decide (s.length ≤ LIM) then some (!s.isEmpty) else none) = some b := e
    by_cases hl : s.length ≤ LIM
    · rw [decide_eq_true hl] at e'
      cases e'
      refine ⟨by show (S s).length ≤ _; rw [S_len, lim_eq]; exact hl, ?_⟩
      show _ = (((S s).length : Int) != 0)
      rw [S_len]
      cases s with
      | nil => rfl
      | cons z zs =>
        show true = _
        symm
        rw [bne_iff_ne]
        simp only [List.length_cons]
        omega
    · rw [decide_eq_false hl] at e'
      cases e'
  | tup q s => cases e; exact .inr (.inl ⟨_, q, (empty_len s.length).symm⟩)
  | scr q s => cases e; exact .inl ⟨_, q.sq, (empty_len s.length).symm⟩
  | @ref n A ha =>
    have e' : (match h[n]? with
      | some (.lst xs) => some (!xs.isEmpty)
      | some (.dic false kvs) => some (!kvs.isEmpty)
      | _ => none) = some b := e
    split at e'
    · rename_i xs e1
      cases e'
      obtain ⟨vs, h1, s1⟩ := hr.lst e1 ha
      exact .inl ⟨vs, SqL.of h1, (empty_len s1.length).symm⟩
    · rename_i kvs e1
      cases e'
      obtain ⟨b, hb, ks, h1, s1⟩ := hr.ob n _ e1
      rw [ha] at hb; cases hb
      exact .inr (.inr ⟨ks, h1, (empty_len s1.length).symm⟩)
    · cases e'
  | _ => cases e
theorem mt_tru {hh : Bool} (C : CxtG hh w k X) (ha : PE X a (tM w EX ma)) (he : ∀ whole, isTrue a X.env whole = (do let v ← whole; standAt a.pos; holding [v] (truthy v)) := by intro _; rfl) : PT X a (tT w EX (mTru ma)) := by
  refine PT.imp (pt_truth ha he) fun σ H Q hh => ?_
  obtain ⟨M, rho, env, h, er, hr, o⟩ := hh
  refine tM.of er hr (Out.bind o) fun x h1 M1 rho1 H1 v st1 er1 hr1 o1 rv => ?_
  cases e : truth h1 x with
  | none => rw [e] at o1; exact (show False from o1).elim
  | some b =>
    rw [e] at o1
    exact ⟨b, by rw [C.hK]; exact truth_ok hr1 rv e, o1.now hr1⟩
theorem mw_one {op : BoolOp} (ha : PT X a (tT w EX ta)) : PW X (.BoolOp op [a] pos) (tT w EX ta) := by
  cases op with
  | And => exact pw_and1 ha
  | Or => exact pw_or1 ha
theorem mw_or (ha : PT X a (tT w EX ta)) (hb : PW X (.BoolOp .Or (b :: rest) pos) (tT w EX tb)) : PW X (.BoolOp .Or (a :: b :: rest) pos) (tT w EX (mOr ta tb)) := by
  refine PW.imp (pw_or ha hb) fun σ H Q hh => ?_
  obtain ⟨M, rho, env, h, er, hr, o⟩ := hh
  refine tT.of er hr (Out.bind o) fun x h1 M1 rho1 H1 st1 er1 hr1 o1 => ?_
  cases x with
  | true => exact iteT (o1.now hr1)
  | false => exact iteF ⟨M1, rho1, env, h1, er1, hr1, o1⟩
theorem mt_not (ha : PT X a (tT w EX ta)) : PT X (.UnaryOp .Not a pos) (tT w EX (mNot ta)) := by
  refine PT.imp (pt_not ha) fun σ H Q hh => ?_
  obtain ⟨M, rho, env, h, er, hr, o⟩ := hh
  exact tT.of er hr (Out.bind o) fun x h1 M1 rho1 H1 st1 er1 hr1 o1 => o1.now hr1
theorem me_if (hc : PT X c (tT w EX ta)) (ha : PE X a (tM w EX ma)) (hb : PE X b (tM w EX mb)) : PE X (.IfExp c a b pos) (tM w EX (mIf ta ma mb)) := by
  refine PE.imp (pe_ifExp hc ha hb) fun σ H Q hh => ?_
  obtain ⟨M, rho, env, h, er, hr, o⟩ := hh
  refine tT.of er hr (Out.bind o) fun x h1 M1 rho1 H1 st1 er1 hr1 o1 => ?_
  cases x with
  | true => exact iteT ⟨M1, rho1, env, h1, er1, hr1, o1⟩
  | false => exact iteF ⟨M1, rho1, env, h1, er1, hr1, o1⟩
theorem me_ch {op op' : CmpOp} {f g : O2} {mc : ME} (ho : OpR X (compareOp op) (r2 w EX f)) (ho' : OpR X (compareOp op') (r2 w EX g)) (ha : PE X a (tM w EX ma)) (hb : PE X b (tM w EX mb)) (hc : PE X c (tM w EX mc))
    (hm : lastMarks [op, op'] [b, c] = false := by with_unfolding_all rfl) : PE X (.Compare a [op, op'] [b, c] pos) (tM w EX (mCh f g ma mb mc)) := PE.imp (pe_chain ho ho' ha hb hc hm) fun σ H Q h => tM_ch h
end
end MC

end
section
set_option maxRecDepth 100000
set_option maxHeartbeats 4000000
namespace MC
open PySem PySem.Spec PyProof.Rows L2

def ltN : List Nat → List Nat → Bool
  | [], [] => false
  | [], _ :: _ => true
  | _ :: _, [] => false
  | x :: xs, y :: ys => bif x == y then ltN xs ys else decide (x < y)
theorem ltN_iff : ∀ a b : List Nat, decide (a < b) = ltN a b
  | [], [] => by decide
  | [], y :: ys => by simp [ltN]
  | x :: xs, [] => by simp [ltN]
  | x :: xs, y :: ys => by
    have ih := ltN_iff xs ys
    unfold ltN
    by_cases e : x = y
    · subst e
      rw [beq_self_eq_true, cond_true, ← ih]
      simp
    · have e2 : (x == y) = false := beq_eq_false_iff_ne.mpr e
      rw [e2, cond_false]
      simp [List.cons_lt_cons_iff, e]
def opOrd (p : Int → Int → Bool) (q : List Nat → List Nat → Bool) : O2 := fun h x y => match x, y with
  | .int i, .int j => .ok (.bl (p i j)) h
  | .str a, .str b => .ok (.bl (q a b)) h
  | _, _ => .stuck
def opLt : O2 := opOrd (fun i j => decide (i < j)) fun a b => ltN a b
def opLe : O2 := opOrd (fun i j => decide (i ≤ j)) fun a b => !ltN b a
def opGt : O2 := opOrd (fun i j => decide (j < i)) fun a b => ltN b a
def opGe : O2 := opOrd (fun i j => decide (j ≤ i)) fun a b => !ltN a b
def isNon : PV → Bool
  | .non => true
  | _ => false
def opIs (neg : Bool) : O2 := fun h x y => match y with
  | .non => .ok (.bl (bif neg then !isNon x else isNon x)) h
  | .bl b => match x with
    | .bl a => .ok (.bl (bif neg then !(a == b) else a == b)) h
    | _ => .stuck
  | _ => .stuck
section
variable {w : Wo} {EX : XC} {X : Cx} {k : Nat} {M : Addr → Prop} {rho : List Addr} {H : Hp} {h : PH}
theorem o_ord {f : Value → Value → Sem Value} {p : Int → Int → Bool} {q : List Nat → List Nat → Bool} (hi : OpR X f (rI0 fun i j => .bl (p i j)))
    (hs : OpR X f (fun x y H Q => ∃ i j, x = .str i ∧ y = .str j ∧ Q (.bl (q i.cps.toList j.cps.toList)) H)) : OpR X f (r2 w EX (opOrd p q)) := by
  intro pins s σ H x y v u Q I rx ry ⟨M, rho, h, px, py, hr, vx, vy, o⟩
  cases vx <;> try exact (show False from o).elim
  · cases vy <;> try exact (show False from o).elim
    rename_i i j
    exact hi pins s σ H _ _ v u Q I rx ry ⟨i, j, rfl, rfl, (show Out w EX M rho H (.ok (.bl (p i j)) h) (KV w Q) from o).now hr _ (.bl _)⟩
  · cases vy <;> try exact (show False from o).elim
    rename_i a b
    refine hs pins s σ H _ _ v u Q I rx ry ⟨_, _, rfl, rfl, ?_⟩
    have e1 : (⟨a.toArray⟩ : Str).cps.toList = a := by simp
    have e2 : (⟨b.toArray⟩ : Str).cps.toList = b := by simp
    rw [e1, e2]
    exact (show Out w EX M rho H (.ok (.bl (q a b)) h) (KV w Q) from o).now hr _ (.bl _)
theorem o_lt : OpR X (compareOp .Lt) (r2 w EX opLt) := o_ord op_lt fun pins s σ H x y v u Q I rx ry ⟨i, j, e1, e2, q⟩ => op_lt_str pins s σ H x y v u Q I rx ry ⟨i, j, e1, e2, by rw [ltN_iff]; exact q⟩
theorem o_gt : OpR X (compareOp .Gt) (r2 w EX opGt) := o_ord op_gt fun pins s σ H x y v u Q I rx ry ⟨i, j, e1, e2, q⟩ => op_gt_str pins s σ H x y v u Q I rx ry ⟨i, j, e1, e2, by rw [ltN_iff]; exact q⟩
theorem o_ge : OpR X (compareOp .GtE) (r2 w EX opGe) := o_ord op_ge fun pins s σ H x y v u Q I rx ry ⟨i, j, e1, e2, q⟩ => op_ge_str pins s σ H x y v u Q I rx ry ⟨i, j, e1, e2, by rw [ltN_iff]; exact q⟩
end

/-- the items of a list or tuple -/
def items (h : PH) : PV → Option (List PV)
  | .tup xs => some xs
  | .scr xs => some xs
  | .ref n => match h[n]? with
    | some (.lst xs) => some xs
    | _ => none
  | _ => none
/-- a key is that key -/
def keyQ : PV → PV → Bool
  | .int i, .int j => i == j
  | .str a, .str b => a == b
  | _, _ => false
def lookP (x : PV) : List (PV × PV) → Option PV
  | [] => none
  | (k, v) :: r => bif keyQ k x then some v else lookP x r
def isKey : PV → Bool
  | .int _ => true
  | .str _ => true
  | _ => false
def negB (neg : Bool) (b : Bool) : Bool := bif neg then !b else b
def inItems (neg : Bool) (h : PH) (x : PV) (ys : List PV) : R PV := match toD h DEP x, mapO (toD h DEP) ys with
  | some d, some ds => bif SeqAt.shaped d && PyData.canLayAll0 ds then .ok (.bl (negB neg (ds.any fun z => PyData.eqv z d))) h else .stuck
  | _, _ => .stuck
def opIn (neg : Bool) : O2 := fun h x y => match y with
  | .str t => match x with
    | .str [c] => .ok (.bl (negB neg (decide (c ∈ t)))) h
    | _ => .stuck
  | .rdic kvs => bif isKey x then .ok (.bl (negB neg (lookP x kvs).isSome)) h else .stuck
  | .ref n => match h[n]? with
    | some (.dic _ kvs) => bif isKey x then .ok (.bl (negB neg (lookP x kvs).isSome)) h else .stuck
    | some (.lst ys) => inItems neg h x ys
    | _ => .stuck
  | .tup ys => inItems neg h x ys
  | .scr ys => inItems neg h x ys
  | _ => .stuck
section
variable {w : Wo} {EX : XC} {X : Cx} {k : Nat} {M : Addr → Prop} {rho : List Addr} {H : Hp} {h : PH}
theorem keyQ_iff {k x : PV} {j : Key} {v : V} (hk : keyP k = some j) (hx : isKey x = true) (rx : VR w M rho H x v) : ∃ i, keyP x = some i ∧ v = kV i ∧ (keyQ k x = decide (j = i)) := by
  cases rx <;> try (exact (Bool.false_ne_true hx).elim)
  · rename_i i
    refine ⟨.inl i, rfl, rfl, ?_⟩
    cases k <;> try (cases hk)
    · exact (key_ll _ _).symm
    · exact (key_rl _ _).symm
  · rename_i b
    refine ⟨.inr ⟨b.toArray⟩, rfl, rfl, ?_⟩
    cases k <;> try (cases hk)
    · exact (key_lr _ _).symm
    · rename_i a
      rw [key_rr]
      show (a == b) = _
      by_cases e : a = b
      · subst e; simp
      · rw [beq_eq_false_iff_ne.mpr e, decide_eq_false]
        intro z
        exact e (S_inj z)
theorem lookP_ok {x : PV} {v : V} (hx : isKey x = true) (rx : VR w M rho H x v) : ∃ i, keyP x = some i ∧ v = kV i ∧ ∀ {kvs : List (PV × PV)} {ks : List (Key × V)}, KRs w M rho H kvs ks →
    (lookP x kvs = none ∧ valV ks i = none) ∨ ∃ y u, lookP x kvs = some y ∧ valV ks i = some u ∧ VR w M rho H y u := by
  obtain ⟨i, h1, h2, _⟩ := keyQ_iff (k := .int 0) (j := .inl 0) rfl hx rx
  refine ⟨i, h1, h2, fun {kvs ks} r => ?_⟩
  induction kvs generalizing ks with
  | nil => cases r; exact .inl ⟨rfl, rfl⟩
  | cons p kvs ih =>
    cases r with
    | @cons k y j u _ gs hk hv ht =>
      obtain ⟨i', h1', _, q⟩ := keyQ_iff hk hx rx
      rw [h1] at h1'
      cases h1'
      unfold lookP
      by_cases e : j = i
      · rw [q, decide_eq_true e, cond_true]
        exact .inr ⟨y, u, rfl, valV_pos e, hv⟩
      · rw [q, decide_eq_false e, cond_false, valV_neg (by exact e)]
        exact ih ht
theorem inItems_out {neg : Bool} {x : PV} {ys : List PV} {kk : KC PV} (o : Out w EX M rho H (inItems neg h x ys) kk) :
    ∃ d ds, toD h DEP x = some d ∧ mapO (toD h DEP) ys = some ds ∧ SeqAt.shaped d = true ∧ PyData.canLayAll0 ds = true ∧ Out w EX M rho H (.ok (.bl (negB neg (ds.any fun z => PyData.eqv z d))) h) kk := by
  unfold inItems at o
  split at o
  · rename_i d ds e1 e2
    obtain ⟨hc, o2⟩ := Out.bif o
    rw [Bool.and_eq_true] at hc
    exact ⟨d, ds, e1, e2, hc.1, hc.2, o2⟩
  · exact (show False from o).elim
theorem o_in {hh : Bool} (C : CxtG hh w k X) : OpR X (compareOp .In) (r2 w EX (opIn false)) := by
  intro pins s σ H x y v u Q I rx ry ⟨M, rho, h, px, py, hr, vx, vy, o⟩
  have hu := C.units
  have seqL : ∀ {ys : List PV} {us : List V} {A : Addr}, u = .ref A → SqL w.K H A us → VRs w M rho H ys us → Out w EX M rho H (inItems false h px ys) (KV w Q) → wpAny (model X.prog X.w) X.A (compareOp .In v u) (EP X pins σ Q) X.xe s := by
    intro ys us A eu hs rs o
    obtain ⟨d, ds, e1, e2, s1, s2, o2⟩ := inItems_out o
    have D1 : Dp X.K H x d := by rw [C.hK]; exact toD_dp hr _ _ _ _ e1 vx
    have D2 : Dp X.K H (.ref A) (.list ds) := by rw [C.hK]; exact .lst hs (mapO_dp hr (toD_dp hr _) e2 rs)
    obtain ⟨as, r1⟩ := Dp.reads I d _ _ D1 rx
    obtain ⟨bs, r2⟩ := Dp.reads I (.list ds) _ u D2 eu
    have h64 := SeqAt.depth_of_shaped s1
    exact SeqAt.in_list_reads r2 r1 s2 (SeqAt.canLay_of_shaped s1) (by omega) ⟨.bl _, H, I, rfl, o2.now hr _ (.bl _)⟩
  cases vy <;> try exact (show False from o).elim
  · rename_i t
    obtain ⟨c, rfl, o2⟩ : ∃ c, px = .str [c] ∧ Out w EX M rho H (.ok (.bl (decide (c ∈ t))) h) (KV w Q) := by
      have o' : Out w EX M rho H (match px with
        | .str [c] => .ok (.bl (negB false (decide (c ∈ t)))) h
        | _ => .stuck) (KV w Q) := o
      split at o'
      · exact ⟨_, rfl, o'⟩
      · exact (show False from o').elim
    cases vx
    refine op_in_sign pins s σ H _ _ v u Q I rx ry ⟨c, _, rfl, rfl, ?_⟩
    rw [show (⟨t.toArray⟩ : Str).cps.toList = t by simp]
    exact o2.now hr _ (.bl _)
  · rename_i ys us A ha sa
    obtain ⟨d, ds, e1, e2, s1, s2, o2⟩ := inItems_out o
    have D1 : Dp X.K H x d := by rw [C.hK]; exact toD_dp hr _ _ _ _ e1 vx
    have D2 : Dp X.K H (.ref A) (.tuple ds) := by rw [C.hK]; exact .tup ha (mapO_dp hr (toD_dp hr _) e2 sa)
    obtain ⟨as, r1⟩ := Dp.reads I d _ _ D1 rx
    obtain ⟨bs, r2⟩ := Dp.reads I (.tuple ds) _ u D2 ry
    have h64 := SeqAt.depth_of_shaped s1
    exact SeqAt.in_tuple_reads r2 r1 s2 (SeqAt.canLay_of_shaped s1) (by omega) ⟨.bl _, H, I, rfl, o2.now hr _ (.bl _)⟩
  · rename_i ys us A ha sa
    exact seqL ry ha.sq sa o
  · rename_i kvs ks A ob ha hn sa
    obtain ⟨hx, o2⟩ := Out.bif o
    obtain ⟨i, e1, e2, e3⟩ := lookP_ok hx vx
    subst e2
    cases ry
    refine d_in (o := valV ks i) (by omega) I (.inl ⟨ks, i, .inr ⟨ob, ha⟩, rfl, rfl⟩) rx fun s3 I3 => ⟨.bl _, H, I3, rfl, ?_⟩
    rcases e3 sa with ⟨z1, z2⟩ | ⟨y', u', z1, z2, _⟩
    · rw [z1] at o2; rw [z2]; exact o2.now hr _ (.bl _)
    · rw [z1] at o2; rw [z2]; exact o2.now hr _ (.bl _)
  · rename_i n A ha
    have o' : Out w EX M rho H (match h[n]? with
      | some (.dic _ kvs) => bif isKey px then .ok (.bl (negB false (lookP px kvs).isSome)) h else .stuck
      | some (.lst ys) => inItems false h px ys
      | _ => .stuck) (KV w Q) := o
    split at o'
    · rename_i lk kvs e0
      obtain ⟨hx, o2⟩ := Out.bif o'
      obtain ⟨b, hb, ks, h1, sa⟩ := hr.ob n _ e0
      rw [ha] at hb; cases hb
      obtain ⟨i, e1, e2, e3⟩ := lookP_ok hx vx
      subst e2
      cases ry
      have rd : Rd H A (.dK ks) := by
        cases lk with
        | false => exact .inl h1
        | true => exact .inr h1
      refine d_in (o := valV ks i) (by omega) I (.inl ⟨ks, i, rd, rfl, rfl⟩) rx fun s3 I3 => ⟨.bl _, H, I3, rfl, ?_⟩
      rcases e3 sa with ⟨z1, z2⟩ | ⟨y', u', z1, z2, _⟩
      · rw [z1] at o2; rw [z2]; exact o2.now hr _ (.bl _)
      · rw [z1] at o2; rw [z2]; exact o2.now hr _ (.bl _)
    · rename_i ys e0
      obtain ⟨us, h1, sa⟩ := hr.lst e0 ha
      exact seqL ry (SqL.of h1) sa o'
    · exact (show False from o').elim
end
end MC

end
section
set_option maxRecDepth 100000
set_option maxHeartbeats 4000000
namespace MC
open PySem PySem.Spec PyProof.Rows L2

def ixL (h : PH) (xs : List PV) (y : PV) : R PV := match y with
  | .int i => match atI xs i with
    | some v => .ok v h
    | none => .stuck
  | _ => .stuck
def ixD (h : PH) (kvs : List (PV × PV)) (y : PV) : R PV := bif isKey y then (match lookP y kvs with
  | some v => .ok v h
  | none => .stuck) else .stuck
def ixS (h : PH) (s : List Nat) (y : PV) : R PV := match y with
  | .int i => match atI s i with
    | some c => bif decide (s.length ≤ LIM) then .ok (.str [c]) h else .stuck
    | none => .stuck
  | _ => .stuck
def opIx : O2 := fun h x y => match x with
  | .str s => ixS h s y
  | .rdic kvs => ixD h kvs y
  | .ref n => match h[n]? with
    | some (.dic _ kvs) => ixD h kvs y
    | some (.lst xs) => ixL h xs y
    | _ => .stuck
  | .tup xs => ixL h xs y
  | .scr xs => ixL h xs y
  | _ => .stuck
section
variable {w : Wo} {EX : XC} {X : Cx} {k : Nat} {M : Addr → Prop} {rho : List Addr} {H : Hp} {h : PH}
theorem VRs.atI {xs : List PV} {vs : List V} {i : Int} {x : PV} (r : VRs w M rho H xs vs) (e : L2.atI xs i = some x) : ∃ v, L2.atI vs i = some v ∧ VR w M rho H x v := by
  unfold L2.atI at e ⊢
  rw [r.length]
  cases q : ixN xs.length i with
  | none => rw [q] at e; cases e
  | some j =>
    rw [q] at e
    exact r.get e
theorem ixL_out {xs : List PV} {py : PV} {kk : KC PV} (o : Out w EX M rho H (ixL h xs py) kk) : ∃ i z, py = .int i ∧ L2.atI xs i = some z ∧ Out w EX M rho H (.ok z h) kk := by
  unfold ixL at o
  split at o
  · split at o
    · rename_i e
      exact ⟨_, _, rfl, e, o⟩
    · exact (show False from o).elim
  · exact (show False from o).elim
theorem o_ix {hh : Bool} (C : CxtG hh w k X) : IxR X (r2 w EX opIx) := by
  intro value slice pins s σ H x y v u Q I rx ry ⟨M, rho, h, px, py, hr, vx, vy, o⟩ hs
  have hu := C.units
  have dic : ∀ {A : Addr} {ks : List (Key × V)} {kvs : List (PV × PV)}, v = .ref A → Rd H A (.dK ks) → KRs w M rho H kvs ks → Out w EX M rho H (ixD h kvs py) (KV w Q) → wpAny (model X.prog X.w) X.A (subscriptTail value slice v u) (EP X pins σ Q) X.xe s := by
    intro A ks kvs ev rd sa o
    obtain ⟨hx, o2⟩ := Out.bif o
    obtain ⟨i, e1, e2, e3⟩ := lookP_ok hx vy
    subst ev e2
    rcases e3 sa with ⟨z1, z2⟩ | ⟨y', u', z1, z2, r'⟩
    · rw [z1] at o2; exact (show False from o2).elim
    · rw [z1] at o2
      have g : DGet H A (kV i) (some u') := .inl ⟨ks, i, rd, rfl, z2.symm⟩
      exact tail_any (T := "dict") (dict_typeIs I g) PySem.F.slot_dict_getitem.lookup (d_getItem (by omega) I g ry fun w' s3 I3 rw' => ⟨u', H, I3, rw', (show Out w EX M rho H (.ok y' h) (KV w Q) from o2).now hr _ r'⟩) hs
  have lst : ∀ {A : Addr} {us : List V} {xs : List PV}, x = .ref A → SqL w.K H A us → VRs w M rho H xs us → Out w EX M rho H (ixL h xs py) (KV w Q) → wpAny (model X.prog X.w) X.A (subscriptTail value slice v u) (EP X pins σ Q) X.xe s := by
    intro A us xs ex hq sa o
    obtain ⟨i, z, rfl, e, o⟩ := ixL_out o
    cases vy
    obtain ⟨z', e', r'⟩ := sa.atI e
    exact ix_list value slice pins s σ H _ _ v u Q I rx ry ⟨A, us, i, z', ex, rfl, by rw [C.hK]; exact hq, e', o.now hr _ r'⟩ hs
  cases vx <;> try exact (show False from o).elim
  · rename_i t
    have o' : Out w EX M rho H (ixS h t py) (KV w Q) := o
    unfold ixS at o'
    split at o'
    · split at o'
      · rename_i e
        cases vy
        obtain ⟨hl, o2⟩ := Out.lim o'
        refine ix_str value slice pins s σ H _ _ v u Q I rx ry ⟨_, _, _, rfl, rfl, ?_, ?_, o2.now hr (.str ⟨#[_]⟩) (.str [_])⟩ hs
        · show (S t).length ≤ _
          rw [S_len, lim_eq]; exact hl
        · show L2.atI (S t).cps.toList _ = some _
          rw [S_list]; exact e
      · exact (show False from o').elim
    · exact (show False from o').elim
  · rename_i xs us A ha sa
    obtain ⟨i, z, rfl, e, o2⟩ := ixL_out o
    cases vy
    obtain ⟨z', e', r'⟩ := sa.atI e
    exact ix_tup value slice pins s σ H _ _ v u Q I rx ry ⟨A, us, i, z', rfl, rfl, by rw [C.hK]; exact ha, e', o2.now hr _ r'⟩ hs
  · rename_i xs us A ha sa
    exact lst rfl ha.sq sa o
  · rename_i kvs ks A ob ha hn sa
    exact dic (by cases rx; rfl) (.inr ⟨ob, ha⟩) sa o
  · rename_i n A ha
    have o' : Out w EX M rho H (match h[n]? with
      | some (.dic _ kvs) => ixD h kvs py
      | some (.lst xs) => ixL h xs py
      | _ => .stuck) (KV w Q) := o
    split at o'
    · rename_i lk kvs e0
      obtain ⟨b, hb, ks, h1, sa⟩ := hr.ob n _ e0
      rw [ha] at hb; cases hb
      exact dic (by cases rx; rfl) (by
        cases lk with
        | false => exact .inl h1
        | true => exact .inr h1) sa o'
    · rename_i xs e0
      obtain ⟨us, h1, sa⟩ := hr.lst e0 ha
      exact lst rfl (SqL.of h1) sa o'
    · exact (show False from o').elim
theorem me_ix {hh : Bool} (C : CxtG hh w k X) {a b : Expr} {ma mb : ME} {pos : Pos} (ha : PE X a (tM w EX ma)) (hb : PE X b (tM w EX mb)) (hs : PlainIx b := by exact fun _ _ => rfl) : PE X (.Subscript a b pos) (tM w EX (mOp opIx ma mb)) :=
  PE.imp (pe_ix (o_ix C) ha hb hs) fun _ _ _ h => tM_op h
end

def cutG {α : Type} (xs : List α) (lo hi : Option Int) : List α := (xs.drop (HT.sIx xs.length 0 lo)).take (HT.sIx xs.length xs.length hi - HT.sIx xs.length 0 lo)
abbrev MO := List (Option PV) → PH → R (Option Int)
def tO (w : Wo) (EX : XC) (m : MO) : TO := fun σ H Q => ∃ M rho env h, ER w M rho H env σ ∧ HR w M rho H h ∧ Out w EX M rho H (m env h) (fun i _ _ _ H' => Q i H')
def moNone : MO := fun _ h => .ok none h
def moSome (m : ME) : MO := fun env h => (m env h).bind fun x h1 => match x with
  | .int i => .ok (some i) h1
  | _ => .stuck
def opSl (h : PH) (x : PV) (lo hi : Option Int) : R PV := match x with
  | .str s => bif decide (s.length ≤ LIM) then .ok (.str (cutG s lo hi)) h else .stuck
  | .tup xs => .ok (.tup (cutG xs lo hi)) h
  | .scr xs => .ok (.ref h.length) (h ++ [.lst (cutG xs lo hi)])
  | .ref n => match h[n]? with
    | some (.lst xs) => .ok (.ref h.length) (h ++ [.lst (cutG xs lo hi)])
    | _ => .stuck
  | _ => .stuck
def mSl (m : ME) (l u : MO) : ME := fun env h => (m env h).bind fun x h1 => (l env h1).bind fun lo h2 => (u env h2).bind fun hi h3 => opSl h3 x lo hi
section
variable {w : Wo} {EX : XC} {X : Cx} {k : Nat} {M : Addr → Prop} {rho : List Addr} {H : Hp} {h : PH}
theorem PO_imp {X : Cx} {e : Option Expr} {t t2 : TO} (p : L2.PO X e t) (i : ∀ σ H Q, t2 σ H Q → t σ H Q) : L2.PO X e t2 := ⟨fun pins s σ H Q I h => p.run pins s σ H Q I (i σ H Q h)⟩
theorem mo_none : L2.PO X none (tO w EX moNone) := by
  refine PO_imp po_none fun σ H Q hh => ?_
  obtain ⟨M, rho, env, h, er, hr, o⟩ := hh
  exact o.now hr
theorem mo_some {e : Expr} {m : ME} (ha : PE X e (tM w EX m)) : L2.PO X (some e) (tO w EX (moSome m)) := by
  refine PO_imp (po_some ha) fun σ H Q hh => ?_
  obtain ⟨M, rho, env, h, er, hr, o⟩ := hh
  refine tM.of er hr (Out.bind o) fun x h1 M1 rho1 H1 v st1 er1 hr1 o1 rv => ?_
  cases rv <;> try exact (show False from o1).elim
  rename_i i
  exact ⟨i, rfl, (show Out w EX M1 rho1 H1 (.ok (some i) h1) _ from o1).now hr1⟩
theorem VRs.cut {xs : List PV} {vs : List V} (r : VRs w M rho H xs vs) (lo hi : Option Int) : VRs w M rho H (cutG xs lo hi) (cutV vs lo hi) := by
  unfold cutG cutV
  rw [r.length]
  exact (r.drop _).take _
theorem cut_all {α : Type} (xs : List α) {lo hi : Option Int} (e : HT.sIx xs.length 0 lo = 0 ∧ HT.sIx xs.length xs.length hi = xs.length) : cutG xs lo hi = xs := by
  unfold cutG
  rw [e.1, e.2]
  simp
theorem o_sl {hh : Bool} (C : CxtG hh w k X) : SlR X (fun x lo hi H Q => ∃ M rho h px, HR w M rho H h ∧ VR w M rho H px x ∧ Out w EX M rho H (opSl h px lo hi) (KV w Q)) := by
  intro pins s σ H x v vl vu lo hi sl Q I rx hs pl pu ⟨M, rho, h, px, hr, vx, o⟩
  cases vx <;> try exact (show False from o).elim
  · rename_i t
    obtain ⟨hl, o2⟩ := Out.lim o
    refine sl_str pins s σ H _ v vl vu lo hi sl Q I rx hs pl pu ⟨_, rfl, ?_, ?_⟩
    · show (S t).length ≤ _
      rw [S_len, lim_eq]; exact hl
    · have e : cutS (⟨t.toArray⟩ : Str) lo hi = S (cutG t lo hi) := by
        unfold cutS cutG S
        simp [Str.length]
      rw [e]
      exact o2.now hr _ (.str _)
  · rename_i xs us A ha sa
    refine sl_tupA pins s σ H _ v vl vu lo hi sl Q I rx hs pl pu ⟨A, us, rfl, by rw [C.hK]; exact ha, fun e => ?_, fun _ => ?_⟩
    · have o2 : Out w EX M rho H (.ok (.tup (cutG xs lo hi)) h) (KV w Q) := o
      rw [sa.length] at e
      rw [cut_all xs e] at o2
      exact o2.now hr _ (.tup ha sa)
    · exact KV.tup hr o (sa.cut lo hi)
  · rename_i xs us A ha sa
    exact sl_list pins s σ H _ v vl vu lo hi sl Q I rx hs pl pu ⟨A, us, rfl, by rw [C.hK]; exact ha.sq, KV.lst hr o (sa.cut lo hi)⟩
  · rename_i n A ha
    have o' : Out w EX M rho H (match h[n]? with
      | some (.lst xs) => .ok (.ref h.length) (h ++ [.lst (cutG xs lo hi)])
      | _ => .stuck) (KV w Q) := o
    split at o'
    · rename_i xs e0
      obtain ⟨us, h1, sa⟩ := hr.lst e0 ha
      exact sl_list pins s σ H _ v vl vu lo hi sl Q I rx hs pl pu ⟨A, us, rfl, by rw [C.hK]; exact SqL.of h1, KV.lst hr o' (sa.cut lo hi)⟩
    · exact (show False from o').elim
theorem me_sl {hh : Bool} (C : CxtG hh w k X) {e : Expr} {lo hi : Option Expr} {m : ME} {l u : MO} {p2 pos : Pos} (ha : PE X e (tM w EX m)) (hl : L2.PO X lo (tO w EX l)) (hu : L2.PO X hi (tO w EX u)) : PE X (.Subscript e (.Slice lo hi none p2) pos) (tM w EX (mSl m l u)) := by
  refine PE.imp (pe_slice (o_sl (EX := EX) C) ha hl hu) fun σ H Q hh => ?_
  obtain ⟨M, rho, env, h, er, hr, o⟩ := hh
  refine tM.of er hr (Out.bind o) fun x h1 M1 rho1 H1 v st1 er1 hr1 o1 rv => ?_
  refine ⟨M1, rho1, env, h1, er1, hr1, (Out.bind o1).imp fun lo h2 M2 rho2 H2 st2 hr2 o2 => ?_⟩
  refine ⟨M2, rho2, env, h2, er1.step st2 hr1, hr2, (Out.bind o2).imp fun hi h3 M3 rho3 H3 st3 hr3 o3 => ?_⟩
  exact ⟨M3, rho3, h3, x, hr3, (rv.step st2 hr1).step st3 hr2, o3⟩
end

def lookF (f : Nm) : List (Nm × PV) → Option PV
  | [] => none
  | (k, v) :: r => bif k == f then some v else lookF f r
/-- the class and the attributes of an instance -/
def fldsOf (h : PH) : PV → Option (Nat × List (Nm × PV))
  | .ins c fs => some (c, fs)
  | .ref n => match h[n]? with
    | some (.ins c fs) => some (c, fs)
    | _ => none
  | _ => none
/-- o.f; cs: the classes of which the rule knows that field -/
def mFld (cs : List Nat) (f : Nm) (m : ME) : ME := fun env h => (m env h).bind fun x h1 => match fldsOf h1 x with
  | some (c, fs) => bif cs.contains c then (match lookF f fs with
    | some v => .ok v h1
    | none => .stuck) else .stuck
  | none => .stuck
section
variable {w : Wo} {EX : XC} {X : Cx} {k : Nat} {M : Addr → Prop} {rho : List Addr} {H : Hp} {h : PH}
theorem nmS_inj {a b : Nm} (e : nmS a = nmS b) : a = b := S_inj e
theorem FRs.look {f : Nm} : ∀ {fs : List (Nm × PV)} {gs : List (Str × V)} {x : PV}, FRs w M rho H fs gs → lookF f fs = some x → ∃ v, gs.lookup (nmS f) = some v ∧ VR w M rho H x v
  | _, _, _, .nil, e => nomatch e
  | _, _, x, .cons (k := kk) r s, e => by
    unfold lookF at e
    by_cases q : kk = f
    · subst q
      rw [beq_self_eq_true, cond_true] at e
      cases e
      exact ⟨_, by rw [List.lookup_cons, beq_self_eq_true], r⟩
    · rw [beq_eq_false_iff_ne.mpr q, cond_false] at e
      obtain ⟨v, h1, h2⟩ := FRs.look s e
      refine ⟨v, ?_, h2⟩
      rw [List.lookup_cons, beq_eq_false_iff_ne.mpr (fun z => q (nmS_inj z).symm)]
      exact h1
end
end MC

end
section
set_option maxRecDepth 100000
set_option maxHeartbeats 4000000
namespace MC
open PySem PySem.Spec PyProof.Rows L2

mutual
def noRef : PV → Bool
  | .ref _ => false
  | .exn _ fs => noRefF fs
  | .tup xs => noRefs xs
  | .scr xs => noRefs xs
  | .rdic kvs => noRefK kvs
  | .ins _ fs => noRefF fs
  | .non => true
  | .bl _ => true
  | .int _ => true
  | .str _ => true
  | .gl _ => true
def noRefs : List PV → Bool
  | [] => true
  | x :: xs => noRef x && noRefs xs
def noRefK : List (PV × PV) → Bool
  | [] => true
  | (k, x) :: xs => noRef k && (noRef x && noRefK xs)
def noRefF : List (Nm × PV) → Bool
  | [] => true
  | (_, x) :: xs => noRef x && noRefF xs
end
mutual
def renV (f : Nat → Option Nat) : PV → Option PV
  | .ref n => match f n with
    | some m => some (.ref m)
    | none => none
  | .tup xs => match renVs f xs with
    | some ys => some (.tup ys)
    | none => none
  | .scr xs => match renVs f xs with
    | some ys => some (.scr ys)
    | none => none
  | .rdic kvs => match renK f kvs with
    | some ys => some (.rdic ys)
    | none => none
  | .ins c fs => match renF f fs with
    | some ys => some (.ins c ys)
    | none => none
  | .exn c fs => match renF f fs with
    | some ys => some (.exn c ys)
    | none => none
  | .non => some .non
  | .bl b => some (.bl b)
  | .int i => some (.int i)
  | .str s => some (.str s)
  | .gl i => some (.gl i)
def renVs (f : Nat → Option Nat) : List PV → Option (List PV)
  | [] => some []
  | x :: xs => match renV f x, renVs f xs with
    | some y, some ys => some (y :: ys)
    | _, _ => none
def renK (f : Nat → Option Nat) : List (PV × PV) → Option (List (PV × PV))
  | [] => some []
  | (k, x) :: xs => match renV f x, renK f xs with
    | some y, some ys => some ((k, y) :: ys)
    | _, _ => none
def renF (f : Nat → Option Nat) : List (Nm × PV) → Option (List (Nm × PV))
  | [] => some []
  | (k, x) :: xs => match renV f x, renF f xs with
    | some y, some ys => some ((k, y) :: ys)
    | _, _ => none
end
def renO (f : Nat → Option Nat) : PO → Option PO
  | .lst xs => match renVs f xs with
    | some ys => some (.lst ys)
    | none => none
  | .ins c fs => match renF f fs with
    | some gs => some (.ins c gs)
    | none => none
  | .dic lk kvs => match renK f kvs with
    | some ls => some (.dic lk ls)
    | none => none
  | .dit lk kvs => match renK f kvs with
    | some ls => some (.dit lk ls)
    | none => none
mutual
def refsV : PV → List Nat
  | .ref n => [n]
  | .tup xs => refsVs xs
  | .scr xs => refsVs xs
  | .rdic kvs => refsK kvs
  | .ins _ fs => refsF fs
  | .exn _ fs => refsF fs
  | .non => []
  | .bl _ => []
  | .int _ => []
  | .str _ => []
  | .gl _ => []
def refsVs : List PV → List Nat
  | [] => []
  | x :: xs => refsV x ++ refsVs xs
def refsK : List (PV × PV) → List Nat
  | [] => []
  | (_, x) :: xs => refsV x ++ refsK xs
def refsF : List (Nm × PV) → List Nat
  | [] => []
  | (_, x) :: xs => refsV x ++ refsF xs
end
def refsO : PO → List Nat
  | .lst xs => refsVs xs
  | .ins _ fs => refsF fs
  | .dic _ kvs => refsK kvs
  | .dit _ kvs => refsK kvs
/-- the objects that are reached, each once -/
def reach (h : PH) : Nat → List Nat → List Nat → Option (List Nat)
  | _, [], seen => some seen
  | 0, _ :: _, _ => none
  | f + 1, n :: todo, seen => bif seen.contains n then reach h f todo seen else match h[n]? with
    | some o => reach h f (refsO o ++ todo) (seen ++ [n])
    | none => none
def idx (l : List Nat) (n : Nat) : Option Nat := match l with
  | [] => none
  | m :: r => bif m == n then some 0 else match idx r n with
    | some i => some (i + 1)
    | none => none

section
variable {w : Wo} {M M1 : Addr → Prop} {rho rho1 : List Addr} {H H1 : Hp} {h : PH}
/-- what stands for ever -/
def fixO : HO → Bool
  | .tup _ => true
  | .frz _ _ => true
  | .ins _ _ _ => true
  | .xd _ => true
  | _ => false
structure Tr (w : Wo) (M : Addr → Prop) (rho : List Addr) (H : Hp) (M1 : Addr → Prop) (rho1 : List Addr) (H1 : Hp) (f : Nat → Option Nat) : Prop where
  hp : ∀ b o, fixO o = true → H b = some o → H1 b = some o
  mo : ∀ b, M1 b → M b
  rf : ∀ (n m : Nat) a, f n = some m → rho[n]? = some a → rho1[m]? = some a
theorem Tr.sqT {f : Nat → Option Nat} (t : Tr w M rho H M1 rho1 H1 f) {K : PySem.W.Frag} {a : Addr} {vs : List V} (q : SqT K H a vs) : SqT K H1 a vs := by
  rcases q with (q | ⟨o, q⟩) | q
  · exact .inl (.inl (t.hp _ _ rfl q))
  · exact .inl (.inr ⟨o, t.hp _ _ rfl q⟩)
  · exact .inr q
theorem Tr.scr {f : Nat → Option Nat} (t : Tr w M rho H M1 rho1 H1 f) {a : Addr} {vs : List V} (q : ScrL w M H a vs) : ScrL w M1 H1 a vs := by
  rcases q with q | ⟨o, q, n⟩
  · exact .inl q
  · exact .inr ⟨o, t.hp _ _ rfl q, fun z => n (t.mo _ z)⟩
mutual
theorem VR.tr {f : Nat → Option Nat} (t : Tr w M rho H M1 rho1 H1 f) : ∀ {x y : PV} {v : V}, VR w M rho H x v → renV f x = some y → VR w M1 rho1 H1 y v
  | _, _, _, .non, e => by cases e; exact .non
  | _, _, _, .bl b, e => by cases e; exact .bl b
  | _, _, _, .int i, e => by cases e; exact .int i
  | _, _, _, .str s, e => by cases e; exact .str s
  | _, _, _, .tup (xs := xs) q s, e => by
    unfold renV at e
    cases e1 : renVs f xs with
    | none => rw [e1] at e; cases e
    | some ys => rw [e1] at e; cases e; exact .tup (t.sqT q) (VRs.tr t s e1)
  | _, _, _, .scr (xs := xs) q s, e => by
    unfold renV at e
    cases e1 : renVs f xs with
    | none => rw [e1] at e; cases e
    | some ys => rw [e1] at e; cases e; exact .scr (t.scr q) (VRs.tr t s e1)
  | _, _, _, .rdic (kvs := kvs) q n s, e => by
    unfold renV at e
    cases e1 : renK f kvs with
    | none => rw [e1] at e; cases e
    | some ys => rw [e1] at e; cases e; exact .rdic (t.hp _ _ rfl q) (fun z => n (t.mo _ z)) (KRs.tr t s e1)
  | _, _, _, .ins (fs := fs) c q n s, e => by
    unfold renV at e
    cases e1 : renF f fs with
    | none => rw [e1] at e; cases e
    | some ys => rw [e1] at e; cases e; exact .ins c (t.hp _ _ rfl q) (fun z => n (t.mo _ z)) (FRs.tr t s e1)
  | _, _, _, .ref (n := n) q, e => by
    unfold renV at e
    cases e1 : f n with
    | none => rw [e1] at e; cases e
    | some m => rw [e1] at e; cases e; exact .ref (t.rf n m _ e1 q)
  | _, _, _, .gl q, e => by cases e; exact .gl q
  | _, _, _, .exn (fs := fs) e1 e2 e3 e4 e5 e6 s, e => by
    unfold renV at e
    cases q : renF f fs with
    | none => rw [q] at e; cases e
    | some ys => rw [q] at e; cases e; exact .exn e1 e2 e3 e4 (fun x hx => ⟨t.hp _ _ rfl (e5 x hx).1, fun z => (e5 x hx).2 (t.mo _ z)⟩) e6 (FRs.tr t s q)
theorem VRs.tr {f : Nat → Option Nat} (t : Tr w M rho H M1 rho1 H1 f) : ∀ {xs ys : List PV} {vs : List V}, VRs w M rho H xs vs → renVs f xs = some ys → VRs w M1 rho1 H1 ys vs
  | _, _, _, .nil, e => by cases e; exact .nil
  | _, _, _, .cons (x := x) (xs := xs) a b, e => by
    unfold renVs at e
    cases e1 : renV f x with
    | none => rw [e1] at e; cases e
    | some y =>
      cases e2 : renVs f xs with
      | none => rw [e1, e2] at e; cases e
      | some ys => rw [e1, e2] at e; cases e; exact .cons (VR.tr t a e1) (VRs.tr t b e2)
theorem FRs.tr {f : Nat → Option Nat} (t : Tr w M rho H M1 rho1 H1 f) : ∀ {xs ys : List (Nm × PV)} {vs : List (Str × V)}, FRs w M rho H xs vs → renF f xs = some ys → FRs w M1 rho1 H1 ys vs
  | _, _, _, .nil, e => by cases e; exact .nil
  | _, _, _, .cons (x := x) (fs := xs) a b, e => by
    unfold renF at e
    cases e1 : renV f x with
    | none => rw [e1] at e; cases e
    | some y =>
      cases e2 : renF f xs with
      | none => rw [e1, e2] at e; cases e
      | some ys => rw [e1, e2] at e; cases e; exact .cons (VR.tr t a e1) (FRs.tr t b e2)
theorem KRs.tr {f : Nat → Option Nat} (t : Tr w M rho H M1 rho1 H1 f) : ∀ {xs ys : List (PV × PV)} {vs : List (Key × V)}, KRs w M rho H xs vs → renK f xs = some ys → KRs w M1 rho1 H1 ys vs
  | _, _, _, .nil, e => by cases e; exact .nil
  | _, _, _, .cons (x := x) (fs := xs) q a b, e => by
    unfold renK at e
    cases e1 : renV f x with
    | none => rw [e1] at e; cases e
    | some y =>
      cases e2 : renK f xs with
      | none => rw [e1, e2] at e; cases e
      | some ys => rw [e1, e2] at e; cases e; exact .cons q (VR.tr t a e1) (KRs.tr t b e2)
end
mutual
theorem nk_ren (f : Nat → Option Nat) : ∀ (x : PV) (k : NestedKey), nkP x = some k → renV f x = some x
  | .non, _, _ | .bl _, _, _ | .int _, _, _ | .str _, _, _ => by unfold renV; rfl
  | .tup xs, k, e => by
    unfold nkP at e
    cases q : nkPs xs with
    | none => rw [q] at e; cases e
    | some ks => unfold renV; rw [nks_ren f xs ks q]
  | .scr _, _, e | .rdic _, _, e | .ins _ _, _, e | .ref _, _, e | .gl _, _, e | .exn _ _, _, e => by unfold nkP at e; cases e
theorem nks_ren (f : Nat → Option Nat) : ∀ (x : List PV) (k : List NestedKey), nkPs x = some k → renVs f x = some x
  | [], _, _ => by unfold renVs; rfl
  | x :: xs, k, e => by
    unfold nkPs at e
    cases q : nkP x with
    | none => rw [q] at e; cases e
    | some y =>
      cases q2 : nkPs xs with
      | none => rw [q, q2] at e; cases e
      | some ys => unfold renVs; rw [nk_ren f x y q, nks_ren f xs ys q2]
end
theorem TRs.tr {f : Nat → Option Nat} (t : Tr w M rho H M1 rho1 H1 f) : ∀ {xs ys : List (PV × PV)} {vs : List (NestedKey × Addr × Value)}, TRs w M rho H xs vs → renK f xs = some ys → TRs w M1 rho1 H1 ys vs
  | _, _, _, .nil, e => by cases e; exact .nil
  | _, _, _, .cons (k := k) (x := x) (fs := xs) q1 q2 r0 a r b, e => by
    unfold renK at e
    cases e1 : renV f x with
    | none => rw [e1] at e; cases e
    | some y =>
      cases e2 : renK f xs with
      | none => rw [e1, e2] at e; cases e
      | some ys => rw [e1, e2] at e; cases e; exact .cons q1 q2 (r0.tr t (nk_ren f k _ q1)) (a.tr t e1) r (TRs.tr t b e2)
theorem OR.tr {f : Nat → Option Nat} (t : Tr w M rho H M1 rho1 H1 f) {a : Addr} {o p : PO} (q : OR w M rho H a o) (he : H1 a = H a) (e : renO f o = Option.some p) : OR w M1 rho1 H1 a p := by
  cases o with
  | lst xs =>
    obtain ⟨vs, h1, h2⟩ := q
    cases e1 : renVs f xs with
    | none => simp only [renO, e1] at e; cases e
    | some ys => simp only [renO, e1] at e; cases e; exact ⟨vs, he.trans h1, h2.tr t e1⟩
  | ins c fs =>
    obtain ⟨C, dx, gs, h0, h1, h2⟩ := q
    cases e1 : renF f fs with
    | none => simp only [renO, e1] at e; cases e
    | some ys => simp only [renO, e1] at e; cases e; exact ⟨C, dx, gs, h0, he.trans h1, h2.tr t e1⟩
  | dic lk kvs =>
    obtain ⟨ks, h1, h2⟩ := q
    cases e1 : renK f kvs with
    | none => simp only [renO, e1] at e; cases e
    | some ys =>
      simp only [renO, e1] at e; cases e
      refine ⟨ks, ?_, h2.tr t e1⟩
      cases lk with
      | false => exact he.trans h1
      | true => obtain ⟨o, h1⟩ := h1; exact ⟨o, he.trans h1⟩
  | dit lk kvs =>
    obtain ⟨ks, h1, z1, z2, z3, h2⟩ := q
    cases e1 : renK f kvs with
    | none => simp only [renO, e1] at e; cases e
    | some ys =>
      simp only [renO, e1] at e; cases e
      refine ⟨ks, ?_, z1, z2, z3, h2.tr t e1⟩
      cases lk with
      | false => exact he.trans h1
      | true => obtain ⟨o, h1⟩ := h1; exact ⟨o, he.trans h1⟩
end

abbrev MF := List PV → PH → R PV
def FUEL : Nat := 1600
def pick (h : PH) (f : Nat → Option Nat) (n : Nat) : Option PO := match h[n]? with
  | some o => renO f o
  | none => none
def setAll : PH → List Nat → List PO → PH
  | h, n :: ns, o :: os => setAll (h.set n o) ns os
  | h, _, _ => h
def newsOf (fp live : List Nat) : List Nat := live.filter fun n => decide (fp.length ≤ n)
def backF (fp news : List Nat) (n0 : Nat) : Nat → Option Nat := fun n => bif decide (n < fp.length) then fp[n]? else match idx news n with
  | some i => some (n0 + i)
  | none => none
/-- behind the call: fp the objects that were handed over, h the caller's heap, vs and g what came back -/
def takeL (h : PH) (fp : List Nat) (vs : List PV) (g : PH) : Option (List Nat × List PV × PH) := match reach g FUEL (refsVs vs ++ List.range fp.length) [] with
  | some live => match renVs (backF fp (newsOf fp live) h.length) vs, mapO (pick g (backF fp (newsOf fp live) h.length)) (List.range fp.length), mapO (pick g (backF fp (newsOf fp live) h.length)) (newsOf fp live) with
    | some us, some os, some ns => some (newsOf fp live, us, setAll h fp os ++ ns)
    | _, _, _ => none
  | none => none
def takeBack (h : PH) (fp : List Nat) (v : PV) (g : PH) : R PV := match takeL h fp [v] g with
  | some (_, [u], h2) => .ok u h2
  | _ => .stuck
/-- a new instance that nobody else holds is taken over as a value -/
def takeFrz (h : PH) (fp : List Nat) (v : PV) (g : PH) : R PV := match v with
  | .ref i => match g[i]? with
    | some (.ins c fs) => match takeL h fp (fs.map (·.2)) g with
      | some (news, us, h2) => bif news.contains i || decide (i < fp.length) then .stuck else .ok (.ins c ((fs.map (·.1)).zip us)) h2
      | none => .stuck
    | _ => .stuck
  | _ => .stuck
def callG (tb : PH → List Nat → PV → PH → R PV) (m : MF) (args : List PV) (h : PH) : R PV := match reach h FUEL (refsVs args) [] with
  | some fp => match renVs (idx fp) args, mapO (pick h (idx fp)) fp with
    | some as, some hc => match m as hc with
      | .ok v g => tb h fp v g
      | .exc _ _ _ => .stuck
      | .stuck => .stuck
    | _, _ => .stuck
  | none => .stuck
section
theorem idx_get : ∀ {l : List Nat} {n i : Nat}, idx l n = some i → l[i]? = some n
  | [], _, _, e => nomatch e
  | m :: r, n, i, e => by
    unfold idx at e
    by_cases q : m = n
    · rw [beq_iff_eq.mpr q, cond_true] at e
      cases e
      rw [q]; rfl
    · rw [beq_eq_false_iff_ne.mpr q, cond_false] at e
      split at e
      · rename_i j ej
        cases e
        have := idx_get ej
        simpa using this
      · cases e
theorem mapO_len {α β : Type} {f : α → Option β} : ∀ {xs : List α} {ys : List β}, mapO f xs = some ys → ys.length = xs.length
  | [], _, e => by cases e; rfl
  | x :: xs, ys, e => by
    unfold mapO at e
    split at e
    · cases e
    · split at e
      · cases e
      · rename_i e2
        cases e
        rw [List.length_cons, List.length_cons, mapO_len e2]
theorem mapO_get {α β : Type} {f : α → Option β} : ∀ {xs : List α} {ys : List β}, mapO f xs = some ys → ∀ {i : Nat} {x : α}, xs[i]? = some x → ∃ y, ys[i]? = some y ∧ f x = some y
  | [], _, _, i, _, h => by simp at h
  | x :: xs, ys, e, i, z, h => by
    unfold mapO at e
    split at e
    · cases e
    · rename_i y ey
      split at e
      · cases e
      · rename_i e2
        cases e
        cases i with
        | zero =>
          have h1 : x = z := by simpa using h
          subst h1
          exact ⟨y, rfl, ey⟩
        | succ i =>
          obtain ⟨y2, h1, h2⟩ := mapO_get e2 (i := i) (x := z) (by simpa using h)
          exact ⟨y2, by simpa using h1, h2⟩
theorem reach_nd {h : PH} : ∀ {f : Nat} {todo seen fp : List Nat}, seen.Nodup → reach h f todo seen = some fp → fp.Nodup
  | f, [], seen, fp, n, e => by
    cases f <;> (unfold reach at e; cases e; exact n)
  | 0, _ :: _, _, _, _, e => by unfold reach at e; cases e
  | f + 1, m :: todo, seen, fp, n, e => by
    unfold reach at e
    by_cases q : seen.contains m = true
    · rw [q, cond_true] at e
      exact reach_nd n e
    · have q' : seen.contains m = false := by simpa using q
      rw [q', cond_false] at e
      split at e
      · refine reach_nd (List.nodup_append.mpr ⟨n, (by simp), fun a ha b hb z => ?_⟩) e
        rw [List.mem_singleton] at hb
        subst z; subst hb
        exact q (List.contains_iff_mem.mpr ha)
      · cases e
theorem setAll_len : ∀ (h : PH) (ns : List Nat) (os : List PO), (setAll h ns os).length = h.length
  | h, [], os => by cases os <;> rfl
  | h, n :: ns, [] => rfl
  | h, n :: ns, o :: os => by
    show (setAll (h.set n o) ns os).length = _
    rw [setAll_len, List.length_set]
theorem setAll_out : ∀ (h : PH) (ns : List Nat) (os : List PO) {i : Nat}, i ∉ ns → (setAll h ns os)[i]? = h[i]?
  | h, [], os, i, _ => by cases os <;> rfl
  | h, n :: ns, [], i, _ => rfl
  | h, n :: ns, o :: os, i, hn => by
    show (setAll (h.set n o) ns os)[i]? = _
    have h1 : n ≠ i := fun e => hn (by rw [e]; exact List.mem_cons_self)
    rw [setAll_out (h.set n o) ns os fun z => hn (List.mem_cons_of_mem _ z), List.getElem?_set_ne h1]
theorem setAll_in : ∀ (h : PH) (ns : List Nat) (os : List PO), ns.Nodup → os.length = ns.length → ∀ {i j : Nat}, ns[j]? = some i → i < h.length → (setAll h ns os)[i]? = os[j]?
  | h, [], os, _, _, i, j, e, _ => by simp at e
  | h, n :: ns, [], _, l, i, j, e, _ => by simp at l
  | h, n :: ns, o :: os, nd, l, i, j, e, hi => by
    show (setAll (h.set n o) ns os)[i]? = _
    have nd2 := List.nodup_cons.mp nd
    cases j with
    | zero =>
      have e1 : n = i := by simpa using e
      subst e1
      rw [setAll_out _ _ _ nd2.1, List.getElem?_set_self hi]
      rfl
    | succ j =>
      have e1 : ns[j]? = some i := by simpa using e
      have := setAll_in (h.set n o) ns os nd2.2 (by simpa using l) e1 (by rw [List.length_set]; exact hi)
      rw [this]
      simp
end
section
variable {w : Wo} {EX EX2 : XC} {M : Addr → Prop} {rho : List Addr} {H : Hp} {h : PH}
/-- the addresses that are handed over -/
def some_of (rho : List Addr) (fp : List Nat) : List Addr := fp.map fun n => rho.getD n 0
theorem some_get {rho : List Addr} {fp : List Nat} {i n : Nat} {a : Addr} (e : fp[i]? = some n) (r : rho[n]? = some a) : (some_of rho fp)[i]? = some a := by
  unfold some_of
  rw [List.getElem?_map, e]
  simp [List.getD, r]
theorem some_inv {rho : List Addr} {fp : List Nat} {i : Nat} {a : Addr} (hf : ∀ n ∈ fp, n < rho.length) (e : (some_of rho fp)[i]? = some a) : ∃ n, fp[i]? = some n ∧ rho[n]? = some a := by
  unfold some_of at e
  rw [List.getElem?_map] at e
  cases q : fp[i]? with
  | none => rw [q] at e; cases e
  | some n =>
    rw [q] at e
    have hn := hf n (List.mem_of_getElem? q)
    refine ⟨n, rfl, ?_⟩
    rw [← e]
    simp [List.getD, hn]
theorem some_nd {rho : List Addr} {fp : List Nat} (h1 : rho.Nodup) (h2 : fp.Nodup) (hf : ∀ n ∈ fp, n < rho.length) : (some_of rho fp).Nodup := by
  unfold some_of
  induction fp with
  | nil => exact List.nodup_nil
  | cons n r ih =>
    have h3 := List.nodup_cons.mp h2
    rw [List.map_cons]
    refine List.nodup_cons.mpr ⟨fun z => ?_, ih h3.2 fun m hm => hf m (List.mem_cons_of_mem _ hm)⟩
    obtain ⟨m, hm, e⟩ := List.mem_map.mp z
    have l1 := hf n List.mem_cons_self
    have l2 := hf m (List.mem_cons_of_mem _ hm)
    simp only [List.getD, List.getElem?_eq_getElem l1, List.getElem?_eq_getElem l2, Option.getD_some] at e
    have := (List.getElem_inj h1).mp e
    subst this
    exact h3.1 hm
theorem pick_some {h : PH} {f : Nat → Option Nat} {n : Nat} {p : PO} (e : pick h f n = some p) : ∃ o, h[n]? = some o ∧ renO f o = some p := by
  unfold pick at e
  split at e
  · rename_i o e0
    exact ⟨o, e0, e⟩
  · cases e
theorem pick_all {h : PH} {f : Nat → Option Nat} {ns : List Nat} {os : List PO} (e : mapO (pick h f) ns = some os) : ∀ n ∈ ns, n < h.length := fun n hn => by
  obtain ⟨i, hi, ei⟩ := List.mem_iff_getElem.mp hn
  obtain ⟨y, _, ey⟩ := mapO_get e (i := i) (x := n) (by rw [List.getElem?_eq_getElem hi, ei])
  obtain ⟨o, h1, _⟩ := pick_some ey
  exact (List.getElem?_eq_some_iff.mp h1).1
/-- entering -/
theorem enter_ok (hr : HR w M rho H h) {args as : List PV} {hc : PH} {fp : List Nat} {vs : List V} (nd : fp.Nodup) (e1 : renVs (idx fp) args = some as) (e2 : mapO (pick h (idx fp)) fp = some hc) (r : VRs w M rho H args vs) :
    VRs w M (some_of rho fp) H as vs ∧ HR w M (some_of rho fp) H hc := by
  have hf : ∀ n ∈ fp, n < rho.length := fun n hn => by rw [← hr.len]; exact pick_all e2 n hn
  have t : Tr w M rho H M (some_of rho fp) H (idx fp) := ⟨fun _ _ _ e => e, fun _ e => e, fun n m a q ha => some_get (idx_get q) ha⟩
  refine ⟨r.tr t e1, ⟨?_, some_nd hr.nd nd hf, fun b hb => ?_, hr.live, fun n o q => ?_, hr.tabs⟩⟩
  · rw [mapO_len e2]
    unfold some_of
    rw [List.length_map]
  · obtain ⟨i, hi, ei⟩ := List.mem_iff_getElem.mp hb
    obtain ⟨n, _, hn⟩ := some_inv hf (i := i) (a := b) (by rw [List.getElem?_eq_getElem hi, ei])
    exact hr.mem b (List.mem_of_getElem? hn)
  · have hn : n < fp.length := by
      have := (List.getElem?_eq_some_iff.mp q).1
      rwa [mapO_len e2] at this
    obtain ⟨y, hy, ey⟩ := mapO_get e2 (i := n) (x := fp[n]) (List.getElem?_eq_getElem hn)
    rw [q] at hy
    cases hy
    obtain ⟨o', h1, h2⟩ := pick_some ey
    obtain ⟨a, ha, s⟩ := hr.ob _ _ h1
    exact ⟨a, some_get (List.getElem?_eq_getElem hn) ha, s.tr t rfl h2⟩
/-- coming back -/
theorem back_core {M1 : Addr → Prop} {rho1 : List Addr} {H1 : Hp} (hr : HR w M rho H h) {fp : List Nat} {g h2 : PH} {v us : List PV} {V : List L2.V} {nw : List Nat} (nd : fp.Nodup) (hf : ∀ n ∈ fp, n < rho.length) (st : Step M (some_of rho fp) H M1 rho1 H1) (hr1 : HR w M1 rho1 H1 g) (r : VRs w M1 rho1 H1 v V)
    (o : takeL h fp v g = some (nw, us, h2)) : ∃ M2 rho2, Step M rho H M2 rho2 H1 ∧ HR w M2 rho2 H1 h2 ∧ VRs w M2 rho2 H1 us V ∧ (∀ b, M2 b → M b ∨ ∃ n ∈ nw, rho1[n]? = some b) := by
  unfold takeL at o
  split at o
  · rename_i live el
    have ndl := reach_nd List.nodup_nil el
    generalize hnews : newsOf fp live = news at o
    have ndn : news.Nodup := by rw [← hnews]; exact ndl.filter _
    have nge : ∀ n ∈ news, fp.length ≤ n := fun n hn => by
      rw [← hnews] at hn
      exact of_decide_eq_true (List.mem_filter.mp hn).2
    generalize hfd : backF fp news h.length = f at o
    split at o
    · rename_i us' os ns e1 e2 e3
      have lo : os.length = fp.length := by rw [mapO_len e2, List.length_range]
      have ln : ns.length = news.length := mapO_len e3
      have nlt : ∀ n ∈ news, n < rho1.length := fun n hn => by rw [← hr1.len]; exact pick_all e3 n hn
      have lc : (some_of rho fp).length = fp.length := by unfold some_of; rw [List.length_map]
      -- a new address
      have newA : ∀ b ∈ some_of rho1 news, b ∈ rho1 ∧ H b = none := fun b hb => by
        obtain ⟨i, hi, ei⟩ := List.mem_iff_getElem.mp hb
        obtain ⟨n, h1, h2⟩ := some_inv nlt (i := i) (a := b) (by rw [List.getElem?_eq_getElem hi, ei])
        have hm := List.mem_of_getElem? h2
        refine ⟨hm, ?_⟩
        rcases st.new b hm with z | z
        · obtain ⟨j, hj, ej⟩ := List.mem_iff_getElem.mp z
          have q := st.ext j b (by rw [List.getElem?_eq_getElem hj, ej])
          obtain ⟨l1, z1⟩ := List.getElem?_eq_some_iff.mp q
          obtain ⟨l2, z2⟩ := List.getElem?_eq_some_iff.mp h2
          have := (List.getElem_inj hr1.nd).mp (z1.trans z2.symm)
          have g1 := nge n (List.mem_of_getElem? h1)
          rw [lc] at hj
          omega
        · exact z
      have subR : ∀ b ∈ some_of rho fp, b ∈ rho := fun b hb => by
        obtain ⟨i, hi, ei⟩ := List.mem_iff_getElem.mp hb
        obtain ⟨n, _, hn⟩ := some_inv hf (i := i) (a := b) (by rw [List.getElem?_eq_getElem hi, ei])
        exact List.mem_of_getElem? hn
      let M2 : Addr → Prop := fun b => M b ∨ b ∈ some_of rho1 news
      let rho2 := rho ++ some_of rho1 news
      have st2 : Step M rho H M2 rho2 H1 := by
        refine ⟨fun n a e => ?_, fun b e => .inl e, fun b e => e.elim .inl fun z => .inr (newA b z).2, fun b e => ?_, fun b o' nb e nt => st.frame b o' (fun z => nb (subR b z)) e nt, st.there, st.frz⟩
        · show (rho ++ some_of rho1 news)[n]? = some a
          rw [List.getElem?_append_left (List.getElem?_eq_some_iff.mp e).1]; exact e
        · rcases List.mem_append.mp e with z | z
          · exact .inl z
          · exact .inr (newA b z).2
      have t : Tr w M1 rho1 H1 M2 rho2 H1 f := by
        refine ⟨fun _ _ _ e => e, fun b e => e.elim (st.mono b) fun z => hr1.mem b (newA b z).1, fun n m a q ha => ?_⟩
        rw [← hfd] at q
        unfold backF at q
        by_cases hn : n < fp.length
        · simp only [hn, decide_true, cond_true] at q
          have hm := hf m (List.mem_of_getElem? q)
          have z := st.ext n _ (some_get q (List.getElem?_eq_getElem hm))
          rw [ha] at z
          cases z
          show (rho ++ some_of rho1 news)[m]? = _
          rw [List.getElem?_append_left hm]
          exact List.getElem?_eq_getElem hm
        · simp only [hn, decide_false, cond_false] at q
          split at q
          · rename_i i ei
            cases q
            show (rho ++ some_of rho1 news)[h.length + i]? = _
            rw [hr.len, List.getElem?_append_right (Nat.le_add_right _ _), Nat.add_sub_cancel_left]
            exact some_get (idx_get ei) ha
          · cases q
      have hr2 : HR w M2 rho2 H1 (setAll h fp os ++ ns) := by
        refine ⟨?_, ?_, fun b hb => ?_, fun b hb => ?_, fun n o' q => ?_, hr1.tabs.grow (fun _ _ e => e) fun b _ z => z.elim (st.mono b) fun y => hr1.mem b (newA b y).1⟩
        · show _ = (rho ++ some_of rho1 news).length
          rw [List.length_append, List.length_append, setAll_len, hr.len, ln]
          unfold some_of
          rw [List.length_map]
        · refine List.nodup_append.mpr ⟨hr.nd, some_nd hr1.nd ndn nlt, fun a ha b hb e => ?_⟩
          subst e
          exact hr.live _ (hr.mem _ ha) (newA _ hb).2
        · rcases List.mem_append.mp hb with z | z
          · exact .inl (hr.mem b z)
          · exact .inr z
        · rcases hb with z | z
          · exact st.there b (hr.live b z)
          · exact hr1.live b (hr1.mem b (newA b z).1)
        · by_cases hn : n < h.length
          · rw [List.getElem?_append_left (by rw [setAll_len]; exact hn)] at q
            by_cases hm : n ∈ fp
            · obtain ⟨j, hj, ej⟩ := List.mem_iff_getElem.mp hm
              have e4 : fp[j]? = some n := by rw [List.getElem?_eq_getElem hj, ej]
              rw [setAll_in h fp os nd lo e4 hn] at q
              obtain ⟨y, hy, ey⟩ := mapO_get e2 (i := j) (x := j) (by simp [hj])
              rw [q] at hy
              cases hy
              obtain ⟨o2, h1, h2⟩ := pick_some ey
              obtain ⟨a, ha, s⟩ := hr1.ob _ _ h1
              refine ⟨a, ?_, s.tr t rfl h2⟩
              have hn2 : n < rho.length := by rw [← hr.len]; exact hn
              have z := st.ext j _ (some_get e4 (List.getElem?_eq_getElem hn2))
              rw [ha] at z
              cases z
              show (rho ++ some_of rho1 news)[n]? = _
              rw [List.getElem?_append_left hn2]
              exact List.getElem?_eq_getElem hn2
            · rw [setAll_out h fp os hm] at q
              obtain ⟨a, ha, s⟩ := hr.ob _ _ q
              refine ⟨a, st2.ext n a ha, s.step st2 hr ?_⟩
              obtain ⟨x, hx, nx⟩ := s.some
              rw [hx]
              refine st.frame a x (fun z => ?_) hx fun ps y => by subst y; cases nx
              obtain ⟨i, hi, ei⟩ := List.mem_iff_getElem.mp z
              obtain ⟨n', h5, h6⟩ := some_inv hf (i := i) (a := a) (by rw [List.getElem?_eq_getElem hi, ei])
              obtain ⟨l1, z1⟩ := List.getElem?_eq_some_iff.mp ha
              obtain ⟨l2, z2⟩ := List.getElem?_eq_some_iff.mp h6
              have := (List.getElem_inj hr.nd).mp (z1.trans z2.symm)
              subst this
              exact hm (List.mem_of_getElem? h5)
          · rw [List.getElem?_append_right (by rw [setAll_len]; omega), setAll_len] at q
            have hl : n - h.length < news.length := by
              have := (List.getElem?_eq_some_iff.mp q).1
              omega
            obtain ⟨y, hy, ey⟩ := mapO_get e3 (i := n - h.length) (x := news[n - h.length]) (List.getElem?_eq_getElem hl)
            rw [q] at hy
            cases hy
            obtain ⟨o2, h1, h2⟩ := pick_some ey
            obtain ⟨a, ha, s⟩ := hr1.ob _ _ h1
            refine ⟨a, ?_, s.tr t rfl h2⟩
            show (rho ++ some_of rho1 news)[n]? = _
            rw [List.getElem?_append_right (by rw [← hr.len]; omega), ← hr.len]
            exact some_get (List.getElem?_eq_getElem hl) ha
      have o2 := Option.some.inj o
      have p1 := congrArg Prod.fst o2
      have p2 := congrArg (fun z => z.2.1) o2
      have p3 := congrArg (fun z => z.2.2) o2
      simp only at p1 p2 p3
      subst p1; subst p2; subst p3
      refine ⟨M2, rho2, st2, hr2, r.tr t e1, fun b hb => hb.elim .inl fun z => .inr ?_⟩
      obtain ⟨i, hi, ei⟩ := List.mem_iff_getElem.mp z
      obtain ⟨n, h1, h2⟩ := some_inv nlt (i := i) (a := b) (by rw [List.getElem?_eq_getElem hi, ei])
      exact ⟨n, List.mem_of_getElem? h1, h2⟩
    · cases o
  · cases o
theorem back_ok {M1 : Addr → Prop} {rho1 : List Addr} {H1 : Hp} (hr : HR w M rho H h) {fp : List Nat} {g : PH} {v : PV} {V : L2.V} (nd : fp.Nodup) (hf : ∀ n ∈ fp, n < rho.length) (st : Step M (some_of rho fp) H M1 rho1 H1) (hr1 : HR w M1 rho1 H1 g) (r : VR w M1 rho1 H1 v V)
    {k : KC PV} (o : Out w EX M rho H (takeBack h fp v g) k) : ∃ M2 rho2 u h2, Step M rho H M2 rho2 H1 ∧ HR w M2 rho2 H1 h2 ∧ VR w M2 rho2 H1 u V ∧ k u h2 M2 rho2 H1 := by
  unfold takeBack at o
  split at o
  · rename_i nw u h2 e
    obtain ⟨M2, rho2, st2, hr2, r2, _⟩ := back_core hr nd hf st hr1 (.cons r .nil) e
    cases r2 with
    | cons r2 _ => exact ⟨M2, rho2, u, h2, st2, hr2, r2, o M2 rho2 H1 st2 hr2⟩
  · exact (show False from o).elim
theorem FRs.vals {M1 : Addr → Prop} {rho1 : List Addr} {H1 : Hp} : ∀ {fs : List (Nm × PV)} {gs : List (Str × L2.V)}, FRs w M1 rho1 H1 fs gs → VRs w M1 rho1 H1 (fs.map (·.2)) (gs.map (·.2))
  | _, _, .nil => .nil
  | _, _, .cons a b => .cons a b.vals
theorem FRs.back {M1 M2 : Addr → Prop} {rho1 rho2 : List Addr} {H1 H2 : Hp} : ∀ {fs : List (Nm × PV)} {gs : List (Str × L2.V)} {us : List PV}, FRs w M1 rho1 H1 fs gs → VRs w M2 rho2 H2 us (gs.map (·.2)) → FRs w M2 rho2 H2 ((fs.map (·.1)).zip us) gs
  | _, _, _, .nil, .nil => .nil
  | _, _, _, .cons a b, .cons c d => .cons c (b.back d)
/-- the callee's outcome from the call's -/
def TbOk (w : Wo) (EX : XC) (tb : PH → List Nat → PV → PH → R PV) : Prop := ∀ {M M1 : Addr → Prop} {rho rho1 : List Addr} {H H1 : Hp} {h : PH}, HR w M rho H h → ∀ {fp : List Nat} {g : PH} {v : PV} {V : L2.V}, fp.Nodup → (∀ n ∈ fp, n < rho.length) → Step M (some_of rho fp) H M1 rho1 H1 → HR w M1 rho1 H1 g → VR w M1 rho1 H1 v V →
    ∀ {k : KC PV}, Out w EX M rho H (tb h fp v g) k → ∃ M2 rho2 u h2, Step M rho H M2 rho2 H1 ∧ HR w M2 rho2 H1 h2 ∧ VR w M2 rho2 H1 u V ∧ k u h2 M2 rho2 H1
theorem tb_ok : TbOk w EX takeBack := back_ok
theorem callG_ok {tb : PH → List Nat → PV → PH → R PV} (T : TbOk w EX tb) {m : MF} {args : List PV} {vs : List V} {k : KC PV} (hr : HR w M rho H h) (r : VRs w M rho H args vs) (o : Out w EX M rho H (callG tb m args h) k) :
    ∃ rho' as hc, VRs w M rho' H as vs ∧ HR w M rho' H hc ∧ Out w EX2 M rho' H (m as hc) (fun v _ M1 rho1 H1 => ∀ V, VR w M1 rho1 H1 v V → ∃ M2 rho2 u h2, Step M rho H M2 rho2 H1 ∧ HR w M2 rho2 H1 h2 ∧ VR w M2 rho2 H1 u V ∧ k u h2 M2 rho2 H1) := by
  unfold callG at o
  split at o
  · rename_i fp ef
    have nd := reach_nd List.nodup_nil ef
    split at o
    · rename_i as hc e1 e2
      have hf : ∀ n ∈ fp, n < rho.length := fun n hn => by rw [← hr.len]; exact pick_all e2 n hn
      obtain ⟨r', hr'⟩ := enter_ok hr nd e1 e2 r
      refine ⟨_, as, hc, r', hr', ?_⟩
      split at o
      · rename_i v g em
        rw [em]
        exact fun M1 rho1 H1 st hr1 V rv => T hr nd hf st hr1 rv o
      · exact (show False from o).elim
      · exact (show False from o).elim
    · exact (show False from o).elim
  · exact (show False from o).elim
end
end MC

end
section
set_option maxRecDepth 100000
set_option maxHeartbeats 4000000
namespace MC
open PySem PySem.Spec PyProof.Rows L2

abbrev En := List (Option PV)
/-- how a statement ends -/
inductive Fl where
  | nx (e : En)
  | rt (v : PV)
  | bk (e : En)
  | ct (e : En)
abbrev MS := En → PH → R Fl
def KS (w : Wo) (D : Ends) : KC Fl := fun f _ M rho H => match f with
  | .nx e => ∀ s, ER w M rho H e s → D.nx s H
  | .rt x => ∀ v, VR w M rho H x v → D.rt v H
  | .bk e => ∀ s, ER w M rho H e s → D.bk s H
  | .ct e => ∀ s, ER w M rho H e s → D.ct s H
def tS (w : Wo) (EX : XC) (m : MS) : TS := fun D s H => ∃ M rho env h, ER w M rho H env s ∧ HR w M rho H h ∧ Out w EX M rho H (m env h) (KS w D)
theorem PS_imp {X : Cx} {e : Stmt} {t t2 : TS} (p : PS X e t) (i : ∀ D s H, t2 D s H → t D s H) : PS X e t2 := ⟨fun pins s σ H D I h => p.run pins s σ H D I (i D σ H h)⟩
theorem PSs_imp {X : Cx} {e : List Stmt} {t t2 : TS} (p : PSs X e t) (i : ∀ D s H, t2 D s H → t D s H) : PSs X e t2 := ⟨fun pins s σ H D I h => p.run pins s σ H D I (i D σ H h)⟩

def mNil : MS := fun env h => .ok (.nx env) h
def mSeq (a b : MS) : MS := fun env h => (a env h).bind fun f h1 => match f with
  | .nx e => b e h1
  | .rt v => .ok (.rt v) h1
  | .bk e => .ok (.bk e) h1
  | .ct e => .ok (.ct e) h1
def mSet (i : Nat) (m : ME) : MS := fun env h => (m env h).bind fun x h1 => .ok (.nx (env.set i (some x))) h1
def mDrop (m : ME) : MS := fun env h => (m env h).bind fun _ h1 => .ok (.nx env) h1
def mRet (m : ME) : MS := fun env h => (m env h).bind fun x h1 => .ok (.rt x) h1
def mRetN : MS := fun _ h => .ok (.rt .non) h
def mIfS (t : MT) (a b : MS) : MS := fun env h => (t env h).bind fun c h1 => bif c then a env h1 else b env h1
def mBreak : MS := fun env h => .ok (.bk env) h
def mCont : MS := fun env h => .ok (.ct env) h
def mNever : MS := fun _ _ => .stuck
section
variable {w : Wo} {EX : XC} {X : Cx} {k : Nat} {st : Stmt} {rest : List Stmt} {a b : MS} {m : ME} {e : Expr} {pos : Pos}
theorem mss_nil : PSs X [] (tS w EX mNil) := by
  refine PSs_imp pss_nil fun D s H hh => ?_
  obtain ⟨M, rho, env, h, er, hr, o⟩ := hh
  exact o.now hr s er
theorem mss_cons (h1 : PS X st (tS w EX a)) (h2 : PSs X rest (tS w EX b)) : PSs X (st :: rest) (tS w EX (mSeq a b)) := by
  refine PSs_imp (pss_cons h1 h2) fun D s H hh => ?_
  obtain ⟨M, rho, env, h, er, hr, o⟩ := hh
  refine ⟨M, rho, env, h, er, hr, (Out.bind o).imp fun f h1 M1 rho1 H1 st1 hr1 o1 => ?_⟩
  cases f with
  | nx e => exact fun s1 er1 => ⟨M1, rho1, e, h1, er1, hr1, o1⟩
  | rt v => exact (show Out w EX M1 rho1 H1 (.ok (.rt v) h1) (KS w D) from o1).now hr1
  | bk e => exact (show Out w EX M1 rho1 H1 (.ok (.bk e) h1) (KS w D) from o1).now hr1
  | ct e => exact (show Out w EX M1 rho1 H1 (.ok (.ct e) h1) (KS w D) from o1).now hr1
theorem mss_never {sts : List Stmt} : PSs X sts (tS w EX mNever) := ⟨fun _ _ _ _ _ _ ⟨_, _, _, _, _, _, o⟩ => (show False from o).elim⟩
theorem ms_set (i : Nat) {x : Str} {pos' : Pos} (hN : X.N.Nodup) (he : PE X e (tM w EX m)) (hi : X.N[i]? = some x := by rfl) (hx : Loc X.env.scope x := by first | exact Or.inl rfl | exact Or.inr rfl)
    (hs : swapsWith e (some (.Name x pos')) pos.line X.env = pure false := by rfl) (hf : X.fn x = true ∨ X.env.scope.names.lookup x = some .local := by first | exact .inl rfl | exact .inr rfl | assumption) :
    PS X (.Assign [.Name x pos'] e pos) (tS w EX (mSet i m)) := by
  refine PS_imp (ps_set hN hi hx he hs hf) fun D s H hh => ?_
  obtain ⟨M, rho, env, h, er, hr, o⟩ := hh
  exact tM.of er hr (Out.bind o) fun y h1 M1 rho1 H1 v st1 er1 hr1 o1 rv => o1.now hr1 _ (er1.set rv i)
theorem ms_expr (he : PE X e (tM w EX m)) (hs : swapsWith e none pos.line X.env = pure false := by rfl) : PS X (.Expr e pos) (tS w EX (mDrop m)) := by
  refine PS_imp (ps_expr he hs) fun D s H hh => ?_
  obtain ⟨M, rho, env, h, er, hr, o⟩ := hh
  exact tM.of er hr (Out.bind o) fun y h1 M1 rho1 H1 v st1 er1 hr1 o1 rv => o1.now hr1 _ er1
theorem ms_ret (he : PE X e (tM w EX m)) : PS X (.Return (some e) pos) (tS w EX (mRet m)) := by
  refine PS_imp (ps_ret he) fun D s H hh => ?_
  obtain ⟨M, rho, env, h, er, hr, o⟩ := hh
  exact tM.of er hr (Out.bind o) fun y h1 M1 rho1 H1 v st1 er1 hr1 o1 rv => o1.now hr1 _ rv
theorem ms_if {c : Expr} {as bs : List Stmt} {t : MT} (hc : PT X c (tT w EX t)) (ha : PSs X as (tS w EX a)) (hb : PSs X bs (tS w EX b)) : PS X (.If c as bs pos) (tS w EX (mIfS t a b)) := by
  refine PS_imp (ps_if hc ha hb) fun D s H hh => ?_
  obtain ⟨M, rho, env, h, er, hr, o⟩ := hh
  refine tT.of er hr (Out.bind o) fun x h1 M1 rho1 H1 st1 er1 hr1 o1 => ?_
  cases x with
  | true => exact iteT ⟨M1, rho1, env, h1, er1, hr1, o1⟩
  | false => exact iteF ⟨M1, rho1, env, h1, er1, hr1, o1⟩
end

abbrev MG := PV → En → PH → R En
abbrev MGs := List PV → En → PH → R En
def KG (w : Wo) (Q : L2.St → Hp → Prop) : KC En := fun e _ M rho H => ∀ s, ER w M rho H e s → Q s H
def tG (w : Wo) (EX : XC) (m : MG) : TG := fun v s H Q => ∃ M rho env h x, ER w M rho H env s ∧ HR w M rho H h ∧ VR w M rho H x v ∧ Out w EX M rho H (m x env h) (KG w Q)
def tGs (w : Wo) (EX : XC) (m : MGs) : TGs := fun vs s H Q => ∃ M rho env h xs, ER w M rho H env s ∧ HR w M rho H h ∧ VRs w M rho H xs vs ∧ Out w EX M rho H (m xs env h) (KG w Q)
def gName' (i : Nat) : MG := fun x env h => .ok (env.set i (some x)) h
def gsNil : MGs := fun xs env h => match xs with
  | [] => .ok env h
  | _ => .stuck
def gsCons (g : MG) (gs : MGs) : MGs := fun xs env h => match xs with
  | x :: r => (g x env h).bind fun e h1 => gs r e h1
  | [] => .stuck
def gTup' (n : Nat) (gs : MGs) : MG := fun x env h => match x with
  | .tup xs => bif xs.length == n then gs xs env h else .stuck
  | _ => .stuck
/-- target = value -/
def mAsg (m : ME) (g : MG) : MS := fun env h => (m env h).bind fun x h1 => (g x env h1).bind fun e h2 => .ok (.nx e) h2
section
variable {w : Wo} {EX : XC} {X : Cx} {k : Nat} {pos : Pos}
theorem PG_imp {tg : Expr} {t t2 : TG} (p : PG X tg t) (i : ∀ v s H Q, t2 v s H Q → t v s H Q) : PG X tg t2 := ⟨fun pins s σ H v u Q I r h => p.run pins s σ H v u Q I r (i v σ H Q h)⟩
theorem PGs_imp {tg : List Expr} {t t2 : TGs} (p : PGs X tg t) (i : ∀ v s H Q, t2 v s H Q → t v s H Q) : PGs X tg t2 := ⟨fun pins s σ H v u Q I r h => p.run pins s σ H v u Q I r (i v σ H Q h)⟩
theorem mg_name (i : Nat) {x : Str} (hN : X.N.Nodup) (hi : X.N[i]? = some x := by rfl) (hx : Loc X.env.scope x := by first | exact Or.inl rfl | exact Or.inr rfl) (hf : X.fn x = true ∨ X.env.scope.names.lookup x = some .local := by first | exact .inl rfl | exact .inr rfl | assumption) :
    PG X (.Name x pos) (tG w EX (gName' i)) := by
  refine PG_imp (pg_name hN hi hx hf) fun v s H Q hh => ?_
  obtain ⟨M, rho, env, h, x, er, hr, rv, o⟩ := hh
  exact o.now hr _ (er.set rv i)
theorem mgs_nil : PGs X [] (tGs w EX gsNil) := by
  refine PGs_imp pgs_nil fun vs s H Q hh => ?_
  obtain ⟨M, rho, env, h, xs, er, hr, rv, o⟩ := hh
  cases rv with
  | nil => exact ⟨rfl, (show Out w EX M rho H (.ok env h) (KG w Q) from o).now hr _ er⟩
  | cons _ _ => exact (show False from o).elim
theorem mgs_cons {e : Expr} {es : List Expr} {g : MG} {gs : MGs} (h1 : PG X e (tG w EX g)) (h2 : PGs X es (tGs w EX gs)) (hs : (assignEach (e :: es) X.env).map (·.2) = assign e X.env :: (assignEach es X.env).map (·.2) := by rfl) : PGs X (e :: es) (tGs w EX (gsCons g gs)) := by
  refine PGs_imp (pgs_cons h1 h2 hs) fun vs s H Q hh => ?_
  obtain ⟨M, rho, env, h, xs, er, hr, rv, o⟩ := hh
  cases rv with
  | nil => exact (show False from o).elim
  | @cons x v xs vs r1 r2 =>
    refine ⟨v, vs, rfl, M, rho, env, h, x, er, hr, r1, ?_⟩
    exact (Out.bind (show Out w EX M rho H ((g x env h).bind fun e h1 => gs xs e h1) (KG w Q) from o)).imp fun e h1 M1 rho1 H1 st1 hr1 o1 s1 er1 => ⟨M1, rho1, e, h1, xs, er1, hr1, r2.step st1 hr, o1⟩
theorem mg_tup (C : Cxt w k X) {es : List Expr} {j : Nat} {gs : MGs} (n : Nat) (h : PGs X es (tGs w EX gs)) (hn : (assignEach es X.env).length = n := by rfl) (hst : (assignEach es X.env).findIdx? (·.1) = none := by rfl) : PG X (.Tuple es j pos) (tG w EX (gTup' n gs)) := by
  refine PG_imp (pg_tup C.calm h hn hst) fun v s H Q hh => ?_
  obtain ⟨M, rho, env, hp, x, er, hr, rv, o⟩ := hh
  cases rv <;> try exact (show False from o).elim
  rename_i xs vs A ha sa
  obtain ⟨hl, o2⟩ := Out.bif o
  exact ⟨A, vs, rfl, by rw [C.hK]; exact ha, by rw [sa.length]; exact beq_iff_eq.mp hl, M, rho, env, hp, xs, er, hr, sa, o2⟩
theorem ms_asg {tg e : Expr} {m : ME} {g : MG} (he : PE X e (tM w EX m)) (hg : PG X tg (tG w EX g)) (hs : swapsWithSole [tg] e pos.line X.env = pure false := by rfl) (hw : swappedStores [tg] e X.env = pure none := by rfl)
    (h1 : (assignEach [tg] X.env).map (·.2) = [assign tg X.env] := by rfl) : PS X (.Assign [tg] e pos) (tS w EX (mAsg m g)) := by
  refine PS_imp (ps_asg he hg hs hw h1) fun D s H hh => ?_
  obtain ⟨M, rho, env, h, er, hr, o⟩ := hh
  refine tM.of er hr (Out.bind o) fun x h1 M1 rho1 H1 v st1 er1 hr1 o1 rv => ?_
  exact ⟨M1, rho1, env, h1, x, er1, hr1, rv, (Out.bind o1).imp fun e h2 M2 rho2 H2 st2 hr2 o2 s2 er2 => o2.now hr2 _ er2⟩
/-- a, b = x, y: plain local names -/
def mPar (i j : Nat) (ma mb : ME) : MS := fun env h => (ma env h).bind fun x h1 => (mb env h1).bind fun y h2 => .ok (.nx ((env.set i (some x)).set j (some y))) h2
theorem ms_par (C : Cxt w k X) (i j : Nat) {x y : Str} {a b : Expr} {ma mb : ME} {px py pt : Pos} {kt k2 pt2} (hN : X.N.Nodup) (ha : PE X a (tM w EX ma)) (hb : PE X b (tM w EX mb)) (hi : X.N[i]? = some x := by rfl) (hj : X.N[j]? = some y := by rfl) (hij : i ≠ j := by decide)
    (hx : X.env.scope.names.lookup x = some .local := by rfl) (hy : X.env.scope.names.lookup y = some .local := by rfl) (hw : swappedStores [.Tuple [.Name x px, .Name y py] kt pt] (.Tuple [a, b] k2 pt2) X.env = pure (some [x, y]) := by rfl)
    (hs : swapsWithSole [.Tuple [.Name x px, .Name y py] kt pt] (.Tuple [a, b] k2 pt2) pos.line X.env = pure false := by rfl)
    (s1 : starEach [a, b] X.env = (false, eval a X.env) :: starEach [b] X.env := by rfl) (s2 : starEach [b] X.env = (false, eval b X.env) :: starEach [] X.env := by rfl) :
    PS X (.Assign [.Tuple [.Name x px, .Name y py] kt pt] (.Tuple [a, b] k2 pt2) pos) (tS w EX (mPar i j ma mb)) := by
  refine PS_imp (ps_par C.calm hN hi hj hij hx hy (pa_cons ha (pa_cons hb pa_nil s2) s1) hw hs) fun D s H hh => ?_
  obtain ⟨M, rho, env, h, er, hr, o⟩ := hh
  refine tM.of er hr (Out.bind o) fun x h1 M1 rho1 H1 v st1 er1 hr1 o1 rv => ?_
  refine tM.of er1 hr1 (Out.bind o1) fun y h2 M2 rho2 H2 u st2 er2 hr2 o2 ru => ?_
  exact ⟨v, u, rfl, o2.now hr2 _ ((er2.set (rv.step st2 hr1) i).set ru j)⟩
end

/-- a body as a function of its arguments; n names -/
def mFun (n : Nat) (b : MS) : MF := fun args h => (b (args.map some ++ List.replicate (n - args.length) none) h).bind fun f h1 => match f with
  | .nx _ => .ok .non h1
  | .rt v => .ok v h1
  | _ => .stuck
def spM (w : Wo) (EX : XC) (m : MF) (vs : List V) (H : Hp) (Q : VK) : Prop := ∃ M rho args h, VRs w M rho H args vs ∧ HR w M rho H h ∧ Out w EX M rho H (m args h) (KV w Q)
structure FnM (P : Program) (W : World) (w : Wo) (mg : Str → Option Value) (base : Heap) (CX : CXT) (ex : XK → XC) (k : Nat) (f : Addr) (fd : FuncData) (ps : List Str) (m : MF) : Prop where
  run : ∀ (A : Around) (outer : List Env) (s : Shared) (H : Hp) (args : Args) (us : List Value) (vs : List V) (Q : VK) (E : XK), Room k A → A.guards = some [] → Env0 P W w.K mg base A outer s H → BindsTo s fd args (ps.zip us) → Vals vs us → vs.length = ps.length →
    spM w (ex E) m vs H Q → codeAny (model P W) A (.call (.ref f) args) (CR CX outer P W H s Q E) s
section
variable {P : Program} {W : World} {w : Wo} {mg : Str → Option Value} {base : Heap} {CX : CXT} {ex : XK → XC} {k : Nat}
theorem start_er {M : Addr → Prop} {rho : List Addr} {H : Hp} {args : List PV} {vs : List V} (n : Nat) (r : VRs w M rho H args vs) : ER w M rho H (args.map some ++ List.replicate (n - args.length) none) (vs.map some ++ List.replicate (n - vs.length) none) := by
  rw [r.length]
  generalize n - args.length = j
  have tl : ∀ j : Nat, ER w M rho H (List.replicate j none) (List.replicate j (none : Option V)) := fun j => by
    induction j with
    | zero => exact .nil
    | succ j ih => rw [List.replicate_succ, List.replicate_succ]; exact .no ih
  have all : ∀ {args : List PV} {vs : List V}, VRs w M rho H args vs → ER w M rho H (args.map some ++ List.replicate j none) (vs.map some ++ List.replicate j none) := by
    intro args
    induction args with
    | nil => intro vs r; cases r; exact tl j
    | cons x xs ih => intro vs r; cases r with | cons a b => exact .has a (ih b)
  exact all r
/-- a def of the text, by its body's mirror -/
theorem fnm_of (hW : W = w.W) {x qual : Str} {st : Stmt} {f : Addr} {fd : FuncData} {N ps : List Str} {b : MS} (F : Fun w.K x qual st f fd) (sc : FnScope N ps (defScope st))
    (hb : ∀ (cdv : Value) (A : Around) (outer : List Env) (s : Shared) (H : Hp) (E : XK), Cxt w k (cxOf CX P W w.K mg base N qual (defScope st) f cdv A outer s H E).nox →
      PSs (cxOf CX P W w.K mg base N qual (defScope st) f cdv A outer s H E).nox (defBody st) (tS w (ex E) b)) : FnM P W w mg base CX ex (k + 1) f fd ps (mFun N.length b) := by
  obtain ⟨oc, od, kV, doc, pm, an, cdv, ct, osl, rfl, lk, hcd⟩ := F.ex
  constructor
  intro A outer s H args us vs Q E room grd e0 bt rv len sp
  have inK : w.K.In s.heap := e0.mod.kin.keeps fun b o z => (e0.bs b o z).1
  have noLim : s.heap.NoLimit := e0.mod.nolimit.keeps fun b o z => (e0.bs b o z).1
  refine codeAny_call_function (fd := PySem.W.fnOf x qual (defArgs st) (defBody st) (defScope st) .none kV doc pm an cdv ct) room.depth (inK _ _ lk) rfl sc.co sc.gen rfl (PySem.W.codeRec_of inK hcd) (bt _ _ _ _ ?_)
  refine wpAny_newFunctionEnv_cells sc.kind (fun y hy => ?_) fun env henv s1 x1 => ?_
  · rcases sc.par y.1 (List.of_mem_zip (a := y.1) (b := y.2) hy).1 with q | q
    · exact Or.inl q
    · exact Or.inr ⟨q, PySem.W.cellsFrom_some _ _ _ (Or.inl q)⟩
  subst henv
  refine ⟨noLim.keeps x1.toInCall.keep, codeAny_func ?_⟩
  have C : Cxt w k (cxOf CX P W w.K mg base N qual (defScope st) f cdv A outer s H E).nox := Cxt.mk rfl hW rfl (room.deeper _) grd PassesOwn.never
  have I : Inv (cxOf CX P W w.K mg base N qual (defScope st) f cdv A outer s H E) [] (start N vs) H s1 := inv_start sc room.hd e0 len rv x1
  obtain ⟨M, rho, as, h, ra, hr, o⟩ := sp
  have er : ER w M rho H (as.map some ++ List.replicate (N.length - as.length) none) (start N vs) := start_er N.length ra
  have red : tS w (ex E) b { nx := fun _ H' => Q .non H', rt := Q } (start N vs) H := by
    refine ⟨M, rho, _, h, er, hr, (Out.bind o).imp fun fl h1 M1 rho1 H1 st1 hr1 o1 => ?_⟩
    cases fl with
    | nx e => exact fun s1 _ => (show Out w (ex E) M1 rho1 H1 (.ok .non h1) (KV w Q) from o1).now hr1 _ .non
    | rt v => exact (show Out w (ex E) M1 rho1 H1 (.ok v h1) (KV w Q) from o1).now hr1
    | bk e => exact (show False from o1).elim
    | ct e => exact (show False from o1).elim
  refine wpAny_mono ((hb cdv A outer s H E C).nox.run [] s1 (start N vs) H _ I red) (fun fl s' q => ?_) fun e s' q => q
  cases fl with
  | ret u => obtain ⟨v, σ', H', J, r, q⟩ := q; exact ⟨v, H', J.os, J.bare, J.base, J.hok, r, q⟩
  | next => obtain ⟨σ', H', J, q⟩ := q; exact ⟨.non, H', J.os, J.bare, J.base, J.hok, rfl, q⟩
  | brk => obtain ⟨_, _, _, q⟩ := q; exact (show False from q).elim
  | cont => obtain ⟨_, _, _, q⟩ := q; exact (show False from q).elim
end

end MC

end
section
set_option maxRecDepth 100000
set_option maxHeartbeats 4000000
namespace MC
open PySem PySem.Spec PyProof.Rows L2

/-- arguments by place: the positional ones, then the keywords' values, then the defaults -/
def gI {α : Type} (ix : List Nat) (l : List α) : List α := ix.filterMap fun i => l[i]?
/-- how a call binds -/
structure Bd (K : PySem.W.Frag) (fd : FuncData) (ps ks : List Str) (n : Nat) (ds : List Value) (ix : List Nat) : Prop where
  to : ∀ (s : Shared) (us ws : List Value), K.In s.heap → us.length = n → ws.length = ks.length → BindsTo s fd ⟨us, ks.zip ws⟩ (ps.zip (gI ix (us ++ ws ++ ds)))
  len : ix.length = ps.length
  lo : ∀ i ∈ ix, i < n + ks.length + ds.length
theorem gI_len {α : Type} : ∀ {ix : List Nat} {l : List α}, (∀ i ∈ ix, i < l.length) → (gI ix l).length = ix.length
  | [], _, _ => rfl
  | i :: r, l, h => by
    have h1 := h i List.mem_cons_self
    unfold gI
    rw [List.filterMap_cons, List.getElem?_eq_getElem h1]
    have := gI_len (ix := r) (l := l) fun j hj => h j (List.mem_cons_of_mem _ hj)
    unfold gI at this
    simp only [List.length_cons, this]
theorem gI_vals {xs : List V} {us : List Value} (r : Vals xs us) : ∀ ix : List Nat, Vals (gI ix xs) (gI ix us)
  | [] => .nil
  | i :: ix => by
    have ih := gI_vals r ix
    unfold gI at ih ⊢
    rw [List.filterMap_cons, List.filterMap_cons]
    cases e : xs[i]? with
    | none => rw [r.none_of e]; exact ih
    | some x =>
      obtain ⟨u, e2, q⟩ := r.get e
      rw [e2]
      exact .cons q ih
section
variable {w : Wo} {EX : XC} {M : Addr → Prop} {rho : List Addr} {H : Hp} {h : PH}
theorem VRs.noneOf {xs : List PV} {vs : List V} (r : VRs w M rho H xs vs) {i : Nat} (e : xs[i]? = none) : vs[i]? = none := by
  have := r.length
  rw [List.getElem?_eq_none_iff] at e ⊢
  omega
theorem VRs.gI {xs : List PV} {vs : List V} (r : VRs w M rho H xs vs) : ∀ ix : List Nat, VRs w M rho H (gI ix xs) (gI ix vs)
  | [] => .nil
  | i :: ix => by
    have ih := VRs.gI r ix
    unfold MC.gI at ih ⊢
    rw [List.filterMap_cons, List.filterMap_cons]
    cases e : xs[i]? with
    | none => rw [r.noneOf e]; exact ih
    | some x =>
      obtain ⟨u, e2, q⟩ := r.get e
      rw [e2]
      exact .cons q ih
end

/-- a value that can be called: n values by place, ks by name -/
structure Clb (X : Cx) (w : Wo) (EX : XC) (u : Value) (n : Nat) (ks : List Str) (op : PH → List PV → R PV) : Prop where
  kp : PySem.W.keepIn X.K u = true
  run : ∀ {pins : List (Addr × Obj)} {σ : L2.St} {H : Hp} {s : Shared} {Q : VK} {us ws : List Value} {vs zs : List V} {M : Addr → Prop} {rho : List Addr} {h : PH} {xs ys : List PV}, Inv X pins σ H s → Vals vs us → Vals zs ws → us.length = n → ws.length = ks.length →
    HR w M rho H h → VRs w M rho H xs vs → VRs w M rho H ys zs → Out w EX M rho H (op h (xs ++ ys)) (KV w Q) → wpAny (model X.prog X.w) X.A (call u us (ks.zip ws)) (EP X pins σ Q) X.xe s

section
variable {w : Wo} {EX : XC} {X : Cx} {k j : Nat} {CX : CXT} {ex : XK → XC} {f : Addr} {fd : FuncData} {ps ks : List Str} {m : MF} {E : XK} {p pos apos : Pos} {z : Str}
  {ds : List Value} {dv : List V} {dp : List PV} {n : Nat} {ix : List Nat}
/-- a def -/
theorem clb_fn (C : Cxt w k X) (F : FnM X.prog X.w w X.mg X.base CX ex k f fd ps m) (hx : Passes CX X E) (hk : PySem.W.keepIn w.K (.ref f) = true) (B : Bd w.K fd ps ks n ds ix) (hd : Vals dv ds) (hp : ∀ M rho H, VRs w M rho H dp dv) {tb : PH → List Nat → PV → PH → R PV} (T : TbOk w EX tb) :
    Clb X w EX (.ref f) n ks fun h xs => callG tb m (gI ix (xs ++ dp)) h := by
  refine ⟨by rw [C.hK]; exact hk, ?_⟩
  intro pins σ H s Q us ws vs zs M rho h xs ys I r rz lu lw hr rx ry o
  have rA : Vals (vs ++ zs ++ dv) (us ++ ws ++ ds) := (r.append rz).append hd
  have rP : VRs w M rho H (xs ++ ys ++ dp) (vs ++ zs ++ dv) := (rx.append ry).append (hp M rho H)
  have hlen : (gI ix (us ++ ws ++ ds)).length = ps.length := by
    rw [gI_len, B.len]
    intro i hi
    have := B.lo i hi
    simp only [List.length_append]; omega
  have r2 := gI_vals rA ix
  have e0 : Env0 X.prog X.w w.K X.mg X.base X.A X.stack s H := by rw [← C.hK]; exact I.env0
  obtain ⟨rho', as, hc, r3, hr3, o3⟩ := callG_ok (EX2 := ex E) T hr (rP.gI ix) o
  refine wpAny_call (codeAny_mono (F.run X.A X.stack s H ⟨us, ks.zip ws⟩ (gI ix (us ++ ws ++ ds)) (gI ix (vs ++ zs ++ dv)) Q E C.room C.grd e0 (B.to s us ws (by rw [← C.hK]; exact I.kIn) lu lw) r2 (by rw [r2.length]; exact hlen)
    ⟨M, rho', as, hc, r3, hr3, o3.imp fun v g M1 rho1 H1 st1 hr1 q V rv => ?_⟩) fun rs s' q => ?_)
  · obtain ⟨M2, rho2, u, h2, _, _, ru, kq⟩ := q V rv
    exact kq V ru
  · cases rs with
    | error e => exact hx pins σ H s e s' I q
    | ok fl =>
      cases fl with
      | ret u => exact I.after q
      | next => exact (show False from q).elim
      | brk => exact (show False from q).elim
      | cont => exact (show False from q).elim

/-- what the maker's outcome is: __init__ gives None back, the instance is the answer -/
def initM (c : Nat) (m : MF) (ix : List Nat) (dp : List PV) : MF := fun xs h => (m (gI ix (.ref h.length :: xs ++ dp)) (h ++ [.ins c []])).bind fun v g => match v with
  | .non => .ok (.ref h.length) g
  | _ => .stuck
/-- a class -/
theorem FnM.mono {P : Program} {W : World} {mg : Str → Option Value} {base : Heap} {i j : Nat} (F : FnM P W w mg base CX ex i f fd ps m) (h : i ≤ j) : FnM P W w mg base CX ex j f fd ps m :=
  ⟨fun A outer s H args us vs Q E r => F.run A outer s H args us vs Q E (r.mono h)⟩
end
end MC

end
section
set_option maxRecDepth 100000
set_option maxHeartbeats 4000000
namespace MC
open PySem PySem.Spec PyProof.Rows L2

abbrev OC := PH → List PV → R PV
def mCl (op : OC) (n j : Nat) (ma mk : MA) : ME := fun env h => (ma env h).bind fun xs h1 => (mk env h1).bind fun ys h2 => bif xs.length == n && ys.length == j then op h2 (xs ++ ys) else .stuck
def mCl0 (op : OC) (n : Nat) (ma : MA) : ME := fun env h => (ma env h).bind fun xs h1 => bif xs.length == n then op h1 xs else .stuck
def mBt (op : OC) (ma : MA) : ME := fun env h => (ma env h).bind fun xs h1 => op h1 xs
section
variable {w : Wo} {EX : XC} {X : Cx} {k n : Nat} {u : Value} {ks : List Str} {op : OC} {x m : Str} {p pos apos kpos : Pos} {e o : Expr} {es : List Expr} {kws : List Keyword} {ma mk : MA} {me : ME} {nm : Option Str}
theorem PK.imp {t t' : TA} (p : PK X kws t) (i : ∀ σ H Q, t' σ H Q → t σ H Q) : PK X kws t' := ⟨fun ps pins s σ H Q I h => p.run ps pins s σ H Q I (i σ H Q h)⟩
theorem mk_nil : PK X [] (tA w EX maNil) := by
  refine PK.imp pk_nil fun σ H Q h => ?_
  obtain ⟨M, rho, env, hh, er, hr, o⟩ := h
  exact o.now hr [] .nil
theorem mk_cons (ha : PE X e (tM w EX me)) (hb : PK X kws (tA w EX mk)) : PK X (⟨nm, e, kpos⟩ :: kws) (tA w EX (maCons me mk)) := by
  refine PK.imp (pk_cons ha hb) fun σ H Q h => ?_
  obtain ⟨M, rho, env, hh, er, hr, o⟩ := h
  refine tM.of er hr o.bind fun x h1 M1 rho1 H1 v st1 er1 hr1 o1 rv => ?_
  refine ⟨M1, rho1, env, h1, er1, hr1, (Out.bind o1).imp fun ys h2 M2 rho2 H2 st2 hr2 o2 us rs => ?_⟩
  exact o2.now hr2 (v :: us) (.cons (rv.step st2 hr1) rs)

/-- the callee's reading behind the arguments -/
theorem clb_at (B : Clb X w EX u n ks op) {pins : List (Addr × Obj)} {σ : L2.St} {H : Hp} {s : Shared} {Q : VK} {us : List Value} {vs : List V} {M : Addr → Prop} {rho : List Addr} {h : PH} {xs : List PV} (hks : ks = []) (I : Inv X pins σ H s) (r : Vals vs us)
    (hr : HR w M rho H h) (rx : VRs w M rho H xs vs) (o : Out w EX M rho H (bif xs.length == n then op h xs else .stuck) (KV w Q)) : wpAny (model X.prog X.w) X.A (call u us) (EP X pins σ Q) X.xe s := by
  subst hks
  obtain ⟨hl, o⟩ := Out.bif o
  have hl := beq_iff_eq.mp hl
  have := B.run (ws := []) (zs := []) (ys := []) I r .nil (by rw [← r.length, rx.length]; exact hl) rfl hr rx .nil (by rw [List.append_nil]; exact o)
  exact this
/-- f(e, ..) -/
theorem me_call (B : Clb X w EX u n [] op) (hg : Gl X x) (hm : X.mg x = some u) (ha : PA X (e :: es) (tA w EX ma)) (hdb : (x == ("__debug__" : Str)) = false := by decide)
    (he : starEach (e :: es) X.env = (false, eval e X.env) :: starEach es X.env := by rfl) (hpl : (backTo pos (starEach es X.env)).any (·.1) = false := by rfl) : PE X (.Call (.Name x p) (e :: es) [] pos) (tM w EX (mCl0 op n ma)) := by
  refine ⟨fun pins s σ H Q I h => ?_⟩
  refine wpAny_Call_Name_kw (ld_glob I hg hm ?_ hdb)
  obtain ⟨M, rho, env, hh, er, hr, o⟩ := h
  refine PySem.W.callWith_K (h₀ := X.base) I.ok.mod.kin B.kp (thn (ha.run pos pins s σ H _ I (tA.of er hr (Out.bind o) fun xs h1 M1 rho1 H1 vs st1 er1 hr1 o1 rs => (⟨M1, rho1, h1, xs, hr1, rs, o1⟩ : ∃ M1 rho1 h1 xs, HR w M1 rho1 H1 h1 ∧ VRs w M1 rho1 H1 xs vs ∧ Out w EX M1 rho1 H1 (bif xs.length == n then op h1 xs else .stuck) (KV w Q)))) fun us s1 ⟨vs, H1, I1, r, q⟩ => ⟨I1.kIn, ?_⟩) he hpl
  obtain ⟨M1, rho1, h1, xs, hr1, rs, o1⟩ := q
  exact clb_at B rfl I1 r hr1 rs o1
theorem clb_kw (B : Clb X w EX u n ks op) {pins : List (Addr × Obj)} {σ : L2.St} {H : Hp} {s : Shared} {Q : VK} {us ws : List Value} {vs zs : List V} {M : Addr → Prop} {rho : List Addr} {h : PH} {xs ys : List PV} (I : Inv X pins σ H s) (r : Vals vs us) (rz : Vals zs ws)
    (hr : HR w M rho H h) (rx : VRs w M rho H xs vs) (ry : VRs w M rho H ys zs) (o : Out w EX M rho H (bif xs.length == n && ys.length == ks.length then op h (xs ++ ys) else .stuck) (KV w Q)) : wpAny (model X.prog X.w) X.A (call u us (ks.zip ws)) (EP X pins σ Q) X.xe s := by
  obtain ⟨hl, o⟩ := Out.bif o
  rw [Bool.and_eq_true] at hl
  exact B.run I r rz (by rw [← r.length, rx.length]; exact beq_iff_eq.mp hl.1) (by rw [← rz.length, ry.length]; exact beq_iff_eq.mp hl.2) hr rx ry o
/-- f(k = v, ..) -/
theorem me_callK0 (B : Clb X w EX u 0 ks op) (hg : Gl X x) (hm : X.mg x = some u) (hkw : PK X kws (tA w EX mk)) (j : Nat) (hj : ks.length = j := by rfl) (hall : (backToKw pos (keywordEach kws X.env)).all (·.1.isSome) = true := by rfl) (hks : (backToKw pos (keywordEach kws X.env)).filterMap (·.1) = ks := by rfl)
    (hdb : (x == ("__debug__" : Str)) = false := by decide)
    (hpl : ((backTo pos (starEach [] X.env)).any (·.1) || (backToKw pos (keywordEach kws X.env)).any (·.1.isNone)) = false := by rfl) : PE X (.Call (.Name x p) [] kws pos) (tM w EX (mCl op 0 j maNil mk)) := by
  subst hj
  refine ⟨fun pins s σ H Q I h => ?_⟩
  refine wpAny_Call_Name_kw (ld_glob I hg hm ?_ hdb)
  obtain ⟨M, rho, env, hh, er, hr, o⟩ := h
  have o1 : Out w EX M rho H ((mk env hh).bind fun ys h2 => bif ([] : List PV).length == 0 && ys.length == ks.length then op h2 ([] ++ ys) else .stuck) (KV w Q) := o
  refine PySem.W.callWith_KW0 (h₀ := X.base) (first := []) I.ok.mod.kin B.kp hall (thn (hkw.run pos pins s σ H _ I (tA.of er hr (Out.bind o1) fun ys h2 M2 rho2 H2 zs st2 er2 hr2 o2 ry =>
    (⟨M2, rho2, h2, ys, hr2, ry, o2⟩ : ∃ M2 rho2 h2 ys, HR w M2 rho2 H2 h2 ∧ VRs w M2 rho2 H2 ys zs ∧ Out w EX M2 rho2 H2 (bif ([] : List PV).length == 0 && ys.length == ks.length then op h2 ([] ++ ys) else .stuck) (KV w Q)))) fun ws s2 ⟨zs, H2, I2, rz, q2⟩ => ⟨I2.kIn, ?_⟩) hpl
  rw [hks]
  obtain ⟨M2, rho2, h2, ys, hr2, ry2, o2⟩ := q2
  exact clb_kw (us := []) (vs := []) B I2 .nil rz hr2 .nil ry2 o2
/-- b(e, ..), b a builtin -/
theorem me_blt {id : String} (hc : CallR X (.builtin id) (rA w EX op)) (hg : Gl X x) (hm : X.mg x = none) (hv : bootBuiltins x = some (.builtin id)) (ha : PA X (e :: es) (tA w EX ma)) (hn : x ≠ "__name__" := by decide) (hdb : (x == ("__debug__" : Str)) = false := by decide)
    (he : starEach (e :: es) X.env = (false, eval e X.env) :: starEach es X.env := by rfl) (hpl : (backTo pos (starEach es X.env)).any (·.1) = false := by rfl) : PE X (.Call (.Name x p) (e :: es) [] pos) (tM w EX (mBt op ma)) := by
  refine PE.imp (pe_callB hc hg hm hv ha hn hdb he hpl) fun σ H Q h => ?_
  obtain ⟨M, rho, env, hh, er, hr, o⟩ := h
  exact tA.of er hr (Out.bind o) fun xs h1 M1 rho1 H1 vs st1 er1 hr1 o1 rs => ⟨M1, rho1, h1, xs, hr1, rs, o1⟩
/-- T(e, ..), T a builtin type -/
theorem me_ty {T : String} (hc : CallR X (.type T) (rA w EX op)) (hg : Gl X x) (hm : X.mg x = none) (hv : bootBuiltins x = some (.type T)) (ha : PA X (e :: es) (tA w EX ma)) (hn : x ≠ "__name__" := by decide) (hdb : (x == ("__debug__" : Str)) = false := by decide)
    (he : starEach (e :: es) X.env = (false, eval e X.env) :: starEach es X.env := by rfl) (hpl : (backTo pos (starEach es X.env)).any (·.1) = false := by rfl) : PE X (.Call (.Name x p) (e :: es) [] pos) (tM w EX (mBt op ma)) := by
  refine PE.imp (pe_callTy hc hg hm hv ha hn hdb he hpl) fun σ H Q h => ?_
  obtain ⟨M, rho, env, hh, er, hr, o⟩ := h
  exact tA.of er hr (Out.bind o) fun xs h1 M1 rho1 H1 vs st1 er1 hr1 o1 rs => ⟨M1, rho1, h1, xs, hr1, rs, o1⟩
end

section
variable {w : Wo} {EX : XC} {X : Cx} {k n c : Nat} {f A : Addr} {op : OC} {m : Nm} {pos apos : Pos} {e o : Expr} {es : List Expr} {ma : MA} {mo : ME} {pl : Sem Bool}
end
end MC

end
section
set_option maxRecDepth 100000
set_option maxHeartbeats 4000000
namespace MC
open PySem PySem.Spec PyProof.Rows L2

mutual
def beqV : PV → PV → Bool
  | .non, .non => true
  | .bl a, .bl b => a == b
  | .int a, .int b => a == b
  | .str a, .str b => a == b
  | .tup a, .tup b => beqVs a b
  | .scr a, .scr b => beqVs a b
  | .rdic a, .rdic b => beqK a b
  | .ins c a, .ins d b => c == d && beqF a b
  | .ref a, .ref b => a == b
  | .gl a, .gl b => a == b
  | .exn c a, .exn d b => c == d && beqF a b
  | _, _ => false
def beqVs : List PV → List PV → Bool
  | [], [] => true
  | x :: xs, y :: ys => beqV x y && beqVs xs ys
  | _, _ => false
def beqK : List (PV × PV) → List (PV × PV) → Bool
  | [], [] => true
  | (a, x) :: xs, (b, y) :: ys => beqV a b && (beqV x y && beqK xs ys)
  | _, _ => false
def beqF : List (Nm × PV) → List (Nm × PV) → Bool
  | [], [] => true
  | (a, x) :: xs, (b, y) :: ys => a == b && (beqV x y && beqF xs ys)
  | _, _ => false
end
mutual
theorem beqV_rf : ∀ x : PV, beqV x x = true
  | .non => by unfold beqV; rfl
  | .bl b => by unfold beqV; simp
  | .int i => by unfold beqV; simp
  | .str s => by unfold beqV; simp
  | .tup xs => by unfold beqV; exact beqVs_rf xs
  | .scr xs => by unfold beqV; exact beqVs_rf xs
  | .rdic xs => by unfold beqV; exact beqK_rf xs
  | .ins c fs => by unfold beqV; simp [beqF_rf fs]
  | .ref n => by unfold beqV; simp
  | .gl n => by unfold beqV; simp
  | .exn c fs => by unfold beqV; simp [beqF_rf fs]
theorem beqVs_rf : ∀ x : List PV, beqVs x x = true
  | [] => by unfold beqVs; rfl
  | x :: xs => by unfold beqVs; simp [beqV_rf x, beqVs_rf xs]
theorem beqK_rf : ∀ x : List (PV × PV), beqK x x = true
  | [] => by unfold beqK; rfl
  | (a, x) :: xs => by unfold beqK; simp [beqV_rf a, beqV_rf x, beqK_rf xs]
theorem beqF_rf : ∀ x : List (Nm × PV), beqF x x = true
  | [] => by unfold beqF; rfl
  | (a, x) :: xs => by unfold beqF; simp [beqV_rf x, beqF_rf xs]
end
mutual
theorem beqV_ok : ∀ {x y : PV}, beqV x y = true → x = y
  | .non, .non, _ => rfl
  | .bl a, .bl b, h => by unfold beqV at h; rw [beq_iff_eq.mp h]
  | .int a, .int b, h => by unfold beqV at h; rw [beq_iff_eq.mp h]
  | .str a, .str b, h => by unfold beqV at h; rw [beq_iff_eq.mp h]
  | .tup a, .tup b, h => by unfold beqV at h; rw [beqVs_ok h]
  | .scr a, .scr b, h => by unfold beqV at h; rw [beqVs_ok h]
  | .rdic a, .rdic b, h => by unfold beqV at h; rw [beqK_ok h]
  | .ins c a, .ins d b, h => by unfold beqV at h; rw [Bool.and_eq_true] at h; rw [beq_iff_eq.mp h.1, beqF_ok h.2]
  | .ref a, .ref b, h => by unfold beqV at h; rw [beq_iff_eq.mp h]
  | .gl a, .gl b, h => by unfold beqV at h; rw [beq_iff_eq.mp h]
  | .non, .bl _, h | .non, .int _, h | .non, .str _, h | .non, .tup _, h | .non, .scr _, h | .non, .rdic _, h | .non, .ins _ _, h | .non, .ref _, h | .non, .gl _, h => by unfold beqV at h; cases h
  | .bl _, .non, h | .bl _, .int _, h | .bl _, .str _, h | .bl _, .tup _, h | .bl _, .scr _, h | .bl _, .rdic _, h | .bl _, .ins _ _, h | .bl _, .ref _, h | .bl _, .gl _, h => by unfold beqV at h; cases h
  | .int _, .non, h | .int _, .bl _, h | .int _, .str _, h | .int _, .tup _, h | .int _, .scr _, h | .int _, .rdic _, h | .int _, .ins _ _, h | .int _, .ref _, h | .int _, .gl _, h => by unfold beqV at h; cases h
  | .str _, .non, h | .str _, .bl _, h | .str _, .int _, h | .str _, .tup _, h | .str _, .scr _, h | .str _, .rdic _, h | .str _, .ins _ _, h | .str _, .ref _, h | .str _, .gl _, h => by unfold beqV at h; cases h
  | .tup _, .non, h | .tup _, .bl _, h | .tup _, .int _, h | .tup _, .str _, h | .tup _, .scr _, h | .tup _, .rdic _, h | .tup _, .ins _ _, h | .tup _, .ref _, h | .tup _, .gl _, h => by unfold beqV at h; cases h
  | .scr _, .non, h | .scr _, .bl _, h | .scr _, .int _, h | .scr _, .str _, h | .scr _, .tup _, h | .scr _, .rdic _, h | .scr _, .ins _ _, h | .scr _, .ref _, h | .scr _, .gl _, h => by unfold beqV at h; cases h
  | .rdic _, .non, h | .rdic _, .bl _, h | .rdic _, .int _, h | .rdic _, .str _, h | .rdic _, .tup _, h | .rdic _, .scr _, h | .rdic _, .ins _ _, h | .rdic _, .ref _, h | .rdic _, .gl _, h => by unfold beqV at h; cases h
  | .ins _ _, .non, h | .ins _ _, .bl _, h | .ins _ _, .int _, h | .ins _ _, .str _, h | .ins _ _, .tup _, h | .ins _ _, .scr _, h | .ins _ _, .rdic _, h | .ins _ _, .ref _, h | .ins _ _, .gl _, h => by unfold beqV at h; cases h
  | .ref _, .non, h | .ref _, .bl _, h | .ref _, .int _, h | .ref _, .str _, h | .ref _, .tup _, h | .ref _, .scr _, h | .ref _, .rdic _, h | .ref _, .ins _ _, h | .ref _, .gl _, h => by unfold beqV at h; cases h
  | .gl _, .non, h | .gl _, .bl _, h | .gl _, .int _, h | .gl _, .str _, h | .gl _, .tup _, h | .gl _, .scr _, h | .gl _, .rdic _, h | .gl _, .ins _ _, h | .gl _, .ref _, h => by unfold beqV at h; cases h
  | .exn c a, .exn d b, h => by unfold beqV at h; rw [Bool.and_eq_true] at h; rw [beq_iff_eq.mp h.1, beqF_ok h.2]
  | .non, .exn _ _, h | .bl _, .exn _ _, h | .int _, .exn _ _, h | .str _, .exn _ _, h | .tup _, .exn _ _, h | .scr _, .exn _ _, h | .rdic _, .exn _ _, h | .ins _ _, .exn _ _, h | .ref _, .exn _ _, h | .gl _, .exn _ _, h => by unfold beqV at h; cases h
  | .exn _ _, .non, h | .exn _ _, .bl _, h | .exn _ _, .int _, h | .exn _ _, .str _, h | .exn _ _, .tup _, h | .exn _ _, .scr _, h | .exn _ _, .rdic _, h | .exn _ _, .ins _ _, h | .exn _ _, .ref _, h | .exn _ _, .gl _, h => by unfold beqV at h; cases h
theorem beqVs_ok : ∀ {x y : List PV}, beqVs x y = true → x = y
  | [], [], _ => rfl
  | x :: xs, y :: ys, h => by unfold beqVs at h; rw [Bool.and_eq_true] at h; rw [beqV_ok h.1, beqVs_ok h.2]
  | [], _ :: _, h | _ :: _, [], h => by unfold beqVs at h; cases h
theorem beqK_ok : ∀ {x y : List (PV × PV)}, beqK x y = true → x = y
  | [], [], _ => rfl
  | (a, x) :: xs, (b, y) :: ys, h => by unfold beqK at h; rw [Bool.and_eq_true, Bool.and_eq_true] at h; rw [beqV_ok h.1, beqV_ok h.2.1, beqK_ok h.2.2]
  | [], _ :: _, h | _ :: _, [], h => by unfold beqK at h; cases h
theorem beqF_ok : ∀ {x y : List (Nm × PV)}, beqF x y = true → x = y
  | [], [], _ => rfl
  | (a, x) :: xs, (b, y) :: ys, h => by unfold beqF at h; rw [Bool.and_eq_true, Bool.and_eq_true] at h; rw [beq_iff_eq.mp h.1, beqV_ok h.2.1, beqF_ok h.2.2]
  | [], _ :: _, h | _ :: _, [], h => by unfold beqF at h; cases h
end

/-- objects that must stand as they stood -/
abbrev Wt := List (Nat × List PV)
def watch : Wt → PH → Bool
  | [], _ => true
  | (n, xs) :: r, h => (match h[n]? with
    | some (.lst ys) => beqVs xs ys
    | _ => false) && watch r h
structure Gives (w : Wo) (M : Addr → Prop) (rho : List Addr) (H : Hp) (xs : List PV) (wt : Wt) (J : It) : Prop where
  to : ∀ {M1 : Addr → Prop} {rho1 : List Addr} {H1 : Hp} {h1 : PH}, Step M rho H M1 rho1 H1 → HR w M1 rho1 H1 h1 → watch wt h1 = true → ∀ i,
    (i < xs.length → J.go i H1) ∧ (i = xs.length → J.stop i H1) ∧ ∀ v H', i < xs.length → J.yld i H1 v H' → (∀ b o, H1 b = some o → H' b = some o) ∧ ∃ x, xs[i]? = some x ∧ VR w M1 rho1 H' x v
abbrev MI := En → PH → R (List PV × Wt)
def KI (w : Wo) (Q : It → Hp → Prop) : KC (List PV × Wt) := fun p _ M rho H => ∀ J, Gives w M rho H p.1 p.2 J → Q J H
def tI (w : Wo) (EX : XC) (m : MI) : TI := fun σ H Q => ∃ M rho env h, ER w M rho H env σ ∧ HR w M rho H h ∧ Out w EX M rho H (m env h) (KI w Q)
theorem PI.imp {X : Cx} {tg e : Expr} {t t' : TI} (p : PI X tg e t) (i : ∀ σ H Q, t' σ H Q → t σ H Q) : PI X tg e t' := ⟨fun pins s σ H Q I h => p.run pins s σ H Q I (i σ H Q h)⟩

section
variable {w : Wo} {M M1 : Addr → Prop} {rho rho1 : List Addr} {H H1 : Hp} {h h1 : PH}
theorem gives_list {xs : List PV} {a : Addr} (hs : ∀ {M1 : Addr → Prop} {rho1 : List Addr} {H1 : Hp} {h1 : PH}, Step M rho H M1 rho1 H1 → HR w M1 rho1 H1 h1 → watch wt h1 = true → ∃ vs, SqL w.K H1 a vs ∧ VRs w M1 rho1 H1 xs vs) : Gives w M rho H xs wt (Itl w.K a) := by
  refine ⟨fun {M1 rho1 H1 h1} st hr hw i => ?_⟩
  obtain ⟨vs, q, rv⟩ := hs st hr hw
  have W := walk_list (K := w.K) (a := a) (xs := vs)
  rw [rv.length] at W
  refine ⟨fun hi => W.goes i H1 hi q, fun hi => by subst hi; exact W.stops H1 q, fun v H' hi y => ?_⟩
  obtain ⟨e, ey⟩ := W.yields i H1 v H' hi q y
  subst e
  obtain ⟨x, hx⟩ : ∃ x, xs[i]? = some x := ⟨_, List.getElem?_eq_getElem hi⟩
  obtain ⟨v', e1, r1⟩ := rv.get hx
  rw [ey] at e1
  cases e1
  exact ⟨fun _ _ e => e, x, hx, r1⟩
theorem gives_tup {xs : List PV} {a : Addr} {vs : List V} (hr0 : HR w M rho H h) (q : SqT w.K H a vs) (rv : VRs w M rho H xs vs) : Gives w M rho H xs [] (Itt w.K a) := by
  refine ⟨fun {M1 rho1 H1 h1} st hr hw i => ?_⟩
  have q := st.sqT hr0 q
  have rv := rv.step st hr0
  have W := walk_tup (K := w.K) (a := a) (xs := vs)
  rw [rv.length] at W
  refine ⟨fun hi => W.goes i H1 hi q, fun hi => by subst hi; exact W.stops H1 q, fun v H' hi y => ?_⟩
  obtain ⟨e, ey⟩ := W.yields i H1 v H' hi q y
  subst e
  obtain ⟨x, hx⟩ : ∃ x, xs[i]? = some x := ⟨_, List.getElem?_eq_getElem hi⟩
  obtain ⟨v', e1, r1⟩ := rv.get hx
  rw [ey] at e1
  cases e1
  exact ⟨fun _ _ e => e, x, hx, r1⟩
def signsOf (s : List Nat) : List PV := s.map fun c => .str [c]
theorem gives_str (s : List Nat) : Gives w M rho H (signsOf s) [] (Its ⟨s.toArray⟩) := by
  refine ⟨fun {M1 rho1 H1 h1} st hr hw i => ?_⟩
  have W := walk_str (z := ⟨s.toArray⟩)
  have e0 : (signsOf s).length = s.length := by unfold signsOf; rw [List.length_map]
  have e1 : (⟨s.toArray⟩ : Str).cps.size = s.length := by simp
  rw [e1] at W
  rw [e0]
  refine ⟨fun hi => W.goes i H1 hi True.intro, fun hi => by subst hi; exact W.stops H1 True.intro, fun v H' hi y => ?_⟩
  obtain ⟨e, c, ey, ev⟩ := W.yields i H1 v H' hi True.intro y
  subst e; subst ev
  have ey : s[i]? = some c := by simpa using ey
  refine ⟨fun _ _ e => e, .str [c], by unfold signsOf; rw [List.getElem?_map, ey]; rfl, .str [c]⟩
def seqI (lo : Int) (n : Nat) : List PV := (List.range n).map fun i => .int (lo + (i : Nat))
theorem gives_rng (lo : Int) (n : Nat) : Gives w M rho H (seqI lo n) [] (Itr lo n) := by
  refine ⟨fun {M1 rho1 H1 h1} st hr hw i => ?_⟩
  have W := walk_range (lo := lo) (n := n)
  have e0 : (seqI lo n).length = n := by unfold seqI; rw [List.length_map, List.length_range]
  rw [e0]
  refine ⟨fun hi => W.goes i H1 hi True.intro, fun hi => by subst hi; exact W.stops H1 True.intro, fun v H' hi y => ?_⟩
  obtain ⟨e, ev⟩ := W.yields i H1 v H' hi True.intro y
  subst e; subst ev
  exact ⟨fun _ _ e => e, _, by unfold seqI; rw [List.getElem?_map, List.getElem?_range hi]; rfl, .int _⟩
theorem KRs.at {ks : List (PV × PV)} {gs : List (Key × V)} (r : KRs w M rho H ks gs) : ks.length = gs.length ∧ ∀ {i : Nat} {k : Key} {v : V}, gs[i]? = some (k, v) → ∃ p x, ks[i]? = some (p, x) ∧ VR w M rho H p (kV k) ∧ VR w M rho H x v := by
  match r with
  | .nil => exact ⟨rfl, fun e => by simp at e⟩
  | .cons (k := kp) (j := j) hk hx hr =>
    obtain ⟨h1, h2⟩ := KRs.at hr
    refine ⟨by rw [List.length_cons, List.length_cons, h1], fun {i k v} e => ?_⟩
    cases i with
    | zero =>
      simp at e
      obtain ⟨rfl, rfl⟩ := e
      refine ⟨_, _, rfl, ?_, hx⟩
      cases kp <;> (unfold keyP at hk; cases hk)
      · exact .int _
      · exact .str _
    | succ i => simpa using h2 (i := i) (by simpa using e)
theorem gives_keys {a : Addr} {o : Obj} {ks : List (PV × PV)} {gs : List (Key × V)} (hr0 : HR w M rho H h) (q : H a = some (.frz o (.dK gs))) (rv : KRs w M rho H ks gs) : Gives w M rho H (ks.map (·.1)) [] (Itk a o gs) := by
  refine ⟨fun {M1 rho1 H1 h1} st hr hw i => ?_⟩
  have q := st.frz _ _ _ q
  have rv := rv.step st hr0
  obtain ⟨hl, hg⟩ := rv.at
  have W := walk_keys (d := a) (o := o) (kvs := gs)
  rw [List.length_map, hl]
  refine ⟨fun hi => W.goes i H1 hi q, fun hi => by subst hi; exact W.stops H1 q, fun v H' hi y => ?_⟩
  obtain ⟨e, k, u, ey, ev⟩ := W.yields i H1 v H' hi q y
  subst e; subst ev
  obtain ⟨p, x, e1, e2, _⟩ := hg ey
  exact ⟨fun _ _ e => e, p, by rw [List.getElem?_map, e1]; rfl, e2⟩
theorem watch_one {n : Nat} {xs : List PV} (h : watch [(n, xs)] h1 = true) : h1[n]? = some (.lst xs) := by
  unfold watch at h
  rw [Bool.and_eq_true] at h
  have h := h.1
  split at h
  · rename_i ys e
    rw [e, beqVs_ok h]
  · cases h
end

/-- the items of a value -/
def srcV (h : PH) : PV → Option (List PV × Wt)
  | .tup xs => some (xs, [])
  | .scr xs => some (xs, [])
  | .str s => some (signsOf s, [])
  | .rdic ks => some (ks.map (·.1), [])
  | .ref n => match h[n]? with
    | some (.lst xs) => some (xs, [(n, xs)])
    | _ => none
  | _ => none
/-- the keys of a dict: it is locked, for good -/
def srcD (h : PH) : PV → R (List PV × Wt)
  | .ref n => match h[n]? with
    | some (.dic false kvs) => .ok (kvs.map (·.1), []) (h.set n (.dic true kvs))
    | some (.dic true kvs) => .ok (kvs.map (·.1), []) h
    | _ => .stuck
  | _ => .stuck
def miV (m : ME) : MI := fun env h => (m env h).bind fun x h1 => match srcV h1 x with
  | some p => .ok p h1
  | none => srcD h1 x
section
variable {w : Wo} {EX : XC} {X : Cx} {k : Nat} {tg e : Expr} {m : ME} {p pos : Pos} {ma : MA}
theorem iter_val (C : Cxt w k X) {pins : List (Addr × Obj)} {σ : L2.St} {H : Hp} {s : Shared} {R : It → Hp → Prop} {E : Value → Shared → Prop} {M : Addr → Prop} {rho : List Addr} {h : PH} {x : PV} {v : V} {u : Value} {xs : List PV} {wt : Wt}
    (I : Inv X pins σ H s) (ru : RelV v u) (hr : HR w M rho H h) (rv : VR w M rho H x v) (es : srcV h x = some (xs, wt)) (q : ∀ J, Gives w M rho H xs wt J → R J H) : wpAny (model X.prog X.w) X.A (pyIter u) (PIE X pins σ tg R) E s := by
  have lst : ∀ {a : Addr} {vs : List V}, SqL w.K H a vs → R (Itl w.K a) H → wpAny (model X.prog X.w) X.A (pyIter (.ref a)) (PIE X pins σ tg R) E s := fun {a vs} hq hR => by
    rw [← C.hK] at hq hR
    obtain ⟨its, rv, p, hz⟩ := I.list hq
    exact wpAny_pyIter_list p.isList (pi_one (tk := s.toks) I _ (turn_list a _) ⟨_, Heap.get?_push_size _ rfl, rfl, rfl⟩ hR)
  cases rv with
  | tup sq rs =>
    obtain rfl : u = _ := ru
    cases es
    have hq := sq
    rw [← C.hK] at hq
    obtain ⟨its, rv, p, hz⟩ := I.tuple hq
    refine wpAny_pyIter_tuple (show s.heap.IsTuple _ its.toArray from p) (pi_one (tk := s.toks) I _ (turn_tuple _ _) ⟨_, Heap.get?_push_size _ rfl, rfl, rfl⟩ ?_)
    have := q _ (gives_tup hr sq rs)
    rw [C.hK]; exact this
  | scr sq rs =>
    obtain rfl : u = _ := ru
    cases es
    exact lst sq.sq (q _ (gives_list fun st hr1 _ => ⟨_, (st.scr hr sq).sq, rs.step st hr⟩))
  | str z =>
    obtain ⟨t, rfl⟩ := (show ∃ t, u = Value.str ⟨z.toArray⟩ t from ru)
    cases es
    have hR := q _ (gives_str z)
    cases ha : (⟨z.toArray⟩ : Str).cps.all (· < 128)
    · exact wpAny_pyIter_wide ha (pi_one (tk := s.toks) I _ (turn_str _ ⟨z.toArray⟩ t "str_iterator" (.inr rfl)) ⟨_, Heap.get?_push_size _ rfl, rfl, rfl⟩ hR)
    · exact wpAny_pyIter_ascii ha (pi_one (tk := s.toks) I _ (turn_str _ ⟨z.toArray⟩ t "str_ascii_iterator" (.inl rfl)) ⟨_, Heap.get?_push_size _ rfl, rfl, rfl⟩ hR)
  | @rdic kvs ks a o ha hn rk =>
    obtain rfl : u = Value.ref a := ru
    cases es
    obtain ⟨hs, hgd, hx, es, ep, vs, hdt, hsz, kv, hm⟩ := I.frzK ha
    refine iter_keys hs hgd hx hdt (pi_one (tk := s.toks) I _ (turn_keys _ hdt) ⟨_, Heap.get?_push_size _ rfl, rfl, ?_⟩ (q _ (gives_keys hr ha rk)))
    rw [hsz] <;> rfl
  | @ref n a ha =>
    obtain rfl : u = Value.ref a := ru
    simp only [srcV] at es
    split at es
    · rename_i ys e0
      cases es
      obtain ⟨a', ha', vs, q1, q2⟩ := hr.ob _ _ e0
      rw [ha] at ha'
      cases ha'
      refine lst (.inl (.inl q1)) (q _ (gives_list fun st hr1 hw => ?_))
      obtain ⟨a2, ha2, vs2, z1, z2⟩ := hr1.ob _ _ (watch_one hw)
      rw [st.ext _ _ ha] at ha2
      cases ha2
      exact ⟨vs2, .inl (.inl z1), z2⟩
    · cases es
  | _ => cases es
/-- a dict of the heap is locked -/
theorem lock_dic {pins : List (Addr × Obj)} {σ : L2.St} {H : Hp} {s : Shared} {M : Addr → Prop} {rho : List Addr} {h : PH} {n : Nat} {v : V} {kvs : List (PV × PV)} (I : Inv X pins σ H s) (hr : HR w M rho H h) (rv : VR w M rho H (.ref n) v) (e : h[n]? = some (.dic false kvs)) :
    ∃ a od ks, v = .ref a ∧ Inv X pins σ (upd H a (.frz od (.dK ks))) s ∧ Step M rho H M rho (upd H a (.frz od (.dK ks))) ∧ HR w M rho (upd H a (.frz od (.dK ks))) (h.set n (.dic true kvs)) ∧ KRs w M rho (upd H a (.frz od (.dK ks))) kvs ks := by
  cases rv with
  | @ref n a ha =>
    obtain ⟨a', ha', ks, q1, q2⟩ := hr.ob _ _ e
    rw [ha] at ha'
    cases ha'
    have q1' : H a = some (.dK ks) := q1
    obtain ⟨od, I'⟩ := I.lock q1' True.intro
    have nf : ∀ p u, H a ≠ some (.frz p u) := fun p u z => by rw [q1'] at z; cases z
    have st := Step.write hr (o := .frz od (.dK ks)) ha nf
    have r2 := q2.step st hr
    exact ⟨a, od, ks, rfl, I', st, hr.write ha nf ⟨ks, ⟨od, upd_same⟩, r2⟩, r2⟩
theorem iter_dic {pins : List (Addr × Obj)} {σ : L2.St} {H : Hp} {s : Shared} {R : It → Hp → Prop} {E : Value → Shared → Prop} {M : Addr → Prop} {rho : List Addr} {h : PH} {x : PV} {v : V} {u : Value}
    (I : Inv X pins σ H s) (ru : RelV v u) (hr : HR w M rho H h) (rv : VR w M rho H x v) (o : Out w EX M rho H (srcD h x) (KI w R)) : wpAny (model X.prog X.w) X.A (pyIter u) (PIE X pins σ tg R) E s := by
  cases x <;> try exact (show False from o).elim
  rename_i n
  simp only [srcD] at o
  have go : ∀ {H : Hp} {h : PH} {a : Addr} {od : Obj} {ks : List (Key × V)} {kvs : List (PV × PV)}, Inv X pins σ H s → HR w M rho H h → H a = some (.frz od (.dK ks)) → KRs w M rho H kvs ks → KI w R (kvs.map (·.1), []) h M rho H → wpAny (model X.prog X.w) X.A (pyIter (.ref a)) (PIE X pins σ tg R) E s := by
    intro H h a od ks kvs I hr ha rk q
    obtain ⟨hs, hgd, hx, es, ep, vs, hdt, hsz, kv, hm⟩ := I.frzK ha
    refine iter_keys hs hgd hx hdt (pi_one (tk := s.toks) I _ (turn_keys _ hdt) ⟨_, Heap.get?_push_size _ rfl, rfl, ?_⟩ (q _ (gives_keys hr ha rk)))
    rw [hsz] <;> rfl
  split at o
  · rename_i kvs e0
    obtain ⟨a, od, ks, rfl, I', st, hr', rk⟩ := lock_dic I hr rv e0
    obtain rfl : u = Value.ref a := ru
    exact go I' hr' upd_same rk (o _ _ _ st hr')
  · rename_i kvs e0
    cases rv with
    | @ref n a ha =>
      obtain rfl : u = Value.ref a := ru
      obtain ⟨a', ha', ks, ⟨od, q1⟩, q2⟩ := hr.ob _ _ e0
      rw [ha] at ha'
      cases ha'
      exact go I hr q1 q2 (o.now hr)
  · exact (show False from o).elim
/-- over a value -/
theorem mi_val (C : Cxt w k X) (he : PE X e (tM w EX m)) : PI X tg e (tI w EX (miV m)) := by
  refine ⟨fun pins s σ H R I h => ?_⟩
  obtain ⟨M, rho, env, hh, er, hr, o⟩ := h
  refine thn (he.run pins s σ H (fun v H1 => ∃ M1 rho1 h1 x, HR w M1 rho1 H1 h1 ∧ VR w M1 rho1 H1 x v ∧ Out w EX M1 rho1 H1 (match srcV h1 x with
    | some p => .ok p h1
    | none => srcD h1 x) (KI w R)) I (tM.of er hr (Out.bind o) fun x h1 M1 rho1 H1 v st1 er1 hr1 o1 rv => ⟨M1, rho1, h1, x, hr1, rv, o1⟩)) fun u s1 ⟨v, H1, I1, ru, M1, rho1, h1, x, hr1, rv, o1⟩ => ?_
  split at o1
  · rename_i p ep
    exact iter_val (xs := p.1) (wt := p.2) C I1 ru hr1 rv ep (o1.now hr1)
  · exact iter_dic I1 ru hr1 rv o1
def L62 : Int := 4611686018427387904
theorem l62 : L62 = 2 ^ 62 := by decide
def inR (i : Int) : Bool := decide (-L62 ≤ i) && decide (i < L62)
def miRng1 (ma : MA) : MI := fun env h => (ma env h).bind fun xs h1 => match xs with
  | [.int j] => bif inR j then .ok (seqI 0 j.toNat, []) h1 else .stuck
  | _ => .stuck
theorem inR_ok {i : Int} (h : inR i = true) : -(2 ^ 62) ≤ i ∧ i < 2 ^ 62 := by
  unfold inR at h
  rw [Bool.and_eq_true, decide_eq_true_eq, decide_eq_true_eq, l62] at h
  exact h
theorem mi_rng1 {a : Expr} (hg : Gl X "range") (hm : X.mg "range" = none) (ha : PA X [a] (tA w EX ma)) (hs : starEach [a] X.env = [(false, eval a X.env)] := by rfl) : PI X tg (.Call (.Name "range" p) [a] [] pos) (tI w EX (miRng1 ma)) := by
  refine PI.imp (pi_range1 hg hm ha hs) fun σ H R hh => ?_
  obtain ⟨M, rho, env, h, er, hr, o⟩ := hh
  refine tA.of er hr (Out.bind o) fun xs h1 M1 rho1 H1 vs st1 er1 hr1 o1 rs => ?_
  split at o1
  · rename_i j
    obtain ⟨hj, o2⟩ := Out.bif o1
    cases rs with
    | cons a b =>
      cases a
      cases b
      obtain ⟨p1, p2⟩ := inR_ok hj
      exact ⟨j, rfl, p1, p2, o2.now hr1 _ (gives_rng 0 _)⟩
  · exact (show False from o1).elim
end
end MC

end
section
set_option maxRecDepth 100000
set_option maxHeartbeats 4000000
namespace MC
open PySem PySem.Spec PyProof.Rows L2

theorem Cxt.blk {w : Wo} {k : Nat} {X : Cx} (C : Cxt w k X) (s : Shared) (H : Hp) (scope : Scope) (e : Env) (fp : List Addr) : Cxt w k (X.blk s H scope e fp) := Cxt.mk C.hK C.hW C.calm C.room C.grd PassesOwn.never
theorem Out.back {w : Wo} {EX : XC} {M : Addr → Prop} {rho : List Addr} {H : Hp} {α β : Type} {r : R α} {f : α → PH → R β} {k : KC β} (o : Out w EX M rho H (r.bind f) k) : Out w EX M rho H r fun a h _ _ _ => Out w EX M rho H (f a h) k := by
  cases r with
  | ok a h => exact fun M' rho' H' s _ => o
  | exc c fs h => exact o
  | stuck => exact o

def forL (g : MG) (b : MS) (wt : Wt) : List PV → En → PH → R Fl
  | [], env, h => bif watch wt h then .ok (.nx env) h else .stuck
  | x :: xs, env, h => bif watch wt h then (g x env h).bind fun e h1 => (b e h1).bind fun f h2 => match f with
    | .nx e2 => forL g b wt xs e2 h2
    | .ct e2 => forL g b wt xs e2 h2
    | .bk e2 => .ok (.nx e2) h2
    | .rt v => .ok (.rt v) h2 else .stuck
def mFor (mi : MI) (g : MG) (b : MS) : MS := fun env h => (mi env h).bind fun p h1 => forL g b p.2 p.1 env h1
section
variable {w : Wo} {EX : XC} {X : Cx} {k : Nat} {tg iter : Expr} {body : List Stmt} {pos : Pos} {mi : MI} {g : MG} {b : MS}
theorem ms_for (C : Cxt w k X) (hi : PI X tg iter (tI w EX mi)) (hg : PG X tg (tG w EX g)) (hb : PSs X body (tS w EX b)) (hs : ∀ x, foldedSetIterable iter X.env x = pure x := by intro _; rfl) : PS X (.For tg iter body [] pos) (tS w EX (mFor mi g b)) := by
  refine PS_imp (ps_for C.own C.calm hi hg hb hs) fun D s H hh => ?_
  obtain ⟨M, rho, env, h, er, hr, o⟩ := hh
  refine ⟨M, rho, env, h, er, hr, (Out.bind o).imp fun p h1 M1 rho1 H1 st1 hr1 o1 J gv => ?_⟩
  obtain ⟨xs, wt⟩ := p
  -- from here on the world grows from (M1, rho1, H1)
  refine ⟨fun i m σ H' => m = xs.length - i ∧ i ≤ xs.length ∧ ∃ M2 rho2 env2 h2, Step M1 rho1 H1 M2 rho2 H' ∧ ER w M2 rho2 H' env2 σ ∧ HR w M2 rho2 H' h2 ∧ Out w EX M2 rho2 H' (forL g b wt (xs.drop i) env2 h2) (KS w D),
    ⟨xs.length, by simp, Nat.zero_le _, M1, rho1, env, h1, Step.refl, er.step st1 hr, hr1, o1⟩, ?_⟩
  rintro i m σ H' ⟨rfl, hi, M2, rho2, env2, h2, st2, er2, hr2, o2⟩
  by_cases hlt : i < xs.length
  · rw [List.drop_eq_getElem_cons hlt] at o2
    obtain ⟨hw, o3⟩ := Out.bif (show Out w EX M2 rho2 H' (bif watch wt h2 then (g xs[i] env2 h2).bind fun e h1 => (b e h1).bind fun f h2 => match f with
      | .nx e2 => forL g b wt (xs.drop (i + 1)) e2 h2
      | .ct e2 => forL g b wt (xs.drop (i + 1)) e2 h2
      | .bk e2 => .ok (.nx e2) h2
      | .rt v => .ok (.rt v) h2 else .stuck) (KS w D) from o2)
    obtain ⟨g1, _, g3⟩ := gv.to st2 hr2 hw i
    refine .inr ⟨g1 hlt, fun σ' H' => ∃ M2 rho2 env2 h2, Step M1 rho1 H1 M2 rho2 H' ∧ ER w M2 rho2 H' env2 σ' ∧ HR w M2 rho2 H' h2 ∧ Out w EX M2 rho2 H' (forL g b wt (xs.drop (i + 1)) env2 h2) (KS w D), fun σ' H'' q => ⟨xs.length - (i + 1), by omega, rfl, hlt, q⟩, fun x H3 y => ?_⟩
    obtain ⟨k1, z, ez, rz⟩ := g3 x H3 hlt y
    rw [List.getElem?_eq_getElem hlt] at ez
    cases ez
    have stg : Step M2 rho2 H' M2 rho2 H3 := Step.grow k1
    have hr3 := hr2.grow k1
    refine ⟨M2, rho2, env2, h2, xs[i], er2.step stg hr2, hr3, rz, ((Out.bind o3).step stg).imp fun e h4 M4 rho4 H4 st4 hr4 o4 s4 er4 => ?_⟩
    have st5 := st2.trans (stg.trans st4)
    refine ⟨M4, rho4, e, h4, er4, hr4, (Out.bind o4).imp fun f h5 M5 rho5 H5 st6 hr5 o5 => ?_⟩
    have st7 := st5.trans st6
    cases f with
    | nx e2 => exact fun s5 er5 => ⟨M5, rho5, e2, h5, st7, er5, hr5, o5⟩
    | ct e2 => exact fun s5 er5 => ⟨M5, rho5, e2, h5, st7, er5, hr5, o5⟩
    | bk e2 => exact (show Out w EX M5 rho5 H5 (.ok (.nx e2) h5) (KS w D) from o5).now hr5
    | rt v => exact (show Out w EX M5 rho5 H5 (.ok (.rt v) h5) (KS w D) from o5).now hr5
  · have e : i = xs.length := by omega
    subst e
    rw [List.drop_length] at o2
    obtain ⟨hw, o3⟩ := Out.bif (show Out w EX M2 rho2 H' (bif watch wt h2 then .ok (.nx env2) h2 else .stuck) (KS w D) from o2)
    obtain ⟨_, g2, _⟩ := gv.to st2 hr2 hw xs.length
    exact .inl ⟨g2 rfl, o3.now hr2 _ er2⟩
end

section
variable {w : Wo} {EX : XC} {X : Cx} {k : Nat} {c : Expr} {body : List Stmt} {pos : Pos} {t : MT} {b : MS}
end

mutual
inductive Tg where
  | nm (i : Nat)
  | tp (ts : Tgs)
inductive Tgs where
  | nil
  | cons (t : Tg) (ts : Tgs)
end
mutual
def tgM : Tg → PV → En → Option En
  | .nm i, x, env => some (env.set i (some x))
  | .tp ts, x, env => match x with
    | .tup xs => tgMs ts xs env
    | _ => none
def tgMs : Tgs → List PV → En → Option En
  | .nil, [], env => some env
  | .cons t ts, x :: xs, env => match tgM t x env with
    | some e => tgMs ts xs e
    | none => none
  | _, _, _ => none
end
def tgN : Tgs → Nat
  | .nil => 0
  | .cons _ ts => tgN ts + 1
mutual
def tgG (K : PySem.W.Frag) : Tg → TG
  | .nm i => gName i
  | .tp ts => gTup K (tgN ts) (tgGs K ts)
def tgGs (K : PySem.W.Frag) : Tgs → TGs
  | .nil => gNil
  | .cons t ts => gCons (tgG K t) (tgGs K ts)
end
mutual
def tgI : Tg → List Nat
  | .nm i => [i]
  | .tp ts => tgIs ts
def tgIs : Tgs → List Nat
  | .nil => []
  | .cons t ts => tgI t ++ tgIs ts
end
theorem wipe_set {v : V} {i : Nat} : ∀ {vs : List Nat} (σ : L2.St), i ∈ vs → wipe (σ.set i (some v)) vs = wipe σ vs := by
  have out : ∀ {vs : List Nat} (σ : L2.St) (o : Option V), i ∉ vs → wipe (σ.set i o) vs = (wipe σ vs).set i o := by
    intro vs
    induction vs with
    | nil => intro σ o _; rfl
    | cons u vs ih =>
      intro σ o hn
      have h1 : i ≠ u := fun e => hn (by rw [e]; exact List.mem_cons_self)
      show (wipe (σ.set i o) vs).set u none = ((wipe σ vs).set u none).set i o
      rw [ih σ o fun z => hn (List.mem_cons_of_mem _ z), List.set_comm _ _ h1]
  intro vs
  induction vs with
  | nil => intro σ h; cases h
  | cons u vs ih =>
    intro σ h
    show (wipe (σ.set i (some v)) vs).set u none = (wipe σ vs).set u none
    by_cases h1 : i ∈ vs
    · rw [ih σ h1]
    · have h2 : i = u := (List.mem_cons.mp h).resolve_right h1
      subst h2
      rw [out σ _ h1, List.set_set]
section
variable {w : Wo} {M : Addr → Prop} {rho : List Addr} {H : Hp} {vs : List Nat}
mutual
theorem tg_ok : ∀ (t : Tg) {x : PV} {v : V} {env e : En} {σ : L2.St} {Q : L2.St → Hp → Prop}, tgM t x env = some e → VR w M rho H x v → ER w M rho H env σ → (∀ i ∈ tgI t, i ∈ vs) →
    (∀ σ', ER w M rho H e σ' → wipe σ' vs = wipe σ vs → Q σ' H) → tgG w.K t v σ H Q
  | .nm i, x, v, env, e, σ, Q, h, rv, er, hi, q => by
    unfold tgM at h
    cases h
    exact q _ (er.set rv i) (wipe_set σ (hi i (by unfold tgI; simp)))
  | .tp ts, x, v, env, e, σ, Q, h, rv, er, hi, q => by
    unfold tgM at h
    cases rv <;> dsimp only at h <;> try cases h
    rename_i xs us a sq rs
    unfold tgG
    obtain ⟨hl, hq⟩ := tgs_ok ts h rs er (fun i hi' => hi i (by unfold tgI; exact hi')) q
    exact ⟨a, us, rfl, sq, hl, hq⟩
theorem tgs_ok : ∀ (ts : Tgs) {xs : List PV} {us : List V} {env e : En} {σ : L2.St} {Q : L2.St → Hp → Prop}, tgMs ts xs env = some e → VRs w M rho H xs us → ER w M rho H env σ → (∀ i ∈ tgIs ts, i ∈ vs) →
    (∀ σ', ER w M rho H e σ' → wipe σ' vs = wipe σ vs → Q σ' H) → us.length = tgN ts ∧ tgGs w.K ts us σ H Q
  | .nil, xs, us, env, e, σ, Q, h, rv, er, hi, q => by
    cases rv with
    | nil =>
      unfold tgMs at h
      cases h
      exact ⟨rfl, rfl, q σ er rfl⟩
    | cons _ _ => unfold tgMs at h; cases h
  | .cons t ts, xs, us, env, e, σ, Q, h, rv, er, hi, q => by
    cases rv with
    | nil => unfold tgMs at h; cases h
    | @cons x v xs us r1 r2 =>
      unfold tgMs at h
      split at h
      · rename_i e1 h1
        have hi1 : ∀ i ∈ tgI t, i ∈ vs := fun i z => hi i (by unfold tgIs; exact List.mem_append_left _ z)
        have hi2 : ∀ i ∈ tgIs ts, i ∈ vs := fun i z => hi i (by unfold tgIs; exact List.mem_append_right _ z)
        -- the length first
        have hl : ∀ {σ' : L2.St}, ER w M rho H e1 σ' → us.length = tgN ts := fun {σ'} er' => (tgs_ok (Q := fun _ _ => True) ts h r2 er' hi2 fun _ _ _ => trivial).1
        have key : tgG w.K t v σ H fun σ' H' => us.length = tgN ts ∧ tgGs w.K ts us σ' H' Q := tg_ok t h1 r1 er hi1 fun σ' er' ew => by
          obtain ⟨a, b⟩ := tgs_ok (Q := Q) ts h r2 er' hi2 fun σ2 er2 ew2 => q σ2 er2 (ew2.trans ew)
          exact ⟨a, b⟩
        refine ⟨?_, v, us, rfl, ?_⟩
        · obtain ⟨σ', er'⟩ := (show ∃ σ', ER w M rho H e1 σ' from er_after t h1 r1 er)
          show us.length + 1 = tgN ts + 1
          rw [hl er']
        · exact tg_ok t h1 r1 er hi1 fun σ' er' ew => (tgs_ok (Q := Q) ts h r2 er' hi2 fun σ2 er2 ew2 => q σ2 er2 (ew2.trans ew)).2
      · cases h
theorem er_after : ∀ (t : Tg) {x : PV} {v : V} {env e : En} {σ : L2.St}, tgM t x env = some e → VR w M rho H x v → ER w M rho H env σ → ∃ σ', ER w M rho H e σ'
  | .nm i, x, v, env, e, σ, h, rv, er => by
    unfold tgM at h
    cases h
    exact ⟨_, er.set rv i⟩
  | .tp ts, x, v, env, e, σ, h, rv, er => by
    unfold tgM at h
    cases rv <;> dsimp only at h <;> try cases h
    rename_i xs us a sq rs
    exact ers_after ts h rs er
theorem ers_after : ∀ (ts : Tgs) {xs : List PV} {us : List V} {env e : En} {σ : L2.St}, tgMs ts xs env = some e → VRs w M rho H xs us → ER w M rho H env σ → ∃ σ', ER w M rho H e σ'
  | .nil, xs, us, env, e, σ, h, rv, er => by
    cases rv with
    | nil => unfold tgMs at h; cases h; exact ⟨_, er⟩
    | cons _ _ => unfold tgMs at h; cases h
  | .cons t ts, xs, us, env, e, σ, h, rv, er => by
    cases rv with
    | nil => unfold tgMs at h; cases h
    | cons r1 r2 =>
      unfold tgMs at h
      split at h
      · rename_i e1 h1
        obtain ⟨σ', er'⟩ := er_after t h1 r1 er
        exact ers_after ts h r2 er'
      · cases h
end
end
end MC

end
section
set_option maxRecDepth 100000
set_option maxHeartbeats 4000000
namespace MC
open PySem PySem.Spec PyProof.Rows L2

def noX {α : Type} (r : R α) : R α := match r with
  | .ok a h => .ok a h
  | _ => .stuck
theorem Out.noX {w : Wo} {EX EX2 : XC} {M : Addr → Prop} {rho : List Addr} {H : Hp} {α : Type} {r : R α} {k : KC α} (o : Out w EX M rho H (MC.noX r) k) : Out w EX2 M rho H r k := by
  cases r with
  | ok a h => exact o
  | exc c fs h => exact (show False from o).elim
  | stuck => exact o
def wipeE : En → List Nat → En
  | e, [] => e
  | e, v :: vs => (wipeE e vs).set v none
theorem wipe_wipe (σ : L2.St) : ∀ vs : List Nat, wipe (wipe σ vs) vs = wipe σ vs := by
  have out : ∀ (vs : List Nat) (σ : L2.St) (i : Nat), (wipe (σ.set i none) vs).set i none = (wipe σ vs).set i none := by
    intro vs
    induction vs with
    | nil => intro σ i; show (σ.set i none).set i none = σ.set i none; rw [List.set_set]
    | cons u vs ih =>
      intro σ i
      show ((wipe (σ.set i none) vs).set u none).set i none = ((wipe σ vs).set u none).set i none
      by_cases h : u = i
      · subst h
        rw [ih σ u]
      · rw [List.set_comm _ _ h, ih σ i, List.set_comm _ _ (Ne.symm h)]
  intro vs
  induction vs generalizing σ with
  | nil => rfl
  | cons u vs ih =>
    show (wipe ((wipe σ vs).set u none) vs).set u none = (wipe σ vs).set u none
    rw [out, ih]
section
variable {w : Wo} {M M1 M2 : Addr → Prop} {rho rho1 rho2 : List Addr} {H H1 H2 H' : Hp} {h : PH} {D : Addr}
theorem ER.wipe {e : En} {σ : L2.St} (r : ER w M rho H e σ) : ∀ vs : List Nat, ER w M rho H (wipeE e vs) (wipe σ vs)
  | [] => r
  | v :: vs => (ER.wipe r vs).drop v none
/-- all but lists stands; what is M's stands -/
structure Off (M : Addr → Prop) (H H' : Hp) : Prop where
  pos : ∀ a u, H a = some u → (∀ l, u ≠ .lst l) → H' a = some u
  own : ∀ a, M a → H' a = H a
theorem Off.sqT (f : Off M H H') {K : PySem.W.Frag} {a : Addr} {vs : List V} (q : SqT K H a vs) : SqT K H' a vs := by
  rcases q with (q | ⟨o, q⟩) | q
  · exact .inl (.inl (f.pos a _ q fun _ e => nomatch e))
  · exact .inl (.inr ⟨o, f.pos a _ q fun _ e => nomatch e⟩)
  · exact .inr q
theorem Off.scr (f : Off M H H') {a : Addr} {vs : List V} (q : ScrL w M H a vs) : ScrL w M H' a vs := by
  rcases q with q | ⟨o, q, n⟩
  · exact .inl q
  · exact .inr ⟨o, f.pos a _ q (fun _ e => nomatch e), n⟩
mutual
theorem VR.off (f : Off M H H') : ∀ {x : PV} {v : V}, VR w M rho H x v → VR w M rho H' x v
  | _, _, .non => .non
  | _, _, .bl b => .bl b
  | _, _, .int i => .int i
  | _, _, .str s => .str s
  | _, _, .tup q s => .tup (f.sqT q) (VRs.off f s)
  | _, _, .scr q s => .scr (f.scr q) (VRs.off f s)
  | _, _, .rdic e n s => .rdic (f.pos _ _ e fun _ z => nomatch z) n (KRs.off f s)
  | _, _, .ins c e n s => .ins c (f.pos _ _ e fun _ z => nomatch z) n (FRs.off f s)
  | _, _, .ref e => .ref e
  | _, _, .gl e => .gl e
  | _, _, .exn e1 e2 e3 e4 e5 e6 s => .exn e1 e2 e3 e4 (fun x hx => ⟨f.pos _ _ (e5 x hx).1 (fun _ z => nomatch z), (e5 x hx).2⟩) e6 (FRs.off f s)
theorem VRs.off (f : Off M H H') : ∀ {xs : List PV} {vs : List V}, VRs w M rho H xs vs → VRs w M rho H' xs vs
  | _, _, .nil => .nil
  | _, _, .cons a b => .cons (VR.off f a) (VRs.off f b)
theorem FRs.off (f : Off M H H') : ∀ {fs : List (Nm × PV)} {gs : List (Str × V)}, FRs w M rho H fs gs → FRs w M rho H' fs gs
  | _, _, .nil => .nil
  | _, _, .cons a b => .cons (VR.off f a) (FRs.off f b)
theorem KRs.off (f : Off M H H') : ∀ {fs : List (PV × PV)} {gs : List (Key × V)}, KRs w M rho H fs gs → KRs w M rho H' fs gs
  | _, _, .nil => .nil
  | _, _, .cons k a b => .cons k (VR.off f a) (KRs.off f b)
end
theorem TRs.off (f : Off M H H') : ∀ {fs : List (PV × PV)} {gs : List (NestedKey × Addr × Value)}, TRs w M rho H fs gs → TRs w M rho H' fs gs
  | _, _, .nil => .nil
  | _, _, .cons k d a b c q => .cons k d (a.off f) (b.off f) c (TRs.off f q)
theorem OR.off (f : Off M H H') {a : Addr} (m : M a) {o : PO} (q : OR w M rho H a o) : OR w M rho H' a o := by
  have e := f.own a m
  cases o with
  | lst xs => obtain ⟨vs, p, s⟩ := q; exact ⟨vs, e.trans p, s.off f⟩
  | ins c fs => obtain ⟨C, dx, gs, p1, p, s⟩ := q; exact ⟨C, dx, gs, p1, e.trans p, s.off f⟩
  | dic lk kvs =>
    obtain ⟨ks, p, s⟩ := q
    refine ⟨ks, ?_, s.off f⟩
    cases lk with
    | false => exact e.trans p
    | true => obtain ⟨o, p⟩ := p; exact ⟨o, e.trans p⟩
  | dit lk kvs =>
    obtain ⟨ks, p, z1, z2, z3, s⟩ := q
    refine ⟨ks, ?_, z1, z2, z3, s.off f⟩
    cases lk with
    | false => exact e.trans p
    | true => obtain ⟨o, p⟩ := p; exact ⟨o, e.trans p⟩
theorem HR.off (f : Off M H H') (r : HR w M rho H h) : HR w M rho H' h where
  len := r.len
  nd := r.nd
  mem := r.mem
  live := fun b m => by rw [f.own b m]; exact r.live b m
  ob := fun n o q => by
    obtain ⟨a, ha, s⟩ := r.ob n o q
    exact ⟨a, ha, s.off f (r.mem a (List.mem_of_getElem? ha))⟩
  tabs := fun p hp => by
    obtain ⟨ps, h1, h2, h3⟩ := r.tabs p hp
    refine ⟨ps, f.pos _ _ h1 (fun l z => by cases z), h2, fun pos cv hc => ?_⟩
    obtain ⟨c, e1, e2, e3⟩ := h3 pos cv hc
    exact ⟨c, e1, f.pos _ _ e2 (fun l z => by cases (show HO.ext _ = HO.lst l from z)), e3⟩
theorem Off.upd {l : List V} {o : HO} (hD : H D = some (.lst l)) (n : ¬ M D) : Off M H (upd H D o) :=
  ⟨fun a u e z => by rw [upd_ne]; exact e; rintro rfl; rw [hD] at e; cases e; exact z l rfl, fun a m => upd_ne fun e => n (e ▸ m)⟩
theorem Off.hide {l : List V} (hD : H D = some (.lst l)) (n : ¬ M D) : Off M H (fun b => if b = D then none else H b) :=
  ⟨fun a u e z => by
    have : a ≠ D := by rintro rfl; rw [hD] at e; cases e; exact z l rfl
    show (if a = D then none else H a) = some u
    rw [if_neg this]; exact e, fun a m => if_neg fun (z : a = D) => n (by rw [← z]; exact m)⟩
theorem Step.late (st : Step M1 rho1 H1 M rho H) (n : H1 D = none) {o : HO} : Step M1 rho1 H1 M rho (upd H D o) where
  ext := st.ext
  mono := st.mono
  fresh := st.fresh
  new := st.new
  frame := fun b u hb e nt => by
    rw [upd_ne (ne_of_none e n)]
    exact st.frame b u hb e nt
  there := fun b e => by
    by_cases h : b = D
    · subst h; exact absurd n e
    · rw [upd_ne h]; exact st.there b e
  frz := fun b o u e => by
    rw [upd_ne (ne_of_none e n)]
    exact st.frz b o u e
/-- a list that stood apart comes to the heap's end -/
theorem take_lst {xs : List PV} {vs : List V} (st : Step M1 rho1 H1 M rho H) (n : H1 D = none) (hr : HR w M rho H h) (hD : H D = some (.lst vs)) (nD : ¬ M D) (r : VRs w M rho H xs vs) :
    Step M1 rho1 H1 (fun b => M b ∨ b = D) (rho ++ [D]) H ∧ HR w (fun b => M b ∨ b = D) (rho ++ [D]) H (h ++ [.lst xs]) ∧ VR w (fun b => M b ∨ b = D) (rho ++ [D]) H (.ref h.length) (.ref D) := by
  have f := Off.hide hD nD
  have e0 : upd (fun b => if b = D then none else H b) D (.lst vs) = H := by
    funext b
    unfold L2.upd
    by_cases h : b = D
    · rw [if_pos h, h, hD]
    · rw [if_neg h]; exact if_neg h
  have n0 : (fun b => if b = D then none else H b) D = none := if_pos rfl
  have hr0 := hr.off f
  have r0 := (r.off f).step (Step.alloc (o := .lst vs) n0) hr0
  have hr1 := hr0.alloc (o := .lst vs) n0 (po := .lst xs) ⟨vs, upd_same, r0⟩
  rw [e0] at hr1
  refine ⟨⟨fun i a e => ?_, fun b e => .inl (st.mono b e), fun b e => e.elim (st.fresh b) fun z => .inr (by rw [z]; exact n), fun b e => ?_, st.frame, st.there, st.frz⟩, hr1, .ref ?_⟩
  · have q := st.ext i a e
    rw [List.getElem?_append_left (List.getElem?_eq_some_iff.mp q).1]; exact q
  · rcases List.mem_append.mp e with z | z
    · exact st.new b z
    · rw [List.mem_singleton.mp z]; exact .inr n
  · rw [List.getElem?_append_right (by rw [hr.len]; exact Nat.le_refl _), hr.len, Nat.sub_self]
    rfl
end

def lcL (g : Tg) (t : MT) (m : ME) (wt : Wt) (e0 : En) : List PV → List PV → PH → R PV
  | [], acc, h => bif watch wt h then .ok (.ref h.length) (h ++ [.lst acc]) else .stuck
  | x :: xs, acc, h => bif watch wt h then (match tgM g x e0 with
    | some e => (noX (t e h)).bind fun b h1 => bif b then (noX (m e h1)).bind fun y h2 => bif decide (acc.length < LIM) then lcL g t m wt e0 xs (acc ++ [y]) h2 else .stuck else lcL g t m wt e0 xs acc h1
    | none => .stuck) else .stuck
def mLc (mi : MI) (g : Tg) (t : MT) (m : ME) (vs : List Nat) : ME := fun env h => (mi env h).bind fun p h1 => lcL g t m p.2 (wipeE env vs) p.1 [] h1
def mYes : MT := fun _ h => .ok true h
section
variable {w : Wo} {EX EX2 : XC} {X : Cx} {k : Nat} {tg iter elt : Expr} {ifs : List Expr} {scope : Scope} {own : List (Str × Nat)} {pos : Pos} {mi : MI} {g : Tg} {t : MT} {m : ME}
theorem mts_nil : PTs X [] (tT w EX mYes) := ⟨fun pins s σ H Q I h => by
  refine pts_nil.run pins s σ H Q I ?_
  obtain ⟨M, rho, env, h, er, hr, o⟩ := h
  exact o.now hr⟩
theorem lc_reads {vs : List Nat} {σ : L2.St} {H : Hp} {Q : VK} (hvs : (tgI g).all (vs.contains ·) = true) (hh : tM w EX (mLc mi g t m vs) σ H Q) : tLc (tI w EX mi) (tgG w.K g) (tT w EX2 t) (tM w EX2 m) vs σ H Q := by
  have hv : ∀ i ∈ tgI g, i ∈ vs := fun i hi => List.contains_iff_mem.mp (List.all_eq_true.mp hvs i hi)
  obtain ⟨M, rho, env, h, er, hr, o⟩ := hh
  refine ⟨M, rho, env, h, er, hr, (Out.bind o).imp fun p h1 M1 rho1 H1 st1 hr1 o1 J gv => ?_⟩
  obtain ⟨xs, wt⟩ := p
  intro D hD
  have erB : ER w M1 rho1 H1 (wipeE env vs) (wipe σ vs) := (er.step st1 hr).wipe vs
  have nD : ¬ M1 D := fun z => hr1.live D z hD
  refine ⟨fun i m' H' => m' = xs.length - i ∧ i ≤ xs.length ∧ ∃ M2 rho2 acc accV h2, Step M1 rho1 H1 M2 rho2 H' ∧ HR w M2 rho2 H' h2 ∧ H' D = some (.lst accV) ∧ ¬ M2 D ∧ VRs w M2 rho2 H' acc accV ∧ Out w EX M1 rho1 H1 (lcL g t m wt (wipeE env vs) (xs.drop i) acc h2) (KV w Q),
    ⟨xs.length, by simp, Nat.zero_le _, M1, rho1, [], [], h1, Step.grow (same_upd hD), hr1.grow (same_upd hD), upd_same, nD, .nil, o1⟩, ?_⟩
  rintro i m' H' ⟨rfl, hi, M2, rho2, acc, accV, h2, st2, hr2, hD2, nD2, ra, o2⟩
  by_cases hlt : i < xs.length
  · rw [List.drop_eq_getElem_cons hlt] at o2
    obtain ⟨hw, o3⟩ := Out.bif (show Out w EX M1 rho1 H1 (bif watch wt h2 then (match tgM g xs[i] (wipeE env vs) with
      | some e => (noX (t e h2)).bind fun b h1 => bif b then (noX (m e h1)).bind fun y h2 => bif decide (acc.length < LIM) then lcL g t m wt (wipeE env vs) (xs.drop (i + 1)) (acc ++ [y]) h2 else .stuck else lcL g t m wt (wipeE env vs) (xs.drop (i + 1)) acc h1
      | none => .stuck) else .stuck) (KV w Q) from o2)
    obtain ⟨g1, _, g3⟩ := gv.to st2 hr2 hw i
    refine .inr ⟨g1 hlt, fun H' => ∃ M2 rho2 acc accV h2, Step M1 rho1 H1 M2 rho2 H' ∧ HR w M2 rho2 H' h2 ∧ H' D = some (.lst accV) ∧ ¬ M2 D ∧ VRs w M2 rho2 H' acc accV ∧ Out w EX M1 rho1 H1 (lcL g t m wt (wipeE env vs) (xs.drop (i + 1)) acc h2) (KV w Q), fun H'' q => ⟨xs.length - (i + 1), by omega, rfl, hlt, q⟩, fun x H3 y => ?_⟩
    obtain ⟨k1, z, ez, rz⟩ := g3 x H3 hlt y
    rw [List.getElem?_eq_getElem hlt] at ez
    cases ez
    have stg : Step M2 rho2 H' M2 rho2 H3 := Step.grow k1
    have hr3 := hr2.grow k1
    have st3 := st2.trans stg
    split at o3
    · rename_i e he
      refine tg_ok g he rz (erB.step st3 hr1) hv fun σ2 er2 ew => ⟨by rw [ew, wipe_wipe], ?_⟩
      refine tT.of er2 hr3 (Out.noX ((Out.back o3).step st3)) fun b h4 M4 rho4 H4 st4 er4 hr4 o4 => ?_
      have stB := st3.trans st4
      have dr : ∀ {b}, b ∈ rho2 → M2 b := fun {b} hb => hr2.mem b hb
      have hD4 : H4 D = some (.lst accV) := st4.frame D _ (fun z => nD2 (dr z)) (k1 _ _ hD2) (fun ps z => by cases z)
      have nD4 : ¬ M4 D := st4.no (k1 _ _ hD2) nD2
      have ra4 := (ra.step stg hr2).step st4 hr3
      cases b with
      | false => exact iteF ⟨M4, rho4, acc, accV, h4, stB, hr4, hD4, nD4, ra4, o4⟩
      | true =>
        refine iteT (tM.of er4 hr4 (Out.noX ((Out.back (show Out w EX M1 rho1 H1 ((noX (m e h4)).bind fun y h2 => bif decide (acc.length < LIM) then lcL g t m wt (wipeE env vs) (xs.drop (i + 1)) (acc ++ [y]) h2 else .stuck) (KV w Q) from o4)).step stB)) fun y h5 M5 rho5 H5 u st5 er5 hr5 o5 ry => ?_)
        obtain ⟨hl, o6⟩ := Out.bif o5
        have stC := stB.trans st5
        have hD5 : H5 D = some (.lst accV) := st5.frame D _ (fun z => nD4 (hr4.mem D z)) hD4 (fun ps z => by cases z)
        have nD5 : ¬ M5 D := st5.no hD4 nD4
        have ra5 := ra4.step st5 hr4
        have f := Off.upd (o := .lst (accV ++ [u])) hD5 nD5
        exact ⟨accV, hD5, by rw [ra5.length, lim_eq]; exact of_decide_eq_true hl, M5, rho5, acc ++ [y], accV ++ [u], h5, stC.late hD, hr5.off f, upd_same, nD5, (ra5.append (.cons ry .nil)).off f, o6⟩
    · exact (show False from o3).elim
  · have e : i = xs.length := by omega
    subst e
    rw [List.drop_length] at o2
    obtain ⟨hw, o3⟩ := Out.bif (show Out w EX M1 rho1 H1 (bif watch wt h2 then .ok (.ref h2.length) (h2 ++ [.lst acc]) else .stuck) (KV w Q) from o2)
    obtain ⟨_, g2, _⟩ := gv.to st2 hr2 hw xs.length
    obtain ⟨z1, z2, z3⟩ := take_lst st2 hD hr2 hD2 nD2 ra
    exact .inl ⟨g2 rfl, o3 _ _ _ z1 z2 _ z3⟩
theorem me_lc (C : Cxt w k X) (hN : X.N.Nodup) {vs : List Nat} (hi : PI X tg iter (tI w EX mi)) (ok : blkC X.N X.env.scope scope own = true)
    (hg : ∀ (s : Shared) (H : Hp) (A : Addr) (cl : List (Str × Addr)) (fp : List Addr), PG (X.blk s H scope (compEnvC scope cl A X.env) fp) tg (tgG w.K g)) (ht : ∀ (s : Shared) (H : Hp) (A : Addr) (cl : List (Str × Addr)) (fp : List Addr), Cxt w k (X.blk s H scope (compEnvC scope cl A X.env) fp) → PTs (X.blk s H scope (compEnvC scope cl A X.env) fp) ifs (tT w EX2 t))
    (he : ∀ (s : Shared) (H : Hp) (A : Addr) (cl : List (Str × Addr)) (fp : List Addr), Cxt w k (X.blk s H scope (compEnvC scope cl A X.env) fp) → PE (X.blk s H scope (compEnvC scope cl A X.env) fp) elt (tM w EX2 m)) (ev : own.map (·.2) = vs := by rfl) (hvs : (tgI g).all (vs.contains ·) = true := by rfl) (hs : ∀ x, foldedSetIterable iter X.env x = pure x := by intro _; rfl) :
    PE X (.ListComp elt [⟨tg, iter, ifs, 0⟩] scope pos) (tM w EX (mLc mi g t m vs)) := by
  subst ev
  exact PE.imp (pe_lc C.calm hN hi (blkOk_by ok) hg (fun s H A cl fp => ht s H A cl fp (C.blk ..)) (fun s H A cl fp => he s H A cl fp (C.blk ..)) hs) fun σ H Q h => lc_reads hvs h
end
end MC

end
section
set_option maxRecDepth 100000
set_option maxHeartbeats 4000000
namespace MC
open PySem PySem.Spec PyProof.Rows L2

section
variable {w : Wo} {EX : XC} {X : Cx} {k : Nat} {f : Value} {M : Addr → Prop} {rho : List Addr} {H : Hp} {h : PH}
theorem CallR.imp {r r' : List V → Hp → VK → Prop} (c : CallR X f r) (i : ∀ xs H Q, r' xs H Q → r xs H Q) : CallR X f r' := fun pins s σ H xs us Q I rv h => c pins s σ H xs us Q I rv (i xs H Q h)
theorem CallR.orI {r1 r2 r' : List V → Hp → VK → Prop} (c1 : CallR X f r1) (c2 : CallR X f r2) (i : ∀ xs H Q, r' xs H Q → r1 xs H Q ∨ r2 xs H Q) : CallR X f r' := CallR.imp (CallR.or c1 c2) i
/-- the items of a list, a tuple -/
def seqP (h : PH) : PV → Option (List PV)
  | .tup xs => some xs
  | .scr xs => some xs
  | .ref n => match h[n]? with
    | some (.lst xs) => some xs
    | _ => none
  | _ => none
theorem seq_ok (hr : HR w M rho H h) {x : PV} {v : V} {xs : List PV} (r : VR w M rho H x v) (e : seqP h x = some xs) : ∃ a vs, v = .ref a ∧ VRs w M rho H xs vs ∧ (SqL w.K H a vs ∨ (SqT w.K H a vs ∧ x = .tup xs)) := by
  cases r with
  | tup q s => cases e; exact ⟨_, _, rfl, s, .inr ⟨q, rfl⟩⟩
  | scr q s => cases e; exact ⟨_, _, rfl, s, .inl q.sq⟩
  | @ref n a ha =>
    simp only [seqP] at e
    split at e
    · rename_i ys e0
      cases e
      obtain ⟨a', ha', vs, q1, q2⟩ := hr.ob _ _ e0
      rw [ha] at ha'
      cases ha'
      exact ⟨a, vs, rfl, q2, .inl (.inl (.inl q1))⟩
    · cases e
  | _ => cases e
/-- an argument's reading -/
theorem rA1 {op : OC} {xs : List V} {Q : VK} {P : Prop} (hh : rA w EX op xs H Q) (i : ∀ M rho h (ps : List PV), HR w M rho H h → VRs w M rho H ps xs → Out w EX M rho H (op h ps) (MC.KV w Q) → P) : P := by
  obtain ⟨M, rho, h, ps, hr, rs, o⟩ := hh
  exact i M rho h ps hr rs o

def bLen : OC := fun h xs => match xs with
  | [x] => match x with
    | .str s => bif decide (s.length ≤ LIM) then .ok (.int s.length) h else .stuck
    | .rdic ks => .ok (.int ks.length) h
    | x => match seqP h x with
      | some ys => .ok (.int ys.length) h
      | none => match x with
        | .ref n => match h[n]? with
          | some (.dic false ks) => .ok (.int ks.length) h
          | _ => .stuck
        | _ => .stuck
  | _ => .stuck
theorem KRs.len {ks : List (PV × PV)} {gs : List (Key × V)} (r : KRs w M rho H ks gs) : gs.length = ks.length := (KRs.at r).1.symm
def bInt : OC := fun h xs => match xs with
    | [.int i] => .ok (.int i) h
    | [.bl b] => .ok (.int (bif b then 1 else 0)) h
    | _ => .stuck
theorem b_int (C : Cxt w k X) : CallR X (.type "int") (rA w EX bInt) := by
  refine CallR.imp call_int1 fun xs H Q hh => rA1 hh fun M rho h ps hr rs o => ?_
  unfold bInt at o
  split at o
  · cases rs with
    | cons a b => cases a; cases b; exact .inl ⟨_, rfl, o.now hr _ (.int _)⟩
  · rename_i b
    cases rs with
    | cons a c => cases a; cases c; refine .inr ⟨_, rfl, o.now hr _ ?_⟩; cases b <;> exact .int _
  · exact (show False from o).elim
def bAbs : OC := fun h xs => match xs with
    | [.int i] => .ok (.int (if i < 0 then -i else i)) h
    | _ => .stuck
theorem b_abs : CallR X (.builtin "abs") (rA w EX bAbs) := by
  refine CallR.imp call_abs fun xs H Q hh => rA1 hh fun M rho h ps hr rs o => ?_
  unfold bAbs at o
  split at o
  · cases rs with
    | cons a b => cases a; cases b; exact ⟨_, rfl, o.now hr _ (.int _)⟩
  · exact (show False from o).elim
def B30 : Int := 1073741824
def bDivmod : OC := fun h xs => match xs with
    | [.int i, .int j] => bif decide (0 < j) && decide (j < B30) then .ok (.tup [.int (i / j), .int (i % j)]) h else .stuck
    | _ => .stuck
theorem b_divmod : CallR X (.builtin "divmod") (rA w EX bDivmod) := by
  refine CallR.imp call_divmod fun xs H Q hh => rA1 hh fun M rho h ps hr rs o => ?_
  unfold bDivmod at o
  split at o
  · obtain ⟨hj, o⟩ := Out.bif o
    rw [Bool.and_eq_true, decide_eq_true_eq, decide_eq_true_eq] at hj
    cases rs with
    | cons a b => cases b with
      | cons b c => cases a; cases b; cases c; exact ⟨_, _, rfl, hj, KV.tup hr o (.cons (.int _) (.cons (.int _) .nil))⟩
  · exact (show False from o).elim
def bMax2 : OC := fun h xs => match xs with
    | [.int i, .int j] => .ok (.int (if j > i then j else i)) h
    | _ => .stuck
theorem b_max2 (C : Cxt w k X) : CallR X (.builtin "max") (rA w EX bMax2) := by
  refine CallR.imp (call_max2 C.calm) fun xs H Q hh => rA1 hh fun M rho h ps hr rs o => ?_
  unfold bMax2 at o
  split at o
  · cases rs with
    | cons a b => cases b with
      | cons b c => cases a; cases b; cases c; exact ⟨_, _, rfl, o.now hr _ (.int _)⟩
  · exact (show False from o).elim
def bMin2 : OC := fun h xs => match xs with
    | [.int i, .int j] => .ok (.int (if j < i then j else i)) h
    | _ => .stuck
theorem b_min2 (C : Cxt w k X) : CallR X (.builtin "min") (rA w EX bMin2) := by
  refine CallR.imp (call_min2 C.calm) fun xs H Q hh => rA1 hh fun M rho h ps hr rs o => ?_
  unfold bMin2 at o
  split at o
  · cases rs with
    | cons a b => cases b with
      | cons b c => cases a; cases b; cases c; exact ⟨_, _, rfl, o.now hr _ (.int _)⟩
  · exact (show False from o).elim
theorem call_lenR : CallR X (.builtin "len") (fun xs H Q => ∃ a kvs, xs = [V.ref a] ∧ Rd H a (.dK kvs) ∧ Q (.int kvs.length) H) := by
  intro pins s σ H xs us Q I r h
  obtain ⟨a, kvs, rfl, ha, q⟩ := h
  obtain ⟨u, rfl, ru⟩ := vals1 r
  cases ru
  exact d_len I ha fun t s' I' => ⟨.int kvs.length, H, I', ⟨t, rfl⟩, q⟩
theorem vrs1 {x : PV} {xs : List V} (r : VRs w M rho H [x] xs) : ∃ v, xs = [v] ∧ VR w M rho H x v := by
  cases r with
  | cons a b => cases b; exact ⟨_, rfl, a⟩
theorem OR.dic {lk : Bool} {ks : List (PV × PV)} {a : Addr} (q : OR w M rho H a (.dic lk ks)) : ∃ gs, Rd H a (.dK gs) ∧ KRs w M rho H ks gs := by
  obtain ⟨gs, q1, q2⟩ := q
  refine ⟨gs, ?_, q2⟩
  cases lk with
  | false => exact .inl q1
  | true => obtain ⟨o, q1⟩ := q1; exact .inr ⟨o, q1⟩
theorem b_len {hh : Bool} (C : CxtG hh w k X) : CallR X (.builtin "len") (rA w EX bLen) := by
  refine CallR.orI call_len call_lenR fun xs H Q hh => rA1 hh fun M rho h ps hr rs o => ?_
  have seqc : ∀ {x : PV} {v : V} {ys : List PV}, VR w M rho H x v → seqP h x = some ys → Out w EX M rho H (.ok (.int ys.length) h) (MC.KV w Q) → ∃ x n, [v] = [x] ∧ LenV X.K x H n ∧ Q (.int n) H := fun {x v ys} rv e o => by
    obtain ⟨a, vs, rfl, rs, q⟩ := seq_ok hr rv e
    refine ⟨_, vs.length, rfl, ?_, by rw [rs.length]; exact o.now hr _ (.int _)⟩
    rw [C.hK]
    rcases q with q | ⟨q, _⟩
    · exact .inl ⟨vs, q, rfl⟩
    · exact .inr ⟨vs, q, rfl⟩
  unfold bLen at o
  split at o
  · rename_i x
    obtain ⟨v, rfl, rv⟩ := vrs1 rs
    split at o
    · rename_i s
      obtain ⟨hl, o⟩ := Out.bif o
      cases rv
      refine .inl ⟨_, s.length, rfl, ⟨?_, ?_⟩, o.now hr _ (.int _)⟩
      · show (S s).length ≤ _; rw [S_len, lim_eq]; exact of_decide_eq_true hl
      · show _ = (S s).length; rw [S_len]
    · rename_i ks
      cases rv with
      | rdic e n rk => exact .inr ⟨_, _, rfl, .inr ⟨_, e⟩, by rw [rk.len]; exact o.now hr _ (.int _)⟩
    · split at o
      · rename_i ys e
        exact .inl (seqc rv e o)
      · split at o
        · rename_i n _
          split at o
          · rename_i ks e0
            cases rv with
            | ref ha =>
              obtain ⟨a', ha', q⟩ := hr.ob _ _ e0
              rw [ha] at ha'
              cases ha'
              obtain ⟨gs, q1, q2⟩ := q.dic
              exact .inr ⟨_, gs, rfl, q1, by rw [q2.len]; exact o.now hr _ (.int _)⟩
          · exact (show False from o).elim
        · exact (show False from o).elim
  · exact (show False from o).elim
def bTuple : OC := fun h xs => match xs with
  | [x] => match seqP h x with
    | some ys => .ok (.tup ys) h
    | none => .stuck
  | _ => .stuck
def strsP : List PV → Option (List (List Nat))
  | [] => some []
  | .str b :: r => match strsP r with
    | some bs => some (b :: bs)
    | none => none
  | _ => none
theorem strs_ok : ∀ {xs : List PV} {vs : List V} {bs : List (List Nat)}, VRs w M rho H xs vs → strsP xs = some bs → vs = (bs.map S).map V.str
  | _, _, _, .nil, e => by cases e; rfl
  | _, _, _, .cons a b, e => by
    cases a <;> simp only [strsP, reduceCtorEq] at e
    split at e
    · rename_i bs e2
      cases e
      rw [strs_ok b e2]; rfl
    · cases e
/-- a list (no tuple) of bools, of ints -/
def lstP (h : PH) : PV → Option (List PV)
  | .scr xs => some xs
  | .ref n => match h[n]? with
    | some (.lst xs) => some xs
    | _ => none
  | _ => none
theorem lst_ok (hr : HR w M rho H h) {x : PV} {v : V} {xs : List PV} (r : VR w M rho H x v) (e : lstP h x = some xs) : ∃ a vs, v = .ref a ∧ VRs w M rho H xs vs ∧ SqL w.K H a vs := by
  cases r with
  | scr q s => cases e; exact ⟨_, _, rfl, s, q.sq⟩
  | @ref n a ha =>
    simp only [lstP] at e
    split at e
    · rename_i ys e0
      cases e
      obtain ⟨a', ha', vs, q1, q2⟩ := hr.ob _ _ e0
      rw [ha] at ha'
      cases ha'
      exact ⟨a, vs, rfl, q2, .inl (.inl q1)⟩
    · cases e
  | _ => cases e
end

/-- the kinds of values: 0 None, 1 bool, 2 int, 3 str, 4 tuple, 5 list, 6 dict -/
def kindN : Nat → String
  | 0 => "NoneType"
  | 1 => "bool"
  | 2 => "int"
  | 3 => "str"
  | 4 => "tuple"
  | 5 => "list"
  | _ => "dict"
def kindP (h : PH) : PV → Option (Nat ⊕ Nat)
  | .non => some (.inl 0)
  | .bl _ => some (.inl 1)
  | .int _ => some (.inl 2)
  | .str _ => some (.inl 3)
  | .tup _ => some (.inl 4)
  | .scr _ => some (.inl 5)
  | .rdic _ => some (.inl 6)
  | .ins c _ => some (.inr c)
  | .ref n => match h[n]? with
    | some (.lst _) => some (.inl 5)
    | some (.dic _ _) => some (.inl 6)
    | some (.ins c _) => some (.inr c)
    | some (.dit _ _) => none
    | none => none
  | .gl _ => none
  | .exn _ _ => none
/-- what isinstance says of a kind, by the tables tb (kinds) and cs (classes) -/
def isiT (tb cs : List (Nat × Bool)) : Nat ⊕ Nat → Option Bool
  | .inl n => tb.lookup n
  | .inr n => cs.lookup n
def mIsi (tb cs : List (Nat × Bool)) (m : ME) : ME := fun env h => (m env h).bind fun x h1 => match kindP h1 x with
  | some k => match isiT tb cs k with
    | some b => .ok (.bl b) h1
    | none => .stuck
  | none => .stuck
/-- what is known of a class for isinstance -/
structure ClsI (K : PySem.W.Frag) (C : Addr) : Prop where
  cl : Cls K C
  ha : PySem.W.findIn K (.ref C) "__class__" = some (some (.builtin "object.__class__"))
  hn : PySem.W.specialIn K (.builtin "object.__class__") "__get__" = some (some (.builtin "getset_descriptor.__get__"))
  htk : PySem.W.takesIn K (.builtin "object.__class__") = some true
  hm : PySem.W.mroIn K C (.type "object") = some true
/-- the tables are right -/
structure IsiOk (w : Wo) (u : Value) (tb cs : List (Nat × Bool)) : Prop where
  ty : ∀ p ∈ tb, PySem.W.kitOne w.K (.type (kindN p.1)) u = some p.2
  own : ∀ p ∈ cs, ∀ C, w.cl p.1 = some C → ClsI w.K C ∧ PySem.W.kitOne w.K (.ref C) u = some p.2
theorem lookup_mem {α : Type} {n : Nat} {b : α} : ∀ {l : List (Nat × α)}, l.lookup n = some b → (n, b) ∈ l
  | [], e => by cases e
  | (m, c) :: r, e => by
    rw [List.lookup_cons] at e
    cases q : n == m with
    | true => rw [q] at e; cases e; rw [beq_iff_eq.mp q]; exact List.mem_cons_self
    | false => rw [q] at e; exact List.mem_cons_of_mem _ (lookup_mem e)
section
variable {w : Wo} {EX : XC} {X : Cx} {k : Nat} {e c : Expr} {m : ME} {p pos : Pos} {M : Addr → Prop} {rho : List Addr} {H : Hp} {h : PH}
theorem kind_ok (hr : HR w M rho H h) {x : PV} {v : V} (r : VR w M rho H x v) {q : Nat ⊕ Nat} (ek : kindP h x = some q) : (∃ n, q = .inl n ∧ TyX w.K H v (.type (kindN n))) ∨ ∃ n C, q = .inr n ∧ w.cl n = some C ∧ (ClsI w.K C → TyX w.K H v (.ref C)) := by
  cases r with
  | non => cases ek; exact .inl ⟨0, rfl, .base .non⟩
  | bl b => cases ek; exact .inl ⟨1, rfl, .base (.bl b)⟩
  | int i => cases ek; exact .inl ⟨2, rfl, .base (.int i)⟩
  | str s => cases ek; exact .inl ⟨3, rfl, .base (.str _)⟩
  | tup s _ =>
    cases ek
    refine .inl ⟨4, rfl, ?_⟩
    rcases s with (s | ⟨o, s⟩) | ⟨o, its, n, s, c, _⟩
    · exact .base (.tup s)
    · exact .fTuple s
    · exact .kTuple s c
  | scr s _ =>
    cases ek
    refine .inl ⟨5, rfl, ?_⟩
    rcases s with ⟨o, its, n, s, c, _⟩ | ⟨o, s, _⟩
    · exact .kList s c
    · exact .base (.frz s)
  | rdic e n _ => cases ek; exact .inl ⟨6, rfl, .fDict e⟩
  | ins c e n _ =>
    cases ek
    exact .inr ⟨_, _, rfl, c, fun ci => .base (.ins e ci.cl ci.ha ci.hn ci.htk ci.hm)⟩
  | ref ha =>
    simp only [kindP] at ek
    split at ek
    · rename_i e0
      cases ek
      obtain ⟨a', ha', vs, q1, q2⟩ := hr.ob _ _ e0
      rw [ha] at ha'; cases ha'
      exact .inl ⟨5, rfl, .base (.lst q1)⟩
    · rename_i e0
      cases ek
      obtain ⟨a', ha', q⟩ := hr.ob _ _ e0
      rw [ha] at ha'; cases ha'
      obtain ⟨gs, q1, _⟩ := q.dic
      rcases q1 with q1 | ⟨o, q1⟩
      · exact .inl ⟨6, rfl, .base (.dK q1)⟩
      · exact .inl ⟨6, rfl, .fDict q1⟩
    · rename_i e0
      cases ek
      obtain ⟨a', ha', C, dx, gs, c, q1, q2⟩ := hr.ob _ _ e0
      rw [ha] at ha'; cases ha'
      exact .inr ⟨_, _, rfl, c, fun ci => .base (.ins q1 ci.cl ci.ha ci.hn ci.htk ci.hm)⟩
    · cases ek
    · cases ek
  | gl _ => cases ek
  | exn _ _ _ _ _ _ _ => cases ek
theorem isi_reads {u : Value} {cv : V} {tb cs : List (Nat × Bool)} (C : Cxt w k X) (B : IsiOk w u tb cs) (kc : ClsV cv u) {σ : L2.St} {Q : VK} (hh : tM w EX (mIsi tb cs m) σ H Q) : tCB (rIsi X.K) (tCons (tM w EX m) (tCons (tC cv) tNil)) σ H Q := by
  obtain ⟨M, rho, env, h, er, hr, o⟩ := hh
  refine tM.of er hr (Out.bind o) fun x h1 M1 rho1 H1 v st1 er1 hr1 o1 rv => ?_
  split at o1
  · rename_i kd ek
    split at o1
    · rename_i b eb
      have q := o1.now hr1 _ (.bl b)
      rcases kind_ok hr1 rv ek with ⟨n, rfl, ty⟩ | ⟨n, A, rfl, hA, ty⟩
      · have z := B.ty _ (lookup_mem (show tb.lookup n = some b from eb))
        exact ⟨v, cv, _, u, b, rfl, kc, by rw [C.hK]; exact ty, by rw [C.hK]; exact z, q⟩
      · obtain ⟨ci, z⟩ := B.own _ (lookup_mem (show cs.lookup n = some b from eb)) A hA
        exact ⟨v, cv, _, u, b, rfl, kc, by rw [C.hK]; exact ty ci, by rw [C.hK]; exact z, q⟩
    · exact (show False from o1).elim
  · exact (show False from o1).elim
/-- isinstance(e, T), T a builtin type -/
theorem me_isiT {x : Str} {T : String} {p1 p2 : Pos} {tb cs : List (Nat × Bool)} (C : Cxt w k X) (B : IsiOk w (.type T) tb cs) (he : PE X e (tM w EX m)) (hg : Gl X "isinstance") (hm : X.mg "isinstance" = none) (hg2 : Gl X x) (hm2 : X.mg x = none) (hv2 : bootBuiltins x = some (.type T)) (hn2 : x ≠ "__name__" := by decide) (hd2 : (x == ("__debug__" : Str)) = false := by decide)
    (hs : starEach [e, .Name x p2] X.env = (false, eval e X.env) :: starEach [.Name x p2] X.env := by rfl) (hs2 : starEach [.Name x p2] X.env = (false, eval (.Name x p2) X.env) :: starEach [] X.env := by rfl) (hpl : (backTo pos (starEach [.Name x p2] X.env)).any (·.1) = false := by rfl) :
    PE X (.Call (.Name "isinstance" p1) [e, .Name x p2] [] pos) (tM w EX (mIsi tb cs m)) :=
  PE.imp (pe_callB call_isi hg hm (by decide +kernel) (pa_cons he (pa_cons (pe_bltn (v := .ty T) hg2 hm2 hv2 rfl hn2 hd2) pa_nil hs2) hs) (by decide) (by decide) hs hpl) fun σ H Q h => isi_reads C B (.ty T) h
end
end MC

end
section
set_option maxRecDepth 100000
set_option maxHeartbeats 4000000
namespace MC
open PySem PySem.Spec PyProof.Rows L2

/-- the receiver's kind: 0 text, 1 list -/
def isTy (h : PH) : Nat → PV → Bool
  | 0, .str _ => true
  | 1, x => (lstP h x).isSome
  | _, _ => false
def tyNm : Nat → String
  | 0 => "str"
  | _ => "list"
def mBM (ty : Nat) (op : OC) (mo : ME) (ma : MA) : ME := fun env h => (mo env h).bind fun x h1 => bif isTy h1 ty x then (ma env h1).bind fun xs h2 => op h2 (x :: xs) else .stuck
def rM (w : Wo) (EX : XC) (op : OC) : V → List V → Hp → VK → Prop := fun x xs H Q => ∃ M rho h px ps, HR w M rho H h ∧ VR w M rho H px x ∧ VRs w M rho H ps xs ∧ Out w EX M rho H (op h (px :: ps)) (MC.KV w Q)
section
variable {w : Wo} {EX : XC} {X : Cx} {k : Nat} {M : Addr → Prop} {rho : List Addr} {H : Hp} {h : PH}
theorem isTy_ok {K : PySem.W.Frag} (hK : K = w.K) (hr : HR w M rho H h) {ty : Nat} {x : PV} {v : V} (r : VR w M rho H x v) (e : isTy h ty x = true) : tyV K (tyNm ty) v H := by
  subst hK
  match ty with
  | 0 =>
    cases r <;> first
      | exact (show "str" = "str" from rfl)
      | (exact absurd e (by simp [isTy]))
  | 1 =>
    obtain ⟨xs, ex⟩ := Option.isSome_iff_exists.mp (show (lstP h x).isSome = true by cases x <;> exact e)
    obtain ⟨a, vs, rfl, rs, q⟩ := lst_ok hr r ex
    exact .inl ⟨rfl, vs, q⟩
  | n + 2 => exact absurd e (by simp [isTy])
variable {o e : Expr} {es : List Expr} {mo : ME} {ma : MA} {name : Str} {apos cpos : Pos} {id : String} {op : OC}
theorem me_bm {hh : Bool} (C : CxtG hh w k X) (ty : Nat) (pa : PlainAttrs (tyNm ty)) (slot : Slot (tyNm ty) name id) (hty : typeOf (.builtin id) = pure (.type "method_descriptor")) (hm : MtR X id (rM w EX op)) (ho : PE X o (tM w EX mo)) (ha : PA X (e :: es) (tA w EX ma))
    (hbase : attributeBase o name X.env (eval o X.env) = eval o X.env := by rfl)
    (hfew : ((backTo cpos (starEach (e :: es) X.env)).all (fun x => !x.1) && (backToKw cpos (keywordEach [] X.env)).all (fun x => x.1.isSome)
      && decide ((e :: es).length + ([] : List Keyword).length + (if ([] : List Keyword).isEmpty then 0 else 1) < 30)) = true := by rfl)
    (hline : (apos.endLine == cpos.line) = true := by rfl) (hs : starEach (e :: es) X.env = (false, eval e X.env) :: starEach es X.env := by rfl) (hplain : (backTo cpos (starEach es X.env)).any (·.1) = false := by rfl) :
    PE X (.Call (.Attribute o name apos) (e :: es) [] cpos) (tM w EX (mBM ty op mo ma)) := by
  refine PE.imp (pe_bm pa slot hty hm ho ha hbase hfew hline hs hplain) fun σ H Q hh => ?_
  obtain ⟨M, rho, env, h, er, hr, oo⟩ := hh
  refine tM.of er hr (Out.bind oo) fun x h1 M1 rho1 H1 v st1 er1 hr1 o1 rv => ?_
  obtain ⟨ht, o1⟩ := Out.bif o1
  refine ⟨isTy_ok C.hK hr1 rv ht, tA.of er1 hr1 (Out.bind o1) fun xs h2 M2 rho2 H2 vs st2 er2 hr2 o2 rs => ?_⟩
  exact ⟨M2, rho2, h2, x, xs, hr2, rv.step st2 hr1, rs, o2⟩
theorem MtR.imp {r r' : V → List V → Hp → VK → Prop} (c : MtR X id r) (i : ∀ x xs H Q, r' x xs H Q → r x xs H Q) : MtR X id r' := fun pins s σ H x xs v us Q I rx rs h => c pins s σ H x xs v us Q I rx rs (i x xs H Q h)
def oAppend : OC := fun h xs => match xs with
  | [.ref n, y] => match h[n]? with
    | some (.lst ys) => bif decide (ys.length < LIM) then .ok .non (h.set n (.lst (ys ++ [y]))) else .stuck
    | _ => .stuck
  | _ => .stuck
theorem ref_lst (hr : HR w M rho H h) {n : Nat} {v : V} {ys : List PV} (r : VR w M rho H (.ref n) v) (e : h[n]? = some (.lst ys)) : ∃ a vs, v = .ref a ∧ rho[n]? = some a ∧ H a = some (.lst vs) ∧ VRs w M rho H ys vs := by
  cases r with
  | ref ha =>
    obtain ⟨a', ha', vs, q1, q2⟩ := hr.ob _ _ e
    rw [ha] at ha'
    cases ha'
    exact ⟨_, vs, rfl, ha, q1, q2⟩
theorem VRs.dropLast {xs : List PV} {vs : List V} (r : VRs w M rho H xs vs) : VRs w M rho H xs.dropLast vs.dropLast := by
  rw [List.dropLast_eq_take, List.dropLast_eq_take, r.length]
  exact r.take _
/-- the texts with sep between -/
def glue (sep : List Nat) : List (List Nat) → List Nat
  | [] => []
  | [x] => x
  | x :: y :: r => x ++ (sep ++ glue sep (y :: r))
def totL (xs : List (List Nat)) : Nat := (xs.map (·.length)).sum
theorem glue_S (sep : List Nat) : ∀ ys : List (List Nat), TL.joinL sep ys = glue sep ys
  | [] => rfl
  | [_] => rfl
  | x :: y :: r => by
    show x ++ (sep ++ TL.joinL sep (y :: r)) = x ++ (sep ++ glue sep (y :: r))
    rw [glue_S sep (y :: r)]
theorem join_S (sep : List Nat) (ys : List (List Nat)) : Txt.join (S sep) (ys.map S) = S (glue sep ys) := by
  rw [TL.join_eq]
  refine TL.ext_tl ?_
  rw [TL.tl_join, ← glue_S]
  have e : (ys.map S).map TL.tl = ys := by
    rw [List.map_map]
    conv => rhs; rw [← List.map_id ys]
    exact List.map_congr_left fun x _ => S_list x
  rw [e]
  have e2 : TL.tl (S sep) = sep := S_list sep
  rw [e2]
  exact (S_list _).symm
def oJoin : OC := fun h xs => match xs with
  | [.str sep, x] => match seqP h x with
    | some ys => match strsP ys with
      | some zs => bif decide (totL zs + zs.length * sep.length ≤ LIM) then .ok (.str (glue sep zs)) h else .stuck
      | none => .stuck
    | none => .stuck
  | _ => .stuck
theorem totL_S (zs : List (List Nat)) : ((zs.map S).map (·.length)).sum = totL zs := by
  unfold totL
  rw [List.map_map]
  exact congrArg List.sum (List.map_congr_left fun x _ => S_len x)
theorem o_join (C : Cxt w k X) : MtR X "str.join" (rM w EX oJoin) := by
  refine MtR.imp mt_join fun x xs H Q hh => ?_
  obtain ⟨M, rho, h, px, ps, hr, rx, rs, o⟩ := hh
  unfold oJoin at o
  split at o
  · rename_i sep y e
    cases e
    obtain ⟨v, rfl, rv⟩ := vrs1 rs
    split at o
    · rename_i ys e0
      obtain ⟨a, vs, rfl, rs, q⟩ := seq_ok hr rv e0
      split at o
      · rename_i zs ez
        obtain ⟨hl, o⟩ := Out.bif o
        cases rx
        have ev := strs_ok rs ez
        subst ev
        refine ⟨S sep, a, zs.map S, rfl, rfl, ?_, ?_, ?_⟩
        · rw [C.hK]
          rcases q with q | ⟨q, _⟩
          · exact .inl q
          · exact .inr q
        · rw [totL_S, List.length_map, S_len]
          exact of_decide_eq_true hl
        · rw [join_S]
          exact o.now hr _ (.str _)
      · exact (show False from o).elim
    · exact (show False from o).elim
  · exact (show False from o).elim
/-- the text begins with -/
def isPre : List Nat → List Nat → Bool
  | [], _ => true
  | x :: xs, y :: ys => x == y && isPre xs ys
  | _ :: _, [] => false
end
end MC

end
section
set_option maxRecDepth 100000
set_option maxHeartbeats 4000000
namespace MC
open PySem PySem.Spec PyProof.Rows L2

section
variable {w : Wo} {EX : XC} {X : Cx} {k : Nat} {M : Addr → Prop} {rho : List Addr} {H : Hp} {h : PH}
/-- o[i] = v, by values -/
abbrev O3 := PH → PV → PV → PV → R Unit
def oSetIx : O3 := fun h o i v => match o, i with
  | .ref n, .int j => match h[n]? with
    | some (.lst xs) => match ixN xs.length j with
      | some k => .ok () (h.set n (.lst (xs.set k v)))
      | none => .stuck
    | _ => .stuck
  | _, _ => .stuck
def gSubM (op : O3) (mo mi : ME) : MG := fun x env h => (mo env h).bind fun o h1 => (mi env h1).bind fun i h2 => (op h2 o i x).bind fun _ h3 => .ok env h3
def r3 (w : Wo) (EX : XC) (op : O3) : TSet := fun o i v H Q => ∃ M rho h po pi pv, HR w M rho H h ∧ VR w M rho H po o ∧ VR w M rho H pi i ∧ VR w M rho H pv v ∧ Out w EX M rho H (op h po pi pv) fun _ _ _ _ H' => Q H'
theorem PSet.imp {t t' : TSet} (p : PSet X t) (i : ∀ o j v H Q, t' o j v H Q → t o j v H Q) : PSet X t' := fun pins s σ H o j v ov iv u Q I ro ri rv h => p pins s σ H o j v ov iv u Q I ro ri rv (i o j v H Q h)
theorem p_setIx : PSet X (r3 w EX oSetIx) := by
  refine PSet.imp set_list fun o j v H Q hh => ?_
  obtain ⟨M, rho, h, po, pi, pv, hr, ro, ri, rv, oo⟩ := hh
  unfold oSetIx at oo
  split at oo
  · rename_i n i
    split at oo
    · rename_i xs e0
      obtain ⟨a, vs, rfl, ha, q1, q2⟩ := ref_lst hr ro e0
      cases ri
      split at oo
      · rename_i k ek
        refine ⟨a, vs, i, k, rfl, rfl, q1, by rw [q2.length]; exact ek, ?_⟩
        have r' := q2.set rv k
        have nf : ∀ p u, H a ≠ some (.frz p u) := fun p u z => by rw [q1] at z; cases z
        have st := Step.write hr (o := .lst (vs.set k v)) ha nf
        exact oo _ _ _ st (hr.write ha nf ⟨_, upd_same, r'.step st hr⟩)
      · exact (show False from oo).elim
    · exact (show False from oo).elim
  · exact (show False from oo).elim
theorem mg_sub {o i : Expr} {mo mi : ME} {op : O3} {pos : Pos} (hs : PSet X (r3 w EX op)) (ho : PE X o (tM w EX mo)) (hi : PE X i (tM w EX mi))
    (ha : ∀ v, assign (.Subscript o i pos) X.env v = (do
      let ov ← holding [v] (eval o X.env)
      let iv ← holding [v, ov] (eval i X.env)
      standAt pos
      holding [v, ov, iv] (setItem ov iv v)
      release [v, ov, iv] []) := by intro _; rfl) : PG X (.Subscript o i pos) (tG w EX (gSubM op mo mi)) := by
  refine PG_imp (pg_sub ho hi hs ha) fun v s H Q hh => ?_
  obtain ⟨M, rho, env, h, x, er, hr, rv, oo⟩ := hh
  refine tM.of er hr (Out.bind oo) fun y h1 M1 rho1 H1 u st1 er1 hr1 o1 ry => ?_
  refine tM.of er1 hr1 (Out.bind o1) fun z h2 M2 rho2 H2 u2 st2 er2 hr2 o2 rz => ?_
  refine ⟨M2, rho2, h2, y, z, x, hr2, ry.step st2 hr1, rz, (rv.step st1 hr).step st2 hr1, (Out.bind o2).imp fun _ h3 M3 rho3 H3 st3 hr3 o3 => ?_⟩
  exact o3.now hr3 _ (er2.step st3 hr2)

def putP (f : Nm) (v : PV) : List (Nm × PV) → List (Nm × PV)
  | [] => [(f, v)]
  | (g, x) :: r => bif g == f then (g, v) :: r else (g, x) :: putP f v r
theorem FRs.len : ∀ {fs : List (Nm × PV)} {gs : List (Str × V)}, FRs w M rho H fs gs → gs.length = fs.length
  | _, _, .nil => rfl
  | _, _, .cons a b => by rw [List.length_cons, List.length_cons, b.len]
/-- o.f = e -/
def mSetF (cs : List Nat) (f : Nm) (mo me : ME) : MS := fun env h => (me env h).bind fun v h1 => (mo env h1).bind fun o h2 => match o with
  | .ref n => match h2[n]? with
    | some (.ins c fs) => bif cs.contains c && decide (fs.length < 1000) then .ok (.nx env) (h2.set n (.ins c (putP f v fs))) else .stuck
    | _ => .stuck
  | _ => .stuck
def mAug (i : Nat) (op : O2) (me : ME) : MS := fun env h => match env[i]? with
  | some (some x) => (me env h).bind fun y h1 => (op h1 x y).bind fun z h2 => .ok (.nx (env.set i (some z))) h2
  | _ => .stuck
/-- a, b, c = x, y, z: plain local names -/
def mPar3 (i j l : Nat) (ma mb mc : ME) : MS := fun env h => (ma env h).bind fun x h1 => (mb env h1).bind fun y h2 => (mc env h2).bind fun z h3 => .ok (.nx (((env.set i (some x)).set j (some y)).set l (some z))) h3
end
end MC

end
section
set_option maxRecDepth 100000
set_option maxHeartbeats 4000000
namespace MC
open PySem PySem.Spec PyProof.Rows L2

def reprD (h : PH) (x : PV) : Option (List Nat) := match toD h DEP x with
  | some d => bif PyData.showable d && (!d.hasDict && (decide (d.depth ≤ 60) && decide (d.shown.length ≤ LIM))) then some d.shown.cps.toList else none
  | none => none
def isRefV : PV → Bool
  | .tup _ => true
  | .scr _ => true
  | .ref _ => true
  | _ => false
def bRepr : OC := fun h xs => match xs with
  | [x] => bif isRefV x then (match reprD h x with
    | some s => .ok (.str s) h
    | none => .stuck) else .stuck
  | _ => .stuck
section
variable {w : Wo} {EX : XC} {X : Cx} {k : Nat} {M : Addr → Prop} {rho : List Addr} {H : Hp} {h : PH}
theorem b_repr {hh : Bool} (C : CxtG hh w k X) : CallR X (.builtin "repr") (rA w EX bRepr) := by
  intro pins s σ H xs us Q I r hh
  obtain ⟨M, rho, h, ps, hr, rs, o⟩ := hh
  unfold bRepr at o
  split at o
  · rename_i x
    obtain ⟨v, rfl, rv⟩ := vrs1 rs
    obtain ⟨u, rfl, ru⟩ := vals1 r
    obtain ⟨hx, o⟩ := Out.bif o
    obtain ⟨a, rfl⟩ : ∃ a, v = .ref a := by
      cases rv <;> first | exact ⟨_, rfl⟩ | exact absurd hx (by simp [isRefV])
    obtain rfl : u = Value.ref a := ru
    unfold reprD at o
    split at o
    · rename_i z ez
      split at ez
      · rename_i d ed
        cases hc : (PyData.showable d && (!d.hasDict && (decide (d.depth ≤ 60) && decide (d.shown.length ≤ LIM)))) with
        | false => rw [hc] at ez; cases ez
        | true =>
          rw [hc] at ez
          cases ez
          simp only [Bool.and_eq_true, decide_eq_true_eq, Bool.not_eq_true'] at hc
          obtain ⟨c1, c2, c3, c4⟩ := hc
          have dp := toD_dp hr _ _ _ _ ed rv
          rw [← C.hK] at dp
          obtain ⟨as, rd⟩ := Dp.reads I d _ _ dp (show RelV (V.ref a) (Value.ref a) from rfl)
          have hu := C.units
          refine repr_of_reads' rd c1 (PyData.noDict_hsm c2) C.grd (by omega) (fun _ _ e => e) (fun h' u tk hk => ?_) (by rw [lim_eq]; exact c4)
          exact ⟨.str d.shown, H, I.kept (t' := tk) hk, ⟨u, rfl⟩, by
            have := o.now hr _ (.str _)
            rw [show (⟨d.shown.cps.toList.toArray⟩ : Str) = d.shown from S_of _] at this
            exact this⟩
      · cases ez
    · exact (show False from o).elim
  · exact (show False from o).elim

def mRev (m : ME) : ME := fun env h => (m env h).bind fun x h1 => match x with
  | .str s => bif decide (s.length ≤ LIM) then .ok (.str s.reverse) h1 else .stuck
  | x => match lstP h1 x with
    | some ys => .ok (.ref h1.length) (h1 ++ [.lst ys.reverse])
    | none => .stuck
theorem VRs.reverse {xs : List PV} {vs : List V} (r : VRs w M rho H xs vs) : VRs w M rho H xs.reverse vs.reverse := by
  induction xs generalizing vs with
  | nil => cases r; exact .nil
  | cons x xs ih =>
    cases r with
    | cons a b =>
      rw [List.reverse_cons, List.reverse_cons]
      exact (ih b).append (.cons a .nil)
end
end MC

end
section
set_option maxRecDepth 100000
set_option maxHeartbeats 4000000
namespace MC
open PySem PySem.Spec PyProof.Rows L2

set_option maxHeartbeats 8000000 in
section
variable {prog : Program} {w : World} {A : Around} {E : Value → Shared → Prop} {s : Shared}
end

/-- the pairs of numbers and items -/
def numbered : Nat → List PV → List PV
  | _, [] => []
  | i, x :: r => .tup [.int i, x] :: numbered (i + 1) r
/-- what must stay of a source -/
def wtOf (ys : List PV) : PV → Wt
  | .ref n => [(n, ys)]
  | _ => []
def miEnum (ma : MA) : MI := fun env h => (ma env h).bind fun xs h1 => match xs with
  | [x] => match seqP h1 x with
    | some ys => .ok (numbered 0 ys, wtOf ys x) h1
    | none => .stuck
  | _ => .stuck
section
variable {w : Wo} {EX : XC} {X : Cx} {k : Nat} {M : Addr → Prop} {rho : List Addr} {H : Hp} {h : PH}
end
end MC

end
section
set_option maxRecDepth 100000
set_option maxHeartbeats 4000000
namespace MC
open PySem PySem.Spec PyProof.Rows L2

def pairs : List PV → List PV → List PV
  | x :: xs, y :: ys => .tup [x, y] :: pairs xs ys
  | _, _ => []
def miZip (ma : MA) : MI := fun env h => (ma env h).bind fun xs h1 => match xs with
  | [x, y] => match x, y with
    | .tup xs, .tup ys => .ok (pairs xs ys, []) h1
    | x, y => match lstP h1 x, lstP h1 y with
      | some xs, some ys => .ok (pairs xs ys, wtOf xs x ++ wtOf ys y) h1
      | _, _ => .stuck
  | _ => .stuck
section
variable {w : Wo} {EX : XC} {X : Cx} {k : Nat} {M : Addr → Prop} {rho : List Addr} {H : Hp} {h : PH}
end
end MC

end
section
set_option maxRecDepth 100000
set_option maxHeartbeats 4000000
namespace MC
open PySem PySem.Spec PyProof.Rows L2

theorem kit_ct {K : PySem.W.Frag} {C : Addr} {T : String} {b : Bool} (h1 : PySem.W.kitMeta T = true) (h3 : PySem.W.subIn K (.ref C) (.type T) = some b) : PySem.W.kitOne K (.ref C) (.type T) = some b := by
  unfold PySem.W.kitOne PySem.W.kitCls
  have e : (Value.ref C == Value.type T) = false := rfl
  simp only [e, h1, h3]
  rfl
theorem kit_cc {K : PySem.W.Frag} {C : Addr} : PySem.W.kitOne K (.ref C) (.ref C) = some true := if_pos (beq_self_eq_true _)
abbrev EXF : XC := fun _ _ _ _ _ _ => False
abbrev exF : XK → XC := fun _ => EXF
/-- a call of a def; a class made and taken over as a value -/
@[reducible] def opF (m : MF) (ix : List Nat) (dp : List PV) : OC := fun h xs => callG takeBack m (gI ix (xs ++ dp)) h
@[reducible] def opC (c : Nat) (m : MF) (ix : List Nat) (dp : List PV) : OC := fun h xs => callG takeFrz (initM c m ix dp) xs h
/-- nothing is tracked but the script and the empty tables at Ps -/
def OnlyP (Ps : List Addr) (H : Hp) : Prop := ∀ b, H b = none ∨ (b ∈ Ps ∧ H b = some (.tbl #[])) ∨ ∃ o xs, H b = some (.frz o (.lst xs))
/-- the law's reading: the script is an unchanging list of ints -/
theorem law_reads {w : Wo} {EX : XC} {m : MF} {H : Hp} {a : Addr} {ns : List Int} {Ps : List Addr} (hO : OnlyP Ps H) (hP : ∀ p ∈ w.T, H p.1 = some (.tbl #[])) (hS : SqL w.K H a (ns.map V.int)) (hm : ∃ h, m [.scr (ns.map PV.int)] [] = .ok (.bl true) h) :
    spM w EX m [.ref a] H fun v _ => v = .bl true := by
  obtain ⟨h, hm⟩ := hm
  have rs : ∀ ns : List Int, VRs w (fun _ => False) [] H (ns.map PV.int) (ns.map V.int) := fun ns => by
    induction ns with
    | nil => exact .nil
    | cons n r ih => exact .cons (.int n) ih
  have hL : ScrL w (fun _ => False) H a (ns.map V.int) := by
    rcases hS with (q | ⟨o, q⟩) | q
    · rcases hO a with z | ⟨_, z⟩ | ⟨o, xs, z⟩ <;> (rw [q] at z; cases z)
    · exact .inr ⟨o, q, fun z => z⟩
    · exact .inl q
  refine ⟨fun _ => False, [], [.scr (ns.map PV.int)], [], .cons (.scr hL (rs ns)) .nil, ⟨rfl, List.nodup_nil, (fun _ z => nomatch z), (fun _ z => z.elim), (fun n o z => by simp at z), fun p hp => ⟨#[], hP p hp, True.intro, fun pos cv hc => ?_⟩⟩, ?_⟩
  · simp [codeAmong] at hc
  rw [hm]
  intro M' rho' H' st hr v rv
  cases rv
  rfl
/-- the law called: cs, the code objects that make lambdas, and their tables -/
theorem law_run {P : Program} {W : World} {K : PySem.W.Frag} {mg mb : Str → Option Value} {k : Nat} {fa a : Addr} {cs : List (Addr × Addr)} {fd : FuncData} {x : Str} {m : MF} {s : Shared} {vs : List Value} {ns : List Int}
    (kin : K.In s.heap) (nsG : s.heap.Ns mainGlobals mg) (nsB : s.heap.Ns builtinsNs mb) (isB : ∀ y : Str, y ≠ "__name__" → mb y = bootBuiltins y) (noL : s.heap.NoLimit) (gen0 : s.gens = #[])
    (atT : ∀ p ∈ cs, s.heap.get? p.2 = some { cls := .none, data := .fields #[] }) (noT : ∀ p ∈ cs, K.lookup p.2 = none) (codes : ∀ p ∈ cs, PySem.W.CodeHd s.heap p.1 p.2)
    (bmT : ∃ (bm : Addr) (ob : Obj), mg "__builtins__" = some (.ref bm) ∧ bm ≠ builtinsNs ∧ s.heap.get? bm = some ob ∧ ob.cls = .type "module" ∧ ob.dict = some builtinsNs ∧ ob.data = .plain)
    (at0 : s.heap.get? a = some { cls := .type "list", data := .seq vs.toArray }) (areI : IntsAre vs ns) (le : ns.length ≤ sizeLine) (room : Room k callerA)
    (F : ∀ base : Heap, K.In base → base.Ns mainGlobals mg → (∀ p ∈ cs, LamX.TabB base mg p.1 p.2) → ∃ w : Wo, w.K = K ∧ (∀ p ∈ w.T, p.1 ∈ cs.map (·.2)) ∧ FnM P W w mg base CX0 exF k fa fd [x] m) (bind : ∀ (s : Shared) (u : Value), BindsTo s fd ⟨[u], []⟩ [(x, u)])
    (hm : ∃ h, m [.scr (ns.map PV.int)] [] = .ok (.bl true) h) :
    codeAny (model P W) callerA (.call (.ref fa) ⟨[.ref a], []⟩) (fun r s' => r = .ok (.ret (.bool true)) ∧ OldK s.heap s'.heap ∧ s'.os = s.os ∧ AllBare s'.gens) s := by
  have vals := vals_ints areI
  have sz := areI.length
  have tabAt : ∀ b ∈ cs.map (·.2), s.heap.get? b = some { cls := .none, data := .fields #[] } := fun b hb => by
    obtain ⟨p, hp, rfl⟩ := List.mem_map.mp hb
    exact atT p hp
  have aNo : a ∉ cs.map (·.2) := fun z => by
    have y := tabAt a z
    rw [at0] at y
    exact Data.noConfusion (congrArg Obj.data (Option.some.inj y) : Data.seq vs.toArray _ = Data.fields #[])
  have main : ∀ H : Hp, (∀ b ∈ cs.map (·.2), H b = some (.tbl #[])) → OnlyP (cs.map (·.2)) H → SqL K H a (ns.map V.int) → HOk P W H s.heap → (∀ b, H b ≠ none → b = a ∨ b ∈ cs.map (·.2)) → (H a ≠ none → K.lookup a = none) →
      codeAny (model P W) callerA (.call (.ref fa) ⟨[.ref a], []⟩) (fun r s' => r = .ok (.ret (.bool true)) ∧ OldK s.heap s'.heap ∧ s'.os = s.os ∧ AllBare s'.gens) s := by
    intro H tabs only sq ok onlyA noK
    have none_of : ∀ {b : Addr} {ob : Obj}, s.heap.get? b = some ob → (∀ z n, ob.data ≠ .seq z n) → ob.data ≠ .fields #[] → H b = none := fun {b ob} e n1 n2 => by
      cases q : H b with
      | none => rfl
      | some u =>
        rcases onlyA b (by rw [q]; exact Option.some_ne_none _) with z | z
        · subst z; rw [at0] at e; cases e; exact absurd rfl (n1 _ _)
        · rw [tabAt b z] at e; cases e; exact absurd rfl n2
    have kept : ∀ {b : Addr} {mm : Str → Option Value}, s.heap.Ns b mm → (hidT s.heap H).Ns b mm := fun {b mm} ⟨ob, es, ep, e, d, r⟩ =>
      ⟨ob, es, ep, hidT_get e (none_of e (fun z n y => by rw [d] at y; cases y) fun y => by rw [d] at y; cases y), d, r⟩
    have inK : K.In (hidT s.heap H) := fun b ob e => hidT_get (kin b ob e) (by
      cases q : H b with
      | none => rfl
      | some u =>
        rcases onlyA b (by rw [q]; exact Option.some_ne_none _) with z | z
        · subst z
          rw [noK (by rw [q]; exact Option.some_ne_none _)] at e
          cases e
        · obtain ⟨p, hp, rfl⟩ := List.mem_map.mp z
          rw [noT p hp] at e
          cases e)
    have tb : ∀ p ∈ cs, LamX.TabB (hidT s.heap H) mg p.1 p.2 := fun p hp => by
      have hpT := atT p hp
      refine ⟨?_, ?_, fun z => ?_⟩
      · obtain ⟨o, us, file, tf, flags, tg, inF, text, tt, e1, r1, r2, r3, r⟩ := codes p hp
        refine ⟨o, us, file, tf, flags, tg, inF, text, tt, hidT_get e1 (none_of e1 (fun z n y => by rw [r2] at y; cases y) fun y => ?_), r1, r2, r3, r⟩
        rw [r2] at y
        cases y
        simp at r3
      · obtain ⟨bm, ob, b1, b2, b3, b4, b5, b6⟩ := bmT
        refine ⟨bm, ob, b1, b2, fun q => ?_, fun q => ?_, hidT_get b3 (none_of b3 (fun z n y => by rw [b6] at y; cases y) fun y => by rw [b6] at y; cases y), b4, b5, b6⟩
        · obtain ⟨o, es, ep, e, hd, _⟩ := nsG
          subst q
          rw [e] at b3
          cases b3
          rw [hd] at b6
          cases b6
        · subst q
          rw [hpT] at b3
          cases b3
          cases b6
      · obtain ⟨o, es, ep, e, hd, _⟩ := nsG
        rw [z, hpT] at e
        cases e
        cases hd
    obtain ⟨w, hw, hT, FM⟩ := F _ inK (kept nsG) tb
    have md : Mod K mg (hidT s.heap H) := ⟨inK, kept nsG, ⟨mb, kept nsB, isB⟩, by obtain ⟨mc, z1, z2⟩ := noL; exact ⟨mc, kept z1, z2⟩⟩
    have env : Env0 P W w.K mg (hidT s.heap H) callerA [] s H := by
      rw [hw]
      exact ⟨rfl, md, fun b ob e => of_hidT e, Nat.le_of_eq (hidT_size _ _), trivial, fun b z => by simp [frs] at z, ok, .of_eq gen0⟩
    refine codeAny_mono (FM.run callerA [] s H ⟨[.ref a], []⟩ [.ref a] [.ref a] (fun v _ => v = .bl true) (fun _ _ _ => False) room rfl env (bind s (.ref a)) (.cons rfl .nil) rfl (law_reads only (fun p hp => tabs _ (hT p hp)) (by rw [hw]; exact sq) hm)) fun r s' q => ?_
    rcases r with e | fl
    · exact (show False from q).elim
    · cases fl <;> try exact (show False from q).elim
      rename_i u
      obtain ⟨v, H', e1, e2, un, ok2, rv, ev⟩ := q
      cases (show v = V.bl true from ev)
      cases (show u = Value.bool true from rv)
      have other : ∀ b ob, b ∉ cs.map (·.2) → s.heap.get? b = some ob → s'.heap.get? b = some ob := fun b ob nb e => by
        rcases only b with z | ⟨z, _⟩ | ⟨o2, xs, z⟩
        · exact un.keep b ob e z (fun y => by simp [frs] at y) (by simp)
        · exact absurd z nb
        · obtain ⟨y1, _⟩ := ok b _ z
          obtain ⟨y2, _⟩ := ok2 b _ (un.frzs b o2 _ z)
          rw [e] at y1
          cases y1
          exact y2
      have grew : ∀ p ∈ cs, ∃ more : Array Value, s'.heap.get? p.2 = some { cls := .none, data := .fields more } := fun p hp => by
        obtain ⟨more, z⟩ := un.tbls p.2 #[] (tabs _ (List.mem_map.mpr ⟨p, hp, rfl⟩))
        exact ⟨_, ok2 p.2 _ z⟩
      refine ⟨rfl, ⟨fun b ob e => ?_, fun b ob e => ?_⟩, e1, e2⟩
      · by_cases hb : b ∈ cs.map (·.2)
        · obtain ⟨p, hp, rfl⟩ := List.mem_map.mp hb
          obtain ⟨more, hmm⟩ := grew p hp
          rw [atT p hp] at e
          cases e
          exact .inr (.inl ⟨((codes p hp).tab (atT p hp)).isCodeTable, rfl, #[], more, rfl, by rw [Array.empty_append]; exact hmm⟩)
        · exact .inl (other b ob hb e)
      · by_cases hb : b ∈ cs.map (·.2)
        · obtain ⟨p, hp, rfl⟩ := List.mem_map.mp hb
          obtain ⟨more, hmm⟩ := grew p hp
          exact ⟨_, hmm⟩
        · exact ⟨ob, other b ob hb e⟩
  rcases hk : K.lookup a with _ | o
  · refine main (fun b => if b = a then some (.frz { cls := .type "list", data := .seq vs.toArray } (.lst (ns.map V.int))) else if b ∈ cs.map (·.2) then some (.tbl #[]) else none) (fun b hb => ?_) (fun b => ?_) (.inl (.inr ⟨_, if_pos rfl⟩)) (fun b u z => ?_) (fun b z => ?_) fun _ => hk
    · exact (if_neg (fun z : b = a => aNo (z ▸ hb))).trans (if_pos hb)
    · by_cases e : b = a
      · exact .inr (.inr ⟨_, _, if_pos e⟩)
      · by_cases e2 : b ∈ cs.map (·.2)
        · exact .inr (.inl ⟨e2, (if_neg e).trans (if_pos e2)⟩)
        · exact .inl ((if_neg e).trans (if_neg e2))
    · by_cases e : b = a
      · cases (if_pos e).symm.trans z
        subst e
        exact ⟨at0, by rw [List.length_map]; exact le, vs, _, vals, at0⟩
      · have z := (if_neg e).symm.trans z
        by_cases e2 : b ∈ cs.map (·.2)
        · cases (if_pos e2).symm.trans z
          exact tabAt b e2
        · cases (if_neg e2).symm.trans z
    · by_cases e : b = a
      · exact .inl e
      · by_cases e2 : b ∈ cs.map (·.2)
        · exact .inr e2
        · exact absurd ((if_neg e).trans (if_neg e2)) z
  · have e := kin a o hk
    rw [at0] at e
    cases e
    refine main (fun b => if b ∈ cs.map (·.2) then some (.tbl #[]) else none) (fun b hb => if_pos hb) (fun b => ?_) (.inr ⟨_, vs.toArray, _, hk, rfl, rfl, rfl, by rw [List.size_toArray, sz]; exact le, by simpa using vals⟩) (fun b u z => ?_) (fun b z => ?_) fun z => absurd (if_neg aNo) z
    · by_cases e2 : b ∈ cs.map (·.2)
      · exact .inr (.inl ⟨e2, if_pos e2⟩)
      · exact .inl (if_neg e2)
    · by_cases e2 : b ∈ cs.map (·.2)
      · cases (if_pos e2).symm.trans z
        exact tabAt b e2
      · cases (if_neg e2).symm.trans z
    · by_cases e2 : b ∈ cs.map (·.2)
      · exact .inr e2
      · exact absurd (if_neg e2) z

/-- the walk: from the law's mirror, true on every script; with tables -/
theorem walkMT {l : PySem.W.OpenLaw} {n k : Nat} {q : Program} {loose : List Str} {XP : (Str → Option Value) → Heap → Prop} {YP : World → Heap → Prop} {d : DefRec} {K : Params → PySem.W.Frag} {x : Str} {m : MF}
    (hn : l.most = some n) (le : n ≤ sizeLine) (hdf : d.params.defaults = []) (room : Room k callerA) (hY : ∀ (W : World) (h : Heap), YP W h → (K W.params).In h)
    (F : ∀ (W : World) (mg : Str → Option Value) (fa : Addr) (h : Heap), YP W h → (K W.params).In h → h.Ns mainGlobals mg → mg d.name = some (.ref fa) →
      ∃ (fd : FuncData) (cs : List (Addr × Addr)), (∀ (s : Shared) (u : Value), BindsTo s fd ⟨[u], []⟩ [(x, u)]) ∧ (∀ p ∈ cs, h.get? p.2 = some (PySem.W.tabObj #[]) ∧ (K W.params).lookup p.2 = none ∧ PySem.W.codeHdIn (K W.params) p.1 p.2 = true) ∧
        ∀ base : Heap, (K W.params).In base → base.Ns mainGlobals mg → (∀ p ∈ cs, LamX.TabB base mg p.1 p.2) → ∃ w : Wo, w.K = K W.params ∧ (∀ p ∈ w.T, p.1 ∈ cs.map (·.2)) ∧ FnM l.prog W w mg base CX0 exF k fa fd [x] m)
    (hm : ∀ ns : List Int, ns.length ≤ n → ∃ h, m [.scr (ns.map PV.int)] [] = .ok (.bl true) h) : PySem.W.WalkO q loose XP YP l.row.toRowW d [] (fun f vs => PySem.call f vs) := by
  refine Att.attach_call hn hdf fun W s0 s1 mg mb fa o pm cd doc a vs ns G Y ho hd hcd hmg hobj areI hlen gen0 => ?_
  obtain ⟨fd, cs, hb, hC, hF⟩ := F W mg fa _ Y (hY W _ Y) G.T.g hmg
  exact law_run (hY W _ Y) G.T.g G.T.b G.T.builtins G.T.nolimit gen0 (fun p hp => (hC p hp).1) (fun p hp => (hC p hp).2.1) (fun p hp => PySem.W.codeHd_of_K (hY W _ Y) (hC p hp).2.2) G.T.bmain hobj areI (Nat.le_trans hlen le) room hF hb (hm ns hlen)
end MC

end
section
set_option maxRecDepth 100000
set_option maxHeartbeats 4000000
namespace MC
open PySem PySem.Spec PyProof.Rows L2

section
variable {w : Wo} {EX : XC} {X : Cx} {k : Nat} {M : Addr → Prop} {rho : List Addr} {H : Hp} {h : PH}
theorem KRs.append : ∀ {as bs : List (PV × PV)} {cs ds : List (Key × V)}, KRs w M rho H as cs → KRs w M rho H bs ds → KRs w M rho H (as ++ bs) (cs ++ ds)
  | _, _, _, _, .nil, s => s
  | _, _, _, _, .cons k r t, s => .cons k r (KRs.append t s)
def mDict0 : ME := fun _ h => .ok (.ref h.length) (h ++ [.dic false []])
/-- the pairs, read one behind the other -/
structure PPm (X : Cx) (w : Wo) (EX : XC) (pos : Pos) (keys : List (Option Expr)) (values : List Expr) (m : MA) : Prop where
  run : ∃ trs : List (TE × TE), PPs X pos keys values trs ∧ ∀ (σ : L2.St) (H : Hp) (Q : List (V × V) → Hp → Prop), tA w EX m σ H (fun vs H1 => ∀ ps : List (V × V), vs = ps.flatMap (fun p => [p.1, p.2]) → Q ps H1) → tPairs trs σ H Q
theorem me_dict0 {pos : Pos} : PE X (.Dict [] [] pos) (tM w EX mDict0) := by
  refine PE.imp pe_dnewK fun σ H Q hh => ?_
  obtain ⟨M, rho, env, h, er, hr, o⟩ := hh
  intro p hp
  have st := Step.alloc (M := M) (rho := rho) (o := .dK []) hp
  have hr1 := hr.alloc hp (po := .dic false []) ⟨[], upd_same, .nil⟩
  have hi : (rho ++ [p])[h.length]? = some p := by
    rw [List.getElem?_append_right (by rw [hr.len]; exact Nat.le_refl _), hr.len, Nat.sub_self]; rfl
  exact o _ _ _ st hr1 _ (.ref hi)

end
end MC

end
section
set_option maxRecDepth 100000
set_option maxHeartbeats 4000000
namespace MC
open PySem PySem.Spec PyProof.Rows L2

section
variable {w : Wo} {EX : XC} {X : Cx} {k n c : Nat} {M : Addr → Prop} {rho : List Addr} {H : Hp} {h : PH}
variable {f A : Addr} {ks : List Str} {op : OC} {m : Nm} {pos apos : Pos} {e o : Expr} {es : List Expr} {kws : List Keyword} {ma mk : MA} {mo : ME} {pl : Sem Bool}
end
end MC

end
section
set_option maxRecDepth 100000
set_option maxHeartbeats 4000000
namespace MC
open PySem PySem.Spec PyProof.Rows L2

section
variable {w : Wo} {X : Cx} {k n : Nat} {f : Addr} {fd : FuncData} {ps : List Str} {m : MF} {ix : List Nat} {M : Addr → Prop} {rho : List Addr} {h : PH} {pins : List (Addr × Obj)} {σ : L2.St} {H : Hp} {s : Shared}
end
end MC

end
section
set_option maxRecDepth 100000
set_option maxHeartbeats 4000000
namespace MC
open PySem PySem.Spec PyProof.Rows L2

section
variable {w : Wo} {EX : XC} {X : Cx} {k : Nat} {M : Addr → Prop} {rho : List Addr} {H : Hp} {h : PH}
end
end MC

end
section
set_option maxRecDepth 100000
set_option maxHeartbeats 4000000
namespace MC
open PySem PySem.Spec PyProof.Rows L2

/-- a class's own special method -/
structure SpM (P : Program) (W : World) (w : Wo) (mg : Str → Option Value) (base : Heap) (c : Nat) (nm : Str) (k n : Nat) (m : MF) (ix : List Nat) : Prop where
  ex : ∃ A f fd ps, w.cl c = some A ∧ PySem.W.findIn w.K (.ref A) nm = some (some (.ref f)) ∧ PySem.W.isFn w.K (.ref f) = true ∧ FnM P W w mg base CX0 exF k f fd ps m ∧ Bd w.K fd ps [] n [] ix
section
variable {w : Wo} {EX : XC} {X : Cx} {k c : Nat} {m : MF} {ix : List Nat} {M : Addr → Prop} {rho : List Addr} {H : Hp} {h : PH}
variable {n : Nat} {f A : Addr} {op : OC} {m : Nm} {pos apos : Pos} {e o : Expr} {es : List Expr} {ks : List Str} {kws : List Keyword} {ma mk : MA} {mo : ME} {pl : Sem Bool}
end
end MC

end
section
set_option maxRecDepth 100000
set_option maxHeartbeats 4000000
namespace MC
open PySem PySem.Spec PyProof.Rows L2

def findT (s : List Nat) : List (List Nat × PV) → Option PV
  | [] => none
  | (k, v) :: r => bif k == s then some v else findT s r
/-- the i-th global is a written dict with these rows -/
structure KTab (w : Wo) (W : World) (i : Nat) (rows : List (List Nat × PV)) : Prop where
  ex : ∃ d es n, w.gv i = some (.ref d) ∧ KDict w.K W d es n ∧ ∀ s : List Nat, (findT s rows = none ∧ PySem.W.nsIn w.K d ⟨s.toArray⟩ = some none) ∨
    ∃ y u v, findT s rows = some y ∧ PySem.W.nsIn w.K d ⟨s.toArray⟩ = some (some u) ∧ RelV v u ∧ ∀ M rho H, VR w M rho H y v
section
variable {w : Wo} {EX : XC} {X : Cx} {k : Nat} {rows : List (List Nat × PV)} {i : Nat}
end
/-- the globals by number -/
def gvOf (l : List (Nat × Addr)) : Nat → Option V := fun i => (l.lookup i).map V.ref
theorem gvn_of {l : List (Nat × Addr)} : ∀ i v, gvOf l i = some v → v ≠ .non := fun i v e => by
  unfold gvOf at e
  obtain ⟨a, _, rfl⟩ := Option.map_eq_some_iff.mp e
  exact fun z => nomatch z
inductive RowsOk (w : Wo) : List (Int × Str × Tok × Value) → List (List Nat × PV) → Prop
  | nil : RowsOk w [] []
  | cons {h : Int} {z : Str} {t : Tok} {u : Value} {k : List Nat} {y : PV} {v : V} {r r'} : z = ⟨k.toArray⟩ → RelV v u → (∀ M rho H, VR w M rho H y v) → RowsOk w r r' → RowsOk w ((h, z, t, u) :: r) ((k, y) :: r')
end MC

end
section
set_option maxRecDepth 100000
set_option maxHeartbeats 4000000
namespace MC
open PySem PySem.Spec PyProof.Rows L2

def strI (i : Int) : List Nat := (Str.ofString (toString i)).cps.toList
theorem strI_eq (i : Int) : (⟨(strI i).toArray⟩ : Str) = Str.ofString (toString i) := by unfold strI; simp
def bigI : Nat := 1920
def fitI (i : Int) : Bool := decide (i.natAbs.log2 < bigI)
section
variable {w : Wo} {EX : XC} {X : Cx} {k : Nat} {M : Addr → Prop} {rho : List Addr} {H : Hp} {h : PH}
end
end MC

end
section
set_option maxRecDepth 100000
set_option maxHeartbeats 4000000
namespace MC
open PySem PySem.Spec PyProof.Rows L2 SkE
def trueT : List Nat := [84, 114, 117, 101]
def falseT : List Nat := [70, 97, 108, 115, 101]
def noneT : List Nat := [78, 111, 110, 101]
def reprS (s : List Nat) : List Nat := (reprText (S s)).cps.toList
def bReprA : OC := fun h xs => match xs with
  | [.non] => .ok (.str noneT) h
  | [.bl b] => .ok (.str (bif b then trueT else falseT)) h
  | [.int i] => bif fitI i then .ok (.str (strI i)) h else .stuck
  | [.str s] => bif decide ((reprText (S s)).length ≤ LIM) then .ok (.str (reprS s)) h else .stuck
  | _ => bRepr h xs
section
variable {w : Wo} {EX : XC} {X : Cx} {k : Nat} {M : Addr → Prop} {rho : List Addr} {H : Hp} {h : PH}
theorem b_reprA {hh : Bool} (C : CxtG hh w k X) : CallR X (.builtin "repr") (rA w EX bReprA) := by
  intro pins s σ H xs us Q I r hh
  obtain ⟨M, rho, h, ps, hr, rs, o⟩ := hh
  unfold bReprA at o
  split at o
  · obtain ⟨v, rfl, rv⟩ := vrs1 rs
    cases rv
    obtain ⟨u, rfl, ru⟩ := vals1 r
    obtain rfl : u = Value.none := ru
    exact PySem.P.repr_of_none ⟨.str _, H, I.tok _, ⟨_, rfl⟩, o.now hr _ (.str noneT)⟩
  · rename_i b
    obtain ⟨v, rfl, rv⟩ := vrs1 rs
    cases rv
    obtain ⟨u, rfl, ru⟩ := vals1 r
    obtain rfl : u = Value.bool b := ru
    refine PySem.P.repr_of_bool ⟨.str _, H, I.tok _, ⟨_, rfl⟩, ?_⟩
    have := o.now hr _ (.str (bif b then trueT else falseT))
    cases b <;> exact this
  · rename_i i
    obtain ⟨v, rfl, rv⟩ := vrs1 rs
    cases rv
    obtain ⟨hf, o⟩ := Out.bif o
    obtain ⟨u, rfl, t, rfl⟩ := vals1 r
    exact PySem.P.repr_of_int (of_decide_eq_true hf) ⟨.str _, H, I.tok _, ⟨_, rfl⟩, o.now hr _ (by rw [← strI_eq]; exact .str _)⟩
  · rename_i z
    obtain ⟨v, rfl, rv⟩ := vrs1 rs
    cases rv
    obtain ⟨hf, o⟩ := Out.bif o
    obtain ⟨u, rfl, t, rfl⟩ := vals1 r
    refine PySem.P.repr_of_str ⟨.str _, H, I.tok _, ⟨_, rfl⟩, ?_⟩ (by rw [lim_eq]; exact of_decide_eq_true hf)
    have := o.now hr _ (.str (reprS z))
    unfold reprS at this
    rw [show (⟨(reprText (S z)).cps.toList.toArray⟩ : Str) = reprText (S z) from S_of _] at this
    exact this
  · exact b_repr C pins s σ H xs us Q I r ⟨M, rho, h, ps, hr, rs, o⟩
end
end MC

end
section
set_option maxRecDepth 100000
set_option maxHeartbeats 4000000
namespace MC
open PySem PySem.Spec PyProof.Rows L2
open PySem.W (Looks)
section
variable {w : Wo} {EX : XC} {X : Cx} {k c : Nat} {m : MF} {ix : List Nat} {M : Addr → Prop} {rho : List Addr} {H : Hp} {h : PH} {tb cs : List (Nat × Bool)}
end
end MC

end
section
set_option maxRecDepth 100000
set_option maxHeartbeats 4000000
namespace PySem.W
open PySem PySem.Calls PyProof.Rows Builtin Builtin.ObjectAttr Builtin.Getset_descriptor
section
variable {prog : Program} {w : World} {A : Around} {E : Value → Shared → Prop} {h₀ h : Heap} {g : Array GenState} {d : Drawn} {t : Nat} {os : OsState} {K : Frag} {x C L f : Addr} {m : Str → Option Value} {ox : Obj} {od : Option Obj} {y tb : Value}
end
end PySem.W
namespace MC
open PySem PySem.Spec PyProof.Rows L2
section
variable {w : Wo} {EX : XC} {X : Cx} {k c : Nat} {m : MF} {ix : List Nat}
end
end MC

end
section
set_option maxRecDepth 100000
set_option maxHeartbeats 4000000
namespace PySem.W
open PySem PySem.Calls PyProof.Rows Builtin Builtin.ObjectAttr Builtin.Getset_descriptor
section
variable {prog : Program} {w : World} {A : Around} {E : Value → Shared → Prop} {s : Shared} {K : Frag} {x C L f : Addr} {h₀ : Heap} {m : Str → Option Value} {ox : Obj} {od : Option Obj}
end
end PySem.W
namespace MC
open PySem PySem.Spec PyProof.Rows L2
section
variable {w : Wo} {EX : XC} {X : Cx} {k c : Nat} {m : MF} {ix : List Nat} {M : Addr → Prop} {rho : List Addr} {H : Hp} {h : PH}
end
end MC

end
section
set_option maxRecDepth 100000
set_option maxHeartbeats 4000000
namespace MC
open PySem PySem.Spec PyProof.Rows L2

def eqK (a b : PV) : Bool := match nkP a, nkP b with
  | some x, some y => decide (x = y)
  | _, _ => false
section
variable {w : Wo} {EX : XC} {X : Cx} {k : Nat} {M : Addr → Prop} {rho : List Addr} {H : Hp} {h : PH} {pins : List (Addr × Obj)} {σ : L2.St} {s : Shared}
mutual
theorem VR.nested (I : Inv X pins σ H s) (hK : X.K = w.K) : ∀ {x : PV} {v : V} {nk : NestedKey} {u : Value}, VR w M rho H x v → nkP x = some nk → RelV v u → NestedIs s.heap nk u
  | _, _, _, _, .non, e, r => by cases e; cases r; exact .none
  | _, _, _, _, .bl b, e, r => by cases e; cases r; exact .bool rfl
  | _, _, _, _, .int i, e, r => by cases e; obtain ⟨t, rfl⟩ := r; exact .int _ _
  | _, _, _, _, .str i, e, r => by cases e; obtain ⟨t, rfl⟩ := r; exact .text _ _
  | _, _, _, _, .tup (xs := xs) q s, e, r => by
    cases r
    unfold nkP at e
    cases e1 : nkPs xs with
    | none => rw [e1] at e; cases e
    | some ks =>
      rw [e1] at e; cases e
      rw [← hK] at q
      obtain ⟨its, rv, p, hz⟩ := I.tuple q
      obtain ⟨o, h1, h2, n, h3⟩ := p
      exact .tup h1 h2 h3 (by simpa using VRs.nested I hK s e1 rv)
  | _, _, _, _, .scr _ _, e, r => by cases e
  | _, _, _, _, .rdic _ _ _, e, r => by cases e
  | _, _, _, _, .ins _ _ _ _, e, r => by cases e
  | _, _, _, _, .ref _, e, r => by cases e
  | _, _, _, _, .gl _, e, r => by cases e
  | _, _, _, _, .exn _ _ _ _ _ _ _, e, r => by cases e
theorem VRs.nested (I : Inv X pins σ H s) (hK : X.K = w.K) : ∀ {x : List PV} {v : List V} {nk : List NestedKey} {u : List Value}, VRs w M rho H x v → nkPs x = some nk → Vals v u → NestedAll s.heap nk u
  | _, _, _, _, .nil, e, r => by cases e; cases r; exact .nil
  | _, _, _, _, .cons (x := x) (xs := xs) a b, e, r => by
    unfold nkPs at e
    cases e1 : nkP x with
    | none => rw [e1] at e; cases e
    | some y =>
      cases e2 : nkPs xs with
      | none => rw [e1, e2] at e; cases e
      | some ys =>
        rw [e1, e2] at e; cases e
        cases r with
        | cons r1 r2 => exact .cons (VR.nested I hK a e1 r1) (VRs.nested I hK b e2 r2)
end
theorem TRs.app : ∀ {as bs : List (PV × PV)} {cs ds : List (NestedKey × Addr × Value)}, TRs w M rho H as cs → TRs w M rho H bs ds → TRs w M rho H (as ++ bs) (cs ++ ds)
  | _, _, _, _, .nil, s => s
  | _, _, _, _, .cons a b c d e t, s => .cons a b c d e (TRs.app t s)
end

section
variable {w : Wo} {EX : XC} {X : Cx} {k : Nat} {M : Addr → Prop} {rho : List Addr} {H : Hp} {h : PH} {pins : List (Addr × Obj)} {σ : L2.St} {s : Shared}
end
end MC

end
section
set_option maxRecDepth 100000
set_option maxHeartbeats 4000000
namespace MC
open PySem PySem.Spec PyProof.Rows L2

section
variable {w : Wo} {EX : XC} {X : Cx} {k : Nat} {M : Addr → Prop} {rho : List Addr} {H : Hp} {h : PH} {pins : List (Addr × Obj)} {σ : L2.St} {s : Shared}
end

section
variable {P : Program} {w : World} {K : PySem.W.Frag} {tg : Expr} {d : Addr} {o : Obj} {es : Array DictEntry} {ep : Nat} {X : Cx} {pins : List (Addr × Obj)} {σ : L2.St} {H : Hp} {s : Shared}
end
section
variable {w : Wo} {EX : XC} {X : Cx} {k : Nat} {M : Addr → Prop} {rho : List Addr} {H : Hp} {h : PH} {pins : List (Addr × Obj)} {σ : L2.St} {s : Shared}
theorem TRs.at : ∀ {kvs : List (PV × PV)} {xs : List (NestedKey × Addr × Value)}, TRs w M rho H kvs xs → ∀ {i : Nat} {q : NestedKey × Addr × Value}, xs[i]? = some q → ∃ p x, kvs[i]? = some (p, x) ∧ nkP p = some q.1 ∧ q.1.depth ≤ 8 ∧ VR w M rho H p (.ref q.2.1) ∧ ∃ v, RelV v q.2.2 ∧ VR w M rho H x v
  | _, _, .nil, i, q, e => by simp at e
  | _, _, .cons h1 h2 h3 h4 h5 h6, i, q, e => by
    cases i with
    | zero => simp at e; subst e; exact ⟨_, _, rfl, h1, h2, h3, _, h5, h4⟩
    | succ i => simpa using TRs.at h6 (i := i) (q := q) (by simpa using e)
/-- values of the entries -/
theorem TRs.vals : ∀ {kvs : List (PV × PV)} {xs : List (NestedKey × Addr × Value)}, TRs w M rho H kvs xs → ∃ vs : List V, (∀ (i : Nat) q, xs[i]? = some q → ∃ v, vs[i]? = some v ∧ RelV v q.2.2) ∧ VRs w M rho H (kvs.map (·.2)) vs
  | _, _, .nil => ⟨[], (fun i q e => by simp at e), .nil⟩
  | _, _, .cons (v := v) h1 h2 h3 h4 h5 h6 => by
    obtain ⟨vs, g, r⟩ := TRs.vals h6
    refine ⟨v :: vs, fun i q e => ?_, .cons h4 r⟩
    cases i with
    | zero => simp at e; subst e; exact ⟨v, rfl, h5⟩
    | succ i => simpa using g i q (by simpa using e)
end
end MC

end
section
set_option maxRecDepth 100000
set_option maxHeartbeats 4000000
namespace MC
open PySem PySem.Spec PyProof.Rows L2

section
variable {P : Program} {w : World} {A : Around} {E : Value → Shared → Prop} {s : Shared}
end

section
variable {w : Wo} {EX : XC} {X : Cx} {k : Nat}
end
end MC

end
section
set_option maxRecDepth 100000
set_option maxHeartbeats 4000000
namespace MC
open PySem PySem.Spec PyProof.Rows L2

section
variable {w : Wo} {EX : XC} {X : Cx} {k : Nat} {M : Addr → Prop} {rho : List Addr} {H : Hp} {h : PH}
end

section
variable {w : Wo} {EX : XC} {X : Cx} {k : Nat} {M : Addr → Prop} {rho : List Addr} {H : Hp} {h : PH} {pins : List (Addr × Obj)} {σ : L2.St} {s : Shared}
end
end MC

end
section
set_option maxRecDepth 100000
set_option maxHeartbeats 4000000
namespace MC
open PySem PySem.Spec PyProof.Rows L2

section
variable {w : Wo} {EX : XC} {X : Cx} {k : Nat} {M : Addr → Prop} {rho : List Addr} {H : Hp} {h : PH} {pins : List (Addr × Obj)} {σ : L2.St} {s : Shared}
theorem TRs.keys : ∀ {kvs : List (PV × PV)} {xs : List (NestedKey × Addr × Value)}, TRs w M rho H kvs xs → VRs w M rho H (kvs.map (·.1)) (xs.map fun x => V.ref x.2.1)
  | _, _, .nil => .nil
  | _, _, .cons _ _ h3 _ _ h6 => .cons h3 (TRs.keys h6)
end
end MC

end
section
set_option maxRecDepth 100000
set_option maxHeartbeats 4000000
namespace MC
open PySem PySem.Spec PyProof.Rows L2

abbrev IsZipF (h : Heap) (z TI TO : Addr) (f0 : Value) (f : Bool) : Prop :=
  h.get? z = some { cls := .type "zip", dict := none, data := .fields #[f0, .bool f, .bool false, .ref TI, .ref TO], slots := #[] }
def ZF (f0 : Value) : Prop := f0 = .none ∨ ∃ T : Nat, f0 = rawInt T
section
variable {prog : Program} {w : World} {A : Around} {E : Value → Shared → Prop} {s : Shared} {z TI TO i1 i2 : Addr} {fp1 fp2 : List Addr} {n1 n2 i : Nat} {P1 P2 : Nat → Value → Prop} {St1 St2 : Nat → Heap → Prop} {a1 a2 f0 : Value} {f : Bool}
/-- behind a turn -/
structure ZGo (s : Shared) (z TI TO i1 i2 : Addr) (St1 St2 : Nat → Heap → Prop) (i : Nat) (x1 x2 : Value) (h' : Heap) : Prop where
  zz : ∃ f0 f, ZF f0 ∧ IsZipF h' z TI TO f0 f
  to : ∃ b1 b2, IsTupOf2 h' TO b1 b2
  s1 : St1 (i + 1) h'
  s2 : St2 (i + 1) h'
  new : IsTupOf2 h' s.heap.objs.size x1 x2
  kept : ∀ c o, c ≠ z → c ≠ TO → c ≠ i1 → c ≠ i2 → s.heap.get? c = some o → h'.get? c = some o
end
section
variable {P : Program} {w : World} {K : PySem.W.Frag} {z TI TO i1 i2 : Addr} {x y : Str} {t u : Tok} {nm : Str} {tpos : Pos}
end
section
variable {w : Wo} {EX : XC} {X : Cx} {k : Nat} {M : Addr → Prop} {rho : List Addr} {H : Hp} {h : PH}
end
end MC

end
section
set_option maxRecDepth 100000
set_option maxHeartbeats 4000000
namespace MC
open PySem PySem.Spec PyProof.Rows L2
section
variable {prog : Program} {w : World} {A : Around} {E : Value → Shared → Prop} {s : Shared}
end
section
variable {w : Wo} {EX : XC} {X : Cx} {k : Nat} {M : Addr → Prop} {rho : List Addr} {H : Hp} {h : PH} {pins : List (Addr × Obj)} {σ : L2.St} {s : Shared}
end
end MC

end
section
set_option maxRecDepth 100000
set_option maxHeartbeats 4000000
namespace MC
open PySem PySem.Spec PyProof.Rows L2
section
open HT
variable {prog : Program} {w : World} {A : Around} {E : Value → Shared → Prop} {s : Shared}
end
section
variable {w : Wo} {EX : XC} {X : Cx} {k : Nat} {M : Addr → Prop} {rho : List Addr} {H : Hp} {h : PH}
end
end MC

end
section
set_option maxRecDepth 100000
set_option maxHeartbeats 4000000
namespace MC
open PySem PySem.Spec PyProof.Rows L2
def idxOfI (c : Int) : List Int → Option Nat
  | [] => none
  | x :: r => bif x == c then some 0 else match idxOfI c r with
    | some i => some (i + 1)
    | none => none
section
variable {w : Wo} {EX : XC} {X : Cx} {k : Nat}
end
end MC

end
section
set_option maxRecDepth 100000
namespace MM
open PySem L2 MC
def tb_str : List (Nat × Bool) := [(0, false), (1, false), (2, false), (3, true), (4, false), (5, false), (6, false)]
def cs_isi_str : List (Nat × Bool) := [(0, false), (1, false), (2, false), (3, false), (4, false), (5, false), (6, false), (7, false)]
end MM

end
section
set_option maxRecDepth 100000
set_option maxHeartbeats 4000000
namespace MC
open PySem PySem.Spec PyProof.Rows L2
section
variable {w : Wo} {EX : XC} {X : Cx} {k : Nat} {pos : Pos}
end
end MC

end
section
set_option maxRecDepth 100000
set_option maxHeartbeats 4000000
namespace MC
open PySem PySem.Spec PyProof.Rows L2
open PySem.W (EachIs)
section
variable {w : Wo} {EX : XC} {X : Cx} {k : Nat} {M : Addr → Prop} {rho : List Addr} {H : Hp} {h : PH}
end
end MC

end
section
set_option maxRecDepth 100000
set_option maxHeartbeats 4000000
namespace MC
open PySem PySem.Spec PyProof.Rows L2
section
variable {w : Wo} {EX : XC} {X : Cx} {k : Nat}
end
end MC

end
section
set_option maxRecDepth 100000
set_option maxHeartbeats 4000000
namespace MC
open PySem PySem.Spec PyProof.Rows L2
section
variable {w : Wo} {EX : XC} {X : Cx} {k : Nat} {M : Addr → Prop} {rho : List Addr} {H : Hp} {h : PH}
end
end MC

end
section
set_option maxRecDepth 100000
namespace MM
open PySem L2 MC
end MM

end
section
set_option maxRecDepth 100000
namespace MM
open PySem L2 MC
end MM

end
section
set_option maxRecDepth 100000
set_option maxHeartbeats 4000000
namespace MC
open PySem PySem.Spec PyProof.Rows L2

section
variable {w : Wo} {EX : XC} {X : Cx} {k : Nat} {M : Addr → Prop} {rho : List Addr} {H : Hp} {h : PH} {pins : List (Addr × Obj)} {σ : L2.St} {s : Shared}
end

section
variable {K : Type} [DecidableEq K] {prog : Program} {w : World} {knd : HeapKind prog w K}
end
def dropT (x : PV) (kvs : List (PV × PV)) : List (PV × PV) := kvs.filter fun p => !eqK p.1 x
section
variable {w : Wo} {EX : XC} {X : Cx} {k : Nat} {M : Addr → Prop} {rho : List Addr} {H : Hp} {h : PH} {pins : List (Addr × Obj)} {σ : L2.St} {s : Shared}
theorem TRs.drop {q : PV} {nk : NestedKey} (hq : nkP q = some nk) {kvs : List (PV × PV)} {xs : List (NestedKey × Addr × Value)} (r : TRs w M rho H kvs xs) : TRs w M rho H (dropT q kvs) (DT.dropH xs nk) := by
  induction r with
  | nil => exact .nil
  | @cons kk y nk' a' u' v' fs gs h1 h2 h3 h4 h5 h6 ih =>
    have e : eqK kk q = decide (nk' = nk) := by unfold eqK; rw [h1, hq]
    by_cases z : nk' = nk
    · have z1 : dropT q ((kk, y) :: fs) = dropT q fs := List.filter_cons_of_neg (by simp [e, z])
      have z2 : DT.dropH ((nk', a', u') :: gs) nk = DT.dropH gs nk := List.filter_cons_of_neg (by simp [z])
      rw [z1, z2]; exact ih
    · have z1 : dropT q ((kk, y) :: fs) = (kk, y) :: dropT q fs := List.filter_cons_of_pos (by simp [e, z])
      have z2 : DT.dropH ((nk', a', u') :: gs) nk = (nk', a', u') :: DT.dropH gs nk := List.filter_cons_of_pos (by simp [z])
      rw [z1, z2]; exact .cons h1 h2 h3 h4 h5 ih
end
end MC

end
section
set_option maxRecDepth 100000
set_option maxHeartbeats 4000000
namespace MC
open PySem PySem.Spec PyProof.Rows L2
section
variable {w : Wo} {EX : XC} {X : Cx} {k : Nat} {M : Addr → Prop} {rho : List Addr} {H : Hp} {h : PH}
end
end MC

end
section
set_option maxRecDepth 100000
set_option maxHeartbeats 4000000
namespace MC
open PySem PySem.Spec PyProof.Rows L2
section
variable {w : Wo} {EX : XC} {X : Cx} {k : Nat} {M : Addr → Prop} {rho : List Addr} {H : Hp} {h : PH} {pins : List (Addr × Obj)} {σ : L2.St} {s : Shared}
end
end MC

end
section
set_option maxRecDepth 100000
set_option maxHeartbeats 4000000
namespace MC
open PySem PySem.Spec PyProof.Rows L2

section
variable {w : Wo} {M : Addr → Prop} {rho : List Addr} {H : Hp} {h : PH} {a : Addr} {od : Obj} {φ : Heap → Prop} {u : HO}
theorem sqT_thaw (e : H a = some (.frz od (.ext φ))) {K : PySem.W.Frag} {b : Addr} {vs : List V} (q : SqT K H b vs) : SqT K (upd H a u) b vs := by
  rcases q with (q | ⟨o, q⟩) | q
  · refine .inl (.inl ?_)
    rw [upd_ne]
    · exact q
    · rintro rfl; rw [e] at q; cases q
  · refine .inl (.inr ⟨o, ?_⟩)
    rw [upd_ne]
    · exact q
    · rintro rfl; rw [e] at q; cases q
  · exact .inr q
theorem scrL_thaw (e : H a = some (.frz od (.ext φ))) {b : Addr} {vs : List V} (q : ScrL w M H b vs) : ScrL w M (upd H a u) b vs := by
  rcases q with q | ⟨o, q, n⟩
  · exact .inl q
  · refine .inr ⟨o, ?_, n⟩
    rw [upd_ne]
    · exact q
    · rintro rfl; rw [e] at q; cases q
mutual
theorem VR.thaw (e : H a = some (.frz od (.ext φ))) : ∀ {x : PV} {v : V}, VR w M rho H x v → VR w M rho (upd H a u) x v
  | _, _, .non => .non
  | _, _, .bl b => .bl b
  | _, _, .int i => .int i
  | _, _, .str s => .str s
  | _, _, .tup q s => .tup (sqT_thaw e q) (VRs.thaw e s)
  | _, _, .scr q s => .scr (scrL_thaw e q) (VRs.thaw e s)
  | _, _, .rdic (a := b) q n s => .rdic (by
      rw [upd_ne]
      · exact q
      · rintro rfl; rw [e] at q; cases q) n (KRs.thaw e s)
  | _, _, .ins (a := b) c q n s => .ins c (by
      rw [upd_ne]
      · exact q
      · rintro rfl; rw [e] at q; cases q) n (FRs.thaw e s)
  | _, _, .ref e1 => .ref e1
  | _, _, .gl e1 => .gl e1
  | _, _, .exn e1 e2 e3 e4 e5 e6 s => .exn e1 e2 e3 e4 (fun x hx => by
      have y := (e5 x hx).1
      refine ⟨?_, (e5 x hx).2⟩
      rw [upd_ne]
      · exact y
      · rintro rfl
        rw [e] at y; cases y) e6 (FRs.thaw e s)
theorem VRs.thaw (e : H a = some (.frz od (.ext φ))) : ∀ {xs : List PV} {vs : List V}, VRs w M rho H xs vs → VRs w M rho (upd H a u) xs vs
  | _, _, .nil => .nil
  | _, _, .cons p q => .cons (VR.thaw e p) (VRs.thaw e q)
theorem FRs.thaw (e : H a = some (.frz od (.ext φ))) : ∀ {fs : List (Nm × PV)} {gs : List (Str × V)}, FRs w M rho H fs gs → FRs w M rho (upd H a u) fs gs
  | _, _, .nil => .nil
  | _, _, .cons p q => .cons (VR.thaw e p) (FRs.thaw e q)
theorem KRs.thaw (e : H a = some (.frz od (.ext φ))) : ∀ {fs : List (PV × PV)} {gs : List (Key × V)}, KRs w M rho H fs gs → KRs w M rho (upd H a u) fs gs
  | _, _, .nil => .nil
  | _, _, .cons k p q => .cons k (VR.thaw e p) (KRs.thaw e q)
end
theorem TRs.thaw (e : H a = some (.frz od (.ext φ))) : ∀ {fs : List (PV × PV)} {gs : List (NestedKey × Addr × Value)}, TRs w M rho H fs gs → TRs w M rho (upd H a u) fs gs
  | _, _, .nil => .nil
  | _, _, .cons k d p q c r => .cons k d (p.thaw e) (q.thaw e) c (TRs.thaw e r)
theorem ER.thaw (e : H a = some (.frz od (.ext φ))) : ∀ {es : List (Option PV)} {s : Sl}, ER w M rho H es s → ER w M rho (upd H a u) es s
  | _, _, .nil => .nil
  | _, _, .has p q => .has (p.thaw e) (ER.thaw e q)
  | _, _, .no q => .no (ER.thaw e q)
theorem or_thaw (e : H a = some (.frz od (.ext φ))) {b : Addr} (n : b ≠ a) {o : PO} (q : OR w M rho H b o) : OR w M rho (upd H a u) b o := by
  have e1 : (upd H a u) b = H b := upd_ne n
  cases o with
  | lst xs => obtain ⟨vs, p, s⟩ := q; exact ⟨vs, e1.trans p, s.thaw e⟩
  | ins c fs => obtain ⟨C, dx, gs, p1, p, s⟩ := q; exact ⟨C, dx, gs, p1, e1.trans p, s.thaw e⟩
  | dic lk kvs =>
    obtain ⟨ks, p, s⟩ := q
    refine ⟨ks, ?_, s.thaw e⟩
    cases lk with
    | false => exact e1.trans p
    | true => obtain ⟨o, p⟩ := p; exact ⟨o, e1.trans p⟩
  | dit lk kvs =>
    obtain ⟨ks, p, z1, z2, z3, s⟩ := q
    refine ⟨ks, ?_, z1, z2, z3, s.thaw e⟩
    cases lk with
    | false => exact e1.trans p
    | true => obtain ⟨o, p⟩ := p; exact ⟨o, e1.trans p⟩
theorem HR.thaw (r : HR w M rho H h) (e : H a = some (.frz od (.ext φ))) {n : Nat} (ha : rho[n]? = some a) {po : PO} (q : OR w M rho (upd H a u) a po) : HR w M rho (upd H a u) (h.set n po) where
  len := by rw [List.length_set]; exact r.len
  nd := r.nd
  mem := r.mem
  live := fun b hb => by
    by_cases z : b = a
    · subst z; rw [upd_same]; exact Option.some_ne_none _
    · rw [upd_ne z]; exact r.live b hb
  ob := fun i o z => by
    by_cases hi : i = n
    · subst hi
      have hl : i < h.length := by
        have := (List.getElem?_eq_some_iff.mp z).1
        rwa [List.length_set] at this
      rw [List.getElem?_set_self hl] at z
      cases z
      exact ⟨a, ha, q⟩
    · rw [List.getElem?_set_ne (Ne.symm hi)] at z
      obtain ⟨b, hb, s⟩ := r.ob i o z
      refine ⟨b, hb, or_thaw e ?_ s⟩
      rintro rfl
      obtain ⟨h1, e1⟩ := List.getElem?_eq_some_iff.mp hb
      obtain ⟨h2, e2⟩ := List.getElem?_eq_some_iff.mp ha
      exact hi ((List.getElem_inj r.nd).mp (e1.trans e2.symm))
  tabs := fun p hp => by
    obtain ⟨ps, h1, h2, h3⟩ := r.tabs p hp
    refine ⟨ps, ?_, h2, fun pos cv hc => ?_⟩
    · rw [upd_ne]
      · exact h1
      · intro z; rw [z, e] at h1; cases h1
    · obtain ⟨c, y1, y2, y3⟩ := h3 pos cv hc
      refine ⟨c, y1, ?_, y3⟩
      rw [upd_ne]
      · exact y2
      · intro z; rw [z, e] at y2; cases y2
theorem Step.thaw {M2 : Addr → Prop} {rho2 : List Addr} {H2 : Hp} (st : Step M rho H M2 rho2 H2) {n : Nat} (ha : rho[n]? = some a) (nf : ∀ p v, H a ≠ some (.frz p v)) : Step M rho H M2 rho2 (upd H2 a u) where
  ext := st.ext
  mono := st.mono
  fresh := st.fresh
  new := st.new
  frame := fun b o nb q nt => by
    rw [upd_ne]
    · exact st.frame b o nb q nt
    · rintro rfl; exact nb (List.mem_of_getElem? ha)
  there := fun b q => by
    by_cases z : b = a
    · subst z; rw [upd_same]; exact Option.some_ne_none _
    · rw [upd_ne z]; exact st.there b q
  frz := fun b p v q => by
    rw [upd_ne]
    · exact st.frz b p v q
    · rintro rfl; exact nf p v q
end

section
variable {w : Wo} {EX : XC} {X : Cx} {k : Nat}
end
end MC

end
section
set_option maxRecDepth 100000
set_option maxHeartbeats 4000000
namespace MC
open PySem PySem.Spec PyProof.Rows L2
def idxOfD (d : PyData) : List PyData → Option Nat
  | [] => none
  | x :: r => bif PyData.eqv x d then some 0 else match idxOfD d r with
    | some i => some (i + 1)
    | none => none
def oIndexD : OC := fun h xs => match xs with
  | [x, y] => match toD h DEP x with
    | some (.list ds) => match toD h DEP y with
      | some d => bif SeqAt.shaped (.list ds) && SeqAt.shaped d then (match idxOfD d ds with
        | some i => .ok (.int i) h
        | none => .stuck) else .stuck
      | none => .stuck
    | _ => .stuck
  | _ => .stuck
theorem idxD_ok {d : PyData} : ∀ {s : List PyData} {i : Nat}, idxOfD d s = some i → ∃ z, s[i]? = some z ∧ PyData.eqv z d = true ∧ ∀ (j : Nat) z', j < i → s[j]? = some z' → PyData.eqv z' d = false
  | [], _, e => by cases e
  | x :: r, i, e => by
    unfold idxOfD at e
    cases q : PyData.eqv x d with
    | true =>
      rw [q, cond_true] at e
      cases e
      exact ⟨x, rfl, q, fun j z' hj => absurd hj (Nat.not_lt_zero j)⟩
    | false =>
      rw [q, cond_false] at e
      split at e
      · rename_i i' e'
        cases e
        obtain ⟨z, h1, h2, h3⟩ := idxD_ok e'
        refine ⟨z, by simpa using h1, h2, fun j z' hj ez => ?_⟩
        cases j with
        | zero => simp at ez; subst ez; exact q
        | succ j => exact h3 j z' (by omega) (by simpa using ez)
      · cases e
section
variable {w : Wo} {EX : XC} {X : Cx} {k : Nat} {M : Addr → Prop} {rho : List Addr} {H : Hp} {h : PH}
theorem o_indexD {hh : Bool} (C : CxtG hh w k X) : MtR X "list.index" (rM w EX oIndexD) := by
  have hu := C.units
  refine MtR.imp (mt_indexD (by omega)) fun x xs H Q hh => ?_
  obtain ⟨M, rho, h, px, ps, hr, rx, rs, o⟩ := hh
  unfold oIndexD at o
  split at o
  · rename_i x' y' e
    cases e
    obtain ⟨v, rfl, rv⟩ := vrs1 rs
    split at o
    · rename_i ds e1
      split at o
      · rename_i d e2
        obtain ⟨hc, o⟩ := Out.bif o
        rw [Bool.and_eq_true] at hc
        split at o
        · rename_i i ei
          obtain ⟨z, h1, h2, h3⟩ := idxD_ok ei
          have hl := toD_dp hr _ _ _ _ e1 rx
          have hd := toD_dp hr _ _ _ _ e2 rv
          rw [← C.hK] at hl hd
          cases hl with
          | lst hs ha => exact ⟨_, v, d, ds, i, z, rfl, rfl, .lst hs ha, hd, hc.1, hc.2, h1, h2, fun m z' hm hz => h3 m z' hm hz, o.now hr _ (.int _)⟩
        · exact (show False from o).elim
      · exact (show False from o).elim
    · exact (show False from o).elim
  · exact (show False from o).elim
end
end MC

end
section
set_option maxRecDepth 100000
namespace MM
open PySem L2 MC
end MM

end
section
set_option maxRecDepth 100000
set_option maxHeartbeats 4000000
namespace MC
open PySem PySem.Spec PyProof.Rows L2
section
variable {w : Wo} {EX : XC} {X : Cx} {k : Nat}
end
end MC

end
section
set_option maxRecDepth 100000
namespace MM
open PySem L2 MC
end MM

end
section
set_option maxRecDepth 100000
namespace MM
open PySem L2 MC
def b__law_draw : MS := (mSeq (mAsg (mOp opMod (mBt bInt (maCons (mOp opAdd (mOp opMul (mC (.int 40014)) (mOp opIx (mVar 0) (mC (.int 0)))) (mC (.int 1))) maNil)) (mC (.int 2147483563))) (gSubM oSetIx (mVar 0) (mC (.int 0)))) (mSeq (mAsg (mOp opMod (mBt bInt (maCons (mOp opAdd (mOp opMul (mC (.int 40692)) (mOp opIx (mVar 0) (mC (.int 1)))) (mC (.int 5))) maNil)) (mC (.int 2147483399))) (gSubM oSetIx (mVar 0) (mC (.int 1)))) (mSeq (mIfS (mTB (mOp opGt (mOp opIx (mVar 0) (mC (.int 2))) (mC (.int 0)))) (mSeq (mAsg (mBt bDivmod (maCons (mOp opIx (mVar 0) (mC (.int 2))) (maCons (mVar 1) maNil))) (gTup' 2 (gsCons (gSubM oSetIx (mVar 0) (mC (.int 2))) (gsCons (gName' 2) gsNil)))) (mSeq (mRet (mVar 2)) mNil)) mNil) (mSeq (mRet (mOp opMod (mBt bInt (maCons (mOp opFdiv (mOp opMod (mBt bInt (maCons (mOp opSub (mOp opIx (mVar 0) (mC (.int 0))) (mOp opIx (mVar 0) (mC (.int 1)))) maNil)) (mC (.int 2147483562))) (mC (.int 7))) maNil)) (mVar 1))) mNil))))
def m__law_draw : MF := mFun 3 b__law_draw
def b__law_well : MS := (mSeq (mSet 2 (mIf (mTB (mOp opLt (mVar 1) (mBt bLen (maCons (mVar 0) maNil)))) (mOp opIx (mVar 0) (mVar 1)) (mOp opAdd (mOp opMul (mC (.int 1009)) (mVar 1)) (mC (.int 77))))) (mSeq (mIfS (mTB (mOp opGe (mVar 1) (mBt bLen (maCons (mVar 0) maNil)))) (mSeq (mFor (miV (mSl (mVar 0) moNone (moSome (mC (.int 3))))) (gName' 3) (mSeq (mSet 2 (mOp opMod (mBt bInt (maCons (mOp opAdd (mOp opMul (mVar 2) (mC (.int 30011))) (mVar 3)) maNil)) (mC (.int 1000000007)))) mNil)) mNil) mNil) (mSeq (mSet 4 (mOp opMod (mBt bInt (maCons (mOp opPow (mOp opAdd (mOp opAdd (mOp opMod (mBt bInt (maCons (mVar 2) maNil)) (mC (.int 2147483563))) (mOp opMul (mC (.int 3)) (mVar 1))) (mC (.int 1))) (mC (.int 5))) maNil)) (mC (.int 2147483563)))) (mSeq (mSet 5 (mOp opMod (mBt bInt (maCons (mOp opPow (mOp opAdd (mOp opAdd (mOp opMod (mBt bInt (maCons (mVar 2) maNil)) (mC (.int 2147483399))) (mOp opMul (mC (.int 7)) (mVar 1))) (mC (.int 2))) (mC (.int 5))) maNil)) (mC (.int 2147483399)))) (mSeq (mSet 6 (mLst (maCons (mVar 4) (maCons (mVar 5) (maCons (mC (.int 0)) maNil))))) (mSeq (mFor (miRng1 (maCons (mC (.int 3)) maNil)) (gName' 7) (mSeq (mDrop (mCl0 (opF m__law_draw [0, 1] []) 2 (maCons (mVar 6) (maCons (mC (.int 2)) maNil)))) mNil)) (mSeq (mAsg (mIf (mTB (mOp opGe (mBt bAbs (maCons (mVar 2) maNil)) (mOp opPow (mC (.int 10)) (mC (.int 18))))) (mBt bAbs (maCons (mVar 2) maNil)) (mC (.int 0))) (gSubM oSetIx (mVar 6) (mC (.int 2)))) (mSeq (mRet (mVar 6)) mNil))))))))
def m__law_well : MF := mFun 8 b__law_well
end MM

end
section
set_option maxRecDepth 100000
set_option maxHeartbeats 4000000
namespace MC
open PySem PySem.Spec PyProof.Rows L2

/-- an exception's own dict, if it has one -/
def XdOk (M : Addr → Prop) (H : Hp) (dd : Option Addr) (gs : List (Str × V)) : Prop := (∀ x, dd = some x → H x = some (.xd gs) ∧ ¬ M x) ∧ (dd = none → gs = [])
/-- a mirror's wish of an exception, told of the machine -/
def wE (w : Wo) (EX : XC) : XK := fun cls dd H => ∃ (c : Nat) (C : Addr) (gs : List (Str × V)) (fs : List (Nm × PV)) (h : PH) (M : Addr → Prop) (rho : List Addr),
  cls = .ref C ∧ w.cl c = some C ∧ XdOk M H dd gs ∧ HR w M rho H h ∧ FRs w M rho H fs gs ∧ EX c fs h M rho H
abbrev wX (w : Wo) (EX : XC) : WX := fun cls dd _ H => wE w EX cls dd H
/-- the machine's wish, told of the mirror -/
def exO (w : Wo) : XK → XC := fun E c fs h M rho H => ∀ (C : Addr) (dd : Option Addr) (gs : List (Str × V)), w.cl c = some C → XdOk M H dd gs → HR w M rho H h → FRs w M rho H fs gs → E (.ref C) dd H
abbrev TkX (w : Wo) (EX : XC) (X : Cx) : Prop := L2N.Takes X (wX w EX)
theorem wE_exO {w : Wo} {E : XK} {cls : Value} {dd : Option Addr} {H : Hp} (h : wE w (exO w E) cls dd H) : E cls dd H := by
  obtain ⟨c, C, gs, fs, h, M, rho, rfl, hc, hx, hr, hf, q⟩ := h
  exact q C dd gs hc hx hr hf
/-- nothing is let out -/
theorem tkX_none {w : Wo} {X : Cx} : TkX w EXF X := fun u s' z => by
  obtain ⟨a, B, sI, pins, σ, H, cls, d, e, I, nb, up, sky, na, os, ag, c, C, gs, fs, h, M, rho, e1, hc, hx, hr, hf, q⟩ := z
  exact (show False from q).elim
theorem passX {w : Wo} {EX : XC} {X : Cx} (tk : TkX w EX X) : Passes (L2N.CX X.prog X.w) X (wE w EX) := L2N.passes_call tk fun _ _ _ _ h => h

section
variable {P : Program} {W : World} {w : Wo} {mg : Str → Option Value} {base : Heap} {k : Nat}
abbrev FnX (P : Program) (W : World) (w : Wo) (mg : Str → Option Value) (base : Heap) (k : Nat) (f : Addr) (fd : FuncData) (ps : List Str) (m : MF) : Prop := FnM P W w mg base (L2N.CX P W) (exO w) k f fd ps m
abbrev cxX (P : Program) (W : World) (K : PySem.W.Frag) (mg : Str → Option Value) (base : Heap) (N : List Str) (qual : Str) (scope : Scope) (f : Addr) (cd : Value) (A : Around) (outer : List Env) (s : Shared) (H : Hp) (E : XK) : Cx := cxOf (L2N.CX P W) P W K mg base N qual scope f cd A outer s H E
theorem fnm_ofX (hW : W = w.W) {x qual : Str} {st : Stmt} {f : Addr} {fd : FuncData} {N ps : List Str} {b : MS} (F : Fun w.K x qual st f fd) (sc : FnScope N ps (defScope st))
    (hb : ∀ (cdv : Value) (A : Around) (outer : List Env) (s : Shared) (H : Hp) (E : XK), Cxt w k (cxX P W w.K mg base N qual (defScope st) f cdv A outer s H E) → TkX w (exO w E) (cxX P W w.K mg base N qual (defScope st) f cdv A outer s H E) →
      PSs (cxX P W w.K mg base N qual (defScope st) f cdv A outer s H E) (defBody st) (tS w (exO w E) b)) : FnX P W w mg base (k + 1) f fd ps (mFun N.length b) := by
  obtain ⟨oc, od, kV, doc, pm, an, cdv, ct, osl, rfl, lk, hcd⟩ := F.ex
  constructor
  intro A outer s H args us vs Q E room grd e0 bt rv len sp
  have inK : w.K.In s.heap := e0.mod.kin.keeps fun b o z => (e0.bs b o z).1
  have noLim : s.heap.NoLimit := e0.mod.nolimit.keeps fun b o z => (e0.bs b o z).1
  refine codeAny_call_function (fd := PySem.W.fnOf x qual (defArgs st) (defBody st) (defScope st) .none kV doc pm an cdv ct) room.depth (inK _ _ lk) rfl sc.co sc.gen rfl (PySem.W.codeRec_of inK hcd) (bt _ _ _ _ ?_)
  refine wpAny_newFunctionEnv_cells sc.kind (fun y hy => ?_) fun env henv s1 x1 => ?_
  · rcases sc.par y.1 (List.of_mem_zip (a := y.1) (b := y.2) hy).1 with q | q
    · exact Or.inl q
    · exact Or.inr ⟨q, PySem.W.cellsFrom_some _ _ _ (Or.inl q)⟩
  subst henv
  refine ⟨noLim.keeps x1.toInCall.keep, codeAny_func ?_⟩
  have C : Cxt w k (cxX P W w.K mg base N qual (defScope st) f cdv A outer s H E) := Cxt.mk rfl hW rfl (room.deeper _) grd (passes_of rfl)
  have tk : TkX w (exO w E) (cxX P W w.K mg base N qual (defScope st) f cdv A outer s H E) := (L2N.takes_of rfl rfl rfl rfl).imp fun _ _ _ _ h => wE_exO h
  have I : Inv (cxX P W w.K mg base N qual (defScope st) f cdv A outer s H E) [] (start N vs) H s1 := inv_start sc room.hd e0 len rv x1
  obtain ⟨M, rho, as, h, ra, hr, o⟩ := sp
  have er : ER w M rho H (as.map some ++ List.replicate (N.length - as.length) none) (start N vs) := start_er N.length ra
  have red : tS w (exO w E) b { nx := fun _ H' => Q .non H', rt := Q } (start N vs) H := by
    refine ⟨M, rho, _, h, er, hr, (Out.bind o).imp fun fl h1 M1 rho1 H1 st1 hr1 o1 => ?_⟩
    cases fl with
    | nx e => exact fun s1 _ => (show Out w (exO w E) M1 rho1 H1 (.ok .non h1) (KV w Q) from o1).now hr1 _ .non
    | rt v => exact (show Out w (exO w E) M1 rho1 H1 (.ok v h1) (KV w Q) from o1).now hr1
    | bk e => exact (show False from o1).elim
    | ct e => exact (show False from o1).elim
  refine wpAny_mono ((hb cdv A outer s H E C tk).run [] s1 (start N vs) H _ I red) (fun fl s' q => ?_) fun e s' q => q
  cases fl with
  | ret u => obtain ⟨v, σ', H', J, r, q⟩ := q; exact ⟨v, H', J.os, J.bare, J.base, J.hok, r, q⟩
  | next => obtain ⟨σ', H', J, q⟩ := q; exact ⟨.non, H', J.os, J.bare, J.base, J.hok, rfl, q⟩
  | brk => obtain ⟨_, _, _, q⟩ := q; exact (show False from q).elim
  | cont => obtain ⟨_, _, _, q⟩ := q; exact (show False from q).elim
end

/-- what an exception bears is taken over as an answer is -/
def excBack (h : PH) (fp : List Nat) (c : Nat) (fs : List (Nm × PV)) (g : PH) : R PV := match takeL h fp (fs.map (·.2)) g with
  | some (_, us, h2) => .exc c ((fs.map (·.1)).zip us) h2
  | none => .stuck
def callX (tb : PH → List Nat → PV → PH → R PV) (m : MF) (args : List PV) (h : PH) : R PV := match reach h FUEL (refsVs args) [] with
  | some fp => match renVs (idx fp) args, mapO (pick h (idx fp)) fp with
    | some as, some hc => match m as hc with
      | .ok v g => tb h fp v g
      | .exc c fs g => excBack h fp c fs g
      | .stuck => .stuck
    | _, _ => .stuck
  | none => .stuck
@[reducible] def opX (m : MF) (ix : List Nat) (dp : List PV) : OC := fun h xs => callX takeBack m (gI ix (xs ++ dp)) h
@[reducible] def opXC (c : Nat) (m : MF) (ix : List Nat) (dp : List PV) : OC := fun h xs => callX takeFrz (initM c m ix dp) xs h
@[reducible] def opXM (c : Nat) (m : MF) (ix : List Nat) (dp : List PV) : OC := fun h xs => callX takeBack (initM c m ix dp) xs h
section
variable {w : Wo} {EX : XC} {M : Addr → Prop} {rho : List Addr} {H : Hp} {h : PH}
theorem callX_ok {tb : PH → List Nat → PV → PH → R PV} (T : TbOk w EX tb) {m : MF} {args : List PV} {vs : List V} {k : KC PV} (hr : HR w M rho H h) (r : VRs w M rho H args vs) (o : Out w EX M rho H (callX tb m args h) k) :
    ∃ rho' as hc, VRs w M rho' H as vs ∧ HR w M rho' H hc ∧ Out w (exO w (wE w EX)) M rho' H (m as hc) (fun v _ M1 rho1 H1 => ∀ V, VR w M1 rho1 H1 v V → ∃ M2 rho2 u h2, Step M rho H M2 rho2 H1 ∧ HR w M2 rho2 H1 h2 ∧ VR w M2 rho2 H1 u V ∧ k u h2 M2 rho2 H1) := by
  unfold callX at o
  split at o
  · rename_i fp ef
    have nd := reach_nd List.nodup_nil ef
    split at o
    · rename_i as hc e1 e2
      have hf : ∀ n ∈ fp, n < rho.length := fun n hn => by rw [← hr.len]; exact pick_all e2 n hn
      obtain ⟨r', hr'⟩ := enter_ok hr nd e1 e2 r
      refine ⟨_, as, hc, r', hr', ?_⟩
      split at o
      · rename_i v g em
        rw [em]
        exact fun M1 rho1 H1 st hr1 V rv => T hr nd hf st hr1 rv o
      · rename_i c fs g em
        rw [em]
        intro M1 rho1 H1 st hr1 C dd gs hc hx _ hfr
        unfold excBack at o
        split at o
        · rename_i nw us h2 et
          obtain ⟨M2, rho2, st2, hr2, r2, mm⟩ := back_core hr nd hf st hr1 hfr.vals et
          refine ⟨c, C, gs, _, h2, M2, rho2, rfl, hc, ⟨fun x e => ⟨(hx.1 x e).1, fun z => (hx.1 x e).2 ?_⟩, hx.2⟩, hr2, hfr.back r2, o M2 rho2 H1 st2 hr2⟩
          rcases mm x z with y | ⟨n, _, hn⟩
          · exact st.mono x y
          · exact hr1.mem x (List.mem_of_getElem? hn)
        · exact (show False from o).elim
      · exact (show False from o).elim
    · exact (show False from o).elim
  · exact (show False from o).elim
end
section
variable {w : Wo} {EX : XC} {X : Cx} {k j : Nat} {f : Addr} {fd : FuncData} {ps ks : List Str} {m : MF} {p pos apos : Pos} {z : Str}
  {ds : List Value} {dv : List V} {dp : List PV} {n : Nat} {ix : List Nat}
/-- a def that may raise -/
theorem clb_fnX (C : Cxt w k X) (F : FnX X.prog X.w w X.mg X.base k f fd ps m) (tk : TkX w EX X) (hk : PySem.W.keepIn w.K (.ref f) = true) (B : Bd w.K fd ps ks n ds ix) (hd : Vals dv ds) (hp : ∀ M rho H, VRs w M rho H dp dv) {tb : PH → List Nat → PV → PH → R PV} (T : TbOk w EX tb) :
    Clb X w EX (.ref f) n ks fun h xs => callX tb m (gI ix (xs ++ dp)) h := by
  refine ⟨by rw [C.hK]; exact hk, ?_⟩
  intro pins σ H s Q us ws vs zs M rho h xs ys I r rz lu lw hr rx ry o
  have rA : Vals (vs ++ zs ++ dv) (us ++ ws ++ ds) := (r.append rz).append hd
  have rP : VRs w M rho H (xs ++ ys ++ dp) (vs ++ zs ++ dv) := (rx.append ry).append (hp M rho H)
  have hlen : (gI ix (us ++ ws ++ ds)).length = ps.length := by
    rw [gI_len, B.len]
    intro i hi
    have := B.lo i hi
    simp only [List.length_append]; omega
  have r2 := gI_vals rA ix
  have e0 : Env0 X.prog X.w w.K X.mg X.base X.A X.stack s H := by rw [← C.hK]; exact I.env0
  obtain ⟨rho', as, hc, r3, hr3, o3⟩ := callX_ok T hr (rP.gI ix) o
  refine wpAny_call (codeAny_mono (F.run X.A X.stack s H ⟨us, ks.zip ws⟩ (gI ix (us ++ ws ++ ds)) (gI ix (vs ++ zs ++ dv)) Q (wE w EX) C.room C.grd e0 (B.to s us ws (by rw [← C.hK]; exact I.kIn) lu lw) r2 (by rw [r2.length]; exact hlen)
    ⟨M, rho', as, hc, r3, hr3, o3.imp fun v g M1 rho1 H1 st1 hr1 q V rv => ?_⟩) fun rs s' q => ?_)
  · obtain ⟨M2, rho2, u, h2, _, _, ru, kq⟩ := q V rv
    exact kq V ru
  · cases rs with
    | error e => exact passX tk pins σ H s e s' I q
    | ok fl =>
      cases fl with
      | ret u => exact I.after q
      | next => exact (show False from q).elim
      | brk => exact (show False from q).elim
      | cont => exact (show False from q).elim
end

/-- a class of errors: its __init__ keeps its one argument as f -/
structure XcOk (K : PySem.W.Frag) (mg : Str → Option Value) (x : Str) (C : Addr) (f : Str) (P : Program) (W : World) (base : Heap) : Prop where
  T : OexC K C
  gC : mg x = some (.ref C)
  no : PySem.W.findIn K (.ref C) f = some none
  init : ∃ (fI : Addr) (fd : FuncData) (sp : Sp), PySem.W.findIn K (.ref C) "__init__" = some (some (.ref fI)) ∧ PySem.W.typeIn K (.ref fI) = some (.type "function") ∧ FnOk P W K mg base CX0 1 fI fd ["self", f] sp ∧ Binds K fd ["self", f] [] ∧
    ∀ (a : Addr) (v : V) (H : Hp) (Q : VK), H a = some (exo a C none) → (∀ dx, H dx = none → dx ≠ a → Q .non (upd (upd H dx (exd dx [(f, v)])) a (exo a C (some dx)))) → sp [.ref a, v] H Q fun _ _ _ => False
/-- .. by the text of that __init__ -/
theorem xc_ok {K : PySem.W.Frag} {mg : Str → Option Value} {x : Str} {C : Addr} {f : Str} {P : Program} {W : World} {base : Heap} {qual : Str} {st : Stmt} {fI : Addr} {fd : FuncData} (T : OexC K C) (gC : mg x = some (.ref C)) (no : PySem.W.findIn K (.ref C) f = some none)
    (iC : PySem.W.findIn K (.ref C) "__init__" = some (some (.ref fI))) (tI : PySem.W.typeIn K (.ref fI) = some (.type "function")) (F : Fun K "__init__" qual st fI fd) (sc : FnScope ["self", f] ["self", f] (defScope st)) {q1 q2 q3 q4 : Pos}
    (hb : defBody st = [.Assign [.Attribute (.Name "self" q1) f q2] (.Name f q3) q4]) (hl : (defScope st).names.lookup f = some .local) (hl2 : (defScope st).names.lookup ("self" : Str) = some .local) (hdf : (f == ("__debug__" : Str)) = false) (hcf : (f == ("__classdict__" : Str)) = false)
    (hs : ∀ env : Env, swapsWith (.Name f q3) (some (.Attribute (.Name "self" q1) f q2)) q4.line env = pure false)
    (bd : ∀ (kV doc pm : Value) (an : Option Addr) (cdv ct : Value) (us : List Value), us.length = 2 → bindArgs (PySem.W.fnOf "__init__" qual (defArgs st) (defBody st) (defScope st) .none kV doc pm an cdv ct) ⟨us, []⟩ = pure ((["self", f] : List Str).zip us)) : XcOk K mg x C f P W base := by
  refine ⟨T, gC, no, fI, fd, fun vs H Q _ => ∃ (a : Addr) (v : V), vs = [.ref a, v] ∧ H a = some (exo a C none) ∧ ∀ dx, H dx = none → dx ≠ a → Q .non (upd (upd H dx (exd dx [(f, v)])) a (exo a C (some dx))), iC, tI, ?_, F.binds bd, fun a v H Q h1 h2 => ⟨a, v, rfl, h1, h2⟩⟩
  refine F.ok sc (fun vs H Q E ⟨a, v, e, _⟩ => by rw [e]; rfl) fun cdv A outer s H vs Q E hr ⟨a, v, e, h1, h2⟩ => ?_
  subst e
  rw [hb]
  refine ⟨_, pss_one (ps_ost (pe_var (i := 0) (x := "self") rfl (Or.inl hl2) (by decide) (by decide)) (pe_var (i := 1) (x := f) rfl (Or.inl hl) hdf hcf) (hs _)), ?_⟩
  exact ⟨v, rfl, .ref a, rfl, a, C, rfl, T, no, .inl ⟨h1, h2⟩⟩
section
variable {X : Cx} {e : Expr} {ta : TA} {p pos : Pos} {x f : Str} {C : Addr}
/-- x(e), an error that keeps e as f -/
def tMk1 (C : Addr) (f : Str) (ta : TA) : L2.St → Hp → XK → Prop := fun σ H Q => ta σ H fun vs H1 => ∃ v, vs = [v] ∧ ∀ d, H1 d = none → Q (.ref C) (some d) (upd H1 d (.xd [(f, v)]))
theorem pmk_1 (T : XcOk X.K X.mg x C f X.prog X.w X.base) (hr : Room 2 X.A) (hg : Gl X x) (ha : PA X [e] ta)
    (hdb : (x == ("__debug__" : Str)) = false := by decide) (he : starEach [e] X.env = (false, eval e X.env) :: starEach [] X.env := by rfl) (hpl : (backTo pos (starEach [] X.env)).any (·.1) = false := by rfl) :
    L2N.PMk X (.Call (.Name x p) [e] [] pos) (tMk1 C f ta) := by
  obtain ⟨TC, hm, no, fI, fd, sp, iC, tI, F1, hb, hsp⟩ := T
  intro pins s σ H Q I h
  obtain ⟨nm, q, N, bs, bm, sn, sub, ab, col, dd, k0, k1, k2, k3, k5, hC, hbm⟩ := TC.cls
  refine wpAny_Call_Name_kw (ld_glob I hg hm ?_ hdb)
  refine PySem.W.callWith_K (h₀ := X.base) I.ok.mod.kin TC.kC (thn (ha.run pos pins s σ H _ I h) fun us s1 ⟨vs, H1, I1, r1, v, ev, q1⟩ => ⟨I1.kIn, ?_⟩) he hpl
  subst ev
  show wpAny _ _ (call (.ref C) us) _ _ _
  obtain ⟨hp, g, dr, tk, os⟩ := s1
  have hsz : hp.objs.size ≤ hp.objs.size + 1 := Nat.le_succ _
  have hn : H1 (hp.objs.size + 1) = none := I1.hok.fresh hsz
  have kk : ∀ b o, hp.get? b = some o → ((hp.push (PySem.W.kdv_tup us)).push (PySem.HandSPX.excO C hp.objs.size)).get? b = some o := fun b o e => Heap.get?_push_of_some _ (Heap.get?_push_of_some _ e)
  have hget : ((hp.push (PySem.W.kdv_tup us)).push (PySem.HandSPX.excO C hp.objs.size)).get? (hp.objs.size + 1) = some (PySem.HandSPX.excO C hp.objs.size) := by heap_get
  have I2 : Inv X pins σ (upd H1 (hp.objs.size + 1) (exo (hp.objs.size + 1) C none)) ⟨(hp.push (PySem.W.kdv_tup us)).push (PySem.HandSPX.excO C hp.objs.size), g, dr, tk, os⟩ :=
    I1.laid (t' := tk) (a := hp.objs.size + 1) (o := exo (hp.objs.size + 1) C none) (h' := (hp.push (PySem.W.kdv_tup us)).push (PySem.HandSPX.excO C hp.objs.size)) kk hsz (exo_ok hget)
  have r2 : Vals [V.ref (hp.objs.size + 1), v] (Value.ref (hp.objs.size + 1) :: us) := .cons rfl r1
  have hq := hsp (hp.objs.size + 1) v (upd H1 (hp.objs.size + 1) (exo (hp.objs.size + 1) C none)) (fun v0 H2 => v0 = .non ∧ ∃ (d : Addr) (fs : List (Str × V)), H2 (hp.objs.size + 1) = some (exo (hp.objs.size + 1) C (some d)) ∧ H2 d = some (exd d fs) ∧ H1 d = none ∧ Q (.ref C) (some d) (upd (del H2 (hp.objs.size + 1)) d (.xd fs))) upd_same fun dx n1 n2 => by
    have n3 : H1 dx = none := by rw [upd_ne n2] at n1; exact n1
    refine ⟨rfl, dx, [(f, v)], upd_same, by rw [upd_ne n2, upd_same], n3, ?_⟩
    have eH : upd (del (upd (upd (upd H1 (hp.objs.size + 1) (exo (hp.objs.size + 1) C none)) dx (exd dx [(f, v)])) (hp.objs.size + 1) (exo (hp.objs.size + 1) C (some dx))) (hp.objs.size + 1)) dx (.xd [(f, v)]) = upd H1 dx (.xd [(f, v)]) := by
      funext b
      by_cases e1 : b = dx
      · rw [e1, upd_same, upd_same]
      · rw [upd_ne e1, upd_ne e1]
        by_cases e2 : b = hp.objs.size + 1
        · rw [e2, del_same, hn]
        · rw [del_ne e2, upd_ne e2, upd_ne e1, upd_ne e2]
    rw [eH]
    exact q1 dx n3
  have hl : (Value.ref (hp.objs.size + 1) :: us ++ []).length = (["self", f] : List Str).length := by
    rw [List.append_nil, ← r2.length]
    rfl
  have hus : us.length ≤ sizeLine := by
    rw [← Paired.length r1, sizeLine_eq]
    exact (by decide : 1 ≤ 16777216)
  have bb := hb ⟨(hp.push (PySem.W.kdv_tup us)).push (PySem.HandSPX.excO C hp.objs.size), g, dr, tk, os⟩ (Value.ref (hp.objs.size + 1) :: us) I2.kIn hl
  rw [List.append_nil] at bb
  refine wpAny_call (PySem.HandSPX.call_own F.excBase_ValueError (fun Y => PySem.HandSPX.refsVE_contains Y bm hbm) (I1.kIn _ _ hC) (PySem.W.looks_findIn I1.kIn iC) (fun self => PySem.W.bind_fn I1.kIn self tI) hus
    (codeAny_mono (F1.run _ X.stack _ _ ⟨Value.ref (hp.objs.size + 1) :: us, []⟩ (Value.ref (hp.objs.size + 1) :: us) _ _ (fun _ _ _ => False) (hr.make C us []) (I2.env0.make C us []) bb r2 hq) fun r s' hq' => ?_))
  cases r with
  | error er => exact (show False from hq').elim
  | ok fl =>
    cases fl with
    | ret u =>
      obtain ⟨v0, H2, os2, bare2, un2, hok2, rv, ev, d, fs, ea, ed, hd1, q2⟩ := hq'
      subst ev
      obtain ⟨h2, g2, d2, t2, os'⟩ := s'
      obtain ⟨t0, G, J, kG, ge, hoe, na⟩ := mk_end0 (d2 := d2) (t2 := t2) I1 hsz kk un2 hok2 os2 bare2 ea ed hd1
      exact ⟨rv, (hp.objs.size + 1), _, _, ⟨G, g2, d2, t2, os'⟩, _, .ref C, some d, rfl, J, kG, ge, hoe, ⟨rfl, rfl, fun vs e => by cases e; rfl⟩, rfl, rfl, na, rfl, bare2, raises_own TC.exC TC.tyC, q2⟩
    | next => exact False.elim hq'
    | brk => exact False.elim hq'
    | cont => exact False.elim hq'
end
def mRaise (c : Nat) (f : Nm) (m : ME) : MS := fun env h => (m env h).bind fun x h1 => .exc c [(f, x)] h1
def mRaise0 (c : Nat) : MS := fun _ h => .exc c [] h
section
variable {w : Wo} {EX : XC} {X : Cx} {k : Nat} {e : Expr} {p pos pos' : Pos} {x : Str} {A : Addr} {m : ME}
theorem ms_raise (c : Nat) (f : Nm) (C : Cxt w (k + 2) X) (tk : TkX w EX X) (hA : w.cl c = some A) (T : XcOk w.K X.mg x A (nmS f) X.prog X.w X.base) (hg : Gl X x) (he : PE X e (tM w EX m))
    (hdb : (x == ("__debug__" : Str)) = false := by decide) (hs : starEach [e] X.env = (false, eval e X.env) :: starEach [] X.env := by rfl) (hpl : (backTo pos (starEach [] X.env)).any (·.1) = false := by rfl) :
    PS X (.Raise (some (.Call (.Name x p) [e] [] pos)) none pos') (tS w EX (mRaise c f m)) := by
  rw [← C.hK] at T
  refine PS_imp (L2N.ps_raise C.calm tk (pmk_1 T (C.room.mono (by omega)) hg (pa_cons he pa_nil hs) hdb hs hpl)) fun D s H hh => ?_
  obtain ⟨M, rho, env, h, er, hr, o⟩ := hh
  refine tM.of er hr (Out.bind o) fun x h1 M1 rho1 H1 v st1 er1 hr1 o1 rv => ⟨v, rfl, fun d hd => ?_⟩
  have g := same_upd (o := .xd [(nmS f, v)]) hd
  have st : Step M1 rho1 H1 M1 rho1 (upd H1 d (.xd [(nmS f, v)])) := Step.grow g
  refine ⟨c, A, [(nmS f, v)], [(f, x)], h1, M1, rho1, rfl, hA, ⟨fun y ey => ?_, fun z => (nomatch z)⟩, hr1.grow g, .cons (rv.step st hr1) .nil, o1 _ _ _ st (hr1.grow g)⟩
  cases ey
  exact ⟨upd_same, fun z => hr1.live d z hd⟩
end
end MC

end
section
set_option maxRecDepth 100000
set_option maxHeartbeats 4000000
namespace MC
open PySem PySem.Spec PyProof.Rows L2

theorem fly_keeps {base h h' : Heap} {l : List Env} {e : Addr} {Z : Obj → Prop} (x : HandSPX.FlyingZ base l e Z h) (k : ∀ b o, h.get? b = some o → h'.get? b = some o) : HandSPX.FlyingZ base l e Z h' := by
  obtain ⟨f1, f2, f3, oe, vs, T, oT, ts, he, hz, hd, h1, hn, hne, hT, hdT, h3⟩ := x
  exact ⟨fun b o q => k b o (f1 b o q), f2, f3.of_keeps fun b o q _ => ⟨o, k b o q, rfl⟩, oe, vs, T, oT, ts, k _ _ he, hz, hd, h1, hn, hne, k _ _ hT, hdT, h3⟩
/-- a clause's classes: whether an error of the class cls is taken -/
def TstM (X : Cx) (t : Expr) (cls : Value) (b : Bool) : Prop := ∀ (a : Addr) (pn pins : List (Addr × Obj)) (σ : L2.St) (H : Hp) (s : Shared) (Q : Bool → Shared → Prop) (E : Value → Shared → Prop), Inv (X.suite a pn) pins σ H s → PySem.W.Looks (model X.prog X.w) s.heap (typeOf (.ref a)) cls →
  (∀ h', (∀ q o, s.heap.get? q = some o → h'.get? q = some o) → Q b { s with heap := h' }) → wpAny (model X.prog X.w) (X.A.mark (some (.ref a))) (eval t X.env) (fun c s₁ => wpAny (model X.prog X.w) (X.A.mark (some (.ref a))) (excMatches (.ref a) c) Q E s₁) E s
section
variable {X : Cx} {x y z : Str} {c1 c2 c3 cls : Value} {b : Bool} {p1 p2 p3 pos : Pos}
theorem nm_run (n : Names X x c1) {a : Addr} {pn pins : List (Addr × Obj)} {σ : L2.St} {H : Hp} {s : Shared} {Q : Value → Shared → Prop} {E : Value → Shared → Prop} (I : Inv (X.suite a pn) pins σ H s) (q : Q c1 s) : wpAny (model X.prog X.w) (X.A.mark (some (.ref a))) (eval (.Name x p1) X.env) Q E s := by
  obtain ⟨hg, hdbg, hm | ⟨hm, hv, hnn⟩⟩ := n
  · exact ld_glob (X := X.suite a pn) I hg hm q hdbg
  · exact ld_blt (X := X.suite a pn) I hg hm hv q hnn hdbg
theorem tst_3 {kk : Nat} (n1 : Names X x c1) (n2 : Names X y c2) (n3 : Names X z c3) (he : PySem.W.exmAny X.K cls [c1, c2, c3] = some b) : TstM X (.Tuple [.Name x p1, .Name y p2, .Name z p3] kk pos) cls b := fun a pn pins σ H s Q E I L q => by
  refine wpAny_Tuple (wpAny_items_cons (nm_run n1 I (wpAny_items_cons (nm_run n2 I (wpAny_items_cons (nm_run n3 I (wpAny_items_nil ⟨by size_fits, ?_⟩)))))))
  have kp : ∀ q o, s.heap.get? q = some o → (s.heap.push { cls := .type "tuple", data := .seq [c1, c2, c3].toArray }).get? q = some o := fun _ _ z => Heap.get?_push_of_some _ z
  exact (PySem.W.exm_tup3 (I.kIn.keeps kp) (L.keeps kp) (Heap.get?_push_size s.heap rfl) he).here (q _ kp)
end
/-- a clause: what it takes, its name's slot, its suite's reading -/
structure ClR where
  ok : Value → Bool → Prop
  nm : Option Nat
  ts : Addr → Obj → Value → Option Addr → TS
/-- what the clauses wish of an exception, one after the other -/
def wCl (Wout : WX) (D : Ends) : List ClR → WX
  | [] => Wout
  | q :: r => fun cls d σ H => ∃ b, q.ok cls b ∧ (b = true → ∀ a oe, H a = none → L2N.Zn cls d oe → (∃ vs, oe.data = .fields vs) → match q.nm with
      | none => q.ts a oe cls d D σ H
      | some i => q.ts a oe cls d { nx := fun σ' H' => D.nx (σ'.set i none) H', rt := D.rt, bk := fun σ' H' => D.bk (σ'.set i none) H', ct := fun σ' H' => D.ct (σ'.set i none) H' } (σ.set i (some (.ref a))) H) ∧
      (b = false → wCl Wout D r cls d σ H)
inductive ClsOk (X : Cx) : List ExceptHandler → List ClR → Prop
  | nil : ClsOk X [] []
  | no {t : Expr} {q : ClR} {b₀ : Stmt} {suite : List Stmt} {pos' : Pos} {hds : List ExceptHandler} {l : List ClR} (hn : q.nm = none) (hc : ∀ cls b, q.ok cls b → TstM X t cls b)
      (hsu : ∀ (a : Addr) (oe : Obj) (cls : Value) (d : Option Addr) (pn : List (Addr × Obj)), L2N.Zn cls d oe → (∃ vs, oe.data = .fields vs) → PSs (X.suite a ((a, oe) :: pn)) (b₀ :: suite) (q.ts a oe cls d)) (r : ClsOk X hds l) :
      ClsOk X (.ExceptHandler (some t) none (b₀ :: suite) pos' :: hds) (q :: l)
  | as {t : Expr} {q : ClR} {n : Str} {i : Nat} {b₀ : Stmt} {suite : List Stmt} {pos' : Pos} {hds : List ExceptHandler} {l : List ClR} (hn : q.nm = some i) (hN : X.N.Nodup) (hi : X.N[i]? = some n) (hln : X.env.kindOf n = some .local) (hc : ∀ cls b, q.ok cls b → TstM X t cls b)
      (hsu : ∀ (a : Addr) (oe : Obj) (cls : Value) (d : Option Addr) (pn : List (Addr × Obj)), L2N.Zn cls d oe → (∃ vs, oe.data = .fields vs) → PSs (X.suite a ((a, oe) :: pn)) (b₀ :: suite) (q.ts a oe cls d)) (r : ClsOk X hds l) :
      ClsOk X (.ExceptHandler (some t) (some n) (b₀ :: suite) pos' :: hds) (q :: l)
section
variable {X : Cx} {body : List Stmt} {h₀ : ExceptHandler} {hds : List ExceptHandler} {l : List ClR} {pos : Pos} {tb : WX → TS} {Wout : WX}
theorem ps_try_cl (hs : X.stack = X.env :: X.outer) (hf : X.env.frame = some X.env.locals) (tk : L2N.Takes X Wout)
    (hb : ∀ (W : WX) (pn : List (Addr × Obj)) (xe : Value → Shared → Prop), L2N.Takes (X.tr pn xe) W → PassesOwn (model X.prog X.w) X.A X.env xe → PSs (X.tr pn xe) body (tb W))
    (hh : ClsOk X (h₀ :: hds) l) : PS X (.Try body (h₀ :: hds) [] [] pos) (fun D σ H => tb (wCl Wout D l) D σ H) := by
  refine ⟨fun pins s σ H D I h => ?_⟩
  have ok := I.ok
  have hfr : X.A.frames = some (X.env :: X.outer) := by rw [ok.frames, hs]
  refine wpAny_Try_except ?_
  refine wpAny_mono ((hb (wCl Wout D l) (X.pn ++ pins) (fun e s₁ => wpAny (model X.prog X.w) X.A (noteFrame e X.env) (fun _ s₂ => wpAny (model X.prog X.w) X.A (setFlight e none) (fun _ s₃ =>
    wpAny (model X.prog X.w) X.A (handleBy e X.env (h₀ :: hds)) (SP X pins D) X.xe s₃) X.xe s₂) X.xe s₁) (fun u s' xx => ?_) PassesOwn.looking).run [] s σ H D (I.toTry _) h) (fun f s1 hsp => ?_) (fun e s1 he => he)
  · obtain ⟨a, B, sI, pins', σ', H', cls, d, rfl, J', nb, up, sky, na, os, ag, w⟩ := xx
    have J : Inv X pins σ' H' sI := J'.ofTry ok
    have sky' : Sky B (X.env :: X.outer) a (L2N.Zn cls d) X.env.locals s'.heap := by rw [← hs]; exact sky
    show wpAny (model X.prog X.w) X.A (noteFrame (.ref a) X.env) _ _ _
    refine L2N.Sky.land L2N.Zn.steady hfr hf sky' fun h3 fl3 up3 => ?_
    have notFr : ∀ {h : Heap} {o : Obj} {vs : Array Value}, h.FunFrames B (X.env :: X.outer) → h.get? a = some o → o.data = .fields vs → a ∉ frs (X.env :: X.outer) := fun {h o vs} ff e dd hm => by
      obtain ⟨_, o', e', hnf⟩ := ff.mem hm
      rw [e] at e'; cases e'
      exact hnf _ dd
    have nfr : a ∉ frs (X.env :: X.outer) := by
      obtain ⟨oe3, vs3, he3, hz3, hd3⟩ := fl3.there
      exact notFr fl3.2.2.1 he3 hd3
    have nL : a ≠ X.env.locals := fun z => nfr (List.mem_filterMap.mpr ⟨X.env, List.mem_cons_self, by rw [hf, z]⟩)
    have nF : a ∉ X.fs := fun hm => by
      obtain ⟨e, he, q⟩ := List.mem_filterMap.mp hm
      exact nfr (List.mem_filterMap.mpr ⟨e, List.mem_cons_of_mem _ he, q⟩)
    have go : ∀ {hds' : List ExceptHandler} {l' : List ClR}, ClsOk X hds' l' → wCl Wout D l' cls d σ' H' → ∀ g, HandSPX.FlyingZ B (X.env :: X.outer) a (L2N.Zn cls d) g → sI.heap.UpToSlots g →
        wpAny (model X.prog X.w) X.A (handleBy (.ref a) X.env hds') (SP X pins D) X.xe { s' with heap := g } := by
      intro hds' l' hk
      induction hk with
      | nil =>
        intro w g fl ug
        refine wpAny_handleBy_nil ?_
        obtain ⟨k1, k2, k3, oe, vs, T, oT, ts', he, hz, hd, h1, hr⟩ := id fl
        unfold PySem.passOn
        refine wpAny_bind (wpAny_field he hd h1 ?_)
        rw [if_neg (show ¬ ((Value.ref T == Value.none) = true) from by simp)]
        have fin : wpAny (model X.prog X.w) X.A (setFlight (.ref a) X.env.frame) (fun _ s4 => wpAny (model X.prog X.w) X.A (throw (.ref a) : Sem Flow) (SP X pins D) X.xe s4) X.xe { s' with heap := g } := by
          rw [hf]
          refine HandSPX.setFlight_upZ fl fun h4 hh4 up4 => wpAny_throw (tk _ _ ?_)
          exact ⟨a, B, sI, pins, σ', H', cls, d, rfl, J, nb, ug.trans up4, .inr (.inr (by rw [hs]; exact hh4)), na, os, ag, w⟩
        first
          | exact wpAny_bind (wpAny_pure (wpAny_bind fin))
          | exact wpAny_bind fin
      | @no t q b₀ suite pos' hds2 l2 hn hc hsu r ih =>
        intro w g fl ug
        obtain ⟨b, hb1, hyes, hno⟩ := w
        rw [hn] at hyes
        obtain ⟨oe3, vs3, he3, hz3, hd3⟩ := fl.there
        have J3 : Inv X pins σ' H' { s' with heap := g } := J.landed nb fl.1 ug os ag
        have S3 := J3.suite he3 hd3 na nL nF
        refine wpAny_handleBy_cons (codeAny_handlers_test ?_) (by intro q; cases q)
        have LT : PySem.W.Looks (model X.prog X.w) g (typeOf (.ref a)) cls := fun A Q E s k q => wpAny_typeOf_ref (k _ _ he3) (by rw [hz3.1]; exact q)
        refine hc cls b hb1 a _ _ _ _ { s' with heap := g } _ _ S3 LT fun g2 kp => ?_
        have fl2 := fly_keeps fl kp
        have ug2 : sI.heap.UpToSlots g2 := ug.trans (Heap.UpToSlots.of_keeps kp)
        cases b with
        | true =>
          refine codeAny_handlers_suite ?_
          refine HandSPX.lands_againZ fl2 fun h4 fl4 up4 => ?_
          have J4 : Inv X pins σ' H' { s' with heap := h4 } := J.landed nb fl4.1 (ug2.trans up4) os ag
          obtain ⟨oe4, vs4, he4, hz4, hd4⟩ := fl4.there
          have S4 := J4.suite he4 hd4 na nL nF
          refine wpAny_mono ((hsu a oe4 cls d (X.pn ++ pins) hz4 ⟨_, hd4⟩).run [] _ _ H' _ S4 (hyes rfl a oe4 na hz4 ⟨_, hd4⟩)) (fun f s6 hsp => ?_) (fun _ _ z => False.elim z)
          cases f with
          | next =>
            obtain ⟨σ6, H6, S6, q6⟩ := hsp
            exact ⟨_, _, S6.unsuite ok, q6⟩
          | brk =>
            obtain ⟨σ6, H6, S6, q6⟩ := hsp
            exact ⟨_, _, S6.unsuite ok, q6⟩
          | cont =>
            obtain ⟨σ6, H6, S6, q6⟩ := hsp
            exact ⟨_, _, S6.unsuite ok, q6⟩
          | ret u =>
            obtain ⟨v6, σ6, H6, S6, r6, q6⟩ := hsp
            exact ⟨_, _, _, S6.unsuite ok, r6, q6⟩
        | false =>
          show wpAny _ X.A (handleBy (.ref a) X.env hds2) _ _ _
          exact ih (hno rfl) g2 fl2 ug2
      | @as t q n i b₀ suite pos' hds2 l2 hn hN hi hln hc hsu r ih =>
        intro w g fl ug
        obtain ⟨b, hb1, hyes, hno⟩ := w
        rw [hn] at hyes
        obtain ⟨oe3, vs3, he3, hz3, hd3⟩ := fl.there
        have J3 : Inv X pins σ' H' { s' with heap := g } := J.landed nb fl.1 ug os ag
        have S3 := J3.suite he3 hd3 na nL nF
        refine wpAny_handleBy_cons (codeAny_handlers_test ?_) (by intro q; cases q)
        have LT : PySem.W.Looks (model X.prog X.w) g (typeOf (.ref a)) cls := fun A Q E s k q => wpAny_typeOf_ref (k _ _ he3) (by rw [hz3.1]; exact q)
        refine hc cls b hb1 a _ _ _ _ { s' with heap := g } _ _ S3 LT fun g2 kp => ?_
        have fl2 := fly_keeps fl kp
        have ug2 : sI.heap.UpToSlots g2 := ug.trans (Heap.UpToSlots.of_keeps kp)
        cases b with
        | true =>
          refine codeAny_handlers_suite_as ?_
          refine HandSPX.lands_againZ fl2 fun h4 fl4 up4 => ?_
          have J4 : Inv X pins σ' H' { s' with heap := h4 } := J.landed nb fl4.1 (ug2.trans up4) os ag
          obtain ⟨oe4, vs4, he4, hz4, hd4⟩ := fl4.there
          have S4 := J4.suite he4 hd4 na nL nF
          refine store_ok (X := X.suite a ((a, oe4) :: (X.pn ++ pins))) (v := .ref a) S4 hN hi (.inl hln) rfl (fun s5 S5 => ?_) (.inr hln)
          refine wpAny_mono ((hsu a oe4 cls d (X.pn ++ pins) hz4 ⟨_, hd4⟩).run [] s5 _ H' _ S5 (hyes rfl a oe4 na hz4 ⟨_, hd4⟩)) (fun f s6 hsp => ?_) (fun _ _ z => False.elim z)
          have end_ : ∀ {σ6 : L2.St} {H6 : Hp} {Q : Shared → Prop}, Inv (X.suite a ((a, oe4) :: (X.pn ++ pins))) [] σ6 H6 s6 → (∀ s7, Inv X pins (σ6.set i none) H6 s7 → Q s7) →
              wpAny (model X.prog X.w) X.A (do bindName X.env n .none; unbindBehindTheSuite X.env n pos') (fun _ s7 => Q s7) X.xe s6 := fun {σ6 H6 Q} S6 hq => gone_ok (S6.unsuite ok) hN hi hln hq
          cases f with
          | next =>
            obtain ⟨σ6, H6, S6, q6⟩ := hsp
            exact end_ S6 fun s7 J7 => ⟨_, _, J7, q6⟩
          | brk =>
            obtain ⟨σ6, H6, S6, q6⟩ := hsp
            exact end_ S6 fun s7 J7 => ⟨_, _, J7, q6⟩
          | cont =>
            obtain ⟨σ6, H6, S6, q6⟩ := hsp
            exact end_ S6 fun s7 J7 => ⟨_, _, J7, q6⟩
          | ret u =>
            obtain ⟨v6, σ6, H6, S6, r6, q6⟩ := hsp
            exact end_ S6 fun s7 J7 => ⟨_, _, _, J7, r6, q6⟩
        | false =>
          show wpAny _ X.A (handleBy (.ref a) X.env hds2) _ _ _
          exact ih (hno rfl) g2 fl2 ug2
    exact go hh w h3 fl3 (up.trans up3)
  · cases f with
    | next =>
      obtain ⟨σ', H', J', q⟩ := hsp
      exact wpAny_execs_nil ⟨σ', H', J'.ofTry ok, q⟩
    | brk =>
      obtain ⟨σ', H', J', q⟩ := hsp
      exact ⟨σ', H', J'.ofTry ok, q⟩
    | cont =>
      obtain ⟨σ', H', J', q⟩ := hsp
      exact ⟨σ', H', J'.ofTry ok, q⟩
    | ret u =>
      obtain ⟨v, σ', H', J', r, q⟩ := hsp
      exact ⟨v, σ', H', J'.ofTry ok, r, q⟩
end
end MC

end
section
set_option maxRecDepth 100000
set_option maxHeartbeats 4000000
namespace MC
open PySem PySem.Spec PyProof.Rows L2

/-- where an exception is handled -/
@[reducible] def Wo.hot (w : Wo) (p : Addr × Obj) : Wo := { w with ex := some p }

mutual
def nxV : PV → Bool
  | .exn _ _ => false
  | .tup xs => nxVs xs
  | .scr xs => nxVs xs
  | .rdic kvs => nxK kvs
  | .ins _ fs => nxF fs
  | .non => true
  | .bl _ => true
  | .int _ => true
  | .str _ => true
  | .ref _ => true
  | .gl _ => true
def nxVs : List PV → Bool
  | [] => true
  | x :: xs => nxV x && nxVs xs
def nxK : List (PV × PV) → Bool
  | [] => true
  | (_, x) :: xs => nxV x && nxK xs
def nxF : List (Nm × PV) → Bool
  | [] => true
  | (_, x) :: xs => nxV x && nxF xs
end
section
variable {w : Wo} {p : Addr × Obj} {M : Addr → Prop} {rho : List Addr} {H : Hp}
mutual
theorem VR.nx (e0 : w.ex = none) : ∀ {x : PV} {v : V}, VR w M rho H x v → nxV x = true
  | _, _, .non | _, _, .bl _ | _, _, .int _ | _, _, .str _ | _, _, .ref _ | _, _, .gl _ => by unfold nxV; rfl
  | _, _, .tup _ s => by unfold nxV; exact VRs.nx e0 s
  | _, _, .scr _ s => by unfold nxV; exact VRs.nx e0 s
  | _, _, .rdic _ _ s => by unfold nxV; exact KRs.nx e0 s
  | _, _, .ins _ _ _ s => by unfold nxV; exact FRs.nx e0 s
  | _, _, .exn e1 _ _ _ _ _ _ => by rw [e0] at e1; cases e1
theorem VRs.nx (e0 : w.ex = none) : ∀ {xs : List PV} {vs : List V}, VRs w M rho H xs vs → nxVs xs = true
  | _, _, .nil => by unfold nxVs; rfl
  | _, _, .cons a b => by unfold nxVs; rw [VR.nx e0 a, VRs.nx e0 b]; rfl
theorem FRs.nx (e0 : w.ex = none) : ∀ {fs : List (Nm × PV)} {gs : List (Str × V)}, FRs w M rho H fs gs → nxF fs = true
  | _, _, .nil => by unfold nxF; rfl
  | _, _, .cons a b => by unfold nxF; rw [VR.nx e0 a, FRs.nx e0 b]; rfl
theorem KRs.nx (e0 : w.ex = none) : ∀ {fs : List (PV × PV)} {gs : List (Key × V)}, KRs w M rho H fs gs → nxK fs = true
  | _, _, .nil => by unfold nxK; rfl
  | _, _, .cons _ a b => by unfold nxK; rw [VR.nx e0 a, KRs.nx e0 b]; rfl
end
mutual
theorem VR.heat (e0 : w.ex = none) : ∀ {x : PV} {v : V}, VR w M rho H x v → VR (w.hot p) M rho H x v
  | _, _, .non => .non
  | _, _, .bl b => .bl b
  | _, _, .int i => .int i
  | _, _, .str s => .str s
  | _, _, .ref e => .ref e
  | _, _, .gl e => .gl e
  | _, _, .tup q s => .tup q (VRs.heat e0 s)
  | _, _, .scr q s => .scr q (VRs.heat e0 s)
  | _, _, .rdic a b s => .rdic a b (KRs.heat e0 s)
  | _, _, .ins a b c s => .ins a b c (FRs.heat e0 s)
  | _, _, .exn e1 _ _ _ _ _ _ => by rw [e0] at e1; cases e1
theorem VRs.heat (e0 : w.ex = none) : ∀ {xs : List PV} {vs : List V}, VRs w M rho H xs vs → VRs (w.hot p) M rho H xs vs
  | _, _, .nil => .nil
  | _, _, .cons a b => .cons (VR.heat e0 a) (VRs.heat e0 b)
theorem FRs.heat (e0 : w.ex = none) : ∀ {fs : List (Nm × PV)} {gs : List (Str × V)}, FRs w M rho H fs gs → FRs (w.hot p) M rho H fs gs
  | _, _, .nil => .nil
  | _, _, .cons a b => .cons (VR.heat e0 a) (FRs.heat e0 b)
theorem KRs.heat (e0 : w.ex = none) : ∀ {fs : List (PV × PV)} {gs : List (Key × V)}, KRs w M rho H fs gs → KRs (w.hot p) M rho H fs gs
  | _, _, .nil => .nil
  | _, _, .cons k a b => .cons k (VR.heat e0 a) (KRs.heat e0 b)
end
mutual
theorem VR.cool : ∀ {x : PV} {v : V}, VR (w.hot p) M rho H x v → nxV x = true → VR w M rho H x v
  | _, _, .non, _ => .non
  | _, _, .bl b, _ => .bl b
  | _, _, .int i, _ => .int i
  | _, _, .str s, _ => .str s
  | _, _, .ref e, _ => .ref e
  | _, _, .gl e, _ => .gl e
  | _, _, .tup q s, n => .tup q (VRs.cool s (by unfold nxV at n; exact n))
  | _, _, .scr q s, n => .scr q (VRs.cool s (by unfold nxV at n; exact n))
  | _, _, .rdic a b s, n => .rdic a b (KRs.cool s (by unfold nxV at n; exact n))
  | _, _, .ins a b c s, n => .ins a b c (FRs.cool s (by unfold nxV at n; exact n))
  | _, _, .exn _ _ _ _ _ _ _, n => by unfold nxV at n; cases n
theorem VRs.cool : ∀ {xs : List PV} {vs : List V}, VRs (w.hot p) M rho H xs vs → nxVs xs = true → VRs w M rho H xs vs
  | _, _, .nil, _ => .nil
  | _, _, .cons a b, n => by
    unfold nxVs at n
    rw [Bool.and_eq_true] at n
    exact .cons (VR.cool a n.1) (VRs.cool b n.2)
theorem FRs.cool : ∀ {fs : List (Nm × PV)} {gs : List (Str × V)}, FRs (w.hot p) M rho H fs gs → nxF fs = true → FRs w M rho H fs gs
  | _, _, .nil, _ => .nil
  | _, _, .cons a b, n => by
    unfold nxF at n
    rw [Bool.and_eq_true] at n
    exact .cons (VR.cool a n.1) (FRs.cool b n.2)
theorem KRs.cool : ∀ {fs : List (PV × PV)} {gs : List (Key × V)}, KRs (w.hot p) M rho H fs gs → nxK fs = true → KRs w M rho H fs gs
  | _, _, .nil, _ => .nil
  | _, _, .cons k a b, n => by
    unfold nxK at n
    rw [Bool.and_eq_true] at n
    exact .cons k (VR.cool a n.1) (KRs.cool b n.2)
end
mutual
theorem nk_nx : ∀ (x : PV) (k : NestedKey), nkP x = some k → nxV x = true
  | .non, _, _ | .bl _, _, _ | .int _, _, _ | .str _, _, _ => by unfold nxV; rfl
  | .tup xs, k, e => by
    unfold nkP at e
    cases q : nkPs xs with
    | none => rw [q] at e; cases e
    | some ks => unfold nxV; exact nks_nx xs ks q
  | .scr _, _, e | .rdic _, _, e | .ins _ _, _, e | .ref _, _, e | .gl _, _, e | .exn _ _, _, e => by unfold nkP at e; cases e
theorem nks_nx : ∀ (x : List PV) (k : List NestedKey), nkPs x = some k → nxVs x = true
  | [], _, _ => by unfold nxVs; rfl
  | x :: xs, k, e => by
    unfold nkPs at e
    cases q : nkP x with
    | none => rw [q] at e; cases e
    | some y =>
      cases q2 : nkPs xs with
      | none => rw [q, q2] at e; cases e
      | some ys => unfold nxVs; rw [nk_nx x y q, nks_nx xs ys q2]; rfl
end
theorem TRs.heat (e0 : w.ex = none) : ∀ {fs : List (PV × PV)} {gs : List (NestedKey × Addr × Value)}, TRs w M rho H fs gs → TRs (w.hot p) M rho H fs gs
  | _, _, .nil => .nil
  | _, _, .cons k d a b c q => .cons k d (a.heat e0) (b.heat e0) c (TRs.heat e0 q)
theorem TRs.nx (e0 : w.ex = none) : ∀ {fs : List (PV × PV)} {gs : List (NestedKey × Addr × Value)}, TRs w M rho H fs gs → nxK fs = true
  | _, _, .nil => by unfold nxK; rfl
  | _, _, .cons k d a b c q => by unfold nxK; rw [b.nx e0, TRs.nx e0 q]; rfl
theorem TRs.cool : ∀ {fs : List (PV × PV)} {gs : List (NestedKey × Addr × Value)}, TRs (w.hot p) M rho H fs gs → nxK fs = true → TRs w M rho H fs gs
  | _, _, .nil, _ => .nil
  | _, _, .cons k d a b c q, n => by
    unfold nxK at n
    rw [Bool.and_eq_true] at n
    exact .cons k d (a.cool (nk_nx _ _ k)) (b.cool n.1) c (TRs.cool q n.2)
theorem ER.heat (e0 : w.ex = none) : ∀ {e : List (Option PV)} {s : Sl}, ER w M rho H e s → ER (w.hot p) M rho H e s
  | _, _, .nil => .nil
  | _, _, .has a b => .has (a.heat e0) (ER.heat e0 b)
  | _, _, .no b => .no (ER.heat e0 b)
def nxO : PO → Bool
  | .lst xs => nxVs xs
  | .ins _ fs => nxF fs
  | .dic _ kvs => nxK kvs
  | .dit _ kvs => nxK kvs
theorem OR.nx (e0 : w.ex = none) {a : Addr} {o : PO} (q : OR w M rho H a o) : nxO o = true := by
  cases o with
  | lst xs => obtain ⟨vs, p, s⟩ := q; exact s.nx e0
  | ins c fs => obtain ⟨C, dx, gs, p1, p, s⟩ := q; exact s.nx e0
  | dic lk kvs => obtain ⟨ks, p, s⟩ := q; exact s.nx e0
  | dit lk kvs => obtain ⟨ks, p, z1, z2, z3, s⟩ := q; exact s.nx e0
theorem OR.heat (e0 : w.ex = none) {a : Addr} {o : PO} (q : OR w M rho H a o) : OR (w.hot p) M rho H a o := by
  cases o with
  | lst xs => obtain ⟨vs, p, s⟩ := q; exact ⟨vs, p, s.heat e0⟩
  | ins c fs => obtain ⟨C, dx, gs, p1, p, s⟩ := q; exact ⟨C, dx, gs, p1, p, s.heat e0⟩
  | dic lk kvs => obtain ⟨ks, p, s⟩ := q; exact ⟨ks, p, s.heat e0⟩
  | dit lk kvs => obtain ⟨ks, p, z1, z2, z3, s⟩ := q; exact ⟨ks, p, z1, z2, z3, s.heat e0⟩
theorem OR.cool {a : Addr} {o : PO} (q : OR (w.hot p) M rho H a o) (n : nxO o = true) : OR w M rho H a o := by
  cases o with
  | lst xs => obtain ⟨vs, p, s⟩ := q; exact ⟨vs, p, s.cool n⟩
  | ins c fs => obtain ⟨C, dx, gs, p1, p, s⟩ := q; exact ⟨C, dx, gs, p1, p, s.cool n⟩
  | dic lk kvs => obtain ⟨ks, p, s⟩ := q; exact ⟨ks, p, s.cool n⟩
  | dit lk kvs => obtain ⟨ks, p, z1, z2, z3, s⟩ := q; exact ⟨ks, p, z1, z2, z3, s.cool n⟩
theorem HR.heat (e0 : w.ex = none) {h : PH} (r : HR w M rho H h) : HR (w.hot p) M rho H h :=
  ⟨r.len, r.nd, r.mem, r.live, fun n o e => (r.ob n o e).elim fun a ha => ⟨a, ha.1, ha.2.heat e0⟩, r.tabs⟩
theorem HR.nx (e0 : w.ex = none) {h : PH} (r : HR w M rho H h) {n : Nat} {o : PO} (e : h[n]? = some o) : nxO o = true := by
  obtain ⟨a, _, q⟩ := r.ob n o e
  exact q.nx e0
theorem HR.cool {h : PH} (r : HR (w.hot p) M rho H h) (n : ∀ (i : Nat) (o : PO), h[i]? = some o → nxO o = true) : HR w M rho H h :=
  ⟨r.len, r.nd, r.mem, r.live, fun i o e => (r.ob i o e).elim fun a ha => ⟨a, ha.1, ha.2.cool (n i o e)⟩, r.tabs⟩
end

def beqO : PO → PO → Bool
  | .lst a, .lst b => beqVs a b
  | .ins c a, .ins d b => c == d && beqF a b
  | .dic l a, .dic m b => l == m && beqK a b
  | .dit l a, .dit m b => l == m && beqK a b
  | _, _ => false
def beqH : PH → PH → Bool
  | [], [] => true
  | a :: x, b :: y => beqO a b && beqH x y
  | _, _ => false
theorem beqO_rf : ∀ x : PO, beqO x x = true
  | .lst a => beqVs_rf a
  | .ins c a => by unfold beqO; simp [beqF_rf a]
  | .dic l a => by unfold beqO; simp [beqK_rf a]
  | .dit l a => by unfold beqO; simp [beqK_rf a]
theorem beqH_rf : ∀ x : PH, beqH x x = true
  | [] => rfl
  | a :: x => by unfold beqH; rw [beqO_rf a, beqH_rf x]; rfl
theorem beqO_ok : ∀ {x y : PO}, beqO x y = true → x = y
  | .lst a, .lst b, h => by rw [beqVs_ok (show beqVs a b = true from h)]
  | .ins c a, .ins d b, h => by unfold beqO at h; rw [Bool.and_eq_true] at h; rw [beq_iff_eq.mp h.1, beqF_ok h.2]
  | .dic l a, .dic m b, h => by unfold beqO at h; rw [Bool.and_eq_true] at h; rw [beq_iff_eq.mp h.1, beqK_ok h.2]
  | .dit l a, .dit m b, h => by unfold beqO at h; rw [Bool.and_eq_true] at h; rw [beq_iff_eq.mp h.1, beqK_ok h.2]
  | .lst _, .ins _ _, h | .lst _, .dic _ _, h | .lst _, .dit _ _, h | .ins _ _, .lst _, h | .ins _ _, .dic _ _, h | .ins _ _, .dit _ _, h | .dic _ _, .lst _, h | .dic _ _, .ins _ _, h | .dic _ _, .dit _ _, h
  | .dit _ _, .lst _, h | .dit _ _, .ins _ _, h | .dit _ _, .dic _ _, h => by unfold beqO at h; cases h
theorem beqH_ok : ∀ {x y : PH}, beqH x y = true → x = y
  | [], [], _ => rfl
  | a :: x, b :: y, h => by unfold beqH at h; rw [Bool.and_eq_true] at h; rw [beqO_ok h.1, beqH_ok h.2]
  | [], _ :: _, h | _ :: _, [], h => by unfold beqH at h; cases h

structure Hd where
  tb : List (Nat × Bool)
  nm : Option Nat
  su : MS
/-- a value that was there, or one of the exception's -/
def okx (fs : List (Nm × PV)) (x : PV) : Bool := nxV x || fs.any fun p => beqV p.2 x
def okO (fs : List (Nm × PV)) : PO → Bool
  | .lst xs => xs.all (okx fs)
  | _ => false
/-- behind a suite that has the exception's name: what was there stands, new lists hold no exception -/
def coldR (fs : List (Nm × PV)) (h : PH) : R Fl → R Fl
  | .ok (.rt x) h2 => bif okx fs x && beqH h (h2.take h.length) && (h2.drop h.length).all (okO fs) then .ok (.rt x) h2 else .stuck
  | _ => .stuck
def rtR : R Fl → R Fl
  | .ok (.rt x) h2 => .ok (.rt x) h2
  | _ => .stuck
def hdR (N : Nat) (q : Hd) (c : Nat) (fs : List (Nm × PV)) (h : PH) : R Fl := match q.nm with
  | none => rtR (q.su (List.replicate N none) h)
  | some i => coldR fs h (q.su ((List.replicate N none).set i (some (.exn c fs))) h)
def hdsR (N : Nat) : List Hd → Nat → List (Nm × PV) → PH → R Fl
  | [], c, fs, h => .exc c fs h
  | q :: r, c, fs, h => match q.tb.lookup c with
    | some true => hdR N q c fs h
    | some false => hdsR N r c fs h
    | none => .stuck
@[reducible] def RTt {β : Type} (_ : Nat → List (Nm × PV) → PH → R β) : Type := R β
/-- what is known of a clause -/
inductive HdsM (w : Wo) (k : Nat) (X : Cx) : List ExceptHandler → List Hd → Prop
  | nil : HdsM w k X [] []
  | no {t : Expr} {tb : List (Nat × Bool)} {su : MS} {b₀ : Stmt} {suite : List Stmt} {pos' : Pos} {hds : List ExceptHandler} {l : List Hd} (hc : ∀ p ∈ tb, ∀ A, w.cl p.1 = some A → TstM X t (.ref A) p.2)
      (hsu : ∀ (a : Addr) (oe : Obj) (pn : List (Addr × Obj)), PSs (X.suite a ((a, oe) :: pn)) (b₀ :: suite) (tS w EXF su)) (r : HdsM w k X hds l) : HdsM w k X (.ExceptHandler (some t) none (b₀ :: suite) pos' :: hds) (⟨tb, none, su⟩ :: l)
  | as {t : Expr} {tb : List (Nat × Bool)} {su : MS} {n : Str} {i : Nat} {b₀ : Stmt} {suite : List Stmt} {pos' : Pos} {hds : List ExceptHandler} {l : List Hd} (hc : ∀ p ∈ tb, ∀ A, w.cl p.1 = some A → TstM X t (.ref A) p.2)
      (hN : X.N.Nodup) (hi : X.N[i]? = some n) (hln : X.env.kindOf n = some .local)
      (hsu : ∀ (a : Addr) (oe : Obj) (pn : List (Addr × Obj)), CxtG true (w.hot (a, oe)) k (X.suite a ((a, oe) :: pn)) → PSs (X.suite a ((a, oe) :: pn)) (b₀ :: suite) (tS (w.hot (a, oe)) EXF su)) (r : HdsM w k X hds l) :
      HdsM w k X (.ExceptHandler (some t) (some n) (b₀ :: suite) pos' :: hds) (⟨tb, some i, su⟩ :: l)
def clOf (w : Wo) (k : Nat) (X : Cx) (q : Hd) : ClR where
  ok := fun cls b => ∃ c A, cls = .ref A ∧ w.cl c = some A ∧ q.tb.lookup c = some b
  nm := q.nm
  ts := fun a oe cls d => match q.nm with
    | none => tS w EXF q.su
    | some i => tS (w.hot (a, oe)) EXF q.su
theorem mem_look {α β : Type} [BEq α] [LawfulBEq α] : ∀ {l : List (α × β)} {a : α} {b : β}, l.lookup a = some b → (a, b) ∈ l
  | [], _, _, e => by cases e
  | (c, d) :: l, a, b, e => by
    rw [List.lookup_cons] at e
    cases q : a == c with
    | true => rw [q] at e; cases e; rw [beq_iff_eq.mp q]; exact List.mem_cons_self
    | false => rw [q] at e; exact List.mem_cons_of_mem _ (mem_look e)
theorem er_none {w : Wo} {M : Addr → Prop} {rho : List Addr} {H : Hp} : ∀ {σ : Sl} {N : Nat}, σ.length = N → ER w M rho H (List.replicate N none) σ
  | [], _, rfl => .nil
  | _ :: _, _, rfl => .no (er_none rfl)
theorem suite_cxt {w : Wo} {k : Nat} {X : Cx} (C : Cxt w k X) {a : Addr} {oe : Obj} {pn : List (Addr × Obj)} {cls : Value} {d : Option Addr} (hz : L2N.Zn cls d oe) (hf : ∃ vs, oe.data = .fields vs) : CxtG true (w.hot (a, oe)) k (X.suite a ((a, oe) :: pn)) := by
  obtain ⟨vs, hv⟩ := hf
  exact ⟨C.hK, C.hW, fun z => (nomatch z), fun _ => ⟨(a, oe), rfl, List.mem_cons_self, rfl, vs, hv, hz.2.2 vs hv⟩, ⟨C.roomH.dp, C.roomH.un⟩, C.grd, PassesOwn.never⟩
section
variable {w : Wo} {EX : XC} {X : Cx} {k : Nat}
theorem HdsM.cls (C : Cxt w k X) {hds : List ExceptHandler} {l : List Hd} (h : HdsM w k X hds l) : ClsOk X hds (l.map (clOf w k X)) := by
  induction h with
  | nil => exact .nil
  | @no t tb su b₀ suite pos' hds l hc hsu r ih =>
    refine .no (q := clOf w k X ⟨tb, none, su⟩) rfl (fun cls b ⟨c, A, e1, e2, e3⟩ => ?_) (fun a oe cls d pn _ _ => hsu a oe pn) ih
    subst e1
    exact hc (c, b) (mem_look e3) A e2
  | @as t tb su n i b₀ suite pos' hds l hc hN hi hln hsu r ih =>
    refine .as (q := clOf w k X ⟨tb, some i, su⟩) rfl hN hi hln (fun cls b ⟨c, A, e1, e2, e3⟩ => ?_) (fun a oe cls d pn hz hf => hsu a oe pn (suite_cxt C hz hf)) ih
    subst e1
    exact hc (c, b) (mem_look e3) A e2
theorem okx_nx {fs : List (Nm × PV)} (n : nxF fs = true) {x : PV} (o : okx fs x = true) : nxV x = true := by
  unfold okx at o
  rw [Bool.or_eq_true] at o
  rcases o with o | o
  · exact o
  · obtain ⟨p, hp, e⟩ := List.any_eq_true.mp o
    rw [← beqV_ok e]
    clear o e
    induction fs with
    | nil => cases hp
    | cons q r ih =>
      obtain ⟨k, y⟩ := q
      unfold nxF at n
      rw [Bool.and_eq_true] at n
      rcases List.mem_cons.mp hp with z | z
      · rw [z]; exact n.1
      · exact ih n.2 z
theorem okxs_nx {fs : List (Nm × PV)} (n : nxF fs = true) : ∀ {xs : List PV}, xs.all (okx fs) = true → nxVs xs = true
  | [], _ => by unfold nxVs; rfl
  | x :: xs, o => by
    rw [List.all_cons, Bool.and_eq_true] at o
    unfold nxVs
    rw [okx_nx n o.1, okxs_nx n o.2]; rfl
/-- coming back from a suite -/
theorem cold_ok (e0 : w.ex = none) {p : Addr × Obj} {M : Addr → Prop} {rho : List Addr} {H : Hp} {fs : List (Nm × PV)} {gs : List (Str × V)} {h : PH} (hr : HR w M rho H h) (hf : FRs w M rho H fs gs) {r : R Fl} {D : Ends} {D' : Ends} (hD : D'.rt = D.rt)
    (o : Out w EX M rho H (coldR fs h r) (KS w D)) : Out (w.hot p) EXF M rho H r (KS (w.hot p) D') := by
  unfold coldR at o
  split at o
  · rename_i x h2
    obtain ⟨hc, o2⟩ := Out.bif o
    rw [Bool.and_eq_true, Bool.and_eq_true] at hc
    obtain ⟨⟨c1, c2⟩, c3⟩ := hc
    have n := hf.nx e0
    intro M' rho' H' st hr' v rv
    have cool : HR w M' rho' H' h2 := hr'.cool fun i o ei => by
      by_cases hi : i < h.length
      · have e2 := beqH_ok c2
        have e3 : h[i]? = some o := by rw [e2, List.getElem?_take, if_pos hi]; exact ei
        exact hr.nx e0 e3
      · have hm : o ∈ h2.drop h.length := by
          refine List.mem_of_getElem? (i := i - h.length) ?_
          rw [List.getElem?_drop, show h.length + (i - h.length) = i by omega]; exact ei
        have e3 := List.all_eq_true.mp c3 o hm
        cases o with
        | lst xs => exact okxs_nx n e3
        | _ => cases e3
    have q : D.rt v H' := o2 M' rho' H' st cool v (rv.cool (okx_nx n c1))
    show D'.rt v H'
    rw [hD]
    exact q
  · exact (show False from o).elim
theorem rt_ok {M : Addr → Prop} {rho : List Addr} {H : Hp} {r : R Fl} {D : Ends} (o : Out w EX M rho H (rtR r) (KS w D)) : Out w EXF M rho H r (KS w D) := by
  unfold rtR at o
  split at o
  · exact o
  · exact (show False from o).elim
theorem hds_wish (C : Cxt w k X) (e0 : w.ex = none) {N : Nat} {D : Ends} {cls : Value} {dd : Option Addr} {σ : Sl} {H : Hp} (hl : σ.length = N) {c : Nat} {A : Addr} {gs : List (Str × V)} {fs : List (Nm × PV)} {h : PH} {M : Addr → Prop} {rho : List Addr} (ec : cls = .ref A) (hc : w.cl c = some A) (hx : XdOk M H dd gs)
    (hr : HR w M rho H h) (hf : FRs w M rho H fs gs) : ∀ {l : List Hd}, Out w EX M rho H (hdsR N l c fs h) (KS w D) → wCl (wX w EX) D (l.map (clOf w k X)) cls dd σ H
  | [], o => ⟨c, A, gs, fs, h, M, rho, ec, hc, hx, hr, hf, (show Out w EX M rho H (.exc c fs h) (KS w D) from o) M rho H Step.refl hr⟩
  | q :: r, o => by
    unfold hdsR at o
    show ∃ b, (∃ c A, cls = .ref A ∧ w.cl c = some A ∧ q.tb.lookup c = some b) ∧ _
    split at o
    · rename_i e
      refine ⟨true, ⟨c, A, ec, hc, e⟩, fun _ a oe na hz hfl => ?_, fun z => (nomatch z)⟩
      unfold hdR at o
      obtain ⟨tb, nm, su⟩ := q
      cases nm with
      | none => exact ⟨M, rho, List.replicate N none, h, er_none hl, hr, rt_ok o⟩
      | some i =>
        subst ec
        have en : VR (w.hot (a, oe)) M rho H (.exn c fs) (.ref a) := .exn rfl hz.zc hfl hc hx.1 hx.2 (hf.heat e0)
        exact ⟨M, rho, _, h, (er_none hl).set en i, hr.heat e0, cold_ok (D := D) e0 hr hf rfl o⟩
    · rename_i e
      exact ⟨false, ⟨c, A, ec, hc, e⟩, fun z => (nomatch z), fun _ => hds_wish C e0 hl ec hc hx hr hf o⟩
    · exact (show False from o).elim
theorem takes_len {X : Cx} {W W' : WX} (t : L2N.Takes X W) (h : ∀ c d σ H, σ.length = X.N.length → W' c d σ H → W c d σ H) : L2N.Takes X W' := fun u s' z => by
  obtain ⟨a, B, sI, pins, σ, H, cls, d, e, I, nb, up, sky, na, os, ag, w⟩ := z
  exact t u s' ⟨a, B, sI, pins, σ, H, cls, d, e, I, nb, up, sky, na, os, ag, h _ _ _ _ I.len w⟩
end
end MC

end
section
set_option maxRecDepth 100000
set_option maxHeartbeats 4000000
namespace MC
open PySem PySem.Spec PyProof.Rows L2
section
variable {w : Wo} {EX : XC} {X : Cx} {k : Nat}
end
end MC

end
section
namespace MM
open MC
def xcs_value : List Nat := [11, 12, 13, 14, 15, 16, 17, 18]
def xcs_index : List Nat := [19, 20, 21, 22, 23]
def xcs_limit : List Nat := [26]
def xit_InputError : List (Nat × Bool) := [(8, true), (9, false), (10, false), (11, true), (12, true), (13, true), (14, true), (15, true), (16, true), (17, true), (18, true), (19, true), (20, true), (21, true), (22, true), (23, true), (24, false), (25, false), (26, false)]
def xit_StateError : List (Nat × Bool) := [(8, false), (9, true), (10, false), (11, false), (12, false), (13, false), (14, false), (15, false), (16, false), (17, false), (18, false), (19, false), (20, false), (21, false), (22, false), (23, false), (24, true), (25, true), (26, false)]
def xit_SizeError : List (Nat × Bool) := [(8, false), (9, false), (10, true), (11, false), (12, false), (13, false), (14, false), (15, false), (16, false), (17, false), (18, false), (19, false), (20, false), (21, false), (22, false), (23, false), (24, false), (25, false), (26, true)]
def xit_NotAMachine : List (Nat × Bool) := [(8, false), (9, false), (10, false), (11, true), (12, false), (13, false), (14, false), (15, false), (16, false), (17, false), (18, false), (19, false), (20, false), (21, false), (22, false), (23, false), (24, false), (25, false), (26, false)]
def xit_NotADesk : List (Nat × Bool) := [(8, false), (9, false), (10, false), (11, false), (12, true), (13, false), (14, false), (15, false), (16, false), (17, false), (18, false), (19, false), (20, false), (21, false), (22, false), (23, false), (24, false), (25, false), (26, false)]
def xit_InvalidText : List (Nat × Bool) := [(8, false), (9, false), (10, false), (11, false), (12, false), (13, true), (14, false), (15, false), (16, false), (17, false), (18, false), (19, false), (20, false), (21, false), (22, false), (23, false), (24, false), (25, false), (26, false)]
def xit_InvalidCount : List (Nat × Bool) := [(8, false), (9, false), (10, false), (11, false), (12, false), (13, false), (14, true), (15, false), (16, false), (17, false), (18, false), (19, false), (20, false), (21, false), (22, false), (23, false), (24, false), (25, false), (26, false)]
def xit_InvalidLetter : List (Nat × Bool) := [(8, false), (9, false), (10, false), (11, false), (12, false), (13, false), (14, false), (15, true), (16, false), (17, false), (18, false), (19, false), (20, false), (21, false), (22, false), (23, false), (24, false), (25, false), (26, false)]
def xit_InvalidStand : List (Nat × Bool) := [(8, false), (9, false), (10, false), (11, false), (12, false), (13, false), (14, false), (15, false), (16, true), (17, false), (18, false), (19, false), (20, false), (21, false), (22, false), (23, false), (24, false), (25, false), (26, false)]
def xit_InvalidWord : List (Nat × Bool) := [(8, false), (9, false), (10, false), (11, false), (12, false), (13, false), (14, false), (15, false), (16, false), (17, true), (18, false), (19, false), (20, false), (21, false), (22, false), (23, false), (24, false), (25, false), (26, false)]
def xit_InvalidLine : List (Nat × Bool) := [(8, false), (9, false), (10, false), (11, false), (12, false), (13, false), (14, false), (15, false), (16, false), (17, false), (18, true), (19, false), (20, false), (21, false), (22, false), (23, false), (24, false), (25, false), (26, false)]
def xit_InvalidArrows : List (Nat × Bool) := [(8, false), (9, false), (10, false), (11, false), (12, false), (13, false), (14, false), (15, false), (16, false), (17, false), (18, false), (19, true), (20, false), (21, false), (22, false), (23, false), (24, false), (25, false), (26, false)]
def xit_InvalidEnds : List (Nat × Bool) := [(8, false), (9, false), (10, false), (11, false), (12, false), (13, false), (14, false), (15, false), (16, false), (17, false), (18, false), (19, false), (20, true), (21, false), (22, false), (23, false), (24, false), (25, false), (26, false)]
def xit_InvalidBook : List (Nat × Bool) := [(8, false), (9, false), (10, false), (11, false), (12, false), (13, false), (14, false), (15, false), (16, false), (17, false), (18, false), (19, false), (20, false), (21, true), (22, false), (23, false), (24, false), (25, false), (26, false)]
def xit_InvalidTexts : List (Nat × Bool) := [(8, false), (9, false), (10, false), (11, false), (12, false), (13, false), (14, false), (15, false), (16, false), (17, false), (18, false), (19, false), (20, false), (21, false), (22, true), (23, false), (24, false), (25, false), (26, false)]
def xit_InvalidDeeds : List (Nat × Bool) := [(8, false), (9, false), (10, false), (11, false), (12, false), (13, false), (14, false), (15, false), (16, false), (17, false), (18, false), (19, false), (20, false), (21, false), (22, false), (23, true), (24, false), (25, false), (26, false)]
def xit_NothingToUndo : List (Nat × Bool) := [(8, false), (9, false), (10, false), (11, false), (12, false), (13, false), (14, false), (15, false), (16, false), (17, false), (18, false), (19, false), (20, false), (21, false), (22, false), (23, false), (24, true), (25, false), (26, false)]
def xit_Busy : List (Nat × Bool) := [(8, false), (9, false), (10, false), (11, false), (12, false), (13, false), (14, false), (15, false), (16, false), (17, false), (18, false), (19, false), (20, false), (21, false), (22, false), (23, false), (24, false), (25, true), (26, false)]
def xit_TooMany : List (Nat × Bool) := [(8, false), (9, false), (10, false), (11, false), (12, false), (13, false), (14, false), (15, false), (16, false), (17, false), (18, false), (19, false), (20, false), (21, false), (22, false), (23, false), (24, false), (25, false), (26, true)]
def xit_ArithmeticError : List (Nat × Bool) := [(8, false), (9, false), (10, true), (11, false), (12, false), (13, false), (14, false), (15, false), (16, false), (17, false), (18, false), (19, false), (20, false), (21, false), (22, false), (23, false), (24, false), (25, false), (26, true)]
def xit_LookupError : List (Nat × Bool) := [(8, false), (9, true), (10, false), (11, false), (12, false), (13, false), (14, false), (15, false), (16, false), (17, false), (18, false), (19, false), (20, false), (21, false), (22, false), (23, false), (24, true), (25, true), (26, false)]
def xit_ValueError : List (Nat × Bool) := [(8, true), (9, false), (10, false), (11, true), (12, true), (13, true), (14, true), (15, true), (16, true), (17, true), (18, true), (19, true), (20, true), (21, true), (22, true), (23, true), (24, false), (25, false), (26, false)]
def xtb_InputError_StateError_SizeError : List (Nat × Bool) := [(8, true), (9, true), (10, true), (11, true), (12, true), (13, true), (14, true), (15, true), (16, true), (17, true), (18, true), (19, true), (20, true), (21, true), (22, true), (23, true), (24, true), (25, true), (26, true)]
end MM

end
section
set_option maxRecDepth 100000
set_option maxHeartbeats 4000000
namespace MC
open PySem PySem.Spec PyProof.Rows L2

mutual
/-- a value read as data; a dict in it is empty and no dict of the machine's own -/
inductive RdQ (h : Heap) : Value → PyData → Prop
  | non : RdQ h .none .none
  | bl (b : Bool) : RdQ h (.bool b) (.bool b)
  | int (i : Int) (t : Tok) : RdQ h (.int i t) (.int i)
  | str (x : Str) (t : Tok) : RdQ h (.str x t) (.str x)
  | lst {p : Addr} {ob : Obj} {us : Array Value} {m : Nat} {ds : List PyData} : h.get? p = some ob → ob.cls = .type "list" → ob.data = .seq us m → RdQs h us.toList ds → RdQ h (.ref p) (.list ds)
  | tup {p : Addr} {ob : Obj} {us : Array Value} {m : Nat} {ds : List PyData} : h.get? p = some ob → ob.cls = .type "tuple" → ob.data = .seq us m → RdQs h us.toList ds → RdQ h (.ref p) (.tuple ds)
  | dic {p : Addr} {ob : Obj} {m : Nat} : h.get? p = some ob → ob.cls = .type "dict" → ob.data = .dict #[] m → (p == sysModules) = false → RdQ h (.ref p) (.dict [])
inductive RdQs (h : Heap) : List Value → List PyData → Prop
  | nil : RdQs h [] []
  | cons {u : Value} {us : List Value} {d : PyData} {ds : List PyData} : RdQ h u d → RdQs h us ds → RdQs h (u :: us) (d :: ds)
end
section
variable {h : Heap} {P : Program} {W : World}
mutual
theorem RdQ.reads : ∀ {u : Value} {d : PyData}, RdQ h u d → ∃ bs, Reads h u d bs
  | _, _, .non => ⟨_, .none⟩
  | _, _, .bl b => ⟨_, .bool b⟩
  | _, _, .int i t => ⟨_, .int i t⟩
  | _, _, .str x t => ⟨_, .str x t⟩
  | _, _, .lst e1 e2 e3 q => let ⟨_, z⟩ := RdQs.reads q; ⟨_, .list e1 e2 e3 z⟩
  | _, _, .tup e1 e2 e3 q => let ⟨_, z⟩ := RdQs.reads q; ⟨_, .tuple e1 e2 e3 z⟩
  | _, _, .dic e1 e2 e3 _ => ⟨_, .dict e1 e2 e3 .nil .nil⟩
theorem RdQs.reads : ∀ {us : List Value} {ds : List PyData}, RdQs h us ds → ∃ bs, ReadsAll h us ds bs
  | _, _, .nil => ⟨_, .nil⟩
  | _, _, .cons q r => let ⟨_, z⟩ := RdQ.reads q; let ⟨_, y⟩ := RdQs.reads r; ⟨_, .cons z y⟩
end
theorem dic_sys {p : Addr} (n : (p == sysModules) = false) : sysModules ∉ p :: [] ++ [] := fun z => by
  have q := (List.mem_cons.mp z).resolve_right fun y => nomatch y
  rw [q] at n
  simp at n
mutual
/-- the text that such a value shows as, wherever the heap has grown -/
theorem RdQ.rk : ∀ {u : Value} {d : PyData}, RdQ h u d → PyData.showable d = true → (PyData.shown d).length ≤ sizeLine → ∃ l, ReadAtMost h (PyData.depth d) l ∧ ReprK P W l h (PyData.depth d) u (PyData.shown d)
  | _, _, .non, g, z => ReprK.of_reads Reads.none g (fun q => nomatch q) z
  | _, _, .bl b, g, z => ReprK.of_reads (Reads.bool b) g (fun q => nomatch q) z
  | _, _, .int i t, g, z => ReprK.of_reads (Reads.int i t) g (fun q => nomatch q) z
  | _, _, .str x t, g, z => ReprK.of_reads (Reads.str x t) g (fun q => nomatch q) z
  | _, _, .dic e1 e2 e3 n, g, z => ReprK.of_reads (Reads.dict e1 e2 e3 .nil .nil) g (fun _ => dic_sys n) z
  | _, _, .lst (p := p) (us := us) (ds := ds) e1 e2 e3 q, g, z => by
    obtain ⟨cs, zs⟩ := q.reads
    have whole : Reads h (.ref p) (.list ds) _ := .list e1 e2 e3 zs
    obtain ⟨l, m, k⟩ := RdQs.rk q (by simpa [PyData.showable] using g) fun t ht => Nat.le_trans (listText_mem_le ht) (by simpa only [PyData.shown] using z)
    have out : p ∉ l := not_mem_of_deeper whole (Nat.lt_of_le_of_lt (Nat.le_refl _) (by simp only [PyData.depth]; omega)) m
    refine ⟨p :: l, .cons whole (Nat.le_refl _) fun b hb => ?_, ?_⟩
    · obtain ⟨d', as', r', hd'⟩ := m b hb
      exact ⟨d', as', r', by simp only [PyData.depth]; omega⟩
    · rw [show PyData.depth (.list ds) = PyData.depthAll ds + 1 from by simp only [PyData.depth], show PyData.shown (.list ds) = listText (PyData.shownAll ds) from by simp only [PyData.shown]]
      cases us with
      | mk ul =>
        cases ul with
        | nil =>
          cases q
          rw [show PyData.shownAll [] = [] from rfl, listText_nil]
          exact ReprK.listEmpty e1 e2 e3
        | cons y ys => exact ReprK.list e1 e2 e3 out (by have := k.length_eq; simpa using this) fun i w e => k.item i w (by simpa using e)
  | _, _, .tup (p := p) (us := us) (ds := ds) e1 e2 e3 q, g, z => by
    obtain ⟨cs, zs⟩ := q.reads
    have whole : Reads h (.ref p) (.tuple ds) _ := .tuple e1 e2 e3 zs
    obtain ⟨l, m, k⟩ := RdQs.rk q (by simpa [PyData.showable] using g) fun t ht => Nat.le_trans (tupleText_mem_le ht) (by simpa only [PyData.shown] using z)
    have out : p ∉ l := not_mem_of_deeper whole (Nat.lt_of_le_of_lt (Nat.le_refl _) (by simp only [PyData.depth]; omega)) m
    refine ⟨p :: l, .cons whole (Nat.le_refl _) fun b hb => ?_, ?_⟩
    · obtain ⟨d', as', r', hd'⟩ := m b hb
      exact ⟨d', as', r', by simp only [PyData.depth]; omega⟩
    · rw [show PyData.depth (.tuple ds) = PyData.depthAll ds + 1 from by simp only [PyData.depth], show PyData.shown (.tuple ds) = tupleText (PyData.shownAll ds) from by simp only [PyData.shown]]
      exact ReprK.tuple e1 e2 e3 out k
theorem RdQs.rk : ∀ {us : List Value} {ds : List PyData}, RdQs h us ds → PyData.showableAll ds = true → (∀ t ∈ PyData.shownAll ds, t.length ≤ sizeLine) → ∃ l, ReadAtMost h (PyData.depthAll ds) l ∧ ReprAllK P W l h (PyData.depthAll ds) us (PyData.shownAll ds)
  | _, _, .nil, _, _ => ⟨[], (fun _ q => nomatch q), .nil⟩
  | _, _, .cons (d := d) (ds := ds) q r, g, z => by
    unfold PyData.showableAll at g
    rw [Bool.and_eq_true] at g
    unfold PyData.shownAll at z ⊢
    unfold PyData.depthAll
    obtain ⟨l1, m1, k1⟩ := RdQ.rk q g.1 (z _ List.mem_cons_self)
    obtain ⟨l2, m2, k2⟩ := RdQs.rk r g.2 fun t ht => z t (List.mem_cons_of_mem _ ht)
    refine ⟨l1 ++ l2, fun b hb => (List.mem_append.mp hb).elim (fun y => ?_) fun y => ?_, .cons ((k1.more fun b y => List.mem_append_left _ y).level_le (Nat.le_max_left ..)) (k2.more_le (fun b y => List.mem_append_right _ y) (Nat.le_max_right ..))⟩
    · obtain ⟨d', as', r', hd'⟩ := m1 b y
      exact ⟨d', as', r', Nat.le_trans hd' (Nat.le_max_left ..)⟩
    · obtain ⟨d', as', r', hd'⟩ := m2 b y
      exact ⟨d', as', r', Nat.le_trans hd' (Nat.le_max_right ..)⟩
end
theorem repr_q {A : Around} {E : Value → Shared → Prop} {s : Shared} {Q : Value → Shared → Prop} {a : Addr} {d : PyData} (r : RdQ s.heap (.ref a) d) (g : d.showable = true) (hg : A.guards = some []) (hu : A.units + (d.depth + 1) < cLine) (z : d.shown.length ≤ sizeLine)
    (k : ∀ h' t tk, (∀ b o, s.heap.get? b = some o → h'.get? b = some o) → Q (.str d.shown t) { s with heap := h', toks := tk }) : wpAny (model P W) A (call (.builtin "repr") [.ref a]) Q E s := by
  cases r with
  | dic e1 e2 e3 n => exact repr_of_reads' (Reads.dict e1 e2 e3 .nil .nil) g (fun _ => dic_sys n) hg hu (fun _ _ y => y) (fun h' u tk y => k h' u tk y) z
  | @lst p ob us m ds e1 e2 e3 q =>
    obtain ⟨cs, zs⟩ := q.reads
    obtain ⟨l, m, kk⟩ := RdQs.rk (P := P) (W := W) q (by simpa [PyData.showable] using g) fun t ht => Nat.le_trans (listText_mem_le ht) (by simpa only [PyData.shown] using z)
    have out : a ∉ l := not_mem_of_deeper (Reads.list e1 e2 e3 zs) (by simp only [PyData.depth]; omega) m
    rw [show PyData.depth (.list ds) = PyData.depthAll ds + 1 from by simp only [PyData.depth]] at hu
    have e : PyData.shown (.list ds) = listText (PyData.shownAll ds) := by simp only [PyData.shown]
    rw [e] at k z
    refine call_repr_slot (by omega) ⟨ob, e1, e2⟩ F.slot_list_repr.toG ?_
    cases us with
    | mk ul =>
      cases ul with
      | nil =>
        cases q
        rw [show PyData.shownAll [] = [] from rfl, listText_nil] at k
        exact call_list_repr_empty ⟨ob, e1, e2⟩ e1 e3 ⟨_, _, rfl, k _ _ _ fun _ _ y => y⟩
      | cons y ys => exact call_list_reprK e1 e2 e3 out (by have := kk.length_eq; simpa using this) (fun i w e => kk.item i w (by simpa using e)) hg (fun b _ => Clear.nil b) (by show A.units + 1 + _ < cLine; omega) (fun _ _ y => y) (fun h' u tk y => ⟨_, _, rfl, k h' u tk y⟩) z
  | @tup p ob us m ds e1 e2 e3 q =>
    obtain ⟨cs, zs⟩ := q.reads
    obtain ⟨l, m, kk⟩ := RdQs.rk (P := P) (W := W) q (by simpa [PyData.showable] using g) fun t ht => Nat.le_trans (tupleText_mem_le ht) (by simpa only [PyData.shown] using z)
    have out : a ∉ l := not_mem_of_deeper (Reads.tuple e1 e2 e3 zs) (by simp only [PyData.depth]; omega) m
    rw [show PyData.depth (.tuple ds) = PyData.depthAll ds + 1 from by simp only [PyData.depth]] at hu
    have e : PyData.shown (.tuple ds) = tupleText (PyData.shownAll ds) := by simp only [PyData.shown]
    rw [e] at k z
    exact call_repr_slot (by omega) ⟨ob, e1, e2⟩ F.slot_tuple_repr (call_tuple_reprK e1 e2 e3 out kk hg (fun b _ => Clear.nil b) (by show A.units + 1 + _ < cLine; omega) (fun _ _ y => y) (fun h' u tk y => ⟨_, _, rfl, k h' u tk y⟩) z)
end

def toDq (h : PH) : Nat → PV → Option PyData
  | 0, _ => none
  | n + 1, x => match x with
    | .non => some .none
    | .bl b => some (.bool b)
    | .int i => some (.int i)
    | .str s => some (.str (S s))
    | .tup xs => (mapO (toDq h n) xs).map .tuple
    | .ref m => match h[m]? with
      | some (.lst xs) => (mapO (toDq h n) xs).map .list
      | some (.dic false []) => some (.dict [])
      | _ => none
    | _ => none
mutual
inductive Dq (K : PySem.W.Frag) (H : Hp) : V → PyData → Prop
  | non : Dq K H .non .none
  | bl (b : Bool) : Dq K H (.bl b) (.bool b)
  | int (i : Int) : Dq K H (.int i) (.int i)
  | str (x : Str) : Dq K H (.str x) (.str x)
  | lst {a : Addr} {xs : List V} {ds : List PyData} : SqL K H a xs → Dqs K H xs ds → Dq K H (.ref a) (.list ds)
  | tup {a : Addr} {xs : List V} {ds : List PyData} : SqT K H a xs → Dqs K H xs ds → Dq K H (.ref a) (.tuple ds)
  | dic {a : Addr} : H a = some (.dK []) → Dq K H (.ref a) (.dict [])
inductive Dqs (K : PySem.W.Frag) (H : Hp) : List V → List PyData → Prop
  | nil : Dqs K H [] []
  | cons {v : V} {vs : List V} {d : PyData} {ds : List PyData} : Dq K H v d → Dqs K H vs ds → Dqs K H (v :: vs) (d :: ds)
end
section
variable {X : Cx} {pins : List (Addr × Obj)} {σ : Sl} {H : Hp} {s : Shared}
theorem dkq_nil {a : Addr} (I : Inv X pins σ H s) (e : H a = some (.dK [])) : ∃ ob m, s.heap.get? a = some ob ∧ ob.cls = .type "dict" ∧ ob.data = .dict #[] m ∧ (a == sysModules) = false := by
  obtain ⟨_, n, vs, kv, ob, es, ep, e1, e2, e3, e4, e5, _⟩ := dk_of I.hok e
  cases kv
  cases hes : es.toList with
  | nil =>
    have : es = #[] := by cases es with | mk l => simp at hes; rw [hes]
    rw [this] at e3
    exact ⟨ob, ep, e1, e2.1, e3, n⟩
  | cons y ys => rw [hes] at e5; cases e5
mutual
theorem Dq.rd (I : Inv X pins σ H s) : ∀ {d : PyData} {v : V} {u : Value}, Dq X.K H v d → RelV v u → RdQ s.heap u d
  | _, _, _, .non, r => by cases r; exact .non
  | _, _, _, .bl b, r => by cases r; exact .bl b
  | _, _, _, .int i, r => by obtain ⟨t, rfl⟩ := r; exact .int i t
  | _, _, _, .str x, r => by obtain ⟨t, rfl⟩ := r; exact .str x t
  | _, _, _, .lst hs ha, r => by
    cases r
    obtain ⟨its, rv, ⟨o, n, ho, hc, _, hd⟩, _⟩ := I.list hs
    exact .lst ho hc hd (Dqs.rd I ha rv)
  | _, _, _, .tup hs ha, r => by
    cases r
    obtain ⟨its, rv, ⟨o, ho, hc, n, hd⟩, _⟩ := I.tuple hs
    exact .tup ho hc hd (Dqs.rd I ha rv)
  | _, _, _, .dic e, r => by
    cases r
    obtain ⟨ob, m, e1, e2, e3, e4⟩ := dkq_nil I e
    exact .dic e1 e2 e3 e4
theorem Dqs.rd (I : Inv X pins σ H s) : ∀ {ds : List PyData} {vs : List V} {us : List Value}, Dqs X.K H vs ds → Vals vs us → RdQs s.heap us ds
  | _, _, _, .nil, r => by cases r; exact .nil
  | _, _, _, .cons a b, r => by cases r with | cons r1 r2 => exact .cons (Dq.rd I a r1) (Dqs.rd I b r2)
end
end
section
variable {w : Wo} {EX : XC} {X : Cx} {k : Nat} {M : Addr → Prop} {rho : List Addr} {H : Hp} {h : PH}
theorem mapO_dq {f : PV → Option PyData} (hf : ∀ x d v, f x = some d → VR w M rho H x v → Dq w.K H v d) : ∀ {xs : List PV} {vs : List V} {ds : List PyData}, mapO f xs = some ds → VRs w M rho H xs vs → Dqs w.K H vs ds
  | [], _, _, e, r => by cases r; cases e; exact .nil
  | x :: xs, _, ds, e, r => by
    cases r with
    | cons r1 r2 =>
      unfold mapO at e
      cases e1 : f x with
      | none => rw [e1] at e; cases e
      | some d =>
        rw [e1] at e
        cases e2 : mapO f xs with
        | none => simp only [e2] at e; cases e
        | some ds' => simp only [e2] at e; cases e; exact .cons (hf x d _ e1 r1) (mapO_dq hf e2 r2)
theorem toDq_dq (hr : HR w M rho H h) : ∀ (n : Nat) (x : PV) (d : PyData) (v : V), toDq h n x = some d → VR w M rho H x v → Dq w.K H v d := by
  intro n
  induction n with
  | zero => intro x d v e; cases e
  | succ n ih =>
    intro x d v e r
    cases r with
    | non => cases e; exact .non
    | bl b => cases e; exact .bl b
    | int i => cases e; exact .int i
    | str s => cases e; exact .str _
    | @tup xs vs A ha sa =>
      have e' : (mapO (toDq h n) xs).map PyData.tuple = some d := e
      cases e2 : mapO (toDq h n) xs with
      | none => rw [e2] at e'; cases e'
      | some ds => rw [e2] at e'; cases e'; exact .tup ha (mapO_dq ih e2 sa)
    | @ref m A ha =>
      have e' : (match h[m]? with
        | some (.lst xs) => (mapO (toDq h n) xs).map PyData.list
        | some (.dic false []) => some (.dict [])
        | _ => none) = some d := e
      split at e'
      · rename_i xs e1
        obtain ⟨vs, h4, s1⟩ := hr.lst e1 ha
        cases e2 : mapO (toDq h n) xs with
        | none => rw [e2] at e'; cases e'
        | some ds => rw [e2] at e'; cases e'; exact .lst (SqL.of h4) (mapO_dq ih e2 s1)
      · rename_i e1
        cases e'
        obtain ⟨A', hA, q⟩ := hr.ob m _ e1
        obtain rfl : A' = A := Option.some.inj (hA.symm.trans ha)
        obtain ⟨ks, q1, q2⟩ := q
        cases q2
        exact .dic q1
      · cases e'
    | _ => cases e
/-- repr of None, a truth, a number, a text, a list, a tuple, an empty dict, and of lists and tuples of these -/
def reprDq (h : PH) (x : PV) : Option (List Nat) := match toDq h DEP x with
  | some d => bif PyData.showable d && (decide (d.depth ≤ 60) && decide (d.shown.length ≤ LIM)) then some d.shown.cps.toList else none
  | none => none
def bReprQ : OC := fun h xs => match xs with
  | [.non] => .ok (.str noneT) h
  | [.bl b] => .ok (.str (bif b then trueT else falseT)) h
  | [.int i] => bif fitI i then .ok (.str (strI i)) h else .stuck
  | [.str s] => bif decide ((reprText (S s)).length ≤ LIM) then .ok (.str (reprS s)) h else .stuck
  | [x] => bif isRefV x then (match reprDq h x with
    | some s => .ok (.str s) h
    | none => .stuck) else .stuck
  | _ => .stuck
theorem b_reprQ {hh : Bool} (C : CxtG hh w k X) : CallR X (.builtin "repr") (rA w EX bReprQ) := by
  intro pins s σ H xs us Q I r hh
  have old : rA w EX bReprA xs H Q → wpAny (model X.prog X.w) X.A (call (.builtin "repr") us) (fun u s' => ∃ v H', Inv X pins σ H' s' ∧ RelV v u ∧ Q v H') X.xe s := fun z => b_reprA C pins s σ H xs us Q I r z
  obtain ⟨M, rho, h, ps, hr, rs, o⟩ := hh
  unfold bReprQ at o
  split at o
  · exact old ⟨M, rho, h, _, hr, rs, o⟩
  · exact old ⟨M, rho, h, _, hr, rs, o⟩
  · exact old ⟨M, rho, h, _, hr, rs, o⟩
  · exact old ⟨M, rho, h, _, hr, rs, o⟩
  · rename_i x _ _ _ _
    obtain ⟨v, rfl, rv⟩ := vrs1 rs
    obtain ⟨u, rfl, ru⟩ := vals1 r
    obtain ⟨hx, o⟩ := Out.bif o
    obtain ⟨a, rfl⟩ : ∃ a, v = .ref a := by
      cases rv <;> first | exact ⟨_, rfl⟩ | exact absurd hx (by simp [isRefV])
    obtain rfl : u = Value.ref a := ru
    unfold reprDq at o
    split at o
    · rename_i z ez
      split at ez
      · rename_i d ed
        cases hc : (PyData.showable d && (decide (d.depth ≤ 60) && decide (d.shown.length ≤ LIM))) with
        | false => rw [hc] at ez; cases ez
        | true =>
          rw [hc] at ez
          cases ez
          simp only [Bool.and_eq_true, decide_eq_true_eq] at hc
          obtain ⟨c1, c3, c4⟩ := hc
          have dp := toDq_dq hr _ _ _ _ ed rv
          rw [← C.hK] at dp
          have hu := C.units
          refine repr_q (dp.rd I (show RelV (V.ref a) (Value.ref a) from rfl)) c1 C.grd (by omega) (by rw [lim_eq]; exact c4) fun h' u tk hk => ?_
          exact ⟨.str d.shown, H, I.kept (t' := tk) hk, ⟨u, rfl⟩, by
            have := o.now hr _ (.str _)
            rw [show (⟨d.shown.cps.toList.toArray⟩ : Str) = d.shown from S_of _] at this
            exact this⟩
      · cases ez
    · exact (show False from o).elim
  · exact (show False from o).elim
end
end MC

end
section
set_option maxRecDepth 100000
set_option maxHeartbeats 4000000
namespace MC
open PySem PySem.Spec PyProof.Rows L2
def boolsP : List PV → Option (List Bool)
  | [] => some []
  | .bl b :: r => match boolsP r with
    | some bs => some (b :: bs)
    | none => none
  | _ :: _ => none
def cntB (b : Bool) (bs : List Bool) : Nat := bs.countP fun c => c == b
def oCountB : OC := fun h xs => match xs with
  | [.ref n, .bl b] => match h[n]? with
    | some (.lst ys) => match boolsP ys with
      | some bs => .ok (.int (cntB b bs : Nat)) h
      | none => .stuck
    | _ => .stuck
  | _ => .stuck
def splitN (a b : List Nat) : List (List Nat) := (Txt.split (S a) (S b)).map fun z => z.cps.toList
def oSplit : OC := fun h xs => match xs with
  | [.str a, .str b] => bif decide (b ≠ []) && decide (a.length + 2 ≤ LIM) then .ok (.ref h.length) (h ++ [.lst ((splitN a b).map .str)]) else .stuck
  | _ => .stuck
section
variable {w : Wo} {EX : XC} {X : Cx} {k : Nat} {M : Addr → Prop} {rho : List Addr} {H : Hp} {h : PH}
theorem bools_vals : ∀ {ys : List PV} {bs : List Bool} {vs : List V} {us : List Value}, boolsP ys = some bs → VRs w M rho H ys vs → Vals vs us → us = bs.map Value.bool
  | [], _, _, _, e, r, q => by cases e; cases r; cases q; rfl
  | .bl b :: ys, bs, _, _, e, r, q => by
    unfold boolsP at e
    cases e1 : boolsP ys with
    | none => rw [e1] at e; cases e
    | some cs =>
      rw [e1] at e
      cases e
      cases r with
      | cons r1 r2 =>
        cases r1
        cases q with
        | cons q1 q2 =>
          cases q1
          rw [List.map_cons, bools_vals e1 r2 q2]
  | .non :: _, _, _, _, e, _, _ | .int _ :: _, _, _, _, e, _, _ | .str _ :: _, _, _, _, e, _, _ | .tup _ :: _, _, _, _, e, _, _ | .scr _ :: _, _, _, _, e, _, _ | .rdic _ :: _, _, _, _, e, _, _
  | .ins _ _ :: _, _, _, _, e, _, _ | .ref _ :: _, _, _, _, e, _, _ | .gl _ :: _, _, _, _, e, _, _ | .exn _ _ :: _, _, _, _, e, _, _ => by unfold boolsP at e; cases e
/-- a value that is this truth -/
def isBl (b : Bool) : Value → Bool
  | .bool c => c == b
  | _ => false
theorem isBl_count (b : Bool) : ∀ bs : List Bool, (bs.map Value.bool).countP (isBl b) = cntB b bs
  | [] => rfl
  | c :: bs => by
    unfold cntB
    rw [List.map_cons, List.countP_cons, List.countP_cons, isBl_count b bs]; rfl
theorem eqv_bl (b c : Bool) : PyData.eqv (.bool c) (.bool b) = (c == b) := by cases b <;> cases c <;> rfl
theorem o_countB : MtR X "list.count" (rM w EX oCountB) := by
  intro pins s σ H x xs v us Q I rx rxs hh
  obtain ⟨M, rho, h, px, ps, hr, vx, vs, o⟩ := hh
  unfold oCountB at o
  split at o
  · rename_i n b e
    cases e
    obtain ⟨u0, rfl, rv⟩ := vrs1 vs
    cases rv
    split at o
    · rename_i ys e0
      obtain ⟨a, ws, rfl, ha, q1, q2⟩ := ref_lst hr vx e0
      split at o
      · rename_i bs eb
        cases rx
        obtain ⟨u, rfl, ru⟩ := rxs.one
        obtain rfl : u = Value.bool b := ru
        obtain ⟨its, rr, ⟨⟨cls, dd, data, sl⟩, m, ho, hc, hdn, hd⟩, _⟩ := I.list (SqL.of (K := X.K) q1)
        simp only at hc hd
        subst hc hd
        have ei := bools_vals eb q2 rr
        refine call_meets PySem.F.slot_list_count ⟨_, ho, rfl⟩ PySem.F.entry_list_count (PySem.F.args_list_count_2 _ _)
          (SeqAt.list_countAt a its.toArray m dd sl (.bool b) (isBl b)) ⟨ho, fun y hy => ?_, ?_⟩
        · have hy : y ∈ its := by simpa using hy
          rw [ei] at hy
          obtain ⟨c, _, rfl⟩ := List.mem_map.mp hy
          have q := PySem.W.keq_flat (A := X.A.in1) (s := s) (PyProof.V.Flat.bool c) (PyProof.V.Flat.bool b)
          rw [eqv_bl] at q
          exact q
        · refine ⟨.int (cntB b bs : Nat), H, I.tok _, ⟨s.toks, ?_⟩, o.now hr _ (.int _)⟩
          show Value.int ((its.toArray.toList.countP (isBl b) : Nat) : Int) s.toks = Value.int ((cntB b bs : Nat) : Int) s.toks
          rw [List.toList_toArray, ei, isBl_count]
      · exact (show False from o).elim
    · exact (show False from o).elim
  · exact (show False from o).elim
theorem strs_vrs : ∀ ys : List Str, VRs w M rho H ((ys.map fun z => z.cps.toList).map .str) (ys.map V.str)
  | [] => .nil
  | y :: ys => by
    refine .cons ?_ (strs_vrs ys)
    have := VR.str (w := w) (M := M) (rho := rho) (H := H) y.cps.toList
    rwa [show (⟨y.cps.toList.toArray⟩ : Str) = y from S_of y] at this
theorem o_split : MtR X "str.split" (rM w EX oSplit) := by
  refine MtR.imp mt_split fun x xs H Q hh => ?_
  obtain ⟨M, rho, h, px, ps, hr, rx, rs, o⟩ := hh
  unfold oSplit at o
  split at o
  · rename_i a b e
    cases e
    obtain ⟨u0, rfl, rv⟩ := vrs1 rs
    cases rv
    cases rx
    obtain ⟨hc, o⟩ := Out.bif o
    rw [Bool.and_eq_true, decide_eq_true_eq, decide_eq_true_eq] at hc
    refine ⟨_, _, rfl, rfl, ?_, ?_, fun p n => KV.lst hr o (strs_vrs _) p n⟩
    · show (b.toArray.size == 0) = false
      rw [List.size_toArray]
      exact beq_eq_false_iff_ne.mpr fun z => hc.1 (List.length_eq_zero_iff.mp z)
    · show a.toArray.size + 2 ≤ sizeLine
      rw [List.size_toArray, lim_eq]; exact hc.2
  · exact (show False from o).elim
end
end MC

end
section
set_option maxRecDepth 100000
set_option maxHeartbeats 4000000
namespace MC
open PySem PySem.Spec PyProof.Rows L2

abbrev lamO (q : Str) (params : Arguments) (body : Expr) (scope : Scope) (cl : List (Str × Addr)) (pm ctv : Value) (c' : Addr) : Obj := PySem.W.kla_obj "<lambda>" q params body scope cl pm c' ctv
section
variable {X : Cx} {pins : List (Addr × Obj)} {σ : L2.St} {H HZ : Hp} {s s1 : Shared}
/-- how the tracked heap stands behind a lambda's making: as it was, or with a code object and the table longer by it -/
def LamH (P : Addr) (q : Str) (ps : Array Value) (c' : Addr) (H H1 : Hp) : Prop := H1 = H ∨ ∃ qs : Array Value, H c' = none ∧ H1 = upd (upd H P (.tbl qs)) c' (LamX.CodeO c' q) ∧ TriplesOk qs.toList ∧ ∀ (pos : Pos) (cv : Value), codeAmong pos qs.toList = some cv → codeAmong pos ps.toList = some cv ∨ cv = .ref c'
theorem lam_new {c P : Addr} {params : Arguments} {body : Expr} {scope : Scope} {pos : Pos} {ps : Array Value} {E : Value → Shared → Prop} {Q : Value → Shared → Prop} (I : Inv X pins σ H s) (TB : LamX.TabB X.base X.mg c P) (hcode : X.env.code = .ref c)
    (hP : H P = some (.tbl ps)) (tr : TriplesOk ps.toList) (known : ∀ (pos : Pos) (cv : Value), codeAmong pos ps.toList = some cv → ∃ d, cv = .ref d ∧ H d = some (LamX.CodeO d (X.env.qual ++ "<lambda>")))
    (hdef : defaultsOf params X.env = ([], [])) (hfree : ∀ y ∈ scope.names, y.2 = .free → ∃ c, X.env.cells.lookup y.1 = some c)
    (k : ∀ (f c' : Addr) (pm ctv : Value) (H1 : Hp) (s' : Shared), Inv X pins σ H1 s' → LamH P (X.env.qual ++ "<lambda>") ps c' H H1 → s'.heap.get? f = some (lamO (X.env.qual ++ "<lambda>") params body scope (cloFrom X.env.cells scope.names []) pm ctv c') →
      H1 f = none → f ∉ frs X.stack → H1 c' = some (LamX.CodeO c' (X.env.qual ++ "<lambda>")) → Q (.ref f) s') :
    wpAny (model X.prog X.w) X.A (eval (.Lambda params body scope pos) X.env) Q E s := by
  have atP : s.heap.get? P = some { cls := .none, data := .fields ps } := I.hok P _ hP
  have bm : s.heap.BuiltinsAt X.mg P := TB.bm.keeps I.bk
  have away : ∀ f, s.heap.objs.size ≤ f → f ∉ frs X.stack := fun f hf z => by
    rcases List.mem_cons.mp (I.stkSub _ z) with e | e
    · rw [e] at hf
      exact Nat.lt_irrefl _ (Nat.lt_of_lt_of_le I.lt hf)
    · exact I.nofs hf e
  refine PySem.W.kla_eval hdef ?_
  rcases hc : codeAmong pos ps.toList with _ | cv
  · refine PySem.W.kla_makeFunction (mg := X.mg) (c := c) (P := P) (ps := ps) (closure_ok hfree) I.ok.glob (I.mod.glob.keeps I.bk) hcode (TB.code.keeps I.bk) atP tr hc TB.gP bm fun c' ctv h' tk ext ge lt ⟨c2, oc, vs, t, e2, hoc, hd, hv⟩ tbl => ?_
    cases e2
    have sz : s.heap.objs.size ≤ h'.objs.size := Nat.le_trans ge (Nat.le_of_lt lt)
    have nC : H c' = none := I.hok.fresh ge
    have J := LamX.inv_table (t' := tk) (more := #[rawInt pos.line, rawInt pos.col, .ref c']) (h' := h'.push (lamO (X.env.qual ++ "<lambda>") params body scope (cloFrom X.env.cells scope.names []) ((X.mg "__name__").getD .none) ctv c')) I hP
      (fun b o hb e => Heap.get?_push_of_some _ (ext b o hb e)) (Heap.get?_push_of_some _ tbl) ge ⟨oc, vs, t, Heap.get?_push_of_some _ hoc, hd, hv⟩
    have eL : (ps ++ #[rawInt pos.line, rawInt pos.col, .ref c']).toList = ps.toList ++ [rawInt pos.line, rawInt pos.col, .ref c'] := by simp
    refine k h'.objs.size c' _ ctv _ _ J (.inr ⟨_, nC, rfl, by rw [eL]; exact PySem.TriplesOk_snoc _ _ _ _ tr, fun p cv e => ?_⟩) (Heap.get?_push_size _ rfl) ?_ (away _ sz) upd_same
    · rw [eL] at e
      exact LamX.among_app _ tr e
    · rw [upd_ne (Nat.ne_of_gt lt), upd_ne (Nat.ne_of_gt (Nat.lt_of_lt_of_le (Heap.lt_size atP) sz))]
      exact I.hok.fresh sz
  · obtain ⟨c', rfl, hco⟩ := known pos cv hc
    refine PySem.W.kla_makeFunctionHit (mg := X.mg) (c := c) (P := P) (ps := ps) (closure_ok hfree) I.ok.glob (I.mod.glob.keeps I.bk) hcode (TB.code.keeps I.bk) atP tr hc bm fun ctv h' tk ext sz => ?_
    have J : Inv X pins σ H { s with heap := h'.push (lamO (X.env.qual ++ "<lambda>") params body scope (cloFrom X.env.cells scope.names []) ((X.mg "__name__").getD .none) ctv c'), toks := tk } := I.kept fun b o e => Heap.get?_push_of_some _ (ext b o e)
    exact k h'.objs.size c' _ ctv H _ J (.inl rfl) (Heap.get?_push_size _ rfl) (I.hok.fresh sz) (away _ sz) hco
/-- the context of a lambda's body -/
def lamCxN (X : Cx) (A : Around) (outer : List Env) (s : Shared) (H : Hp) (E : XK) (scope : Scope) (f c' : Addr) : Cx :=
  (LamX.lamCx X A outer s H E scope f c').wish fun e s' => wpAny (model X.prog X.w) (A.deeper (LamX.lamEnv X scope s.heap.objs.size f c')) (leaving (LamX.lamEnv X scope s.heap.objs.size f c') e) (fun _ s'' => L2N.CX X.prog X.w outer H s E e s'') (fun e' s'' => L2N.CX X.prog X.w outer H s E e' s'') s'
/-- its call, in the def that got it -/
theorem pe_lam {Ng : List Str} {qg : Str} {sg : Scope} {g f c' : Addr} {cdg pm ctv : Value} {params : Arguments} {body : Expr} {scope : Scope} {k i : Nat} {a : Str} {pn : List (Addr × Obj)} {xe : Value → Shared → Prop} {E : XK} {tb : TE} {p1 p2 : Pos}
    (I : Inv X pins σ H s) (L : LamX.LamS X.env.scope scope) (hf : s.heap.get? f = some (lamO (X.env.qual ++ "<lambda>") params body scope (cloFrom X.env.cells scope.names []) pm ctv c')) (hfn : H f = none) (hfr : f ∉ frs X.stack)
    (hbind : bindArgs (PySem.W.kla_fn "<lambda>" (X.env.qual ++ "<lambda>") params body scope (cloFrom X.env.cells scope.names []) pm (.ref c') ctv) ⟨[], []⟩ = pure [])
    (hx : Passes (L2N.CX X.prog X.w) ((cxOf CX0 X.prog X.w X.K X.mg X.base Ng qg sg g cdg X.A X.stack s H E0).tr pn xe) E) (hr : Room (k + 1) (X.A.deeper (envOfC qg sg s.heap.objs.size g cdg)))
    (hbody : ∀ (A : Around) (outer : List Env) (s : Shared) (H : Hp), Room k (A.deeper (LamX.lamEnv X scope s.heap.objs.size f c')) → A.guards = X.A.guards → PE (lamCxN X A outer s H E scope f c') body tb)
    (hN : Ng[i]? = some a) (hv : Vis sg a) (hd : (a == ("__debug__" : Str)) = false) (hcd : (a == ("__classdict__" : Str)) = false) :
    PE ((cxOf CX0 X.prog X.w X.K X.mg X.base Ng qg sg g cdg X.A X.stack s H E0).tr pn xe) (.Call (.Name a p1) [] [] p2)
      (fun σZ HZ Q => σZ[i]? = some (some (.ref f)) ∧ HZ c' = some (LamX.CodeO c' (X.env.qual ++ "<lambda>")) ∧ tb σ HZ Q) := by
  refine ⟨fun pinsZ sZ σZ HZ Q IZ ⟨hs, hc, ht⟩ => ?_⟩
  refine wpAny_Call_Name_kw (thn ((pe_var (pos := p1) (i := i) hN hv hd hcd).run pinsZ sZ σZ HZ (fun v H1 => v = .ref f ∧ H1 = HZ) IZ ⟨.ref f, hs, rfl, rfl⟩) fun u s1 ⟨v, H1, I1, r1, ev, eH⟩ => ?_)
  subst ev; subst eH
  obtain rfl : u = Value.ref f := r1
  have of1 := I1.base.keep f _ hf hfn hfr (fun z => nomatch (show f ∈ ([] : List Addr) from z))
  refine PySem.W.callWith_F0 ⟨_, _, _, _, of1⟩ ?_
  have un : Un (frs X.stack) [] H H1 s.heap s1.heap := I1.base
  obtain ⟨⟨oc, vs, t, hoc, hdc, hvc⟩, _, _⟩ := I1.hok c' _ hc
  have rc : codeAny (model X.prog X.w) (X.A.deeper (envOfC qg sg s.heap.objs.size g cdg)) (.call (.ref f) ⟨[], []⟩) (CR (L2N.CX X.prog X.w) (envOfC qg sg s.heap.objs.size g cdg :: X.stack) X.prog X.w H1 s1 Q E) s1 := by
    refine PySem.W.kla_callFunE hr.depth of1 rfl L.co L.gen rfl ⟨c', oc, vs, t, rfl, hoc, hdc, hvc⟩ ?_
    rw [hbind]
    refine wpAny_pure (wpAny_newFunctionEnv (fun y hy => (L.own y hy).2) (fun y hy => absurd hy (by simp)) (fun h₁ hns hsb => ⟨I1.nolimit.fresh _ hsb, ?_⟩) L.kind)
    show codeAny _ _ (.expr body (LamX.lamEnv X scope s1.heap.objs.size f c')) _ _
    have kp : ∀ b o, s1.heap.get? b = some o → h₁.get? b = some o := fun b o e => hsb.extBut b o (Nat.ne_of_lt (Heap.lt_size e)) (Heap.get?_push_of_some _ e)
    have J := (LamX.lam_start2 (scope := scope) (f := f) (c' := c') (tk := s1.toks + ([] : List (Str × Value)).length) (E := E) I L I1.env0 hr.hd un hns kp).wish fun e s' => wpAny (model X.prog X.w) ((X.A.deeper (envOfC qg sg s.heap.objs.size g cdg)).deeper (LamX.lamEnv X scope s1.heap.objs.size f c')) (leaving (LamX.lamEnv X scope s1.heap.objs.size f c') e)
      (fun _ s'' => L2N.CX X.prog X.w (envOfC qg sg s.heap.objs.size g cdg :: X.stack) H1 s1 E e s'') (fun e' s'' => L2N.CX X.prog X.w (envOfC qg sg s.heap.objs.size g cdg :: X.stack) H1 s1 E e' s'') s'
    refine PySem.W.kla_codeExpr (wpAny_mono ((hbody _ _ s1 H1 (hr.deeper _) rfl).run [] _ _ H1 Q J ht) (fun v s' hq => ?_) fun e s' hq => hq)
    obtain ⟨w', H', J', rv, q⟩ := hq
    exact ⟨w', H', J'.os, J'.bare, J'.base, J'.hok, rv, q⟩
  refine wpAny_call (codeAny_mono rc fun r s' hq => ?_)
  cases r with
  | error e => exact hx pinsZ σZ H1 s1 e s' I1 hq
  | ok fl =>
    cases fl with
    | ret u => exact I1.after hq
    | next => exact False.elim hq
    | brk => exact False.elim hq
    | cont => exact False.elim hq
end

def finR : R Fl → R PV
  | .ok (.rt x) h => .ok x h
  | .ok (.nx _) h => .ok .non h
  | _ => .stuck
def finT : R Fl → R PV
  | .ok (.rt x) h => .ok x h
  | _ => .stuck
/-- what the def makes of the lambda's outcome: N its names, i the slot of what it gave, b what comes behind the try -/
def outR (N i : Nat) (hds : List Hd) (b : MS) : R PV → R PV
  | .ok v h => finR (b ((List.replicate N none).set i (some v)) h)
  | .exc c fs h => finT (hdsR N hds c fs h)
  | .stuck => .stuck
def mLam (N i : Nat) (hds : List Hd) (b : MS) (m : ME) : ME := fun env h => outR N i hds b (m env h)
/-- what is known of the def -/
structure LamF (P : Program) (W : World) (w : Wo) (mg : Str → Option Value) (base : Heap) (k : Nat) (x : Str) (N i : Nat) (hds : List Hd) (b : MS) : Prop where
  ex : ∃ (g : Addr) (fd : FuncData) (st : Stmt) (a y : Str) (Ng : List Str) (h₀ : ExceptHandler) (hs : List ExceptHandler) (rest : List Stmt) (q1 q2 q3 q4 q5 : Pos), mg x = some (.ref g) ∧ Fun w.K x x st g fd ∧ FnScope Ng [a] (defScope st) ∧ Ng.length = N ∧ Ng.Nodup ∧
    Binds w.K fd [a] [] ∧ Ng[0]? = some a ∧ Vis (defScope st) a ∧ (a == ("__debug__" : Str)) = false ∧ (a == ("__classdict__" : Str)) = false ∧ Ng[i]? = some y ∧ (defScope st).names.lookup y = some .local ∧
    defBody st = .Try [.Assign [.Name y q1] (.Call (.Name a q2) [] [] q3) q4] (h₀ :: hs) [] [] q5 :: rest ∧ (∀ env : Env, swapsWith (.Call (.Name a q2) [] [] q3) (some (.Name y q1)) q4.line env = pure false) ∧
    ∀ (cdv : Value) (A : Around) (outer : List Env) (s : Shared) (H : Hp) (E : XK), Cxt w k (cxOf CX0 P W w.K mg base Ng x (defScope st) g cdv A outer s H E).nox →
      HdsM w k (cxOf CX0 P W w.K mg base Ng x (defScope st) g cdv A outer s H E).nox (h₀ :: hs) hds ∧ PSs (cxOf CX0 P W w.K mg base Ng x (defScope st) g cdv A outer s H E).nox rest (tS w EXF b)
/-- how the tables stand behind a lambda's making -/
theorem lam_step {w : Wo} {M : Addr → Prop} {rho : List Addr} {H H1 : Hp} {h : PH} {P c' : Addr} {q : Str} {ps : Array Value} (hr : HR w M rho H h) (hT : (P, q) ∈ w.T) (hu : ∀ p ∈ w.T, p.1 = P → p.2 = q) (hP : H P = some (.tbl ps))
    (kn : ∀ (pos : Pos) (cv : Value), codeAmong pos ps.toList = some cv → ∃ c, cv = .ref c ∧ H c = some (LamX.CodeO c q) ∧ ¬ M c) (l : LamH P q ps c' H H1) : Step M rho H M rho H1 ∧ HR w M rho H1 h := by
  rcases l with rfl | ⟨qs, nC, rfl, tr, am⟩
  · exact ⟨Step.refl, hr⟩
  · have nP : c' ≠ P := fun z => by rw [z, hP] at nC; cases nC
    have nCM : ¬ M c' := fun z => hr.live c' z nC
    have other : ∀ b, b ≠ P → b ≠ c' → upd (upd H P (.tbl qs)) c' (LamX.CodeO c' q) b = H b := fun b h1 h2 => by rw [upd_ne h2, upd_ne h1]
    have keep : ∀ b o, H b = some o → (∀ ps, o ≠ .tbl ps) → upd (upd H P (.tbl qs)) c' (LamX.CodeO c' q) b = some o := fun b o e n => by
      rw [other b (fun z => n ps (by rw [z, hP] at e; exact (Option.some.inj e).symm)) (ne_of_none e nC)]; exact e
    have at_ : ∀ b, b ∈ rho → upd (upd H P (.tbl qs)) c' (LamX.CodeO c' q) b = H b := fun b hb => by
      obtain ⟨u, e, n⟩ := hr.at hb
      rw [e]
      exact keep b u e fun ps z => by subst z; cases n
    have st : Step M rho H M rho (upd (upd H P (.tbl qs)) c' (LamX.CodeO c' q)) := by
      refine ⟨fun _ _ e => e, fun _ e => e, fun _ e => .inl e, fun _ e => .inl e, fun b o _ e n => keep b o e n, fun b e => ?_, fun b o u e => keep b _ e fun ps z => by cases z⟩
      by_cases h1 : b = c'
      · rw [h1, upd_same]; exact Option.some_ne_none _
      · by_cases h2 : b = P
        · rw [h2, upd_ne (fun z => nP z.symm), upd_same]; exact Option.some_ne_none _
        · rw [other b h2 h1]; exact e
    refine ⟨st, ⟨hr.len, hr.nd, hr.mem, fun b hb => st.there b (hr.live b hb), fun n o e => ?_, fun p hp => ?_⟩⟩
    · obtain ⟨a, ha, s⟩ := hr.ob n o e
      exact ⟨a, ha, s.step st hr (at_ a (List.mem_of_getElem? ha))⟩
    · by_cases hp1 : p.1 = P
      · refine ⟨qs, by rw [hp1, upd_ne (fun z => nP z.symm), upd_same], tr, fun pos cv e => ?_⟩
        rw [hu p hp hp1]
        rcases am pos cv e with z | z
        · obtain ⟨c, e1, e2, e3⟩ := kn pos cv z
          exact ⟨c, e1, keep _ _ e2 (LamX.codeO_ne), e3⟩
        · exact ⟨c', z, upd_same, nCM⟩
      · obtain ⟨ps', a1, a2, a3⟩ := hr.tabs p hp
        refine ⟨ps', by rw [other _ hp1 (ne_of_none a1 nC)]; exact a1, a2, fun pos cv e => ?_⟩
        obtain ⟨c, e1, e2, e3⟩ := a3 pos cv e
        exact ⟨c, e1, keep _ _ e2 (LamX.codeO_ne), e3⟩
section
variable {w : Wo} {EX : XC} {X : Cx} {k : Nat}
theorem finR_ok {M : Addr → Prop} {rho : List Addr} {H : Hp} {r : R Fl} {Q : VK} (o : Out w EX M rho H (finR r) (KV w Q)) : Out w EXF M rho H r (KS w { nx := fun _ H' => Q .non H', rt := Q }) := by
  unfold finR at o
  split at o
  · exact o
  · exact fun M' rho' H' st hr s er => (show Out w EX M rho H (.ok .non _) (KV w Q) from o) M' rho' H' st hr _ .non
  · exact (show False from o).elim
theorem finT_ok {M : Addr → Prop} {rho : List Addr} {H : Hp} {r : R Fl} {Q : VK} {D : Ends} (hD : D.rt = Q) (o : Out w EX M rho H (finT r) (KV w Q)) : Out w EXF M rho H r (KS w D) := by
  subst hD
  unfold finT at o
  split at o
  · exact o
  · exact (show False from o).elim
/-- x(lambda: body) -/
theorem me_lam {x : Str} {N i : Nat} {hds : List Hd} {b : MS} {c P : Addr} {params : Arguments} {body : Expr} {scope : Scope} {m : ME} {p lpos pos : Pos} (C : Cxt w (k + 2) X) (e0 : w.ex = none) (F : LamF X.prog X.w w X.mg X.base (k + 1) x N i hds b) (hg : Gl X x)
    (TB : LamX.TabB X.base X.mg c P) (hcode : X.env.code = .ref c) (hT : (P, X.env.qual ++ "<lambda>") ∈ w.T) (hu : ∀ p ∈ w.T, p.1 = P → p.2 = X.env.qual ++ "<lambda>") (L : LamX.LamS X.env.scope scope) (hdef : defaultsOf params X.env = ([], []) := by rfl)
    (hbind : ∀ (q : Str) (cl : List (Str × Addr)) (pm cv ctv : Value), bindArgs (PySem.W.kla_fn "<lambda>" q params body scope cl pm cv ctv) ⟨[], []⟩ = pure [] := by intros; rfl)
    (hbody : ∀ (A : Around) (outer : List Env) (s : Shared) (H : Hp) (E : XK) (f c' : Addr), Cxt w k (lamCxN X A outer s H E scope f c') → TkX w (exO w E) (lamCxN X A outer s H E scope f c') → PE (lamCxN X A outer s H E scope f c') body (tM w (exO w E) m))
    (hdb : (x == ("__debug__" : Str)) = false := by decide) : PE X (.Call (.Name x p) [.Lambda params body scope lpos] [] pos) (tM w EX (mLam N i hds b m)) := by
  obtain ⟨g, fd, st, a, y, Ng, h₀, hs, rest, q1, q2, q3, q4, q5, hm, Fn, Sg, hNg, nd, hb, hN0, hva, hda, hca, hNi, hyl, hbd, hsw, walk⟩ := F.ex
  refine ⟨fun pins s σ H Q I hh => ?_⟩
  obtain ⟨M, rho, env, h, er, hr, o⟩ := hh
  refine wpAny_Call_Name_kw (ld_glob I hg hm ?_ hdb)
  refine PySem.W.callWith_K (h₀ := X.base) I.ok.mod.kin (by rw [C.hK]; exact Fn.kp) ?_ (by rfl) (by rfl)
  show wpAny _ _ (spliced ((false, eval (.Lambda params body scope lpos) X.env) :: backTo pos (starEach [] X.env))) _ _ s
  obtain ⟨ps, hP, tr, kn⟩ := hr.tabs _ hT
  refine Calls.spliced_cons (lam_new I TB hcode hP tr (fun pos cv e => ?_) hdef (L.has I.ok) fun f c' pm ctv H1 s' I1 lh hf hfn hfr hco => ?_)
  · obtain ⟨c, e1, e2, _⟩ := kn pos cv e
    exact ⟨c, e1, e2⟩
  obtain ⟨st1, hr1⟩ := lam_step hr hT hu hP kn lh
  have er1 := er.step st1 hr
  have o1 := Out.step o st1
  refine Calls.spliced_nil ⟨I1.kIn, ?_⟩
  obtain ⟨oc, od, kV, doc, pm2, an, cdv, ct, osl, rfl, lk, hcd⟩ := Fn.ex
  have rc : codeAny (model X.prog X.w) X.A (.call (.ref g) ⟨[.ref f], []⟩) (CR CX0 X.stack X.prog X.w H1 s' Q E0) s' := by
    refine LamX.run_ofS (N := Ng) (ps := [a]) (us := [.ref f]) (vs := [.ref f]) (by rw [C.hK]; exact lk) (by rw [C.hK]; exact hcd) Sg C.room I1.env0 (hb s' [.ref f] (by rw [← C.hK]; exact I1.kIn) rfl) (.cons rfl .nil) rfl fun hr' => ?_
    rw [C.hK]
    have Cg : Cxt w (k + 1) (cxOf CX0 X.prog X.w w.K X.mg X.base Ng x (defScope st) g cdv X.A X.stack s' H1 E0).nox := Cxt.mk rfl C.hW rfl hr' C.grd PassesOwn.never
    obtain ⟨hh, hrest⟩ := walk cdv X.A X.stack s' H1 E0 Cg
    have hstack : (L2.start Ng [V.ref f]).length = N := by
      unfold L2.start
      rw [List.length_append, List.length_map, List.length_replicate, ← hNg]
      have : 1 ≤ Ng.length := by
        cases Ng with
        | nil => cases hN0
        | cons _ _ => simp
      simp only [List.length_singleton]; omega
    -- the try
    have hT1 := ps_try_cl (X := (cxOf CX0 X.prog X.w w.K X.mg X.base Ng x (defScope st) g cdv X.A X.stack s' H1 E0).nox) (Wout := wX w EXF) (pos := q5) (body := [.Assign [.Name y q1] (.Call (.Name a q2) [] [] q3) q4])
      (tb := fun W D σZ HZ => ∃ EX1 : XC, (∀ cls d σ H, σ.length = Ng.length → wX w EX1 cls d σ H → W cls d σ H) ∧ σZ[0]? = some (some (.ref f)) ∧ HZ c' = some (LamX.CodeO c' (X.env.qual ++ "<lambda>")) ∧ tM w (exO w (wE w EX1)) m σ HZ fun v H2 => D.nx (σZ.set i (some v)) H2)
      rfl rfl tkX_none (fun W pn xe tkW hp => ⟨fun pinsZ sZ σZ HZ D IZ hh2 => ?_⟩) (hh.cls Cg)
    · rw [hbd]
      refine ⟨_, (pss_cons hT1 hrest).nox, ?_⟩
      refine ⟨fun c fs h M rho H => Out w EX M rho H (finT (hdsR N hds c fs h)) (KV w Q), fun cls d σ H hlen ⟨c, A, gs, fs, h, M, rho, e1, e2, e3, e4, e5, e6⟩ => hds_wish Cg e0 (hlen.trans hNg) e1 e2 e3 e4 e5 (finT_ok rfl e6), rfl, hco, M, rho, env, h, er1, hr1, ?_⟩
      unfold mLam at o1
      cases em : m env h with
      | ok v h2 =>
        rw [em] at o1
        exact fun M' rho' H' st hr' u rv => ⟨M', rho', _, h2, (er_none hstack).set rv i, hr', finR_ok (Out.step o1 st)⟩
      | exc c fs h2 =>
        rw [em] at o1
        exact fun M' rho' H' st _ A dd gs hc hx hr' hf' => ⟨c, A, gs, fs, h2, M', rho', rfl, hc, hx, hr', hf', Out.step o1 st⟩
      | stuck => rw [em] at o1; exact (show False from o1).elim
    · obtain ⟨EX1, imp, h1, h2, h3⟩ := hh2
      have tk1 : TkX w EX1 ((cxOf CX0 X.prog X.w X.K X.mg X.base Ng x (defScope st) g cdv X.A X.stack s' H1 E0).tr pn xe) := by rw [C.hK]; exact takes_len tkW imp
      have hp1 : PE ((cxOf CX0 X.prog X.w X.K X.mg X.base Ng x (defScope st) g cdv X.A X.stack s' H1 E0).tr pn xe) (.Call (.Name a q2) [] [] q3) _ := pe_lam (tb := tM w (exO w (wE w EX1)) m) I1 L hf hfn hfr (hbind _ _ _ _ _) (passX tk1) hr' (fun A outer s H room gd => hbody A outer s H _ f c' (Cxt.mk C.hK C.hW rfl room (gd.trans C.grd) (passes_of rfl)) ((L2N.takes_of rfl rfl rfl rfl).imp fun _ _ _ _ z => wE_exO z)) hN0 hva hda hca
      rw [C.hK] at hp1
      exact (pss_one (ps_set (i := i) nd hNi (Or.inl hyl) hp1 (hsw _) (.inr hyl))).run pinsZ sZ σZ HZ D IZ ⟨h1, h2, h3⟩
  refine wpAny_call (codeAny_mono rc fun r s2 hq => ?_)
  cases r with
  | error e => exact (show False from hq).elim
  | ok fl =>
    cases fl with
    | ret u => exact I1.after hq
    | next => exact False.elim hq
    | brk => exact False.elim hq
    | cont => exact False.elim hq
end
end MC
namespace MC
open PySem PySem.Spec PyProof.Rows L2
theorem CxtG.mono {hh : Bool} {w : Wo} {j k : Nat} {X : Cx} (C : CxtG hh w k X) (h : j ≤ k) : CxtG hh w j X := ⟨C.hK, C.hW, C.calmP, C.pinP, C.roomH.mono h, C.grd, C.own⟩
theorem HdsM.mono {w : Wo} {j k : Nat} {X : Cx} (h : j ≤ k) {hds : List ExceptHandler} {l : List Hd} (q : HdsM w j X hds l) : HdsM w k X hds l := by
  induction q with
  | nil => exact .nil
  | no hc hsu r ih => exact .no hc hsu ih
  | as hc hN hi hln hsu r ih => exact .as hc hN hi hln (fun a oe pn C => hsu a oe pn (C.mono h)) ih
theorem LamF.mono {P : Program} {W : World} {w : Wo} {mg : Str → Option Value} {base : Heap} {j k : Nat} {x : Str} {N i : Nat} {hds : List Hd} {b : MS} (F : LamF P W w mg base j x N i hds b) (h : j ≤ k) : LamF P W w mg base k x N i hds b := by
  obtain ⟨g, fd, st, a, y, Ng, h₀, hs, rest, q1, q2, q3, q4, q5, hm, Fn, Sg, hNg, nd, hb, hN0, hva, hda, hca, hNi, hyl, hbd, hsw, walk⟩ := F.ex
  exact ⟨g, fd, st, a, y, Ng, h₀, hs, rest, q1, q2, q3, q4, q5, hm, Fn, Sg, hNg, nd, hb, hN0, hva, hda, hca, hNi, hyl, hbd, hsw, fun cdv A outer s H E C => ⟨(walk cdv A outer s H E (C.mono h)).1.mono h, (walk cdv A outer s H E (C.mono h)).2⟩⟩
/-- a def of the text whose code object stands at c -/
structure FunC (K : PySem.W.Frag) (x qual : Str) (st : Stmt) (f : Addr) (fd : FuncData) (c : Addr) : Prop where
  F : Fun K x qual st f fd
  ex : ∃ (oc : Value) (od : Option Addr) (kV doc pm : Value) (an : Option Addr) (ct : Value) (osl : Array (Option Value)),
    fd = PySem.W.fnOf x qual (defArgs st) (defBody st) (defScope st) .none kV doc pm an (.ref c) ct ∧ K.lookup f = some ⟨oc, od, .func fd, osl⟩ ∧ PySem.W.codeIn K (.ref c) qual = true
theorem func_mk {K : PySem.W.Frag} {x qual : Str} {st : Stmt} {f c : Addr} {kV doc pm : Value} {an : Option Addr} {ct oc : Value} {od : Option Addr} {osl : Array (Option Value)} (l : K.lookup f = some ⟨oc, od, .func (PySem.W.fnOf x qual (defArgs st) (defBody st) (defScope st) .none kV doc pm an (.ref c) ct), osl⟩)
    (e : PySem.W.codeIn K (.ref c) qual = true) (k : PySem.W.keepIn K (.ref f) = true) : FunC K x qual st f (PySem.W.fnOf x qual (defArgs st) (defBody st) (defScope st) .none kV doc pm an (.ref c) ct) c := ⟨fun_mk l e k, ⟨_, _, _, _, _, _, _, _, rfl, l, e⟩⟩
section
variable {P : Program} {W : World} {w : Wo} {mg : Str → Option Value} {base : Heap} {CX : CXT} {ex : XK → XC} {k : Nat}
/-- a def that makes lambdas -/
theorem fnm_ofC (hW : W = w.W) {x qual : Str} {st : Stmt} {f c : Addr} {fd : FuncData} {N ps : List Str} {b : MS} (F : FunC w.K x qual st f fd c) (sc : FnScope N ps (defScope st))
    (hb : ∀ (A : Around) (outer : List Env) (s : Shared) (H : Hp) (E : XK), Cxt w k (cxOf CX P W w.K mg base N qual (defScope st) f (.ref c) A outer s H E).nox →
      PSs (cxOf CX P W w.K mg base N qual (defScope st) f (.ref c) A outer s H E).nox (defBody st) (tS w (ex E) b)) : FnM P W w mg base CX ex (k + 1) f fd ps (mFun N.length b) := by
  obtain ⟨oc, od, kV, doc, pm, an, ct, osl, rfl, lk, hcd⟩ := F.ex
  constructor
  intro A outer s H args us vs Q E room grd e0 bt rv len sp
  have inK : w.K.In s.heap := e0.mod.kin.keeps fun b o z => (e0.bs b o z).1
  have noLim : s.heap.NoLimit := e0.mod.nolimit.keeps fun b o z => (e0.bs b o z).1
  refine codeAny_call_function (fd := PySem.W.fnOf x qual (defArgs st) (defBody st) (defScope st) .none kV doc pm an (.ref c) ct) room.depth (inK _ _ lk) rfl sc.co sc.gen rfl (PySem.W.codeRec_of inK hcd) (bt _ _ _ _ ?_)
  refine wpAny_newFunctionEnv_cells sc.kind (fun y hy => ?_) fun env henv s1 x1 => ?_
  · rcases sc.par y.1 (List.of_mem_zip (a := y.1) (b := y.2) hy).1 with q | q
    · exact Or.inl q
    · exact Or.inr ⟨q, PySem.W.cellsFrom_some _ _ _ (Or.inl q)⟩
  subst henv
  refine ⟨noLim.keeps x1.toInCall.keep, codeAny_func ?_⟩
  have C : Cxt w k (cxOf CX P W w.K mg base N qual (defScope st) f (.ref c) A outer s H E).nox := Cxt.mk rfl hW rfl (room.deeper _) grd PassesOwn.never
  have I : Inv (cxOf CX P W w.K mg base N qual (defScope st) f (.ref c) A outer s H E) [] (start N vs) H s1 := inv_start sc room.hd e0 len rv x1
  obtain ⟨M, rho, as, h, ra, hr, o⟩ := sp
  have er : ER w M rho H (as.map some ++ List.replicate (N.length - as.length) none) (start N vs) := start_er N.length ra
  have red : tS w (ex E) b { nx := fun _ H' => Q .non H', rt := Q } (start N vs) H := by
    refine ⟨M, rho, _, h, er, hr, (Out.bind o).imp fun fl h1 M1 rho1 H1 st1 hr1 o1 => ?_⟩
    cases fl with
    | nx e => exact fun s1 _ => (show Out w (ex E) M1 rho1 H1 (.ok .non h1) (KV w Q) from o1).now hr1 _ .non
    | rt v => exact (show Out w (ex E) M1 rho1 H1 (.ok v h1) (KV w Q) from o1).now hr1
    | bk e => exact (show False from o1).elim
    | ct e => exact (show False from o1).elim
  refine wpAny_mono ((hb A outer s H E C).nox.run [] s1 (start N vs) H _ I red) (fun fl s' q => ?_) fun e s' q => q
  cases fl with
  | ret u => obtain ⟨v, σ', H', J, r, q⟩ := q; exact ⟨v, H', J.os, J.bare, J.base, J.hok, r, q⟩
  | next => obtain ⟨σ', H', J, q⟩ := q; exact ⟨.non, H', J.os, J.bare, J.base, J.hok, rfl, q⟩
  | brk => obtain ⟨_, _, _, q⟩ := q; exact (show False from q).elim
  | cont => obtain ⟨_, _, _, q⟩ := q; exact (show False from q).elim
end
/-- the name that a lambda of the def bears -/
abbrev lamQ (q : Str) : Str := (envOfC q default 0 0 .none).qual ++ "<lambda>"
end MC

end
section
set_option maxRecDepth 100000
set_option maxHeartbeats 4000000
namespace MC
open PySem PySem.Spec PyProof.Rows L2

theorem CxtG.pin {w : Wo} {k : Nat} {X : Cx} (C : CxtG true w k X) {a : Addr} {oe : Obj} (e : w.ex = some (a, oe)) : (a, oe) ∈ X.pn := by
  obtain ⟨p, e1, e2, _⟩ := C.pinP rfl
  rw [e] at e1
  cases e1
  exact e2
/-- e.f, e the exception -/
def mXf (cs : List Nat) (f : Nm) (m : ME) : ME := fun env h => (m env h).bind fun x h1 => match x with
  | .exn c fs => bif cs.contains c then (match lookF f fs with
    | some v => .ok v h1
    | none => .stuck) else .stuck
  | _ => .stuck
def XFld (w : Wo) (cs : List Nat) (f : Nm) : Prop := ∀ c A, c ∈ cs → w.cl c = some A → XfC w.K A ∧ PySem.W.findIn w.K (.ref A) (nmS f) = some none
section
variable {w : Wo} {EX : XC} {X : Cx} {k : Nat} {e : Expr} {m : ME} {p pos : Pos}
theorem me_xf (C : CxtG true w k X) {cs : List Nat} (f : Nm) {n : Str} (hn : n = nmS f) (F : XFld w cs f) (he : PE X e (tM w EX m)) (hb : attributeBase e n X.env (eval e X.env) = eval e X.env := by rfl) : PE X (.Attribute e n pos) (tM w EX (mXf cs f m)) := by
  subst hn
  refine ⟨fun pins s σ H Q I hh => ?_⟩
  obtain ⟨M, rho, env, h, er, hr, o⟩ := hh
  refine attr_of hb (thn (he.run pins s σ H (fun v H1 => ∃ M1 rho1 h1 x, HR w M1 rho1 H1 h1 ∧ VR w M1 rho1 H1 x v ∧ Out w EX M1 rho1 H1 (match x with
    | .exn c fs => bif cs.contains c then (match lookF f fs with
      | some v => .ok v h1
      | none => .stuck) else .stuck
    | _ => .stuck) (KV w Q)) I (tM.of er hr (Out.bind o) fun x h1 M1 rho1 H1 v st1 er1 hr1 o1 rv => ⟨M1, rho1, h1, x, hr1, rv, o1⟩)) fun u s1 ⟨v, H1, I1, rx, M1, rho1, h1, x, hr1, rv, o1⟩ => ?_)
  cases rv with
  | @exn c A a d oe fs gs e1 hz hf hc e5 e6 rf => ?_
  | _ => exact (show False from o1).elim
  obtain rfl : u = Value.ref a := rx
  obtain ⟨hin, o2⟩ := Out.bif o1
  split at o2
  · rename_i y ey
    obtain ⟨v, ev, rv⟩ := rf.look ey
    obtain ⟨T, hno⟩ := F c A (List.contains_iff_mem.mp hin) hc
    rw [← C.hK] at T hno
    cases d with
    | none =>
      rw [e6 rfl] at ev
      cases ev
    | some dd =>
      obtain ⟨ea, _⟩ := e5 dd rfl
      obtain ⟨ha, _⟩ := I1.pin (a, oe) (List.mem_append_left _ (C.pin e1))
      obtain ⟨vs, hd⟩ := hf
      have hx : ObjOk X.prog X.w H1 s1.heap dd (.xd gs) := I1.hok dd _ ea
      obtain ⟨mA, hns, hrr⟩ := hx
      obtain ⟨od, ho, hl⟩ := lookIn_ns hns
      obtain ⟨u, hu, ru⟩ := RelO.some_of (v := v) (o := mA (nmS f)) (by rw [← ev]; exact hrr (nmS f))
      have J : PySem.W.InstAt s1.heap a oe A (some od) := ⟨ha, hz.1, by unfold PySem.W.notCls; rw [hd] <;> rfl, by rw [hz.2]; exact ho⟩
      exact PySem.HandSPX.exc_get I1.kIn J T.ga T.gg T.exC (PySem.W.findObj_own T.hdC hno rfl (by rw [hl, hu])) (handed_of ru) ⟨v, H1, I1.tok _, ru, o2.now hr1 v rv⟩
  · exact (show False from o2).elim

/-- isinstance(e, T), e the exception -/
def rXi (w : Wo) : List V → Hp → VK → Prop := fun xs H Q => ∃ (a : Addr) (oe : Obj) (D : Addr) (d : Option Addr) (gs : List (Str × V)) (c : V) (u : Value) (b : Bool), xs = [.ref a, c] ∧ w.ex = some (a, oe) ∧ Zc (.ref D) d oe ∧ (∃ vs, oe.data = .fields vs) ∧ (∀ x, d = some x → H x = some (.xd gs)) ∧
  (∀ z, RelV c z → z = u) ∧ ExcC w.K D ∧ PySem.W.kitOne w.K (.ref D) u = some b ∧ Q (.bl b) H
theorem call_xi (C : CxtG true w k X) : CallR X (.builtin "isinstance") (rXi w) := by
  intro pins s σ H xs us Q I r ⟨a, oe, D, d, gs, c, u, b, e0, e1, hz, hf, hx, hc, K, ek, q⟩
  subst e0
  cases r with
  | cons rx rr =>
    cases rr with
    | cons rt rr =>
      cases rr
      cases rx
      have ec := hc _ rt
      subst ec
      obtain ⟨hget, _⟩ := I.pin (a, oe) (List.mem_append_left _ (C.pin e1))
      obtain ⟨vs, hv⟩ := hf
      have hcl : (PySem.W.clsIn X.K D).isSome = true := by
        obtain ⟨cd, hcd, _⟩ := PySem.W.any_some K.hd
        rw [C.hK, hcd]; rfl
      obtain ⟨od, J⟩ : ∃ od, PySem.W.InstAt s.heap a oe D od := by
        cases d with
        | none => exact ⟨none, hget, hz.1, by unfold PySem.W.notCls; rw [hv] <;> rfl, by rw [hz.2]; trivial⟩
        | some dd =>
          obtain ⟨o, ho⟩ := objOk_get (I.hok dd _ (hx dd rfl))
          exact ⟨some o, hget, hz.1, by unfold PySem.W.notCls; rw [hv] <;> rfl, by rw [hz.2]; exact ho⟩
      rw [← C.hK] at K ek
      exact PySem.W.kia_one (PySem.W.kitx_exc hcl K.hg K.hk K.hs K.ha K.hn K.ht K.hm) I.kIn J ek (fun z => nomatch z) fun tk => ⟨.bl b, H, I.kept (t' := tk) fun _ _ z => z, rfl, q⟩
def mXi (tb : List (Nat × Bool)) (m : ME) : ME := fun env h => (m env h).bind fun x h1 => match x with
  | .exn c _ => (match tb.lookup c with
    | some b => .ok (.bl b) h1
    | none => .stuck)
  | _ => .stuck
/-- what is known of the classes of errors -/
def XiOk (w : Wo) (u : Value) (tb : List (Nat × Bool)) : Prop := ∀ p ∈ tb, ∀ A, w.cl p.1 = some A → ExcC w.K A ∧ PySem.W.kitOne w.K (.ref A) u = some p.2
theorem xi_reads {u : Value} {cv : V} {tb : List (Nat × Bool)} (B : XiOk w u tb) (kc : ∀ z, RelV cv z → z = u) {σ : L2.St} {H : Hp} {Q : VK} (hh : tM w EX (mXi tb m) σ H Q) : tCB (rXi w) (tCons (tM w EX m) (tCons (tC cv) tNil)) σ H Q := by
  obtain ⟨M, rho, env, h, er, hr, o⟩ := hh
  refine tM.of er hr (Out.bind o) fun x h1 M1 rho1 H1 v st1 er1 hr1 o1 rv => ?_
  cases rv with
  | @exn c A a d oe fs gs e1 hz hf hc e5 e6 rf => ?_
  | _ => exact (show False from o1).elim
  have o1' : Out w EX M1 rho1 H1 (match tb.lookup c with
    | some b => .ok (.bl b) h1
    | none => .stuck) (KV w Q) := o1
  split at o1'
  · rename_i b eb
    obtain ⟨K, ek⟩ := B (c, b) (mem_look eb) A hc
    exact ⟨a, oe, A, d, gs, cv, u, b, rfl, e1, hz, hf, fun x hx => (e5 x hx).1, kc, K, ek, o1'.now hr1 _ (.bl b)⟩
  · exact (show False from o1').elim
theorem me_xiT {x : Str} {T : String} {p1 p2 : Pos} {tb : List (Nat × Bool)} (C : CxtG true w k X) (B : XiOk w (.type T) tb) (he : PE X e (tM w EX m)) (hg : Gl X "isinstance") (hm : X.mg "isinstance" = none) (hg2 : Gl X x) (hm2 : X.mg x = none) (hv2 : bootBuiltins x = some (.type T)) (hn2 : x ≠ "__name__" := by decide) (hd2 : (x == ("__debug__" : Str)) = false := by decide)
    (hs : starEach [e, .Name x p2] X.env = (false, eval e X.env) :: starEach [.Name x p2] X.env := by rfl) (hs2 : starEach [.Name x p2] X.env = (false, eval (.Name x p2) X.env) :: starEach [] X.env := by rfl) (hpl : (backTo pos (starEach [.Name x p2] X.env)).any (·.1) = false := by rfl) :
    PE X (.Call (.Name "isinstance" p1) [e, .Name x p2] [] pos) (tM w EX (mXi tb m)) :=
  PE.imp (pe_callB (call_xi C) hg hm (by decide +kernel) (pa_cons he (pa_cons (pe_bltn (v := .ty T) hg2 hm2 hv2 rfl hn2 hd2) pa_nil hs2) hs) (by decide) (by decide) hs hpl) fun σ H Q h => xi_reads (cv := .ty T) B (fun z hz => hz) h
theorem me_xiC {x : Str} {A : Addr} {p1 p2 : Pos} {tb : List (Nat × Bool)} (C : CxtG true w k X) (B : XiOk w (.ref A) tb) (he : PE X e (tM w EX m)) (hg : Gl X "isinstance") (hm : X.mg "isinstance" = none) (hg2 : Gl X x) (hm2 : X.mg x = some (.ref A)) (hd2 : (x == ("__debug__" : Str)) = false := by decide)
    (hs : starEach [e, .Name x p2] X.env = (false, eval e X.env) :: starEach [.Name x p2] X.env := by rfl) (hs2 : starEach [.Name x p2] X.env = (false, eval (.Name x p2) X.env) :: starEach [] X.env := by rfl) (hpl : (backTo pos (starEach [.Name x p2] X.env)).any (·.1) = false := by rfl) :
    PE X (.Call (.Name "isinstance" p1) [e, .Name x p2] [] pos) (tM w EX (mXi tb m)) :=
  PE.imp (pe_callB (call_xi C) hg hm (by decide +kernel) (pa_cons he (pa_cons (pe_glob (v := .ref A) hg2 hm2 rfl hd2) pa_nil hs2) hs) (by decide) (by decide) hs hpl) fun σ H Q h => xi_reads (cv := .ref A) B (fun z hz => hz) h
end
end MC

end
section
set_option maxRecDepth 100000
set_option maxHeartbeats 4000000
namespace MC
open PySem PySem.Spec PyProof.Rows L2

/-- what a def promises there: p the exception that is handled -/
structure FnMH (P : Program) (W : World) (w : Wo) (mg : Str → Option Value) (base : Heap) (k : Nat) (f : Addr) (fd : FuncData) (ps : List Str) (m : MF) : Prop where
  run : ∀ (p : Addr × Obj) (A : Around) (outer : List Env) (s : Shared) (H : Hp) (args : Args) (us : List Value) (vs : List V) (Q : VK) (E : XK), L2H.RoomH k A → L2H.Hot1 A p → L2H.PinOk outer H s p → A.guards = some [] → Env0 P W w.K mg base A outer s H →
    BindsTo s fd args (ps.zip us) → Vals vs us → vs.length = ps.length → spM (w.hot p) EXF m vs H Q → codeAny (model P W) A (.call (.ref f) args) (CR CX0 outer P W H s Q E) s
theorem FnMH.mono {P : Program} {W : World} {w : Wo} {mg : Str → Option Value} {base : Heap} {i j : Nat} {f : Addr} {fd : FuncData} {ps : List Str} {m : MF} (F : FnMH P W w mg base i f fd ps m) (h : i ≤ j) : FnMH P W w mg base j f fd ps m :=
  ⟨fun p A outer s H args us vs Q E r => F.run p A outer s H args us vs Q E (r.mono h)⟩
section
variable {P : Program} {W : World} {w : Wo} {mg : Str → Option Value} {base : Heap} {k : Nat}
abbrev cxHN (P : Program) (W : World) (K : PySem.W.Frag) (mg : Str → Option Value) (base : Heap) (N : List Str) (qual : Str) (scope : Scope) (f : Addr) (cd : Value) (A : Around) (outer : List Env) (s : Shared) (H : Hp) (E : XK) (p : Addr × Obj) : Cx := (L2H.cxH CX0 P W K mg base N qual scope f cd A outer s H E p).nox
theorem fnmh_of (hW : W = w.W) {x qual : Str} {st : Stmt} {f : Addr} {fd : FuncData} {N ps : List Str} {b : MS} (F : Fun w.K x qual st f fd) (sc : FnScope N ps (defScope st))
    (hb : ∀ (p : Addr × Obj) (cdv : Value) (A : Around) (outer : List Env) (s : Shared) (H : Hp) (E : XK), CxtG true (w.hot p) k (cxHN P W w.K mg base N qual (defScope st) f cdv A outer s H E p) →
      PSs (cxHN P W w.K mg base N qual (defScope st) f cdv A outer s H E p) (defBody st) (tS (w.hot p) EXF b)) : FnMH P W w mg base (k + 1) f fd ps (mFun N.length b) := by
  obtain ⟨oc, od, kV, doc, pm, an, cdv, ct, osl, rfl, lk, hcd⟩ := F.ex
  constructor
  intro p A outer s H args us vs Q E room hot hpin grd e0 bt rv len sp
  have inK : w.K.In s.heap := e0.mod.kin.keeps fun b o z => (e0.bs b o z).1
  have noLim : s.heap.NoLimit := e0.mod.nolimit.keeps fun b o z => (e0.bs b o z).1
  refine codeAny_call_function (fd := PySem.W.fnOf x qual (defArgs st) (defBody st) (defScope st) .none kV doc pm an cdv ct) room.depth (inK _ _ lk) rfl sc.co sc.gen rfl (PySem.W.codeRec_of inK hcd) (bt _ _ _ _ ?_)
  refine wpAny_newFunctionEnv_cells sc.kind (fun y hy => ?_) fun env henv s1 x1 => ?_
  · rcases sc.par y.1 (List.of_mem_zip (a := y.1) (b := y.2) hy).1 with q | q
    · exact Or.inl q
    · exact Or.inr ⟨q, PySem.W.cellsFrom_some _ _ _ (Or.inl q)⟩
  subst henv
  refine ⟨noLim.keeps x1.toInCall.keep, codeAny_func ?_⟩
  have C : CxtG true (w.hot p) k (cxHN P W w.K mg base N qual (defScope st) f cdv A outer s H E p) :=
    ⟨rfl, hW, fun z => (nomatch z), fun _ => ⟨p, rfl, List.mem_singleton.mpr rfl, hot⟩, room.deeper _, grd, PassesOwn.never⟩
  have I : Inv (L2H.cxH CX0 P W w.K mg base N qual (defScope st) f cdv A outer s H E p) [] (start N vs) H s1 := L2H.inv_startH sc hpin e0 len rv x1
  obtain ⟨M, rho, as, h, ra, hr, o⟩ := sp
  have er : ER (w.hot p) M rho H (as.map some ++ List.replicate (N.length - as.length) none) (start N vs) := start_er N.length ra
  have red : tS (w.hot p) EXF b { nx := fun _ H' => Q .non H', rt := Q } (start N vs) H := by
    refine ⟨M, rho, _, h, er, hr, (Out.bind o).imp fun fl h1 M1 rho1 H1 st1 hr1 o1 => ?_⟩
    cases fl with
    | nx e => exact fun s1 _ => (show Out (w.hot p) EXF M1 rho1 H1 (.ok .non h1) (KV (w.hot p) Q) from o1).now hr1 _ .non
    | rt v => exact (show Out (w.hot p) EXF M1 rho1 H1 (.ok v h1) (KV (w.hot p) Q) from o1).now hr1
    | bk e => exact (show False from o1).elim
    | ct e => exact (show False from o1).elim
  refine wpAny_mono ((hb p cdv A outer s H E C).nox.run [] s1 (start N vs) H _ I red) (fun fl s' q => ?_) fun e s' q => q
  cases fl with
  | ret u => obtain ⟨v, σ', H', J, r, q⟩ := q; exact ⟨v, H', J.os, J.bare, J.base, J.hok, r, q⟩
  | next => obtain ⟨σ', H', J, q⟩ := q; exact ⟨.non, H', J.os, J.bare, J.base, J.hok, rfl, q⟩
  | brk => obtain ⟨_, _, _, q⟩ := q; exact (show False from q).elim
  | cont => obtain ⟨_, _, _, q⟩ := q; exact (show False from q).elim
end
section
variable {w : Wo} {EX : XC} {X : Cx} {k : Nat} {f : Addr} {fd : FuncData} {ps ks : List Str} {m : MF} {ds : List Value} {dv : List V} {dp : List PV} {n : Nat} {ix : List Nat} {q : Addr × Obj}
theorem clb_fnH (C : CxtG true (w.hot q) k X) (F : FnMH X.prog X.w w X.mg X.base k f fd ps m) (hk : PySem.W.keepIn w.K (.ref f) = true) (B : Bd w.K fd ps ks n ds ix) (hd : Vals dv ds) (hp : ∀ M rho H, VRs (w.hot q) M rho H dp dv) {tb : PH → List Nat → PV → PH → R PV} (T : TbOk (w.hot q) EX tb) :
    Clb X (w.hot q) EX (.ref f) n ks fun h xs => callG tb m (gI ix (xs ++ dp)) h := by
  have hK : X.K = w.K := C.hK
  refine ⟨by rw [hK]; exact hk, ?_⟩
  intro pins σ H s Q us ws vs zs M rho h xs ys I r rz lu lw hr rx ry o
  obtain ⟨p, ep, hpn, hot⟩ := C.pinP rfl
  have ep : q = p := Option.some.inj ep
  subst ep
  have P1 := I.pin q (List.mem_append_left _ hpn)
  have hpin : L2H.PinOk X.stack H s q := ⟨P1.1, P1.2.1, fun hm => (List.mem_cons.mp (I.stkSub q.1 hm)).elim P1.2.2.1 P1.2.2.2.1, P1.2.2.2.2⟩
  have rA : Vals (vs ++ zs ++ dv) (us ++ ws ++ ds) := (r.append rz).append hd
  have rP : VRs (w.hot q) M rho H (xs ++ ys ++ dp) (vs ++ zs ++ dv) := (rx.append ry).append (hp M rho H)
  have hlen : (gI ix (us ++ ws ++ ds)).length = ps.length := by
    rw [gI_len, B.len]
    intro i hi
    have := B.lo i hi
    simp only [List.length_append]; omega
  have r2 := gI_vals rA ix
  have e0 : Env0 X.prog X.w w.K X.mg X.base X.A X.stack s H := by rw [← hK]; exact I.env0
  obtain ⟨rho', as, hc, r3, hr3, o3⟩ := callG_ok (EX2 := EXF) T hr (rP.gI ix) o
  refine wpAny_call (codeAny_mono (F.run q X.A X.stack s H ⟨us, ks.zip ws⟩ (gI ix (us ++ ws ++ ds)) (gI ix (vs ++ zs ++ dv)) Q (fun _ _ _ => False) C.roomH hot hpin C.grd e0 (B.to s us ws (by rw [← hK]; exact I.kIn) lu lw) r2 (by rw [r2.length]; exact hlen)
    ⟨M, rho', as, hc, r3, hr3, o3.imp fun v g M1 rho1 H1 st1 hr1 q V rv => ?_⟩) fun rs s' z => ?_)
  · obtain ⟨M2, rho2, u, h2, _, _, ru, kq⟩ := q V rv
    exact kq V ru
  · cases rs with
    | error e => exact pass0 pins σ H s e s' I z
    | ok fl =>
      cases fl with
      | ret u => exact I.after z
      | next => exact (show False from z).elim
      | brk => exact (show False from z).elim
      | cont => exact (show False from z).elim
end
end MC

end
section
set_option maxRecDepth 100000
namespace MM
open PySem L2 MC
def b_text_line : MS := (mSeq (mIfS (mNot (mTru (mIsi tb_str cs_isi_str (mVar 0)))) mNever mNil) (mSeq (mRet (mIf (mTB (mOp opEq (mVar 0) (mC (.str [])))) (mC (.str [45])) (mVar 0))) mNil))
def m_text_line : MF := mFun 1 b_text_line
def b_text_line_x : MS := (mSeq (mIfS (mNot (mTru (mIsi tb_str cs_isi_str (mVar 0)))) (mSeq (mRaise 13 [118, 97, 108, 117, 101] (mVar 0)) mNil) mNil) (mSeq (mRet (mIf (mTB (mOp opEq (mVar 0) (mC (.str [])))) (mC (.str [45])) (mVar 0))) mNil))
def m_text_line_x : MF := mFun 1 b_text_line_x
end MM

end
section
set_option maxRecDepth 100000
namespace MM
open PySem L2 MC
def b__law_flags_h : MS := (mSeq (mSet 1 (mLst (maCons (mXi xit_NotAMachine (mVar 0)) (maCons (mXi xit_NotADesk (mVar 0)) (maCons (mXi xit_InvalidText (mVar 0)) maNil))))) (mSeq (mSet 1 (mOp opAdd (mVar 1) (mLst (maCons (mXi xit_InvalidCount (mVar 0)) (maCons (mXi xit_InvalidLetter (mVar 0)) (maCons (mXi xit_InvalidStand (mVar 0)) maNil)))))) (mSeq (mSet 1 (mOp opAdd (mVar 1) (mLst (maCons (mXi xit_InvalidWord (mVar 0)) (maCons (mXi xit_InvalidLine (mVar 0)) (maCons (mXi xit_InvalidArrows (mVar 0)) maNil)))))) (mSeq (mSet 1 (mOp opAdd (mVar 1) (mLst (maCons (mXi xit_InvalidEnds (mVar 0)) (maCons (mXi xit_InvalidBook (mVar 0)) (maCons (mXi xit_InvalidTexts (mVar 0)) maNil)))))) (mSeq (mSet 1 (mOp opAdd (mVar 1) (mLst (maCons (mXi xit_InvalidDeeds (mVar 0)) (maCons (mXi xit_NothingToUndo (mVar 0)) (maCons (mXi xit_Busy (mVar 0)) maNil)))))) (mSeq (mRet (mOp opAdd (mVar 1) (mLst (maCons (mXi xit_TooMany (mVar 0)) maNil)))) mNil))))))
def m__law_flags_h : MF := mFun 2 b__law_flags_h
def b__law_error_h : MS := (mSeq (mSet 1 (mC (.str [78, 111, 116, 65, 77, 97, 99, 104, 105, 110, 101, 32, 78, 111, 116, 65, 68, 101, 115, 107, 32, 73, 110, 118, 97, 108, 105, 100, 84, 101, 120, 116, 32, 73, 110, 118, 97, 108, 105, 100, 67, 111, 117, 110, 116, 32, 73, 110, 118, 97, 108, 105, 100, 76, 101, 116, 116, 101, 114, 32, 73, 110, 118, 97, 108, 105, 100, 83, 116, 97, 110, 100, 32, 73, 110, 118, 97, 108, 105, 100, 87, 111, 114, 100, 32, 73, 110, 118, 97, 108, 105, 100, 76, 105, 110, 101, 32]))) (mSeq (mSet 1 (mOp opAdd (mVar 1) (mC (.str [73, 110, 118, 97, 108, 105, 100, 65, 114, 114, 111, 119, 115, 32, 73, 110, 118, 97, 108, 105, 100, 69, 110, 100, 115, 32, 73, 110, 118, 97, 108, 105, 100, 66, 111, 111, 107, 32, 73, 110, 118, 97, 108, 105, 100, 84, 101, 120, 116, 115, 32, 73, 110, 118, 97, 108, 105, 100, 68, 101, 101, 100, 115, 32, 78, 111, 116, 104, 105, 110, 103, 84, 111, 85, 110, 100, 111, 32, 66, 117, 115, 121, 32, 84, 111, 111, 77, 97, 110, 121])))) (mSeq (mSet 2 (mCl0 (opF m__law_flags_h [0] []) 1 (maCons (mVar 0) maNil))) (mSeq (mSet 3 (mLst (maCons (mXi xit_InputError (mVar 0)) (maCons (mXi xit_StateError (mVar 0)) (maCons (mXi xit_SizeError (mVar 0)) maNil))))) (mSeq (mSet 4 (mLst (maCons (mXi xit_ValueError (mVar 0)) (maCons (mXi xit_LookupError (mVar 0)) (maCons (mXi xit_ArithmeticError (mVar 0)) maNil))))) (mSeq (mIfS (mOr (mTB (mOp opNe (mBM 1 oCountB (mVar 2) (maCons (mC (.bl true)) maNil)) (mC (.int 1)))) (mTB (mOp opNe (mVar 4) (mVar 3)))) (mSeq (mRet (mTup (maCons (mC (.str [111, 116, 104, 101, 114])) (maCons (mC (.str [])) maNil)))) mNil) mNil) (mSeq (mSet 5 (mBM 1 oIndexD (mVar 2) (maCons (mC (.bl true)) maNil))) (mSeq (mIfS (mTB (mOp opNe (mVar 3) (mLst (maCons (mOp opLt (mVar 5) (mC (.int 13))) (maCons (mCh opLt opLt (mC (.int 12)) (mVar 5) (mC (.int 15))) (maCons (mOp opEq (mVar 5) (mC (.int 15))) maNil)))))) (mSeq (mRet (mTup (maCons (mC (.str [111, 116, 104, 101, 114])) (maCons (mC (.str [])) maNil)))) mNil) mNil) (mSeq (mIfS (mTB (mOp (opIn false) (mVar 5) (mTup (maCons (mC (.int 13)) (maCons (mC (.int 14)) maNil))))) (mSeq (mRet (mTup (maCons (mOp opIx (mBM 0 oSplit (mVar 1) (maCons (mC (.str [32])) maNil)) (mVar 5)) (maCons (mC (.str [])) maNil)))) mNil) mNil) (mSeq (mIfS (mTB (mOp opEq (mVar 5) (mC (.int 15)))) (mSeq (mRet (mTup (maCons (mOp opIx (mBM 0 oSplit (mVar 1) (maCons (mC (.str [32])) maNil)) (mVar 5)) (maCons (mBt bReprQ (maCons (mXf xcs_limit [108, 105, 109, 105, 116] (mVar 0)) maNil)) maNil)))) mNil) mNil) (mSeq (mRet (mTup (maCons (mOp opIx (mBM 0 oSplit (mVar 1) (maCons (mC (.str [32])) maNil)) (mVar 5)) (maCons (mIf (mTB (mOp opLt (mVar 5) (mC (.int 8)))) (mBt bReprQ (maCons (mXf xcs_value [118, 97, 108, 117, 101] (mVar 0)) maNil)) (mBt bReprQ (maCons (mXf xcs_index [105, 110, 100, 101, 120] (mVar 0)) maNil))) maNil)))) mNil)))))))))))
def m__law_error_h : MF := mFun 6 b__law_error_h
def hd__law_raised : List Hd := (⟨xtb_InputError_StateError_SizeError, some 2, (mSeq (mRet (mCl0 (opF m__law_error_h [0] []) 1 (maCons (mVar 2) maNil))) mNil)⟩ :: [])
def bl__law_raised : MS := (mSeq (mRet (mTup (maCons (mC (.str [114, 101, 116, 117, 114, 110, 101, 100])) (maCons (mBt bReprQ (maCons (mVar 1) maNil)) maNil)))) mNil)
end MM

end
section
set_option maxRecDepth 100000
set_option maxHeartbeats 8000000
namespace K80
open PySem PySem.Spec PyProof.Rows L2 MC MM
def topS (i : Nat) : Stmt := PySem.Challenge.pw_liketongues_k80_texts_written.main.body.getD i (.Pass ⟨0, 0, 0, 0⟩)

abbrev s_InvalidText_init : Stmt := inClass (topS 6) 0
theorem sc_InvalidText_init : FnScope ["self", "value"] ["self", "value"] (defScope s_InvalidText_init) := ⟨rfl, rfl, rfl, by decide +kernel, rfl, by decide +kernel, by decide +kernel⟩
abbrev s__law_draw : Stmt := topS 24
theorem sc__law_draw : FnScope ["_law_well_here", "_law_many", "_law_figure"] ["_law_well_here", "_law_many"] (defScope s__law_draw) := ⟨rfl, rfl, rfl, by decide +kernel, rfl, by decide +kernel, by decide +kernel⟩

abbrev s__law_flags_h : Stmt := topS 27
theorem sc__law_flags_h : FnScope ["_law_e", "_law_found"] ["_law_e"] (defScope s__law_flags_h) := ⟨rfl, rfl, rfl, by decide +kernel, rfl, by decide +kernel, by decide +kernel⟩

abbrev s__law_error_h : Stmt := topS 26
theorem sc__law_error_h : FnScope ["_law_e", "_law_words", "_law_flags_here", "_law_bases", "_law_own", "_law_at"] ["_law_e"] (defScope s__law_error_h) := ⟨rfl, rfl, rfl, by decide +kernel, rfl, by decide +kernel, by decide +kernel⟩

abbrev s__law_raised : Stmt := topS 25
theorem sc__law_raised : FnScope ["_law_job", "_law_gave", "_law_e"] ["_law_job"] (defScope s__law_raised) := ⟨rfl, rfl, rfl, by decide +kernel, rfl, by decide +kernel, by decide +kernel⟩

abbrev s_text_line_x : Stmt := topS 21
theorem sc_text_line_x : FnScope ["text"] ["text"] (defScope s_text_line_x) := ⟨rfl, rfl, rfl, by decide +kernel, rfl, by decide +kernel, by decide +kernel⟩

abbrev s_text_line : Stmt := topS 21
theorem sc_text_line : FnScope ["text"] ["text"] (defScope s_text_line) := ⟨rfl, rfl, rfl, by decide +kernel, rfl, by decide +kernel, by decide +kernel⟩

abbrev s__law_right : Stmt := topS 28
theorem sc__law_right : FnScope ["_law_well_here", "_law_turn", "_law_size", "_law_way", "_law_signs", "_law_row", "_law_odd", "_law_k"] ["_law_well_here"] (defScope s__law_right) := ⟨rfl, rfl, rfl, by decide +kernel, rfl, by decide +kernel, by decide +kernel⟩

def b__law_right : MS := (mSeq (mFor (miRng1 (maCons (mC (.int 6)) maNil)) (gName' 1) (mSeq (mPar 2 3 (mCl0 (opF m__law_draw [0, 1] []) 2 (maCons (mVar 0) (maCons (mC (.int 13)) maNil))) (mCl0 (opF m__law_draw [0, 1] []) 2 (maCons (mVar 0) (maCons (mC (.int 3)) maNil)))) (mSeq (mSet 4 (mOp opIx (mLst (maCons (mC (.str [97, 98, 99, 100, 101])) (maCons (mC (.str [120, 121, 122, 32, 45])) (maCons (mC (.str [97, 98, 99, 100, 101, 120, 121, 122, 65, 66, 90, 48, 49, 57, 32, 45, 95, 46, 10, 126, 33])) maNil)))) (mVar 3))) (mSeq (mSet 5 (mBM 0 oJoin (mC (.str [])) (maCons (mLc (miRng1 (maCons (mVar 2) maNil)) (Tg.nm 7) mYes (mOp opIx (mVar 4) (mCl0 (opF m__law_draw [0, 1] []) 2 (maCons (mVar 0) (maCons (mBt bLen (maCons (mVar 4) maNil)) maNil)))) [7]) maNil))) (mSeq (mIfS (mTB (mOp opNe (mLam 3 1 hd__law_raised bl__law_raised (mCl0 (opX m_text_line_x [0] []) 1 (maCons (mVar 5) maNil))) (mTup (maCons (mC (.str [114, 101, 116, 117, 114, 110, 101, 100])) (maCons (mBt bReprQ (maCons (mIf (mTB (mOp opNe (mVar 5) (mC (.str [])))) (mVar 5) (mC (.str [45]))) maNil)) maNil))))) (mSeq (mRet (mC (.bl false))) mNil) mNil) (mSeq (mSet 6 (mOp opIx (mLst (maCons (mC .non) (maCons (mC (.int 0)) (maCons (mC (.int 7)) (maCons (mC (.bl true)) (maCons (mC (.bl false)) (maCons (mTup maNil) (maCons (mTup (maCons (mC (.str [97])) maNil)) (maCons (mLst maNil) (maCons (mLst (maCons (mC (.str [97, 98])) maNil)) (maCons mDict0 (maCons (mTup (maCons (mVar 5) maNil)) (maCons (mLst (maCons (mVar 5) maNil)) maNil))))))))))))) (mCl0 (opF m__law_draw [0, 1] []) 2 (maCons (mVar 0) (maCons (mC (.int 12)) maNil))))) (mSeq (mIfS (mTB (mOp opNe (mLam 3 1 hd__law_raised bl__law_raised (mCl0 (opX m_text_line_x [0] []) 1 (maCons (mVar 6) maNil))) (mTup (maCons (mC (.str [73, 110, 118, 97, 108, 105, 100, 84, 101, 120, 116])) (maCons (mBt bReprQ (maCons (mVar 6) maNil)) maNil))))) (mSeq (mRet (mC (.bl false))) mNil) mNil) mNil))))))) (mSeq (mIfS (mTB (mOp opNe (mLc (miV (mLst (maCons (mC (.str [])) (maCons (mC (.str [45])) (maCons (mC (.str [32])) (maCons (mC (.str [45, 45])) (maCons (mC (.str [110, 111, 110, 101])) maNil))))))) (Tg.nm 5) mYes (mCl0 (opF m_text_line [0] []) 1 (maCons (mVar 5) maNil)) [5]) (mLst (maCons (mC (.str [45])) (maCons (mC (.str [45])) (maCons (mC (.str [32])) (maCons (mC (.str [45, 45])) (maCons (mC (.str [110, 111, 110, 101])) maNil)))))))) (mSeq (mRet (mC (.bl false))) mNil) mNil) (mSeq (mRet (mOp opEq (mLam 3 1 hd__law_raised bl__law_raised (mCl (opX m_text_line_x [0] []) 0 1 maNil (maCons (mC (.str [97, 98])) maNil))) (mTup (maCons (mC (.str [114, 101, 116, 117, 114, 110, 101, 100])) (maCons (mC (.str [39, 97, 98, 39])) maNil))))) mNil)))
def m__law_right : MF := mFun 8 b__law_right

abbrev s__law_well : Stmt := topS 23
theorem sc__law_well : FnScope ["_law_script", "_law_k", "_law_cell", "_law_part", "_law_low", "_law_high", "_law_well_here", "_law_turn"] ["_law_script", "_law_k"] (defScope s__law_well) := ⟨rfl, rfl, rfl, by decide +kernel, rfl, by decide +kernel, by decide +kernel⟩

abbrev s_law : Stmt := topS 29
theorem sc_law : FnScope ["_law_script", "_law_k"] ["_law_script"] (defScope s_law) := ⟨rfl, rfl, rfl, by decide +kernel, rfl, by decide +kernel, by decide +kernel⟩

def b_law : MS := (mSeq (mFor (miRng1 (maCons (mBt bMax2 (maCons (mC (.int 2)) (maCons (mBt bMin2 (maCons (mBt bLen (maCons (mVar 0) maNil)) (maCons (mC (.int 6)) maNil))) maNil))) maNil)) (gName' 1) (mSeq (mIfS (mNot (mTru (mCl0 (opF m__law_right [0] []) 1 (maCons (mCl0 (opF m__law_well [0, 1] []) 2 (maCons (mVar 0) (maCons (mVar 1) maNil))) maNil)))) (mSeq (mRet (mC (.bl false))) mNil) mNil) mNil)) (mSeq (mRet (mC (.bl true))) mNil))
def m_law : MF := mFun 2 b_law

/-- what the top has left -/
structure Tx (W : World) (w : Wo) (mg : Str → Option Value) (base : Heap) where
  hW : W = w.W
  gvn : ∀ i v, w.gv i = some v → v ≠ .non
  hex : w.ex = none
  nn_Machine : w.cl 0 = none
  nn_Desk : w.cl 1 = none
  nn_Console : w.cl 2 = none
  nn_Kept : w.cl 3 = none
  nn_Trial : w.cl 4 = none
  nn_Run : w.cl 5 = none
  nn_Paths : w.cl 6 = none
  nn_Readings : w.cl 7 = none
  nn_InputError : w.cl 8 = none
  nn_StateError : w.cl 9 = none
  nn_SizeError : w.cl 10 = none
  nn_NotAMachine : w.cl 11 = none
  nn_NotADesk : w.cl 12 = none
  nn_InvalidCount : w.cl 14 = none
  nn_InvalidLetter : w.cl 15 = none
  nn_InvalidStand : w.cl 16 = none
  nn_InvalidWord : w.cl 17 = none
  nn_InvalidLine : w.cl 18 = none
  nn_InvalidArrows : w.cl 19 = none
  nn_InvalidEnds : w.cl 20 = none
  nn_InvalidBook : w.cl 21 = none
  nn_InvalidTexts : w.cl 22 = none
  nn_InvalidDeeds : w.cl 23 = none
  nn_NothingToUndo : w.cl 24 = none
  nn_Busy : w.cl 25 = none
  nn_TooMany : w.cl 26 = none
  a__law_draw : Addr
  fd__law_draw : FuncData
  F__law_draw : Fun w.K "_law_draw" "_law_draw" s__law_draw a__law_draw fd__law_draw
  g__law_draw : mg "_law_draw" = some (.ref a__law_draw)
  a__law_flags_h : Addr
  fd__law_flags_h : FuncData
  F__law_flags_h : Fun w.K "_law_flags" "_law_flags" s__law_flags_h a__law_flags_h fd__law_flags_h
  g__law_flags_h : mg "_law_flags" = some (.ref a__law_flags_h)
  a__law_error_h : Addr
  fd__law_error_h : FuncData
  F__law_error_h : Fun w.K "_law_error" "_law_error" s__law_error_h a__law_error_h fd__law_error_h
  g__law_error_h : mg "_law_error" = some (.ref a__law_error_h)
  a__law_raised : Addr
  fd__law_raised : FuncData
  F__law_raised : Fun w.K "_law_raised" "_law_raised" s__law_raised a__law_raised fd__law_raised
  g__law_raised : mg "_law_raised" = some (.ref a__law_raised)
  a_text_line_x : Addr
  fd_text_line_x : FuncData
  F_text_line_x : Fun w.K "text_line" "text_line" s_text_line_x a_text_line_x fd_text_line_x
  g_text_line_x : mg "text_line" = some (.ref a_text_line_x)
  a_text_line : Addr
  fd_text_line : FuncData
  F_text_line : Fun w.K "text_line" "text_line" s_text_line a_text_line fd_text_line
  g_text_line : mg "text_line" = some (.ref a_text_line)
  a__law_right : Addr
  fd__law_right : FuncData
  F__law_right : Fun w.K "_law_right" "_law_right" s__law_right a__law_right fd__law_right
  g__law_right : mg "_law_right" = some (.ref a__law_right)
  a__law_well : Addr
  fd__law_well : FuncData
  F__law_well : Fun w.K "_law_well" "_law_well" s__law_well a__law_well fd__law_well
  g__law_well : mg "_law_well" = some (.ref a__law_well)
  a_law : Addr
  fd_law : FuncData
  F_law : Fun w.K "law" "law" s_law a_law fd_law
  g_law : mg "law" = some (.ref a_law)
  c_InputError : Addr
  g_InputError : mg "InputError" = some (.ref c_InputError)
  c_StateError : Addr
  g_StateError : mg "StateError" = some (.ref c_StateError)
  c_SizeError : Addr
  g_SizeError : mg "SizeError" = some (.ref c_SizeError)
  c_InvalidText : Addr
  g_InvalidText : mg "InvalidText" = some (.ref c_InvalidText)
  c_NotADesk : Addr
  g_NotADesk : mg "NotADesk" = some (.ref c_NotADesk)
  c_NotAMachine : Addr
  g_NotAMachine : mg "NotAMachine" = some (.ref c_NotAMachine)
  c_InvalidStand : Addr
  g_InvalidStand : mg "InvalidStand" = some (.ref c_InvalidStand)
  c_InvalidLetter : Addr
  g_InvalidLetter : mg "InvalidLetter" = some (.ref c_InvalidLetter)
  c_InvalidCount : Addr
  g_InvalidCount : mg "InvalidCount" = some (.ref c_InvalidCount)
  c_InvalidArrows : Addr
  g_InvalidArrows : mg "InvalidArrows" = some (.ref c_InvalidArrows)
  c_InvalidLine : Addr
  g_InvalidLine : mg "InvalidLine" = some (.ref c_InvalidLine)
  c_InvalidWord : Addr
  g_InvalidWord : mg "InvalidWord" = some (.ref c_InvalidWord)
  c_InvalidTexts : Addr
  g_InvalidTexts : mg "InvalidTexts" = some (.ref c_InvalidTexts)
  c_InvalidBook : Addr
  g_InvalidBook : mg "InvalidBook" = some (.ref c_InvalidBook)
  c_InvalidEnds : Addr
  g_InvalidEnds : mg "InvalidEnds" = some (.ref c_InvalidEnds)
  c_Busy : Addr
  g_Busy : mg "Busy" = some (.ref c_Busy)
  c_NothingToUndo : Addr
  g_NothingToUndo : mg "NothingToUndo" = some (.ref c_NothingToUndo)
  c_InvalidDeeds : Addr
  g_InvalidDeeds : mg "InvalidDeeds" = some (.ref c_InvalidDeeds)
  c_TooMany : Addr
  g_TooMany : mg "TooMany" = some (.ref c_TooMany)
  xn_InvalidText : PySem.W.findIn w.K (.ref c_InvalidText) "value" = some none
  xga_InvalidText : PySem.W.findIn w.K (.ref c_InvalidText) "__getattribute__" = some (some (.builtin "BaseException.__getattribute__"))
  xgg_InvalidText : PySem.W.findIn w.K (.ref c_InvalidText) "__getattr__" = some none
  xs_InvalidText : PySem.W.subIn w.K (.ref c_InvalidText) (.type "BaseException") = some true
  xhd_InvalidText : PySem.W.hasDictIn w.K c_InvalidText = true
  xha_InvalidText : PySem.W.findIn w.K (.ref c_InvalidText) "__class__" = some (some (.builtin "object.__class__"))
  xhm_InvalidText : PySem.W.mroIn w.K c_InvalidText (.type "object") = some true
  xhn : PySem.W.specialIn w.K (.builtin "object.__class__") "__get__" = some (some (.builtin "getset_descriptor.__get__"))
  xht : PySem.W.takesIn w.K (.builtin "object.__class__") = some true
  xiz_InvalidText_NotADesk : PySem.W.kitOne w.K (.ref c_InvalidText) (.ref c_NotADesk) = some false
  xiz_InvalidText_NotAMachine : PySem.W.kitOne w.K (.ref c_InvalidText) (.ref c_NotAMachine) = some false
  xiz_InvalidText_InvalidStand : PySem.W.kitOne w.K (.ref c_InvalidText) (.ref c_InvalidStand) = some false
  xiz_InvalidText_InvalidLetter : PySem.W.kitOne w.K (.ref c_InvalidText) (.ref c_InvalidLetter) = some false
  xiz_InvalidText_InvalidCount : PySem.W.kitOne w.K (.ref c_InvalidText) (.ref c_InvalidCount) = some false
  xiz_InvalidText_InvalidArrows : PySem.W.kitOne w.K (.ref c_InvalidText) (.ref c_InvalidArrows) = some false
  xiz_InvalidText_InvalidLine : PySem.W.kitOne w.K (.ref c_InvalidText) (.ref c_InvalidLine) = some false
  xiz_InvalidText_InvalidWord : PySem.W.kitOne w.K (.ref c_InvalidText) (.ref c_InvalidWord) = some false
  xiz_InvalidText_InvalidTexts : PySem.W.kitOne w.K (.ref c_InvalidText) (.ref c_InvalidTexts) = some false
  xiz_InvalidText_InvalidBook : PySem.W.kitOne w.K (.ref c_InvalidText) (.ref c_InvalidBook) = some false
  xiz_InvalidText_InvalidEnds : PySem.W.kitOne w.K (.ref c_InvalidText) (.ref c_InvalidEnds) = some false
  xiz_InvalidText_Busy : PySem.W.kitOne w.K (.ref c_InvalidText) (.ref c_Busy) = some false
  xiz_InvalidText_NothingToUndo : PySem.W.kitOne w.K (.ref c_InvalidText) (.ref c_NothingToUndo) = some false
  xiz_InvalidText_InvalidDeeds : PySem.W.kitOne w.K (.ref c_InvalidText) (.ref c_InvalidDeeds) = some false
  xiz_InvalidText_TooMany : PySem.W.kitOne w.K (.ref c_InvalidText) (.ref c_TooMany) = some false
  xiz_InvalidText_SizeError : PySem.W.kitOne w.K (.ref c_InvalidText) (.ref c_SizeError) = some false
  xiz_InvalidText_StateError : PySem.W.kitOne w.K (.ref c_InvalidText) (.ref c_StateError) = some false
  xiz_InvalidText_InputError : PySem.W.kitOne w.K (.ref c_InvalidText) (.ref c_InputError) = some true
  xiz_InvalidText_ArithmeticError : PySem.W.subIn w.K (.ref c_InvalidText) (.type "ArithmeticError") = some false
  xiz_InvalidText_LookupError : PySem.W.subIn w.K (.ref c_InvalidText) (.type "LookupError") = some false
  xiz_InvalidText_ValueError : PySem.W.subIn w.K (.ref c_InvalidText) (.type "ValueError") = some true
  xe_InvalidText_InputError : PySem.W.exmOne w.K (.ref c_InvalidText) (.ref c_InputError) = some true
  xe_InvalidText_StateError : PySem.W.exmOne w.K (.ref c_InvalidText) (.ref c_StateError) = some false
  xe_InvalidText_SizeError : PySem.W.exmOne w.K (.ref c_InvalidText) (.ref c_SizeError) = some false
  n_InvalidText : w.cl 13 = some c_InvalidText
  lc__law_right : Addr
  lP__law_right : Addr
  FC__law_right : FunC w.K "_law_right" "_law_right" s__law_right a__law_right fd__law_right lc__law_right
  tb__law_right : LamX.TabB base mg lc__law_right lP__law_right
  hT__law_right : (lP__law_right, lamQ "_law_right") ∈ w.T
  hu__law_right : ∀ p ∈ w.T, p.1 = lP__law_right → p.2 = lamQ "_law_right"
  xI_InvalidText : Addr
  xfd_InvalidText : FuncData
  xF_InvalidText : Fun w.K "__init__" "InvalidText.__init__" s_InvalidText_init xI_InvalidText xfd_InvalidText
  xi_InvalidText : PySem.W.findIn w.K (.ref c_InvalidText) "__init__" = some (some (.ref xI_InvalidText))
  xt_InvalidText : PySem.W.typeIn w.K (.ref xI_InvalidText) = some (.type "function")
  xo_InvalidText : OexC w.K c_InvalidText
  z_ArithmeticError : mg "ArithmeticError" = none
  z_LookupError : mg "LookupError" = none
  z_ValueError : mg "ValueError" = none
  z_abs : mg "abs" = none
  z_divmod : mg "divmod" = none
  z_int : mg "int" = none
  z_isinstance : mg "isinstance" = none
  z_len : mg "len" = none
  z_max : mg "max" = none
  z_min : mg "min" = none
  z_range : mg "range" = none
  z_repr : mg "repr" = none
  z_str : mg "str" = none
section
variable {P : Program} {W : World} {w : Wo} {mg : Str → Option Value} {base : Heap}
theorem isi_str (T : Tx W w mg base) : IsiOk w (.type "str") tb_str cs_isi_str := by
  refine ⟨fun p hp => ?_, fun p hp => ?_⟩
  · unfold tb_str at hp
    simp only [List.mem_cons, List.not_mem_nil, or_false] at hp
    rcases hp with rfl | rfl | rfl | rfl | rfl | rfl | rfl
    · exact kit_ty (by decide +kernel)
    · exact kit_ty (by decide +kernel)
    · exact kit_ty (by decide +kernel)
    · exact kit_ty (by decide +kernel)
    · exact kit_ty (by decide +kernel)
    · exact kit_ty (by decide +kernel)
    · exact kit_ty (by decide +kernel)
  · unfold cs_isi_str at hp
    simp only [List.mem_cons, List.not_mem_nil, or_false] at hp
    rcases hp with rfl | rfl | rfl | rfl | rfl | rfl | rfl | rfl
    · intro A hA; rw [show w.cl _ = _ from T.nn_Machine] at hA; cases hA
    · intro A hA; rw [show w.cl _ = _ from T.nn_Desk] at hA; cases hA
    · intro A hA; rw [show w.cl _ = _ from T.nn_Console] at hA; cases hA
    · intro A hA; rw [show w.cl _ = _ from T.nn_Kept] at hA; cases hA
    · intro A hA; rw [show w.cl _ = _ from T.nn_Trial] at hA; cases hA
    · intro A hA; rw [show w.cl _ = _ from T.nn_Run] at hA; cases hA
    · intro A hA; rw [show w.cl _ = _ from T.nn_Paths] at hA; cases hA
    · intro A hA; rw [show w.cl _ = _ from T.nn_Readings] at hA; cases hA
theorem xc_InvalidText (T : Tx W w mg base) : XcOk w.K mg "InvalidText" T.c_InvalidText (nmS [118, 97, 108, 117, 101]) P W base := by
  rw [show nmS [118, 97, 108, 117, 101] = ("value" : Str) by decide +kernel]
  exact xc_ok T.xo_InvalidText T.g_InvalidText T.xn_InvalidText T.xi_InvalidText T.xt_InvalidText T.xF_InvalidText sc_InvalidText_init rfl rfl rfl (by decide) (by decide) (fun env => rfl) (fun kV doc pm an cdv ct us hl => match us, hl with | [_, _], _ => rfl)
theorem xfld_limit (T : Tx W w mg base) : XFld w xcs_limit [108, 105, 109, 105, 116] := by
  rw [XFld, show nmS [108, 105, 109, 105, 116] = ("limit" : Str) by decide +kernel]
  intro c A hc h
  unfold xcs_limit at hc
  simp only [List.mem_cons, List.not_mem_nil, or_false] at hc
  rcases hc with rfl
  · rw [T.nn_TooMany] at h; cases h
theorem xfld_value (T : Tx W w mg base) : XFld w xcs_value [118, 97, 108, 117, 101] := by
  rw [XFld, show nmS [118, 97, 108, 117, 101] = ("value" : Str) by decide +kernel]
  intro c A hc h
  unfold xcs_value at hc
  simp only [List.mem_cons, List.not_mem_nil, or_false] at hc
  rcases hc with rfl | rfl | rfl | rfl | rfl | rfl | rfl | rfl
  · rw [T.nn_NotAMachine] at h; cases h
  · rw [T.nn_NotADesk] at h; cases h
  · rw [T.n_InvalidText] at h; cases h; exact ⟨⟨T.xga_InvalidText, T.xgg_InvalidText, T.xs_InvalidText, T.xhd_InvalidText⟩, T.xn_InvalidText⟩
  · rw [T.nn_InvalidCount] at h; cases h
  · rw [T.nn_InvalidLetter] at h; cases h
  · rw [T.nn_InvalidStand] at h; cases h
  · rw [T.nn_InvalidWord] at h; cases h
  · rw [T.nn_InvalidLine] at h; cases h
theorem xfld_index (T : Tx W w mg base) : XFld w xcs_index [105, 110, 100, 101, 120] := by
  rw [XFld, show nmS [105, 110, 100, 101, 120] = ("index" : Str) by decide +kernel]
  intro c A hc h
  unfold xcs_index at hc
  simp only [List.mem_cons, List.not_mem_nil, or_false] at hc
  rcases hc with rfl | rfl | rfl | rfl | rfl
  · rw [T.nn_InvalidArrows] at h; cases h
  · rw [T.nn_InvalidEnds] at h; cases h
  · rw [T.nn_InvalidBook] at h; cases h
  · rw [T.nn_InvalidTexts] at h; cases h
  · rw [T.nn_InvalidDeeds] at h; cases h
theorem xi_InvalidText (T : Tx W w mg base) : XiOk w (.ref T.c_InvalidText) xit_InvalidText := by
  intro p hp A hA
  unfold xit_InvalidText at hp
  simp only [List.mem_cons, List.not_mem_nil, or_false] at hp
  rcases hp with rfl | rfl | rfl | rfl | rfl | rfl | rfl | rfl | rfl | rfl | rfl | rfl | rfl | rfl | rfl | rfl | rfl | rfl | rfl
  · cases (show w.cl 8 = _ from T.nn_InputError).symm.trans hA
  · cases (show w.cl 9 = _ from T.nn_StateError).symm.trans hA
  · cases (show w.cl 10 = _ from T.nn_SizeError).symm.trans hA
  · cases (show w.cl 11 = _ from T.nn_NotAMachine).symm.trans hA
  · cases (show w.cl 12 = _ from T.nn_NotADesk).symm.trans hA
  · cases (show w.cl 13 = _ from T.n_InvalidText).symm.trans hA; exact ⟨⟨T.xga_InvalidText, T.xgg_InvalidText, T.xs_InvalidText, T.xhd_InvalidText, T.xha_InvalidText, T.xhn, T.xht, T.xhm_InvalidText⟩, kit_cc⟩
  · cases (show w.cl 14 = _ from T.nn_InvalidCount).symm.trans hA
  · cases (show w.cl 15 = _ from T.nn_InvalidLetter).symm.trans hA
  · cases (show w.cl 16 = _ from T.nn_InvalidStand).symm.trans hA
  · cases (show w.cl 17 = _ from T.nn_InvalidWord).symm.trans hA
  · cases (show w.cl 18 = _ from T.nn_InvalidLine).symm.trans hA
  · cases (show w.cl 19 = _ from T.nn_InvalidArrows).symm.trans hA
  · cases (show w.cl 20 = _ from T.nn_InvalidEnds).symm.trans hA
  · cases (show w.cl 21 = _ from T.nn_InvalidBook).symm.trans hA
  · cases (show w.cl 22 = _ from T.nn_InvalidTexts).symm.trans hA
  · cases (show w.cl 23 = _ from T.nn_InvalidDeeds).symm.trans hA
  · cases (show w.cl 24 = _ from T.nn_NothingToUndo).symm.trans hA
  · cases (show w.cl 25 = _ from T.nn_Busy).symm.trans hA
  · cases (show w.cl 26 = _ from T.nn_TooMany).symm.trans hA
theorem xi_NotADesk (T : Tx W w mg base) : XiOk w (.ref T.c_NotADesk) xit_NotADesk := by
  intro p hp A hA
  unfold xit_NotADesk at hp
  simp only [List.mem_cons, List.not_mem_nil, or_false] at hp
  rcases hp with rfl | rfl | rfl | rfl | rfl | rfl | rfl | rfl | rfl | rfl | rfl | rfl | rfl | rfl | rfl | rfl | rfl | rfl | rfl
  · cases (show w.cl 8 = _ from T.nn_InputError).symm.trans hA
  · cases (show w.cl 9 = _ from T.nn_StateError).symm.trans hA
  · cases (show w.cl 10 = _ from T.nn_SizeError).symm.trans hA
  · cases (show w.cl 11 = _ from T.nn_NotAMachine).symm.trans hA
  · cases (show w.cl 12 = _ from T.nn_NotADesk).symm.trans hA
  · cases (show w.cl 13 = _ from T.n_InvalidText).symm.trans hA; exact ⟨⟨T.xga_InvalidText, T.xgg_InvalidText, T.xs_InvalidText, T.xhd_InvalidText, T.xha_InvalidText, T.xhn, T.xht, T.xhm_InvalidText⟩, T.xiz_InvalidText_NotADesk⟩
  · cases (show w.cl 14 = _ from T.nn_InvalidCount).symm.trans hA
  · cases (show w.cl 15 = _ from T.nn_InvalidLetter).symm.trans hA
  · cases (show w.cl 16 = _ from T.nn_InvalidStand).symm.trans hA
  · cases (show w.cl 17 = _ from T.nn_InvalidWord).symm.trans hA
  · cases (show w.cl 18 = _ from T.nn_InvalidLine).symm.trans hA
  · cases (show w.cl 19 = _ from T.nn_InvalidArrows).symm.trans hA
  · cases (show w.cl 20 = _ from T.nn_InvalidEnds).symm.trans hA
  · cases (show w.cl 21 = _ from T.nn_InvalidBook).symm.trans hA
  · cases (show w.cl 22 = _ from T.nn_InvalidTexts).symm.trans hA
  · cases (show w.cl 23 = _ from T.nn_InvalidDeeds).symm.trans hA
  · cases (show w.cl 24 = _ from T.nn_NothingToUndo).symm.trans hA
  · cases (show w.cl 25 = _ from T.nn_Busy).symm.trans hA
  · cases (show w.cl 26 = _ from T.nn_TooMany).symm.trans hA
theorem xi_NotAMachine (T : Tx W w mg base) : XiOk w (.ref T.c_NotAMachine) xit_NotAMachine := by
  intro p hp A hA
  unfold xit_NotAMachine at hp
  simp only [List.mem_cons, List.not_mem_nil, or_false] at hp
  rcases hp with rfl | rfl | rfl | rfl | rfl | rfl | rfl | rfl | rfl | rfl | rfl | rfl | rfl | rfl | rfl | rfl | rfl | rfl | rfl
  · cases (show w.cl 8 = _ from T.nn_InputError).symm.trans hA
  · cases (show w.cl 9 = _ from T.nn_StateError).symm.trans hA
  · cases (show w.cl 10 = _ from T.nn_SizeError).symm.trans hA
  · cases (show w.cl 11 = _ from T.nn_NotAMachine).symm.trans hA
  · cases (show w.cl 12 = _ from T.nn_NotADesk).symm.trans hA
  · cases (show w.cl 13 = _ from T.n_InvalidText).symm.trans hA; exact ⟨⟨T.xga_InvalidText, T.xgg_InvalidText, T.xs_InvalidText, T.xhd_InvalidText, T.xha_InvalidText, T.xhn, T.xht, T.xhm_InvalidText⟩, T.xiz_InvalidText_NotAMachine⟩
  · cases (show w.cl 14 = _ from T.nn_InvalidCount).symm.trans hA
  · cases (show w.cl 15 = _ from T.nn_InvalidLetter).symm.trans hA
  · cases (show w.cl 16 = _ from T.nn_InvalidStand).symm.trans hA
  · cases (show w.cl 17 = _ from T.nn_InvalidWord).symm.trans hA
  · cases (show w.cl 18 = _ from T.nn_InvalidLine).symm.trans hA
  · cases (show w.cl 19 = _ from T.nn_InvalidArrows).symm.trans hA
  · cases (show w.cl 20 = _ from T.nn_InvalidEnds).symm.trans hA
  · cases (show w.cl 21 = _ from T.nn_InvalidBook).symm.trans hA
  · cases (show w.cl 22 = _ from T.nn_InvalidTexts).symm.trans hA
  · cases (show w.cl 23 = _ from T.nn_InvalidDeeds).symm.trans hA
  · cases (show w.cl 24 = _ from T.nn_NothingToUndo).symm.trans hA
  · cases (show w.cl 25 = _ from T.nn_Busy).symm.trans hA
  · cases (show w.cl 26 = _ from T.nn_TooMany).symm.trans hA
theorem xi_InvalidStand (T : Tx W w mg base) : XiOk w (.ref T.c_InvalidStand) xit_InvalidStand := by
  intro p hp A hA
  unfold xit_InvalidStand at hp
  simp only [List.mem_cons, List.not_mem_nil, or_false] at hp
  rcases hp with rfl | rfl | rfl | rfl | rfl | rfl | rfl | rfl | rfl | rfl | rfl | rfl | rfl | rfl | rfl | rfl | rfl | rfl | rfl
  · cases (show w.cl 8 = _ from T.nn_InputError).symm.trans hA
  · cases (show w.cl 9 = _ from T.nn_StateError).symm.trans hA
  · cases (show w.cl 10 = _ from T.nn_SizeError).symm.trans hA
  · cases (show w.cl 11 = _ from T.nn_NotAMachine).symm.trans hA
  · cases (show w.cl 12 = _ from T.nn_NotADesk).symm.trans hA
  · cases (show w.cl 13 = _ from T.n_InvalidText).symm.trans hA; exact ⟨⟨T.xga_InvalidText, T.xgg_InvalidText, T.xs_InvalidText, T.xhd_InvalidText, T.xha_InvalidText, T.xhn, T.xht, T.xhm_InvalidText⟩, T.xiz_InvalidText_InvalidStand⟩
  · cases (show w.cl 14 = _ from T.nn_InvalidCount).symm.trans hA
  · cases (show w.cl 15 = _ from T.nn_InvalidLetter).symm.trans hA
  · cases (show w.cl 16 = _ from T.nn_InvalidStand).symm.trans hA
  · cases (show w.cl 17 = _ from T.nn_InvalidWord).symm.trans hA
  · cases (show w.cl 18 = _ from T.nn_InvalidLine).symm.trans hA
  · cases (show w.cl 19 = _ from T.nn_InvalidArrows).symm.trans hA
  · cases (show w.cl 20 = _ from T.nn_InvalidEnds).symm.trans hA
  · cases (show w.cl 21 = _ from T.nn_InvalidBook).symm.trans hA
  · cases (show w.cl 22 = _ from T.nn_InvalidTexts).symm.trans hA
  · cases (show w.cl 23 = _ from T.nn_InvalidDeeds).symm.trans hA
  · cases (show w.cl 24 = _ from T.nn_NothingToUndo).symm.trans hA
  · cases (show w.cl 25 = _ from T.nn_Busy).symm.trans hA
  · cases (show w.cl 26 = _ from T.nn_TooMany).symm.trans hA
theorem xi_InvalidLetter (T : Tx W w mg base) : XiOk w (.ref T.c_InvalidLetter) xit_InvalidLetter := by
  intro p hp A hA
  unfold xit_InvalidLetter at hp
  simp only [List.mem_cons, List.not_mem_nil, or_false] at hp
  rcases hp with rfl | rfl | rfl | rfl | rfl | rfl | rfl | rfl | rfl | rfl | rfl | rfl | rfl | rfl | rfl | rfl | rfl | rfl | rfl
  · cases (show w.cl 8 = _ from T.nn_InputError).symm.trans hA
  · cases (show w.cl 9 = _ from T.nn_StateError).symm.trans hA
  · cases (show w.cl 10 = _ from T.nn_SizeError).symm.trans hA
  · cases (show w.cl 11 = _ from T.nn_NotAMachine).symm.trans hA
  · cases (show w.cl 12 = _ from T.nn_NotADesk).symm.trans hA
  · cases (show w.cl 13 = _ from T.n_InvalidText).symm.trans hA; exact ⟨⟨T.xga_InvalidText, T.xgg_InvalidText, T.xs_InvalidText, T.xhd_InvalidText, T.xha_InvalidText, T.xhn, T.xht, T.xhm_InvalidText⟩, T.xiz_InvalidText_InvalidLetter⟩
  · cases (show w.cl 14 = _ from T.nn_InvalidCount).symm.trans hA
  · cases (show w.cl 15 = _ from T.nn_InvalidLetter).symm.trans hA
  · cases (show w.cl 16 = _ from T.nn_InvalidStand).symm.trans hA
  · cases (show w.cl 17 = _ from T.nn_InvalidWord).symm.trans hA
  · cases (show w.cl 18 = _ from T.nn_InvalidLine).symm.trans hA
  · cases (show w.cl 19 = _ from T.nn_InvalidArrows).symm.trans hA
  · cases (show w.cl 20 = _ from T.nn_InvalidEnds).symm.trans hA
  · cases (show w.cl 21 = _ from T.nn_InvalidBook).symm.trans hA
  · cases (show w.cl 22 = _ from T.nn_InvalidTexts).symm.trans hA
  · cases (show w.cl 23 = _ from T.nn_InvalidDeeds).symm.trans hA
  · cases (show w.cl 24 = _ from T.nn_NothingToUndo).symm.trans hA
  · cases (show w.cl 25 = _ from T.nn_Busy).symm.trans hA
  · cases (show w.cl 26 = _ from T.nn_TooMany).symm.trans hA
theorem xi_InvalidCount (T : Tx W w mg base) : XiOk w (.ref T.c_InvalidCount) xit_InvalidCount := by
  intro p hp A hA
  unfold xit_InvalidCount at hp
  simp only [List.mem_cons, List.not_mem_nil, or_false] at hp
  rcases hp with rfl | rfl | rfl | rfl | rfl | rfl | rfl | rfl | rfl | rfl | rfl | rfl | rfl | rfl | rfl | rfl | rfl | rfl | rfl
  · cases (show w.cl 8 = _ from T.nn_InputError).symm.trans hA
  · cases (show w.cl 9 = _ from T.nn_StateError).symm.trans hA
  · cases (show w.cl 10 = _ from T.nn_SizeError).symm.trans hA
  · cases (show w.cl 11 = _ from T.nn_NotAMachine).symm.trans hA
  · cases (show w.cl 12 = _ from T.nn_NotADesk).symm.trans hA
  · cases (show w.cl 13 = _ from T.n_InvalidText).symm.trans hA; exact ⟨⟨T.xga_InvalidText, T.xgg_InvalidText, T.xs_InvalidText, T.xhd_InvalidText, T.xha_InvalidText, T.xhn, T.xht, T.xhm_InvalidText⟩, T.xiz_InvalidText_InvalidCount⟩
  · cases (show w.cl 14 = _ from T.nn_InvalidCount).symm.trans hA
  · cases (show w.cl 15 = _ from T.nn_InvalidLetter).symm.trans hA
  · cases (show w.cl 16 = _ from T.nn_InvalidStand).symm.trans hA
  · cases (show w.cl 17 = _ from T.nn_InvalidWord).symm.trans hA
  · cases (show w.cl 18 = _ from T.nn_InvalidLine).symm.trans hA
  · cases (show w.cl 19 = _ from T.nn_InvalidArrows).symm.trans hA
  · cases (show w.cl 20 = _ from T.nn_InvalidEnds).symm.trans hA
  · cases (show w.cl 21 = _ from T.nn_InvalidBook).symm.trans hA
  · cases (show w.cl 22 = _ from T.nn_InvalidTexts).symm.trans hA
  · cases (show w.cl 23 = _ from T.nn_InvalidDeeds).symm.trans hA
  · cases (show w.cl 24 = _ from T.nn_NothingToUndo).symm.trans hA
  · cases (show w.cl 25 = _ from T.nn_Busy).symm.trans hA
  · cases (show w.cl 26 = _ from T.nn_TooMany).symm.trans hA
theorem xi_InvalidArrows (T : Tx W w mg base) : XiOk w (.ref T.c_InvalidArrows) xit_InvalidArrows := by
  intro p hp A hA
  unfold xit_InvalidArrows at hp
  simp only [List.mem_cons, List.not_mem_nil, or_false] at hp
  rcases hp with rfl | rfl | rfl | rfl | rfl | rfl | rfl | rfl | rfl | rfl | rfl | rfl | rfl | rfl | rfl | rfl | rfl | rfl | rfl
  · cases (show w.cl 8 = _ from T.nn_InputError).symm.trans hA
  · cases (show w.cl 9 = _ from T.nn_StateError).symm.trans hA
  · cases (show w.cl 10 = _ from T.nn_SizeError).symm.trans hA
  · cases (show w.cl 11 = _ from T.nn_NotAMachine).symm.trans hA
  · cases (show w.cl 12 = _ from T.nn_NotADesk).symm.trans hA
  · cases (show w.cl 13 = _ from T.n_InvalidText).symm.trans hA; exact ⟨⟨T.xga_InvalidText, T.xgg_InvalidText, T.xs_InvalidText, T.xhd_InvalidText, T.xha_InvalidText, T.xhn, T.xht, T.xhm_InvalidText⟩, T.xiz_InvalidText_InvalidArrows⟩
  · cases (show w.cl 14 = _ from T.nn_InvalidCount).symm.trans hA
  · cases (show w.cl 15 = _ from T.nn_InvalidLetter).symm.trans hA
  · cases (show w.cl 16 = _ from T.nn_InvalidStand).symm.trans hA
  · cases (show w.cl 17 = _ from T.nn_InvalidWord).symm.trans hA
  · cases (show w.cl 18 = _ from T.nn_InvalidLine).symm.trans hA
  · cases (show w.cl 19 = _ from T.nn_InvalidArrows).symm.trans hA
  · cases (show w.cl 20 = _ from T.nn_InvalidEnds).symm.trans hA
  · cases (show w.cl 21 = _ from T.nn_InvalidBook).symm.trans hA
  · cases (show w.cl 22 = _ from T.nn_InvalidTexts).symm.trans hA
  · cases (show w.cl 23 = _ from T.nn_InvalidDeeds).symm.trans hA
  · cases (show w.cl 24 = _ from T.nn_NothingToUndo).symm.trans hA
  · cases (show w.cl 25 = _ from T.nn_Busy).symm.trans hA
  · cases (show w.cl 26 = _ from T.nn_TooMany).symm.trans hA
theorem xi_InvalidLine (T : Tx W w mg base) : XiOk w (.ref T.c_InvalidLine) xit_InvalidLine := by
  intro p hp A hA
  unfold xit_InvalidLine at hp
  simp only [List.mem_cons, List.not_mem_nil, or_false] at hp
  rcases hp with rfl | rfl | rfl | rfl | rfl | rfl | rfl | rfl | rfl | rfl | rfl | rfl | rfl | rfl | rfl | rfl | rfl | rfl | rfl
  · cases (show w.cl 8 = _ from T.nn_InputError).symm.trans hA
  · cases (show w.cl 9 = _ from T.nn_StateError).symm.trans hA
  · cases (show w.cl 10 = _ from T.nn_SizeError).symm.trans hA
  · cases (show w.cl 11 = _ from T.nn_NotAMachine).symm.trans hA
  · cases (show w.cl 12 = _ from T.nn_NotADesk).symm.trans hA
  · cases (show w.cl 13 = _ from T.n_InvalidText).symm.trans hA; exact ⟨⟨T.xga_InvalidText, T.xgg_InvalidText, T.xs_InvalidText, T.xhd_InvalidText, T.xha_InvalidText, T.xhn, T.xht, T.xhm_InvalidText⟩, T.xiz_InvalidText_InvalidLine⟩
  · cases (show w.cl 14 = _ from T.nn_InvalidCount).symm.trans hA
  · cases (show w.cl 15 = _ from T.nn_InvalidLetter).symm.trans hA
  · cases (show w.cl 16 = _ from T.nn_InvalidStand).symm.trans hA
  · cases (show w.cl 17 = _ from T.nn_InvalidWord).symm.trans hA
  · cases (show w.cl 18 = _ from T.nn_InvalidLine).symm.trans hA
  · cases (show w.cl 19 = _ from T.nn_InvalidArrows).symm.trans hA
  · cases (show w.cl 20 = _ from T.nn_InvalidEnds).symm.trans hA
  · cases (show w.cl 21 = _ from T.nn_InvalidBook).symm.trans hA
  · cases (show w.cl 22 = _ from T.nn_InvalidTexts).symm.trans hA
  · cases (show w.cl 23 = _ from T.nn_InvalidDeeds).symm.trans hA
  · cases (show w.cl 24 = _ from T.nn_NothingToUndo).symm.trans hA
  · cases (show w.cl 25 = _ from T.nn_Busy).symm.trans hA
  · cases (show w.cl 26 = _ from T.nn_TooMany).symm.trans hA
theorem xi_InvalidWord (T : Tx W w mg base) : XiOk w (.ref T.c_InvalidWord) xit_InvalidWord := by
  intro p hp A hA
  unfold xit_InvalidWord at hp
  simp only [List.mem_cons, List.not_mem_nil, or_false] at hp
  rcases hp with rfl | rfl | rfl | rfl | rfl | rfl | rfl | rfl | rfl | rfl | rfl | rfl | rfl | rfl | rfl | rfl | rfl | rfl | rfl
  · cases (show w.cl 8 = _ from T.nn_InputError).symm.trans hA
  · cases (show w.cl 9 = _ from T.nn_StateError).symm.trans hA
  · cases (show w.cl 10 = _ from T.nn_SizeError).symm.trans hA
  · cases (show w.cl 11 = _ from T.nn_NotAMachine).symm.trans hA
  · cases (show w.cl 12 = _ from T.nn_NotADesk).symm.trans hA
  · cases (show w.cl 13 = _ from T.n_InvalidText).symm.trans hA; exact ⟨⟨T.xga_InvalidText, T.xgg_InvalidText, T.xs_InvalidText, T.xhd_InvalidText, T.xha_InvalidText, T.xhn, T.xht, T.xhm_InvalidText⟩, T.xiz_InvalidText_InvalidWord⟩
  · cases (show w.cl 14 = _ from T.nn_InvalidCount).symm.trans hA
  · cases (show w.cl 15 = _ from T.nn_InvalidLetter).symm.trans hA
  · cases (show w.cl 16 = _ from T.nn_InvalidStand).symm.trans hA
  · cases (show w.cl 17 = _ from T.nn_InvalidWord).symm.trans hA
  · cases (show w.cl 18 = _ from T.nn_InvalidLine).symm.trans hA
  · cases (show w.cl 19 = _ from T.nn_InvalidArrows).symm.trans hA
  · cases (show w.cl 20 = _ from T.nn_InvalidEnds).symm.trans hA
  · cases (show w.cl 21 = _ from T.nn_InvalidBook).symm.trans hA
  · cases (show w.cl 22 = _ from T.nn_InvalidTexts).symm.trans hA
  · cases (show w.cl 23 = _ from T.nn_InvalidDeeds).symm.trans hA
  · cases (show w.cl 24 = _ from T.nn_NothingToUndo).symm.trans hA
  · cases (show w.cl 25 = _ from T.nn_Busy).symm.trans hA
  · cases (show w.cl 26 = _ from T.nn_TooMany).symm.trans hA
theorem xi_InvalidTexts (T : Tx W w mg base) : XiOk w (.ref T.c_InvalidTexts) xit_InvalidTexts := by
  intro p hp A hA
  unfold xit_InvalidTexts at hp
  simp only [List.mem_cons, List.not_mem_nil, or_false] at hp
  rcases hp with rfl | rfl | rfl | rfl | rfl | rfl | rfl | rfl | rfl | rfl | rfl | rfl | rfl | rfl | rfl | rfl | rfl | rfl | rfl
  · cases (show w.cl 8 = _ from T.nn_InputError).symm.trans hA
  · cases (show w.cl 9 = _ from T.nn_StateError).symm.trans hA
  · cases (show w.cl 10 = _ from T.nn_SizeError).symm.trans hA
  · cases (show w.cl 11 = _ from T.nn_NotAMachine).symm.trans hA
  · cases (show w.cl 12 = _ from T.nn_NotADesk).symm.trans hA
  · cases (show w.cl 13 = _ from T.n_InvalidText).symm.trans hA; exact ⟨⟨T.xga_InvalidText, T.xgg_InvalidText, T.xs_InvalidText, T.xhd_InvalidText, T.xha_InvalidText, T.xhn, T.xht, T.xhm_InvalidText⟩, T.xiz_InvalidText_InvalidTexts⟩
  · cases (show w.cl 14 = _ from T.nn_InvalidCount).symm.trans hA
  · cases (show w.cl 15 = _ from T.nn_InvalidLetter).symm.trans hA
  · cases (show w.cl 16 = _ from T.nn_InvalidStand).symm.trans hA
  · cases (show w.cl 17 = _ from T.nn_InvalidWord).symm.trans hA
  · cases (show w.cl 18 = _ from T.nn_InvalidLine).symm.trans hA
  · cases (show w.cl 19 = _ from T.nn_InvalidArrows).symm.trans hA
  · cases (show w.cl 20 = _ from T.nn_InvalidEnds).symm.trans hA
  · cases (show w.cl 21 = _ from T.nn_InvalidBook).symm.trans hA
  · cases (show w.cl 22 = _ from T.nn_InvalidTexts).symm.trans hA
  · cases (show w.cl 23 = _ from T.nn_InvalidDeeds).symm.trans hA
  · cases (show w.cl 24 = _ from T.nn_NothingToUndo).symm.trans hA
  · cases (show w.cl 25 = _ from T.nn_Busy).symm.trans hA
  · cases (show w.cl 26 = _ from T.nn_TooMany).symm.trans hA
theorem xi_InvalidBook (T : Tx W w mg base) : XiOk w (.ref T.c_InvalidBook) xit_InvalidBook := by
  intro p hp A hA
  unfold xit_InvalidBook at hp
  simp only [List.mem_cons, List.not_mem_nil, or_false] at hp
  rcases hp with rfl | rfl | rfl | rfl | rfl | rfl | rfl | rfl | rfl | rfl | rfl | rfl | rfl | rfl | rfl | rfl | rfl | rfl | rfl
  · cases (show w.cl 8 = _ from T.nn_InputError).symm.trans hA
  · cases (show w.cl 9 = _ from T.nn_StateError).symm.trans hA
  · cases (show w.cl 10 = _ from T.nn_SizeError).symm.trans hA
  · cases (show w.cl 11 = _ from T.nn_NotAMachine).symm.trans hA
  · cases (show w.cl 12 = _ from T.nn_NotADesk).symm.trans hA
  · cases (show w.cl 13 = _ from T.n_InvalidText).symm.trans hA; exact ⟨⟨T.xga_InvalidText, T.xgg_InvalidText, T.xs_InvalidText, T.xhd_InvalidText, T.xha_InvalidText, T.xhn, T.xht, T.xhm_InvalidText⟩, T.xiz_InvalidText_InvalidBook⟩
  · cases (show w.cl 14 = _ from T.nn_InvalidCount).symm.trans hA
  · cases (show w.cl 15 = _ from T.nn_InvalidLetter).symm.trans hA
  · cases (show w.cl 16 = _ from T.nn_InvalidStand).symm.trans hA
  · cases (show w.cl 17 = _ from T.nn_InvalidWord).symm.trans hA
  · cases (show w.cl 18 = _ from T.nn_InvalidLine).symm.trans hA
  · cases (show w.cl 19 = _ from T.nn_InvalidArrows).symm.trans hA
  · cases (show w.cl 20 = _ from T.nn_InvalidEnds).symm.trans hA
  · cases (show w.cl 21 = _ from T.nn_InvalidBook).symm.trans hA
  · cases (show w.cl 22 = _ from T.nn_InvalidTexts).symm.trans hA
  · cases (show w.cl 23 = _ from T.nn_InvalidDeeds).symm.trans hA
  · cases (show w.cl 24 = _ from T.nn_NothingToUndo).symm.trans hA
  · cases (show w.cl 25 = _ from T.nn_Busy).symm.trans hA
  · cases (show w.cl 26 = _ from T.nn_TooMany).symm.trans hA
theorem xi_InvalidEnds (T : Tx W w mg base) : XiOk w (.ref T.c_InvalidEnds) xit_InvalidEnds := by
  intro p hp A hA
  unfold xit_InvalidEnds at hp
  simp only [List.mem_cons, List.not_mem_nil, or_false] at hp
  rcases hp with rfl | rfl | rfl | rfl | rfl | rfl | rfl | rfl | rfl | rfl | rfl | rfl | rfl | rfl | rfl | rfl | rfl | rfl | rfl
  · cases (show w.cl 8 = _ from T.nn_InputError).symm.trans hA
  · cases (show w.cl 9 = _ from T.nn_StateError).symm.trans hA
  · cases (show w.cl 10 = _ from T.nn_SizeError).symm.trans hA
  · cases (show w.cl 11 = _ from T.nn_NotAMachine).symm.trans hA
  · cases (show w.cl 12 = _ from T.nn_NotADesk).symm.trans hA
  · cases (show w.cl 13 = _ from T.n_InvalidText).symm.trans hA; exact ⟨⟨T.xga_InvalidText, T.xgg_InvalidText, T.xs_InvalidText, T.xhd_InvalidText, T.xha_InvalidText, T.xhn, T.xht, T.xhm_InvalidText⟩, T.xiz_InvalidText_InvalidEnds⟩
  · cases (show w.cl 14 = _ from T.nn_InvalidCount).symm.trans hA
  · cases (show w.cl 15 = _ from T.nn_InvalidLetter).symm.trans hA
  · cases (show w.cl 16 = _ from T.nn_InvalidStand).symm.trans hA
  · cases (show w.cl 17 = _ from T.nn_InvalidWord).symm.trans hA
  · cases (show w.cl 18 = _ from T.nn_InvalidLine).symm.trans hA
  · cases (show w.cl 19 = _ from T.nn_InvalidArrows).symm.trans hA
  · cases (show w.cl 20 = _ from T.nn_InvalidEnds).symm.trans hA
  · cases (show w.cl 21 = _ from T.nn_InvalidBook).symm.trans hA
  · cases (show w.cl 22 = _ from T.nn_InvalidTexts).symm.trans hA
  · cases (show w.cl 23 = _ from T.nn_InvalidDeeds).symm.trans hA
  · cases (show w.cl 24 = _ from T.nn_NothingToUndo).symm.trans hA
  · cases (show w.cl 25 = _ from T.nn_Busy).symm.trans hA
  · cases (show w.cl 26 = _ from T.nn_TooMany).symm.trans hA
theorem xi_Busy (T : Tx W w mg base) : XiOk w (.ref T.c_Busy) xit_Busy := by
  intro p hp A hA
  unfold xit_Busy at hp
  simp only [List.mem_cons, List.not_mem_nil, or_false] at hp
  rcases hp with rfl | rfl | rfl | rfl | rfl | rfl | rfl | rfl | rfl | rfl | rfl | rfl | rfl | rfl | rfl | rfl | rfl | rfl | rfl
  · cases (show w.cl 8 = _ from T.nn_InputError).symm.trans hA
  · cases (show w.cl 9 = _ from T.nn_StateError).symm.trans hA
  · cases (show w.cl 10 = _ from T.nn_SizeError).symm.trans hA
  · cases (show w.cl 11 = _ from T.nn_NotAMachine).symm.trans hA
  · cases (show w.cl 12 = _ from T.nn_NotADesk).symm.trans hA
  · cases (show w.cl 13 = _ from T.n_InvalidText).symm.trans hA; exact ⟨⟨T.xga_InvalidText, T.xgg_InvalidText, T.xs_InvalidText, T.xhd_InvalidText, T.xha_InvalidText, T.xhn, T.xht, T.xhm_InvalidText⟩, T.xiz_InvalidText_Busy⟩
  · cases (show w.cl 14 = _ from T.nn_InvalidCount).symm.trans hA
  · cases (show w.cl 15 = _ from T.nn_InvalidLetter).symm.trans hA
  · cases (show w.cl 16 = _ from T.nn_InvalidStand).symm.trans hA
  · cases (show w.cl 17 = _ from T.nn_InvalidWord).symm.trans hA
  · cases (show w.cl 18 = _ from T.nn_InvalidLine).symm.trans hA
  · cases (show w.cl 19 = _ from T.nn_InvalidArrows).symm.trans hA
  · cases (show w.cl 20 = _ from T.nn_InvalidEnds).symm.trans hA
  · cases (show w.cl 21 = _ from T.nn_InvalidBook).symm.trans hA
  · cases (show w.cl 22 = _ from T.nn_InvalidTexts).symm.trans hA
  · cases (show w.cl 23 = _ from T.nn_InvalidDeeds).symm.trans hA
  · cases (show w.cl 24 = _ from T.nn_NothingToUndo).symm.trans hA
  · cases (show w.cl 25 = _ from T.nn_Busy).symm.trans hA
  · cases (show w.cl 26 = _ from T.nn_TooMany).symm.trans hA
theorem xi_NothingToUndo (T : Tx W w mg base) : XiOk w (.ref T.c_NothingToUndo) xit_NothingToUndo := by
  intro p hp A hA
  unfold xit_NothingToUndo at hp
  simp only [List.mem_cons, List.not_mem_nil, or_false] at hp
  rcases hp with rfl | rfl | rfl | rfl | rfl | rfl | rfl | rfl | rfl | rfl | rfl | rfl | rfl | rfl | rfl | rfl | rfl | rfl | rfl
  · cases (show w.cl 8 = _ from T.nn_InputError).symm.trans hA
  · cases (show w.cl 9 = _ from T.nn_StateError).symm.trans hA
  · cases (show w.cl 10 = _ from T.nn_SizeError).symm.trans hA
  · cases (show w.cl 11 = _ from T.nn_NotAMachine).symm.trans hA
  · cases (show w.cl 12 = _ from T.nn_NotADesk).symm.trans hA
  · cases (show w.cl 13 = _ from T.n_InvalidText).symm.trans hA; exact ⟨⟨T.xga_InvalidText, T.xgg_InvalidText, T.xs_InvalidText, T.xhd_InvalidText, T.xha_InvalidText, T.xhn, T.xht, T.xhm_InvalidText⟩, T.xiz_InvalidText_NothingToUndo⟩
  · cases (show w.cl 14 = _ from T.nn_InvalidCount).symm.trans hA
  · cases (show w.cl 15 = _ from T.nn_InvalidLetter).symm.trans hA
  · cases (show w.cl 16 = _ from T.nn_InvalidStand).symm.trans hA
  · cases (show w.cl 17 = _ from T.nn_InvalidWord).symm.trans hA
  · cases (show w.cl 18 = _ from T.nn_InvalidLine).symm.trans hA
  · cases (show w.cl 19 = _ from T.nn_InvalidArrows).symm.trans hA
  · cases (show w.cl 20 = _ from T.nn_InvalidEnds).symm.trans hA
  · cases (show w.cl 21 = _ from T.nn_InvalidBook).symm.trans hA
  · cases (show w.cl 22 = _ from T.nn_InvalidTexts).symm.trans hA
  · cases (show w.cl 23 = _ from T.nn_InvalidDeeds).symm.trans hA
  · cases (show w.cl 24 = _ from T.nn_NothingToUndo).symm.trans hA
  · cases (show w.cl 25 = _ from T.nn_Busy).symm.trans hA
  · cases (show w.cl 26 = _ from T.nn_TooMany).symm.trans hA
theorem xi_InvalidDeeds (T : Tx W w mg base) : XiOk w (.ref T.c_InvalidDeeds) xit_InvalidDeeds := by
  intro p hp A hA
  unfold xit_InvalidDeeds at hp
  simp only [List.mem_cons, List.not_mem_nil, or_false] at hp
  rcases hp with rfl | rfl | rfl | rfl | rfl | rfl | rfl | rfl | rfl | rfl | rfl | rfl | rfl | rfl | rfl | rfl | rfl | rfl | rfl
  · cases (show w.cl 8 = _ from T.nn_InputError).symm.trans hA
  · cases (show w.cl 9 = _ from T.nn_StateError).symm.trans hA
  · cases (show w.cl 10 = _ from T.nn_SizeError).symm.trans hA
  · cases (show w.cl 11 = _ from T.nn_NotAMachine).symm.trans hA
  · cases (show w.cl 12 = _ from T.nn_NotADesk).symm.trans hA
  · cases (show w.cl 13 = _ from T.n_InvalidText).symm.trans hA; exact ⟨⟨T.xga_InvalidText, T.xgg_InvalidText, T.xs_InvalidText, T.xhd_InvalidText, T.xha_InvalidText, T.xhn, T.xht, T.xhm_InvalidText⟩, T.xiz_InvalidText_InvalidDeeds⟩
  · cases (show w.cl 14 = _ from T.nn_InvalidCount).symm.trans hA
  · cases (show w.cl 15 = _ from T.nn_InvalidLetter).symm.trans hA
  · cases (show w.cl 16 = _ from T.nn_InvalidStand).symm.trans hA
  · cases (show w.cl 17 = _ from T.nn_InvalidWord).symm.trans hA
  · cases (show w.cl 18 = _ from T.nn_InvalidLine).symm.trans hA
  · cases (show w.cl 19 = _ from T.nn_InvalidArrows).symm.trans hA
  · cases (show w.cl 20 = _ from T.nn_InvalidEnds).symm.trans hA
  · cases (show w.cl 21 = _ from T.nn_InvalidBook).symm.trans hA
  · cases (show w.cl 22 = _ from T.nn_InvalidTexts).symm.trans hA
  · cases (show w.cl 23 = _ from T.nn_InvalidDeeds).symm.trans hA
  · cases (show w.cl 24 = _ from T.nn_NothingToUndo).symm.trans hA
  · cases (show w.cl 25 = _ from T.nn_Busy).symm.trans hA
  · cases (show w.cl 26 = _ from T.nn_TooMany).symm.trans hA
theorem xi_TooMany (T : Tx W w mg base) : XiOk w (.ref T.c_TooMany) xit_TooMany := by
  intro p hp A hA
  unfold xit_TooMany at hp
  simp only [List.mem_cons, List.not_mem_nil, or_false] at hp
  rcases hp with rfl | rfl | rfl | rfl | rfl | rfl | rfl | rfl | rfl | rfl | rfl | rfl | rfl | rfl | rfl | rfl | rfl | rfl | rfl
  · cases (show w.cl 8 = _ from T.nn_InputError).symm.trans hA
  · cases (show w.cl 9 = _ from T.nn_StateError).symm.trans hA
  · cases (show w.cl 10 = _ from T.nn_SizeError).symm.trans hA
  · cases (show w.cl 11 = _ from T.nn_NotAMachine).symm.trans hA
  · cases (show w.cl 12 = _ from T.nn_NotADesk).symm.trans hA
  · cases (show w.cl 13 = _ from T.n_InvalidText).symm.trans hA; exact ⟨⟨T.xga_InvalidText, T.xgg_InvalidText, T.xs_InvalidText, T.xhd_InvalidText, T.xha_InvalidText, T.xhn, T.xht, T.xhm_InvalidText⟩, T.xiz_InvalidText_TooMany⟩
  · cases (show w.cl 14 = _ from T.nn_InvalidCount).symm.trans hA
  · cases (show w.cl 15 = _ from T.nn_InvalidLetter).symm.trans hA
  · cases (show w.cl 16 = _ from T.nn_InvalidStand).symm.trans hA
  · cases (show w.cl 17 = _ from T.nn_InvalidWord).symm.trans hA
  · cases (show w.cl 18 = _ from T.nn_InvalidLine).symm.trans hA
  · cases (show w.cl 19 = _ from T.nn_InvalidArrows).symm.trans hA
  · cases (show w.cl 20 = _ from T.nn_InvalidEnds).symm.trans hA
  · cases (show w.cl 21 = _ from T.nn_InvalidBook).symm.trans hA
  · cases (show w.cl 22 = _ from T.nn_InvalidTexts).symm.trans hA
  · cases (show w.cl 23 = _ from T.nn_InvalidDeeds).symm.trans hA
  · cases (show w.cl 24 = _ from T.nn_NothingToUndo).symm.trans hA
  · cases (show w.cl 25 = _ from T.nn_Busy).symm.trans hA
  · cases (show w.cl 26 = _ from T.nn_TooMany).symm.trans hA
theorem xi_SizeError (T : Tx W w mg base) : XiOk w (.ref T.c_SizeError) xit_SizeError := by
  intro p hp A hA
  unfold xit_SizeError at hp
  simp only [List.mem_cons, List.not_mem_nil, or_false] at hp
  rcases hp with rfl | rfl | rfl | rfl | rfl | rfl | rfl | rfl | rfl | rfl | rfl | rfl | rfl | rfl | rfl | rfl | rfl | rfl | rfl
  · cases (show w.cl 8 = _ from T.nn_InputError).symm.trans hA
  · cases (show w.cl 9 = _ from T.nn_StateError).symm.trans hA
  · cases (show w.cl 10 = _ from T.nn_SizeError).symm.trans hA
  · cases (show w.cl 11 = _ from T.nn_NotAMachine).symm.trans hA
  · cases (show w.cl 12 = _ from T.nn_NotADesk).symm.trans hA
  · cases (show w.cl 13 = _ from T.n_InvalidText).symm.trans hA; exact ⟨⟨T.xga_InvalidText, T.xgg_InvalidText, T.xs_InvalidText, T.xhd_InvalidText, T.xha_InvalidText, T.xhn, T.xht, T.xhm_InvalidText⟩, T.xiz_InvalidText_SizeError⟩
  · cases (show w.cl 14 = _ from T.nn_InvalidCount).symm.trans hA
  · cases (show w.cl 15 = _ from T.nn_InvalidLetter).symm.trans hA
  · cases (show w.cl 16 = _ from T.nn_InvalidStand).symm.trans hA
  · cases (show w.cl 17 = _ from T.nn_InvalidWord).symm.trans hA
  · cases (show w.cl 18 = _ from T.nn_InvalidLine).symm.trans hA
  · cases (show w.cl 19 = _ from T.nn_InvalidArrows).symm.trans hA
  · cases (show w.cl 20 = _ from T.nn_InvalidEnds).symm.trans hA
  · cases (show w.cl 21 = _ from T.nn_InvalidBook).symm.trans hA
  · cases (show w.cl 22 = _ from T.nn_InvalidTexts).symm.trans hA
  · cases (show w.cl 23 = _ from T.nn_InvalidDeeds).symm.trans hA
  · cases (show w.cl 24 = _ from T.nn_NothingToUndo).symm.trans hA
  · cases (show w.cl 25 = _ from T.nn_Busy).symm.trans hA
  · cases (show w.cl 26 = _ from T.nn_TooMany).symm.trans hA
theorem xi_StateError (T : Tx W w mg base) : XiOk w (.ref T.c_StateError) xit_StateError := by
  intro p hp A hA
  unfold xit_StateError at hp
  simp only [List.mem_cons, List.not_mem_nil, or_false] at hp
  rcases hp with rfl | rfl | rfl | rfl | rfl | rfl | rfl | rfl | rfl | rfl | rfl | rfl | rfl | rfl | rfl | rfl | rfl | rfl | rfl
  · cases (show w.cl 8 = _ from T.nn_InputError).symm.trans hA
  · cases (show w.cl 9 = _ from T.nn_StateError).symm.trans hA
  · cases (show w.cl 10 = _ from T.nn_SizeError).symm.trans hA
  · cases (show w.cl 11 = _ from T.nn_NotAMachine).symm.trans hA
  · cases (show w.cl 12 = _ from T.nn_NotADesk).symm.trans hA
  · cases (show w.cl 13 = _ from T.n_InvalidText).symm.trans hA; exact ⟨⟨T.xga_InvalidText, T.xgg_InvalidText, T.xs_InvalidText, T.xhd_InvalidText, T.xha_InvalidText, T.xhn, T.xht, T.xhm_InvalidText⟩, T.xiz_InvalidText_StateError⟩
  · cases (show w.cl 14 = _ from T.nn_InvalidCount).symm.trans hA
  · cases (show w.cl 15 = _ from T.nn_InvalidLetter).symm.trans hA
  · cases (show w.cl 16 = _ from T.nn_InvalidStand).symm.trans hA
  · cases (show w.cl 17 = _ from T.nn_InvalidWord).symm.trans hA
  · cases (show w.cl 18 = _ from T.nn_InvalidLine).symm.trans hA
  · cases (show w.cl 19 = _ from T.nn_InvalidArrows).symm.trans hA
  · cases (show w.cl 20 = _ from T.nn_InvalidEnds).symm.trans hA
  · cases (show w.cl 21 = _ from T.nn_InvalidBook).symm.trans hA
  · cases (show w.cl 22 = _ from T.nn_InvalidTexts).symm.trans hA
  · cases (show w.cl 23 = _ from T.nn_InvalidDeeds).symm.trans hA
  · cases (show w.cl 24 = _ from T.nn_NothingToUndo).symm.trans hA
  · cases (show w.cl 25 = _ from T.nn_Busy).symm.trans hA
  · cases (show w.cl 26 = _ from T.nn_TooMany).symm.trans hA
theorem xi_InputError (T : Tx W w mg base) : XiOk w (.ref T.c_InputError) xit_InputError := by
  intro p hp A hA
  unfold xit_InputError at hp
  simp only [List.mem_cons, List.not_mem_nil, or_false] at hp
  rcases hp with rfl | rfl | rfl | rfl | rfl | rfl | rfl | rfl | rfl | rfl | rfl | rfl | rfl | rfl | rfl | rfl | rfl | rfl | rfl
  · cases (show w.cl 8 = _ from T.nn_InputError).symm.trans hA
  · cases (show w.cl 9 = _ from T.nn_StateError).symm.trans hA
  · cases (show w.cl 10 = _ from T.nn_SizeError).symm.trans hA
  · cases (show w.cl 11 = _ from T.nn_NotAMachine).symm.trans hA
  · cases (show w.cl 12 = _ from T.nn_NotADesk).symm.trans hA
  · cases (show w.cl 13 = _ from T.n_InvalidText).symm.trans hA; exact ⟨⟨T.xga_InvalidText, T.xgg_InvalidText, T.xs_InvalidText, T.xhd_InvalidText, T.xha_InvalidText, T.xhn, T.xht, T.xhm_InvalidText⟩, T.xiz_InvalidText_InputError⟩
  · cases (show w.cl 14 = _ from T.nn_InvalidCount).symm.trans hA
  · cases (show w.cl 15 = _ from T.nn_InvalidLetter).symm.trans hA
  · cases (show w.cl 16 = _ from T.nn_InvalidStand).symm.trans hA
  · cases (show w.cl 17 = _ from T.nn_InvalidWord).symm.trans hA
  · cases (show w.cl 18 = _ from T.nn_InvalidLine).symm.trans hA
  · cases (show w.cl 19 = _ from T.nn_InvalidArrows).symm.trans hA
  · cases (show w.cl 20 = _ from T.nn_InvalidEnds).symm.trans hA
  · cases (show w.cl 21 = _ from T.nn_InvalidBook).symm.trans hA
  · cases (show w.cl 22 = _ from T.nn_InvalidTexts).symm.trans hA
  · cases (show w.cl 23 = _ from T.nn_InvalidDeeds).symm.trans hA
  · cases (show w.cl 24 = _ from T.nn_NothingToUndo).symm.trans hA
  · cases (show w.cl 25 = _ from T.nn_Busy).symm.trans hA
  · cases (show w.cl 26 = _ from T.nn_TooMany).symm.trans hA
theorem xi_ArithmeticError (T : Tx W w mg base) : XiOk w (.type "ArithmeticError") xit_ArithmeticError := by
  intro p hp A hA
  unfold xit_ArithmeticError at hp
  simp only [List.mem_cons, List.not_mem_nil, or_false] at hp
  rcases hp with rfl | rfl | rfl | rfl | rfl | rfl | rfl | rfl | rfl | rfl | rfl | rfl | rfl | rfl | rfl | rfl | rfl | rfl | rfl
  · cases (show w.cl 8 = _ from T.nn_InputError).symm.trans hA
  · cases (show w.cl 9 = _ from T.nn_StateError).symm.trans hA
  · cases (show w.cl 10 = _ from T.nn_SizeError).symm.trans hA
  · cases (show w.cl 11 = _ from T.nn_NotAMachine).symm.trans hA
  · cases (show w.cl 12 = _ from T.nn_NotADesk).symm.trans hA
  · cases (show w.cl 13 = _ from T.n_InvalidText).symm.trans hA; exact ⟨⟨T.xga_InvalidText, T.xgg_InvalidText, T.xs_InvalidText, T.xhd_InvalidText, T.xha_InvalidText, T.xhn, T.xht, T.xhm_InvalidText⟩, kit_ct (by decide +kernel) T.xiz_InvalidText_ArithmeticError⟩
  · cases (show w.cl 14 = _ from T.nn_InvalidCount).symm.trans hA
  · cases (show w.cl 15 = _ from T.nn_InvalidLetter).symm.trans hA
  · cases (show w.cl 16 = _ from T.nn_InvalidStand).symm.trans hA
  · cases (show w.cl 17 = _ from T.nn_InvalidWord).symm.trans hA
  · cases (show w.cl 18 = _ from T.nn_InvalidLine).symm.trans hA
  · cases (show w.cl 19 = _ from T.nn_InvalidArrows).symm.trans hA
  · cases (show w.cl 20 = _ from T.nn_InvalidEnds).symm.trans hA
  · cases (show w.cl 21 = _ from T.nn_InvalidBook).symm.trans hA
  · cases (show w.cl 22 = _ from T.nn_InvalidTexts).symm.trans hA
  · cases (show w.cl 23 = _ from T.nn_InvalidDeeds).symm.trans hA
  · cases (show w.cl 24 = _ from T.nn_NothingToUndo).symm.trans hA
  · cases (show w.cl 25 = _ from T.nn_Busy).symm.trans hA
  · cases (show w.cl 26 = _ from T.nn_TooMany).symm.trans hA
theorem xi_LookupError (T : Tx W w mg base) : XiOk w (.type "LookupError") xit_LookupError := by
  intro p hp A hA
  unfold xit_LookupError at hp
  simp only [List.mem_cons, List.not_mem_nil, or_false] at hp
  rcases hp with rfl | rfl | rfl | rfl | rfl | rfl | rfl | rfl | rfl | rfl | rfl | rfl | rfl | rfl | rfl | rfl | rfl | rfl | rfl
  · cases (show w.cl 8 = _ from T.nn_InputError).symm.trans hA
  · cases (show w.cl 9 = _ from T.nn_StateError).symm.trans hA
  · cases (show w.cl 10 = _ from T.nn_SizeError).symm.trans hA
  · cases (show w.cl 11 = _ from T.nn_NotAMachine).symm.trans hA
  · cases (show w.cl 12 = _ from T.nn_NotADesk).symm.trans hA
  · cases (show w.cl 13 = _ from T.n_InvalidText).symm.trans hA; exact ⟨⟨T.xga_InvalidText, T.xgg_InvalidText, T.xs_InvalidText, T.xhd_InvalidText, T.xha_InvalidText, T.xhn, T.xht, T.xhm_InvalidText⟩, kit_ct (by decide +kernel) T.xiz_InvalidText_LookupError⟩
  · cases (show w.cl 14 = _ from T.nn_InvalidCount).symm.trans hA
  · cases (show w.cl 15 = _ from T.nn_InvalidLetter).symm.trans hA
  · cases (show w.cl 16 = _ from T.nn_InvalidStand).symm.trans hA
  · cases (show w.cl 17 = _ from T.nn_InvalidWord).symm.trans hA
  · cases (show w.cl 18 = _ from T.nn_InvalidLine).symm.trans hA
  · cases (show w.cl 19 = _ from T.nn_InvalidArrows).symm.trans hA
  · cases (show w.cl 20 = _ from T.nn_InvalidEnds).symm.trans hA
  · cases (show w.cl 21 = _ from T.nn_InvalidBook).symm.trans hA
  · cases (show w.cl 22 = _ from T.nn_InvalidTexts).symm.trans hA
  · cases (show w.cl 23 = _ from T.nn_InvalidDeeds).symm.trans hA
  · cases (show w.cl 24 = _ from T.nn_NothingToUndo).symm.trans hA
  · cases (show w.cl 25 = _ from T.nn_Busy).symm.trans hA
  · cases (show w.cl 26 = _ from T.nn_TooMany).symm.trans hA
theorem xi_ValueError (T : Tx W w mg base) : XiOk w (.type "ValueError") xit_ValueError := by
  intro p hp A hA
  unfold xit_ValueError at hp
  simp only [List.mem_cons, List.not_mem_nil, or_false] at hp
  rcases hp with rfl | rfl | rfl | rfl | rfl | rfl | rfl | rfl | rfl | rfl | rfl | rfl | rfl | rfl | rfl | rfl | rfl | rfl | rfl
  · cases (show w.cl 8 = _ from T.nn_InputError).symm.trans hA
  · cases (show w.cl 9 = _ from T.nn_StateError).symm.trans hA
  · cases (show w.cl 10 = _ from T.nn_SizeError).symm.trans hA
  · cases (show w.cl 11 = _ from T.nn_NotAMachine).symm.trans hA
  · cases (show w.cl 12 = _ from T.nn_NotADesk).symm.trans hA
  · cases (show w.cl 13 = _ from T.n_InvalidText).symm.trans hA; exact ⟨⟨T.xga_InvalidText, T.xgg_InvalidText, T.xs_InvalidText, T.xhd_InvalidText, T.xha_InvalidText, T.xhn, T.xht, T.xhm_InvalidText⟩, kit_ct (by decide +kernel) T.xiz_InvalidText_ValueError⟩
  · cases (show w.cl 14 = _ from T.nn_InvalidCount).symm.trans hA
  · cases (show w.cl 15 = _ from T.nn_InvalidLetter).symm.trans hA
  · cases (show w.cl 16 = _ from T.nn_InvalidStand).symm.trans hA
  · cases (show w.cl 17 = _ from T.nn_InvalidWord).symm.trans hA
  · cases (show w.cl 18 = _ from T.nn_InvalidLine).symm.trans hA
  · cases (show w.cl 19 = _ from T.nn_InvalidArrows).symm.trans hA
  · cases (show w.cl 20 = _ from T.nn_InvalidEnds).symm.trans hA
  · cases (show w.cl 21 = _ from T.nn_InvalidBook).symm.trans hA
  · cases (show w.cl 22 = _ from T.nn_InvalidTexts).symm.trans hA
  · cases (show w.cl 23 = _ from T.nn_InvalidDeeds).symm.trans hA
  · cases (show w.cl 24 = _ from T.nn_NothingToUndo).symm.trans hA
  · cases (show w.cl 25 = _ from T.nn_Busy).symm.trans hA
  · cases (show w.cl 26 = _ from T.nn_TooMany).symm.trans hA
theorem xm_InputError_StateError_SizeError (T : Tx W w mg base) : ∀ p ∈ xtb_InputError_StateError_SizeError, ∀ A, w.cl p.1 = some A → PySem.W.exmAny w.K (.ref A) [.ref T.c_InputError, .ref T.c_StateError, .ref T.c_SizeError] = some p.2 := by
  intro p hp A hA
  unfold xtb_InputError_StateError_SizeError at hp
  simp only [List.mem_cons, List.not_mem_nil, or_false] at hp
  rcases hp with rfl | rfl | rfl | rfl | rfl | rfl | rfl | rfl | rfl | rfl | rfl | rfl | rfl | rfl | rfl | rfl | rfl | rfl | rfl
  · cases (show w.cl 8 = _ from T.nn_InputError).symm.trans hA
  · cases (show w.cl 9 = _ from T.nn_StateError).symm.trans hA
  · cases (show w.cl 10 = _ from T.nn_SizeError).symm.trans hA
  · cases (show w.cl 11 = _ from T.nn_NotAMachine).symm.trans hA
  · cases (show w.cl 12 = _ from T.nn_NotADesk).symm.trans hA
  · cases (show w.cl 13 = _ from T.n_InvalidText).symm.trans hA; simp only [PySem.W.exmAny, T.xe_InvalidText_InputError, T.xe_InvalidText_StateError, T.xe_InvalidText_SizeError]; rfl
  · cases (show w.cl 14 = _ from T.nn_InvalidCount).symm.trans hA
  · cases (show w.cl 15 = _ from T.nn_InvalidLetter).symm.trans hA
  · cases (show w.cl 16 = _ from T.nn_InvalidStand).symm.trans hA
  · cases (show w.cl 17 = _ from T.nn_InvalidWord).symm.trans hA
  · cases (show w.cl 18 = _ from T.nn_InvalidLine).symm.trans hA
  · cases (show w.cl 19 = _ from T.nn_InvalidArrows).symm.trans hA
  · cases (show w.cl 20 = _ from T.nn_InvalidEnds).symm.trans hA
  · cases (show w.cl 21 = _ from T.nn_InvalidBook).symm.trans hA
  · cases (show w.cl 22 = _ from T.nn_InvalidTexts).symm.trans hA
  · cases (show w.cl 23 = _ from T.nn_InvalidDeeds).symm.trans hA
  · cases (show w.cl 24 = _ from T.nn_NothingToUndo).symm.trans hA
  · cases (show w.cl 25 = _ from T.nn_Busy).symm.trans hA
  · cases (show w.cl 26 = _ from T.nn_TooMany).symm.trans hA
theorem bd__law_draw_2 (T : Tx W w mg base) : Bd w.K T.fd__law_draw ["_law_well_here", "_law_many"] [] 2 [] [0, 1] := by
  obtain ⟨_, _, _, _, _, _, _, _, _, e, _, _⟩ := T.F__law_draw.ex
  refine ⟨fun s us ws _ h1 h2 => ?_, rfl, by decide⟩
  rw [e]
  match us, ws, h1, h2 with | [_, _], [], _, _ => exact .of_eq rfl
theorem bd__law_flags_h_1 (T : Tx W w mg base) : Bd w.K T.fd__law_flags_h ["_law_e"] [] 1 [] [0] := by
  obtain ⟨_, _, _, _, _, _, _, _, _, e, _, _⟩ := T.F__law_flags_h.ex
  refine ⟨fun s us ws _ h1 h2 => ?_, rfl, by decide⟩
  rw [e]
  match us, ws, h1, h2 with | [_], [], _, _ => exact .of_eq rfl
theorem bd__law_error_h_1 (T : Tx W w mg base) : Bd w.K T.fd__law_error_h ["_law_e"] [] 1 [] [0] := by
  obtain ⟨_, _, _, _, _, _, _, _, _, e, _, _⟩ := T.F__law_error_h.ex
  refine ⟨fun s us ws _ h1 h2 => ?_, rfl, by decide⟩
  rw [e]
  match us, ws, h1, h2 with | [_], [], _, _ => exact .of_eq rfl
theorem bd_text_line_x_1 (T : Tx W w mg base) : Bd w.K T.fd_text_line_x ["text"] [] 1 [] [0] := by
  obtain ⟨_, _, _, _, _, _, _, _, _, e, _, _⟩ := T.F_text_line_x.ex
  refine ⟨fun s us ws _ h1 h2 => ?_, rfl, by decide⟩
  rw [e]
  match us, ws, h1, h2 with | [_], [], _, _ => exact .of_eq rfl
theorem bd_text_line_1 (T : Tx W w mg base) : Bd w.K T.fd_text_line ["text"] [] 1 [] [0] := by
  obtain ⟨_, _, _, _, _, _, _, _, _, e, _, _⟩ := T.F_text_line.ex
  refine ⟨fun s us ws _ h1 h2 => ?_, rfl, by decide⟩
  rw [e]
  match us, ws, h1, h2 with | [_], [], _, _ => exact .of_eq rfl
theorem bd_text_line_x_0_text (T : Tx W w mg base) : Bd w.K T.fd_text_line_x ["text"] ["text"] 0 [] [0] := by
  obtain ⟨_, _, _, _, _, _, _, _, _, e, _, _⟩ := T.F_text_line_x.ex
  refine ⟨fun s us ws _ h1 h2 => ?_, rfl, by decide⟩
  rw [e]
  match us, ws, h1, h2 with | [], [_], _, _ => exact .of_eq rfl
theorem bd__law_right_1 (T : Tx W w mg base) : Bd w.K T.fd__law_right ["_law_well_here"] [] 1 [] [0] := by
  obtain ⟨_, _, _, _, _, _, _, _, _, e, _, _⟩ := T.F__law_right.ex
  refine ⟨fun s us ws _ h1 h2 => ?_, rfl, by decide⟩
  rw [e]
  match us, ws, h1, h2 with | [_], [], _, _ => exact .of_eq rfl
theorem bd__law_well_2 (T : Tx W w mg base) : Bd w.K T.fd__law_well ["_law_script", "_law_k"] [] 2 [] [0, 1] := by
  obtain ⟨_, _, _, _, _, _, _, _, _, e, _, _⟩ := T.F__law_well.ex
  refine ⟨fun s us ws _ h1 h2 => ?_, rfl, by decide⟩
  rw [e]
  match us, ws, h1, h2 with | [_, _], [], _, _ => exact .of_eq rfl
theorem w__law_draw (T : Tx W w mg base) : FnM P W w mg base CX0 exF 1 T.a__law_draw T.fd__law_draw ["_law_well_here", "_law_many"] m__law_draw := by
  refine fnm_of T.hW T.F__law_draw sc__law_draw fun cdv A outer s H E C => ?_
  have nd := sc__law_draw.nd
  exact (mss_cons (ms_asg (me_op o_mod (me_ty (b_int C) (by rfl) T.z_int (by decide +kernel) (ma_cons (me_op (o_add C) (me_op (o_mul C) me_int (me_ix C (me_var 0) me_int)) me_int) ma_nil)) me_int) (mg_sub p_setIx (me_var 0) me_int)) (mss_cons (ms_asg (me_op o_mod (me_ty (b_int C) (by rfl) T.z_int (by decide +kernel) (ma_cons (me_op (o_add C) (me_op (o_mul C) me_int (me_ix C (me_var 0) me_int)) me_int) ma_nil)) me_int) (mg_sub p_setIx (me_var 0) me_int)) (mss_cons (ms_if (mt_cmp o_gt (me_ix C (me_var 0) me_int) me_int (nomark _)) (mss_cons (ms_asg (me_blt b_divmod (by rfl) T.z_divmod (by decide +kernel) (ma_cons (me_ix C (me_var 0) me_int) (ma_cons (me_var 1) ma_nil))) (mg_tup C 2 (mgs_cons (mg_sub p_setIx (me_var 0) me_int) (mgs_cons (mg_name 2 nd) mgs_nil)))) (mss_cons (ms_ret (me_var 2)) mss_nil)) mss_nil) (mss_cons (ms_ret (me_op o_mod (me_ty (b_int C) (by rfl) T.z_int (by decide +kernel) (ma_cons (me_op o_fdiv (me_op o_mod (me_ty (b_int C) (by rfl) T.z_int (by decide +kernel) (ma_cons (me_op o_sub (me_ix C (me_var 0) me_int) (me_ix C (me_var 0) me_int)) ma_nil)) me_int) me_int) ma_nil)) (me_var 1))) mss_nil))))

theorem w__law_flags_h (T : Tx W w mg base) : FnMH P W w mg base 1 T.a__law_flags_h T.fd__law_flags_h ["_law_e"] m__law_flags_h := by
  refine fnmh_of T.hW T.F__law_flags_h sc__law_flags_h fun p cdv A outer s H E C => ?_
  have nd := sc__law_flags_h.nd
  exact (mss_cons (ms_set 1 nd (me_lst (ma_cons (me_xiC C (xi_NotAMachine (w := w) T) (me_var 0) (by rfl) T.z_isinstance (by rfl) T.g_NotAMachine) (ma_cons (me_xiC C (xi_NotADesk (w := w) T) (me_var 0) (by rfl) T.z_isinstance (by rfl) T.g_NotADesk) (ma_cons (me_xiC C (xi_InvalidText (w := w) T) (me_var 0) (by rfl) T.z_isinstance (by rfl) T.g_InvalidText) ma_nil))))) (mss_cons (ms_set 1 nd (me_op (o_add C) (me_var 1) (me_lst (ma_cons (me_xiC C (xi_InvalidCount (w := w) T) (me_var 0) (by rfl) T.z_isinstance (by rfl) T.g_InvalidCount) (ma_cons (me_xiC C (xi_InvalidLetter (w := w) T) (me_var 0) (by rfl) T.z_isinstance (by rfl) T.g_InvalidLetter) (ma_cons (me_xiC C (xi_InvalidStand (w := w) T) (me_var 0) (by rfl) T.z_isinstance (by rfl) T.g_InvalidStand) ma_nil)))))) (mss_cons (ms_set 1 nd (me_op (o_add C) (me_var 1) (me_lst (ma_cons (me_xiC C (xi_InvalidWord (w := w) T) (me_var 0) (by rfl) T.z_isinstance (by rfl) T.g_InvalidWord) (ma_cons (me_xiC C (xi_InvalidLine (w := w) T) (me_var 0) (by rfl) T.z_isinstance (by rfl) T.g_InvalidLine) (ma_cons (me_xiC C (xi_InvalidArrows (w := w) T) (me_var 0) (by rfl) T.z_isinstance (by rfl) T.g_InvalidArrows) ma_nil)))))) (mss_cons (ms_set 1 nd (me_op (o_add C) (me_var 1) (me_lst (ma_cons (me_xiC C (xi_InvalidEnds (w := w) T) (me_var 0) (by rfl) T.z_isinstance (by rfl) T.g_InvalidEnds) (ma_cons (me_xiC C (xi_InvalidBook (w := w) T) (me_var 0) (by rfl) T.z_isinstance (by rfl) T.g_InvalidBook) (ma_cons (me_xiC C (xi_InvalidTexts (w := w) T) (me_var 0) (by rfl) T.z_isinstance (by rfl) T.g_InvalidTexts) ma_nil)))))) (mss_cons (ms_set 1 nd (me_op (o_add C) (me_var 1) (me_lst (ma_cons (me_xiC C (xi_InvalidDeeds (w := w) T) (me_var 0) (by rfl) T.z_isinstance (by rfl) T.g_InvalidDeeds) (ma_cons (me_xiC C (xi_NothingToUndo (w := w) T) (me_var 0) (by rfl) T.z_isinstance (by rfl) T.g_NothingToUndo) (ma_cons (me_xiC C (xi_Busy (w := w) T) (me_var 0) (by rfl) T.z_isinstance (by rfl) T.g_Busy) ma_nil)))))) (mss_cons (ms_ret (me_op (o_add C) (me_var 1) (me_lst (ma_cons (me_xiC C (xi_TooMany (w := w) T) (me_var 0) (by rfl) T.z_isinstance (by rfl) T.g_TooMany) ma_nil)))) mss_nil))))))

theorem w__law_error_h (T : Tx W w mg base) : FnMH P W w mg base 2 T.a__law_error_h T.fd__law_error_h ["_law_e"] m__law_error_h := by
  refine fnmh_of T.hW T.F__law_error_h sc__law_error_h fun p cdv A outer s H E C => ?_
  have nd := sc__law_error_h.nd
  exact (mss_cons (ms_set 1 nd (me_str [78, 111, 116, 65, 77, 97, 99, 104, 105, 110, 101, 32, 78, 111, 116, 65, 68, 101, 115, 107, 32, 73, 110, 118, 97, 108, 105, 100, 84, 101, 120, 116, 32, 73, 110, 118, 97, 108, 105, 100, 67, 111, 117, 110, 116, 32, 73, 110, 118, 97, 108, 105, 100, 76, 101, 116, 116, 101, 114, 32, 73, 110, 118, 97, 108, 105, 100, 83, 116, 97, 110, 100, 32, 73, 110, 118, 97, 108, 105, 100, 87, 111, 114, 100, 32, 73, 110, 118, 97, 108, 105, 100, 76, 105, 110, 101, 32])) (mss_cons (ms_set 1 nd (me_op (o_add C) (me_var 1) (me_str [73, 110, 118, 97, 108, 105, 100, 65, 114, 114, 111, 119, 115, 32, 73, 110, 118, 97, 108, 105, 100, 69, 110, 100, 115, 32, 73, 110, 118, 97, 108, 105, 100, 66, 111, 111, 107, 32, 73, 110, 118, 97, 108, 105, 100, 84, 101, 120, 116, 115, 32, 73, 110, 118, 97, 108, 105, 100, 68, 101, 101, 100, 115, 32, 78, 111, 116, 104, 105, 110, 103, 84, 111, 85, 110, 100, 111, 32, 66, 117, 115, 121, 32, 84, 111, 111, 77, 97, 110, 121]))) (mss_cons (ms_set 2 nd (me_call (clb_fnH C ((w__law_flags_h T).mono (by decide)) T.F__law_flags_h.kp (bd__law_flags_h_1 T) .nil (fun _ _ _ => .nil) tb_ok) (by rfl) T.g__law_flags_h (ma_cons (me_var 0) ma_nil))) (mss_cons (ms_set 3 nd (me_lst (ma_cons (me_xiC C (xi_InputError (w := w) T) (me_var 0) (by rfl) T.z_isinstance (by rfl) T.g_InputError) (ma_cons (me_xiC C (xi_StateError (w := w) T) (me_var 0) (by rfl) T.z_isinstance (by rfl) T.g_StateError) (ma_cons (me_xiC C (xi_SizeError (w := w) T) (me_var 0) (by rfl) T.z_isinstance (by rfl) T.g_SizeError) ma_nil))))) (mss_cons (ms_set 4 nd (me_lst (ma_cons (me_xiT C (xi_ValueError (w := w) T) (me_var 0) (by rfl) T.z_isinstance (by rfl) T.z_ValueError (by decide +kernel)) (ma_cons (me_xiT C (xi_LookupError (w := w) T) (me_var 0) (by rfl) T.z_isinstance (by rfl) T.z_LookupError (by decide +kernel)) (ma_cons (me_xiT C (xi_ArithmeticError (w := w) T) (me_var 0) (by rfl) T.z_isinstance (by rfl) T.z_ArithmeticError (by decide +kernel)) ma_nil))))) (mss_cons (ms_if (PW.pt (mw_or (mt_cmp (o_ne C) (me_bm C 1 F.plainAttrs_list F.slot_list_count F.type_list_count o_countB (me_var 2) (ma_cons me_bl ma_nil)) me_int (nomark _)) (mw_one (mt_cmp (o_ne C) (me_var 4) (me_var 3) (nomark _))))) (mss_cons (ms_ret (me_tup (ma_cons (me_str [111, 116, 104, 101, 114]) (ma_cons (me_str []) ma_nil)))) mss_nil) mss_nil) (mss_cons (ms_set 5 nd (me_bm C 1 F.plainAttrs_list F.slot_list_index F.type_list_index (o_indexD C) (me_var 2) (ma_cons me_bl ma_nil))) (mss_cons (ms_if (mt_cmp (o_ne C) (me_var 3) (me_lst (ma_cons (me_cmp o_lt (me_var 5) me_int (nomark _)) (ma_cons (me_ch o_lt o_lt me_int (me_var 5) me_int) (ma_cons (me_cmp (o_eq C) (me_var 5) me_int (nomark _)) ma_nil)))) (nomark _)) (mss_cons (ms_ret (me_tup (ma_cons (me_str [111, 116, 104, 101, 114]) (ma_cons (me_str []) ma_nil)))) mss_nil) mss_nil) (mss_cons (ms_if (mt_cmp (o_in C) (me_var 5) (me_tup (ma_cons me_int (ma_cons me_int ma_nil))) (by rfl)) (mss_cons (ms_ret (me_tup (ma_cons (me_ix C (me_bm C 0 F.plainAttrs_str F.slot_str_split F.type_str_split o_split (me_var 1) (ma_cons (me_str [32]) ma_nil)) (me_var 5)) (ma_cons (me_str []) ma_nil)))) mss_nil) mss_nil) (mss_cons (ms_if (mt_cmp (o_eq C) (me_var 5) me_int (nomark _)) (mss_cons (ms_ret (me_tup (ma_cons (me_ix C (me_bm C 0 F.plainAttrs_str F.slot_str_split F.type_str_split o_split (me_var 1) (ma_cons (me_str [32]) ma_nil)) (me_var 5)) (ma_cons (me_blt (b_reprQ C) (by rfl) T.z_repr (by decide +kernel) (ma_cons (me_xf C [108, 105, 109, 105, 116] (by decide +kernel) (xfld_limit (w := w) T) (me_var 0)) ma_nil)) ma_nil)))) mss_nil) mss_nil) (mss_cons (ms_ret (me_tup (ma_cons (me_ix C (me_bm C 0 F.plainAttrs_str F.slot_str_split F.type_str_split o_split (me_var 1) (ma_cons (me_str [32]) ma_nil)) (me_var 5)) (ma_cons (me_if (mt_cmp o_lt (me_var 5) me_int (nomark _)) (me_blt (b_reprQ C) (by rfl) T.z_repr (by decide +kernel) (ma_cons (me_xf C [118, 97, 108, 117, 101] (by decide +kernel) (xfld_value (w := w) T) (me_var 0)) ma_nil)) (me_blt (b_reprQ C) (by rfl) T.z_repr (by decide +kernel) (ma_cons (me_xf C [105, 110, 100, 101, 120] (by decide +kernel) (xfld_index (w := w) T) (me_var 0)) ma_nil))) ma_nil)))) mss_nil)))))))))))

theorem lamf__law_raised (T : Tx W w mg base) : LamF P W w mg base 2 "_law_raised" 3 1 hd__law_raised bl__law_raised := by
  refine ⟨_, _, _, _, _, _, _, _, _, _, _, _, _, _, T.g__law_raised, T.F__law_raised, sc__law_raised, rfl, sc__law_raised.nd, T.F__law_raised.binds (fun kV doc pm an cdv ct us hl => match us, hl with | [_], _ => rfl), rfl, Or.inl rfl, by decide, by decide, rfl, rfl, rfl, fun env => rfl, fun cdv A outer s H E C => ?_⟩
  have nd := sc__law_raised.nd
  exact ⟨(.as (fun p hp A hA => tst_3 ⟨by rfl, by decide, .inl T.g_InputError⟩ ⟨by rfl, by decide, .inl T.g_StateError⟩ ⟨by rfl, by decide, .inl T.g_SizeError⟩ (xm_InputError_StateError_SizeError T p hp A hA)) nd rfl rfl (fun a oe pn C => (mss_cons (ms_ret (me_call (clb_fnH C ((w__law_error_h T).mono (by decide)) T.F__law_error_h.kp (bd__law_error_h_1 T) .nil (fun _ _ _ => .nil) tb_ok) (by rfl) T.g__law_error_h (ma_cons (me_var 2) ma_nil))) mss_nil)) .nil), (mss_cons (ms_ret (me_tup (ma_cons (me_str [114, 101, 116, 117, 114, 110, 101, 100]) (ma_cons (me_blt (b_reprQ C) (by rfl) T.z_repr (by decide +kernel) (ma_cons (me_var 1) ma_nil)) ma_nil)))) mss_nil)⟩

theorem w_text_line_x (T : Tx W w mg base) : FnX P W w mg base 3 T.a_text_line_x T.fd_text_line_x ["text"] m_text_line_x := by
  refine fnm_ofX T.hW T.F_text_line_x sc_text_line_x fun cdv A outer s H E C tk => ?_
  have nd := sc_text_line_x.nd
  exact (mss_cons (ms_if (mt_not (mt_tru C (me_isiT C (isi_str T) (me_var 0) (by rfl) T.z_isinstance (by rfl) T.z_str (by decide +kernel)))) (mss_cons (ms_raise 13 [118, 97, 108, 117, 101] C tk T.n_InvalidText (xc_InvalidText T) (by rfl) (me_var 0)) mss_nil) mss_nil) (mss_cons (ms_ret (me_if (mt_cmp (o_eq C) (me_var 0) (me_str []) (nomark _)) (me_str [45]) (me_var 0))) mss_nil))

theorem w_text_line (T : Tx W w mg base) : FnM P W w mg base CX0 exF 1 T.a_text_line T.fd_text_line ["text"] m_text_line := by
  refine fnm_of T.hW T.F_text_line sc_text_line fun cdv A outer s H E C => ?_
  have nd := sc_text_line.nd
  exact (mss_cons (ms_if (mt_not (mt_tru C (me_isiT C (isi_str T) (me_var 0) (by rfl) T.z_isinstance (by rfl) T.z_str (by decide +kernel)))) mss_never mss_nil) (mss_cons (ms_ret (me_if (mt_cmp (o_eq C) (me_var 0) (me_str []) (nomark _)) (me_str [45]) (me_var 0))) mss_nil))

theorem w__law_right (T : Tx W w mg base) : FnM P W w mg base CX0 exF 6 T.a__law_right T.fd__law_right ["_law_well_here"] m__law_right := by
  refine fnm_ofC T.hW T.FC__law_right sc__law_right fun A outer s H E C => ?_
  have nd := sc__law_right.nd
  exact (mss_cons (ms_for C (mi_rng1 (by rfl) T.z_range (ma_cons me_int ma_nil)) (mg_name 1 nd) (mss_cons (ms_par C 2 3 nd (me_call (clb_fn C ((w__law_draw T).mono (by decide)) pass0 T.F__law_draw.kp (bd__law_draw_2 T) .nil (fun _ _ _ => .nil) tb_ok) (by rfl) T.g__law_draw (ma_cons (me_var 0) (ma_cons me_int ma_nil))) (me_call (clb_fn C ((w__law_draw T).mono (by decide)) pass0 T.F__law_draw.kp (bd__law_draw_2 T) .nil (fun _ _ _ => .nil) tb_ok) (by rfl) T.g__law_draw (ma_cons (me_var 0) (ma_cons me_int ma_nil)))) (mss_cons (ms_set 4 nd (me_ix C (me_lst (ma_cons (me_str [97, 98, 99, 100, 101]) (ma_cons (me_str [120, 121, 122, 32, 45]) (ma_cons (me_str [97, 98, 99, 100, 101, 120, 121, 122, 65, 66, 90, 48, 49, 57, 32, 45, 95, 46, 10, 126, 33]) ma_nil)))) (me_var 3))) (mss_cons (ms_set 5 nd (me_bm C 0 F.plainAttrs_str F.slot_str_join F.type_str_join (o_join C) (me_str []) (ma_cons (me_lc (EX2 := EXF) (own := [("_law_k", 7)]) (vs := [7]) (g := (Tg.nm 7)) C nd (mi_rng1 (by rfl) T.z_range (ma_cons (me_var 2) ma_nil)) (by kernel_rfl) (fun _ _ _ _ _ => (pg_name nd rfl (by first | exact Or.inl rfl | exact Or.inr rfl))) (fun _ _ _ _ _ C => mts_nil) (fun _ _ _ _ _ C => (me_ix C (me_var 4) (me_call (clb_fn C ((w__law_draw T).mono (by decide)) pass0 T.F__law_draw.kp (bd__law_draw_2 T) .nil (fun _ _ _ => .nil) tb_ok) (by rfl) T.g__law_draw (ma_cons (me_var 0) (ma_cons (me_blt (b_len C) (by rfl) T.z_len (by decide +kernel) (ma_cons (me_var 4) ma_nil)) ma_nil)))))) ma_nil))) (mss_cons (ms_if (mt_cmp (o_ne C) (me_lam (k := 3) (C.mono (by decide)) T.hex ((lamf__law_raised T).mono (by decide)) (by rfl) T.tb__law_right rfl T.hT__law_right T.hu__law_right (show LamX.LamS (defScope s__law_right) _ from LamX.lamS_by (by decide +kernel)) (by rfl) (by intros; rfl) (fun A outer s H E f c C tk => (me_call (clb_fnX C ((w_text_line_x T).mono (by decide)) tk T.F_text_line_x.kp (bd_text_line_x_1 T) .nil (fun _ _ _ => .nil) tb_ok) (by rfl) T.g_text_line_x (ma_cons (me_var 5) ma_nil)))) (me_tup (ma_cons (me_str [114, 101, 116, 117, 114, 110, 101, 100]) (ma_cons (me_blt (b_reprQ C) (by rfl) T.z_repr (by decide +kernel) (ma_cons (me_if (mt_cmp (o_ne C) (me_var 5) (me_str []) (nomark _)) (me_var 5) (me_str [45])) ma_nil)) ma_nil))) (nomark _)) (mss_cons (ms_ret me_bl) mss_nil) mss_nil) (mss_cons (ms_set 6 nd (me_ix C (me_lst (ma_cons me_non (ma_cons me_int (ma_cons me_int (ma_cons me_bl (ma_cons me_bl (ma_cons (me_tup ma_nil) (ma_cons (me_tup (ma_cons (me_str [97]) ma_nil)) (ma_cons (me_lst ma_nil) (ma_cons (me_lst (ma_cons (me_str [97, 98]) ma_nil)) (ma_cons me_dict0 (ma_cons (me_tup (ma_cons (me_var 5) ma_nil)) (ma_cons (me_lst (ma_cons (me_var 5) ma_nil)) ma_nil))))))))))))) (me_call (clb_fn C ((w__law_draw T).mono (by decide)) pass0 T.F__law_draw.kp (bd__law_draw_2 T) .nil (fun _ _ _ => .nil) tb_ok) (by rfl) T.g__law_draw (ma_cons (me_var 0) (ma_cons me_int ma_nil))))) (mss_cons (ms_if (mt_cmp (o_ne C) (me_lam (k := 3) (C.mono (by decide)) T.hex ((lamf__law_raised T).mono (by decide)) (by rfl) T.tb__law_right rfl T.hT__law_right T.hu__law_right (show LamX.LamS (defScope s__law_right) _ from LamX.lamS_by (by decide +kernel)) (by rfl) (by intros; rfl) (fun A outer s H E f c C tk => (me_call (clb_fnX C ((w_text_line_x T).mono (by decide)) tk T.F_text_line_x.kp (bd_text_line_x_1 T) .nil (fun _ _ _ => .nil) tb_ok) (by rfl) T.g_text_line_x (ma_cons (me_var 6) ma_nil)))) (me_tup (ma_cons (me_str [73, 110, 118, 97, 108, 105, 100, 84, 101, 120, 116]) (ma_cons (me_blt (b_reprQ C) (by rfl) T.z_repr (by decide +kernel) (ma_cons (me_var 6) ma_nil)) ma_nil))) (nomark _)) (mss_cons (ms_ret me_bl) mss_nil) mss_nil) mss_nil))))))) (mss_cons (ms_if (mt_cmp (o_ne C) (me_lc (EX2 := EXF) (own := [("_law_row", 5)]) (vs := [5]) (g := (Tg.nm 5)) C nd (mi_val C (me_lst (ma_cons (me_str []) (ma_cons (me_str [45]) (ma_cons (me_str [32]) (ma_cons (me_str [45, 45]) (ma_cons (me_str [110, 111, 110, 101]) ma_nil))))))) (by kernel_rfl) (fun _ _ _ _ _ => (pg_name nd rfl (by first | exact Or.inl rfl | exact Or.inr rfl))) (fun _ _ _ _ _ C => mts_nil) (fun _ _ _ _ _ C => (me_call (clb_fn C ((w_text_line T).mono (by decide)) pass0 T.F_text_line.kp (bd_text_line_1 T) .nil (fun _ _ _ => .nil) tb_ok) (by rfl) T.g_text_line (ma_cons (me_var 5) ma_nil)))) (me_lst (ma_cons (me_str [45]) (ma_cons (me_str [45]) (ma_cons (me_str [32]) (ma_cons (me_str [45, 45]) (ma_cons (me_str [110, 111, 110, 101]) ma_nil)))))) (nomark _)) (mss_cons (ms_ret me_bl) mss_nil) mss_nil) (mss_cons (ms_ret (me_cmp (o_eq C) (me_lam (k := 3) (C.mono (by decide)) T.hex ((lamf__law_raised T).mono (by decide)) (by rfl) T.tb__law_right rfl T.hT__law_right T.hu__law_right (show LamX.LamS (defScope s__law_right) _ from LamX.lamS_by (by decide +kernel)) (by rfl) (by intros; rfl) (fun A outer s H E f c C tk => (me_callK0 (clb_fnX C ((w_text_line_x T).mono (by decide)) tk T.F_text_line_x.kp (bd_text_line_x_0_text T) .nil (fun _ _ _ => .nil) tb_ok) (by rfl) T.g_text_line_x (mk_cons (me_str [97, 98]) mk_nil) 1))) (me_tup (ma_cons (me_str [114, 101, 116, 117, 114, 110, 101, 100]) (ma_cons (me_str [39, 97, 98, 39]) ma_nil))) (nomark _))) mss_nil)))

theorem w__law_well (T : Tx W w mg base) : FnM P W w mg base CX0 exF 2 T.a__law_well T.fd__law_well ["_law_script", "_law_k"] m__law_well := by
  refine fnm_of T.hW T.F__law_well sc__law_well fun cdv A outer s H E C => ?_
  have nd := sc__law_well.nd
  exact (mss_cons (ms_set 2 nd (me_if (mt_cmp o_lt (me_var 1) (me_blt (b_len C) (by rfl) T.z_len (by decide +kernel) (ma_cons (me_var 0) ma_nil)) (nomark _)) (me_ix C (me_var 0) (me_var 1)) (me_op (o_add C) (me_op (o_mul C) me_int (me_var 1)) me_int))) (mss_cons (ms_if (mt_cmp o_ge (me_var 1) (me_blt (b_len C) (by rfl) T.z_len (by decide +kernel) (ma_cons (me_var 0) ma_nil)) (nomark _)) (mss_cons (ms_for C (mi_val C (me_sl C (me_var 0) mo_none (mo_some me_int))) (mg_name 3 nd) (mss_cons (ms_set 2 nd (me_op o_mod (me_ty (b_int C) (by rfl) T.z_int (by decide +kernel) (ma_cons (me_op (o_add C) (me_op (o_mul C) (me_var 2) me_int) (me_var 3)) ma_nil)) me_int)) mss_nil)) mss_nil) mss_nil) (mss_cons (ms_set 4 nd (me_op o_mod (me_ty (b_int C) (by rfl) T.z_int (by decide +kernel) (ma_cons (me_op o_pow (me_op (o_add C) (me_op (o_add C) (me_op o_mod (me_ty (b_int C) (by rfl) T.z_int (by decide +kernel) (ma_cons (me_var 2) ma_nil)) me_int) (me_op (o_mul C) me_int (me_var 1))) me_int) me_int) ma_nil)) me_int)) (mss_cons (ms_set 5 nd (me_op o_mod (me_ty (b_int C) (by rfl) T.z_int (by decide +kernel) (ma_cons (me_op o_pow (me_op (o_add C) (me_op (o_add C) (me_op o_mod (me_ty (b_int C) (by rfl) T.z_int (by decide +kernel) (ma_cons (me_var 2) ma_nil)) me_int) (me_op (o_mul C) me_int (me_var 1))) me_int) me_int) ma_nil)) me_int)) (mss_cons (ms_set 6 nd (me_lst (ma_cons (me_var 4) (ma_cons (me_var 5) (ma_cons me_int ma_nil))))) (mss_cons (ms_for C (mi_rng1 (by rfl) T.z_range (ma_cons me_int ma_nil)) (mg_name 7 nd) (mss_cons (ms_expr (me_call (clb_fn C ((w__law_draw T).mono (by decide)) pass0 T.F__law_draw.kp (bd__law_draw_2 T) .nil (fun _ _ _ => .nil) tb_ok) (by rfl) T.g__law_draw (ma_cons (me_var 6) (ma_cons me_int ma_nil)))) mss_nil)) (mss_cons (ms_asg (me_if (mt_cmp o_ge (me_blt b_abs (by rfl) T.z_abs (by decide +kernel) (ma_cons (me_var 2) ma_nil)) (me_op o_pow me_int me_int) (nomark _)) (me_blt b_abs (by rfl) T.z_abs (by decide +kernel) (ma_cons (me_var 2) ma_nil)) me_int) (mg_sub p_setIx (me_var 6) me_int)) (mss_cons (ms_ret (me_var 6)) mss_nil))))))))

theorem w_law (T : Tx W w mg base) : FnM P W w mg base CX0 exF 7 T.a_law T.fd_law ["_law_script"] m_law := by
  refine fnm_of T.hW T.F_law sc_law fun cdv A outer s H E C => ?_
  have nd := sc_law.nd
  exact (mss_cons (ms_for C (mi_rng1 (by rfl) T.z_range (ma_cons (me_blt (b_max2 C) (by rfl) T.z_max (by decide +kernel) (ma_cons me_int (ma_cons (me_blt (b_min2 C) (by rfl) T.z_min (by decide +kernel) (ma_cons (me_blt (b_len C) (by rfl) T.z_len (by decide +kernel) (ma_cons (me_var 0) ma_nil)) (ma_cons me_int ma_nil))) ma_nil))) ma_nil)) (mg_name 1 nd) (mss_cons (ms_if (mt_not (mt_tru C (me_call (clb_fn C ((w__law_right T).mono (by decide)) pass0 T.F__law_right.kp (bd__law_right_1 T) .nil (fun _ _ _ => .nil) tb_ok) (by rfl) T.g__law_right (ma_cons (me_call (clb_fn C ((w__law_well T).mono (by decide)) pass0 T.F__law_well.kp (bd__law_well_2 T) .nil (fun _ _ _ => .nil) tb_ok) (by rfl) T.g__law_well (ma_cons (me_var 0) (ma_cons (me_var 1) ma_nil))) ma_nil)))) (mss_cons (ms_ret me_bl) mss_nil) mss_nil) mss_nil)) (mss_cons (ms_ret me_bl) mss_nil))

end
theorem all_mk {l : PySem.W.OpenLaw} {W : World} {K : PySem.W.Frag} {h : Heap} {mg : Str → Option Value} {fa : Addr} (KX : K.In h) (G : h.Ns mainGlobals mg) (hfa : mg "law" = some (.ref fa))
    {f0 : Addr} {od0 an0 : Option Addr} {sl0 : Array (Option Value)} {oc0 kV0 dc0 pm0 cd0 ct0 : Value}
    {f1 : Addr} {od1 an1 : Option Addr} {sl1 : Array (Option Value)} {oc1 kV1 dc1 pm1 cd1 ct1 : Value}
    {f2 : Addr} {od2 an2 : Option Addr} {sl2 : Array (Option Value)} {oc2 kV2 dc2 pm2 cd2 ct2 : Value}
    {f3 : Addr} {od3 an3 : Option Addr} {sl3 : Array (Option Value)} {oc3 kV3 dc3 pm3 cd3 ct3 : Value}
    {f4 : Addr} {od4 an4 : Option Addr} {sl4 : Array (Option Value)} {oc4 kV4 dc4 pm4 cd4 ct4 : Value}
    {f5 : Addr} {od5 an5 : Option Addr} {sl5 : Array (Option Value)} {oc5 kV5 dc5 pm5 cd5 ct5 : Value}
    {f6 : Addr} {od6 an6 : Option Addr} {sl6 : Array (Option Value)} {oc6 kV6 dc6 pm6 ct6 : Value}
    {cc6 PP6 : Addr} {odc6 : Option Addr} {vsc6 : Array Value} {slc6 : Array (Option Value)}
    {f7 : Addr} {od7 an7 : Option Addr} {sl7 : Array (Option Value)} {oc7 kV7 dc7 pm7 cd7 ct7 : Value}
    {f8 : Addr} {od8 an8 : Option Addr} {sl8 : Array (Option Value)} {oc8 kV8 dc8 pm8 cd8 ct8 : Value}
    {C8 : Addr}
    {C9 : Addr}
    {C10 : Addr}
    {C13 : Addr}
    {C12 : Addr}
    {C11 : Addr}
    {C16 : Addr}
    {C15 : Addr}
    {C14 : Addr}
    {C19 : Addr}
    {C18 : Addr}
    {C17 : Addr}
    {C22 : Addr}
    {C21 : Addr}
    {C20 : Addr}
    {C25 : Addr}
    {C24 : Addr}
    {C23 : Addr}
    {C26 : Addr}
    {xI13 : Addr} {xod13 xan13 : Option Addr} {xsl13 : Array (Option Value)} {xoc13 xkV13 xdc13 xpm13 xcd13 xct13 : Value} {xnm13 xq13 : Str} {xN13 : Addr} {xbs13 xbm13 : List Value} {xsn13 : List Str} {xsub13 : List Value} {xab13 : Bool} {xcol13 : Option Bool} {xdd13 : Option Addr} {xk013 xk113 xk213 xk313 xk513 : Option Value}
    (aC8 : PySem.W.nsIn K mainGlobals "InputError" = some (some (.ref C8)))
    (aC9 : PySem.W.nsIn K mainGlobals "StateError" = some (some (.ref C9)))
    (aC10 : PySem.W.nsIn K mainGlobals "SizeError" = some (some (.ref C10)))
    (aC13 : PySem.W.nsIn K mainGlobals "InvalidText" = some (some (.ref C13)))
    (aC12 : PySem.W.nsIn K mainGlobals "NotADesk" = some (some (.ref C12)))
    (aC11 : PySem.W.nsIn K mainGlobals "NotAMachine" = some (some (.ref C11)))
    (aC16 : PySem.W.nsIn K mainGlobals "InvalidStand" = some (some (.ref C16)))
    (aC15 : PySem.W.nsIn K mainGlobals "InvalidLetter" = some (some (.ref C15)))
    (aC14 : PySem.W.nsIn K mainGlobals "InvalidCount" = some (some (.ref C14)))
    (aC19 : PySem.W.nsIn K mainGlobals "InvalidArrows" = some (some (.ref C19)))
    (aC18 : PySem.W.nsIn K mainGlobals "InvalidLine" = some (some (.ref C18)))
    (aC17 : PySem.W.nsIn K mainGlobals "InvalidWord" = some (some (.ref C17)))
    (aC22 : PySem.W.nsIn K mainGlobals "InvalidTexts" = some (some (.ref C22)))
    (aC21 : PySem.W.nsIn K mainGlobals "InvalidBook" = some (some (.ref C21)))
    (aC20 : PySem.W.nsIn K mainGlobals "InvalidEnds" = some (some (.ref C20)))
    (aC25 : PySem.W.nsIn K mainGlobals "Busy" = some (some (.ref C25)))
    (aC24 : PySem.W.nsIn K mainGlobals "NothingToUndo" = some (some (.ref C24)))
    (aC23 : PySem.W.nsIn K mainGlobals "InvalidDeeds" = some (some (.ref C23)))
    (aC26 : PySem.W.nsIn K mainGlobals "TooMany" = some (some (.ref C26)))
    (xia13 : PySem.W.findIn K (.ref C13) "__init__" = some (some (.ref xI13)))
    (xib13 : PySem.W.typeIn K (.ref xI13) = some (.type "function"))
    (xic13 : K.lookup xI13 = some ⟨xoc13, xod13, .func (PySem.W.fnOf "__init__" "InvalidText.__init__" (defArgs s_InvalidText_init) (defBody s_InvalidText_init) (defScope s_InvalidText_init) .none xkV13 xdc13 xpm13 xan13 xcd13 xct13), xsl13⟩)
    (xid13 : PySem.W.codeIn K xcd13 "InvalidText.__init__" = true)
    (xie13 : PySem.W.keepIn K (.ref xI13) = true)
    (xif13 : K.lookup C13 = some (excClassObj xnm13 xq13 C13 xN13 xbs13 xbm13 true xsn13 xsub13 xab13 xcol13 xdd13 xk013 xk113 xk213 xk313 xk513 "ValueError.__new__"))
    (xig13 : PySem.HandSPX.refsVE xbm13 = true)
    (xih13 : PySem.W.findIn K (.ref C13) "__setattr__" = some (some (.builtin "object.__setattr__")))
    (xij13 : PySem.W.subIn K (.ref C13) (.type "BaseException") = some true)
    (xik13 : PySem.W.typeIn K (.ref C13) = some (.type "type"))
    (xil13 : PySem.W.keepIn K (.ref C13) = true)
    (hxn_InvalidText : PySem.W.findIn K (.ref C13) "value" = some none)
    (hxga_InvalidText : PySem.W.findIn K (.ref C13) "__getattribute__" = some (some (.builtin "BaseException.__getattribute__")))
    (hxgg_InvalidText : PySem.W.findIn K (.ref C13) "__getattr__" = some none)
    (hxs_InvalidText : PySem.W.subIn K (.ref C13) (.type "BaseException") = some true)
    (hxhd_InvalidText : PySem.W.hasDictIn K C13 = true)
    (hxha_InvalidText : PySem.W.findIn K (.ref C13) "__class__" = some (some (.builtin "object.__class__")))
    (hxhm_InvalidText : PySem.W.mroIn K C13 (.type "object") = some true)
    (hxhn : PySem.W.specialIn K (.builtin "object.__class__") "__get__" = some (some (.builtin "getset_descriptor.__get__")))
    (hxht : PySem.W.takesIn K (.builtin "object.__class__") = some true)
    (hxiz_InvalidText_NotADesk : PySem.W.kitOne K (.ref C13) (.ref C12) = some false)
    (hxiz_InvalidText_NotAMachine : PySem.W.kitOne K (.ref C13) (.ref C11) = some false)
    (hxiz_InvalidText_InvalidStand : PySem.W.kitOne K (.ref C13) (.ref C16) = some false)
    (hxiz_InvalidText_InvalidLetter : PySem.W.kitOne K (.ref C13) (.ref C15) = some false)
    (hxiz_InvalidText_InvalidCount : PySem.W.kitOne K (.ref C13) (.ref C14) = some false)
    (hxiz_InvalidText_InvalidArrows : PySem.W.kitOne K (.ref C13) (.ref C19) = some false)
    (hxiz_InvalidText_InvalidLine : PySem.W.kitOne K (.ref C13) (.ref C18) = some false)
    (hxiz_InvalidText_InvalidWord : PySem.W.kitOne K (.ref C13) (.ref C17) = some false)
    (hxiz_InvalidText_InvalidTexts : PySem.W.kitOne K (.ref C13) (.ref C22) = some false)
    (hxiz_InvalidText_InvalidBook : PySem.W.kitOne K (.ref C13) (.ref C21) = some false)
    (hxiz_InvalidText_InvalidEnds : PySem.W.kitOne K (.ref C13) (.ref C20) = some false)
    (hxiz_InvalidText_Busy : PySem.W.kitOne K (.ref C13) (.ref C25) = some false)
    (hxiz_InvalidText_NothingToUndo : PySem.W.kitOne K (.ref C13) (.ref C24) = some false)
    (hxiz_InvalidText_InvalidDeeds : PySem.W.kitOne K (.ref C13) (.ref C23) = some false)
    (hxiz_InvalidText_TooMany : PySem.W.kitOne K (.ref C13) (.ref C26) = some false)
    (hxiz_InvalidText_SizeError : PySem.W.kitOne K (.ref C13) (.ref C10) = some false)
    (hxiz_InvalidText_StateError : PySem.W.kitOne K (.ref C13) (.ref C9) = some false)
    (hxiz_InvalidText_InputError : PySem.W.kitOne K (.ref C13) (.ref C8) = some true)
    (hxiz_InvalidText_ArithmeticError : PySem.W.subIn K (.ref C13) (.type "ArithmeticError") = some false)
    (hxiz_InvalidText_LookupError : PySem.W.subIn K (.ref C13) (.type "LookupError") = some false)
    (hxiz_InvalidText_ValueError : PySem.W.subIn K (.ref C13) (.type "ValueError") = some true)
    (hxe_InvalidText_InputError : PySem.W.exmOne K (.ref C13) (.ref C8) = some true)
    (hxe_InvalidText_StateError : PySem.W.exmOne K (.ref C13) (.ref C9) = some false)
    (hxe_InvalidText_SizeError : PySem.W.exmOne K (.ref C13) (.ref C10) = some false)
    (a0 : PySem.W.nsIn K mainGlobals "_law_draw" = some (some (.ref f0)))
    (l0 : K.lookup f0 = some ⟨oc0, od0, .func (PySem.W.fnOf "_law_draw" "_law_draw" (defArgs s__law_draw) (defBody s__law_draw) (defScope s__law_draw) .none kV0 dc0 pm0 an0 cd0 ct0), sl0⟩)
    (e0 : PySem.W.codeIn K cd0 "_law_draw" = true)
    (k0 : PySem.W.keepIn K (.ref f0) = true)
    (a1 : PySem.W.nsIn K mainGlobals "_law_flags" = some (some (.ref f1)))
    (l1 : K.lookup f1 = some ⟨oc1, od1, .func (PySem.W.fnOf "_law_flags" "_law_flags" (defArgs s__law_flags_h) (defBody s__law_flags_h) (defScope s__law_flags_h) .none kV1 dc1 pm1 an1 cd1 ct1), sl1⟩)
    (e1 : PySem.W.codeIn K cd1 "_law_flags" = true)
    (k1 : PySem.W.keepIn K (.ref f1) = true)
    (a2 : PySem.W.nsIn K mainGlobals "_law_error" = some (some (.ref f2)))
    (l2 : K.lookup f2 = some ⟨oc2, od2, .func (PySem.W.fnOf "_law_error" "_law_error" (defArgs s__law_error_h) (defBody s__law_error_h) (defScope s__law_error_h) .none kV2 dc2 pm2 an2 cd2 ct2), sl2⟩)
    (e2 : PySem.W.codeIn K cd2 "_law_error" = true)
    (k2 : PySem.W.keepIn K (.ref f2) = true)
    (a3 : PySem.W.nsIn K mainGlobals "_law_raised" = some (some (.ref f3)))
    (l3 : K.lookup f3 = some ⟨oc3, od3, .func (PySem.W.fnOf "_law_raised" "_law_raised" (defArgs s__law_raised) (defBody s__law_raised) (defScope s__law_raised) .none kV3 dc3 pm3 an3 cd3 ct3), sl3⟩)
    (e3 : PySem.W.codeIn K cd3 "_law_raised" = true)
    (k3 : PySem.W.keepIn K (.ref f3) = true)
    (a4 : PySem.W.nsIn K mainGlobals "text_line" = some (some (.ref f4)))
    (l4 : K.lookup f4 = some ⟨oc4, od4, .func (PySem.W.fnOf "text_line" "text_line" (defArgs s_text_line_x) (defBody s_text_line_x) (defScope s_text_line_x) .none kV4 dc4 pm4 an4 cd4 ct4), sl4⟩)
    (e4 : PySem.W.codeIn K cd4 "text_line" = true)
    (k4 : PySem.W.keepIn K (.ref f4) = true)
    (a5 : PySem.W.nsIn K mainGlobals "text_line" = some (some (.ref f5)))
    (l5 : K.lookup f5 = some ⟨oc5, od5, .func (PySem.W.fnOf "text_line" "text_line" (defArgs s_text_line) (defBody s_text_line) (defScope s_text_line) .none kV5 dc5 pm5 an5 cd5 ct5), sl5⟩)
    (e5 : PySem.W.codeIn K cd5 "text_line" = true)
    (k5 : PySem.W.keepIn K (.ref f5) = true)
    (a6 : PySem.W.nsIn K mainGlobals "_law_right" = some (some (.ref f6)))
    (l6 : K.lookup f6 = some ⟨oc6, od6, .func (PySem.W.fnOf "_law_right" "_law_right" (defArgs s__law_right) (defBody s__law_right) (defScope s__law_right) .none kV6 dc6 pm6 an6 (.ref cc6) ct6), sl6⟩)
    (e6 : PySem.W.codeIn K (.ref cc6) "_law_right" = true)
    (k6 : PySem.W.keepIn K (.ref f6) = true)
    (lc6 : K.lookup cc6 = some ⟨.type "code", odc6, .fields vsc6, slc6⟩)
    (lp6 : vsc6[11]? = some (.ref PP6))
    (lt6 : K.lookup PP6 = none)
    (lh6 : PySem.W.codeHdIn K cc6 PP6 = true)
    (lg6 : h.get? PP6 = some (PySem.W.tabObj #[]))
    (a7 : PySem.W.nsIn K mainGlobals "_law_well" = some (some (.ref f7)))
    (l7 : K.lookup f7 = some ⟨oc7, od7, .func (PySem.W.fnOf "_law_well" "_law_well" (defArgs s__law_well) (defBody s__law_well) (defScope s__law_well) .none kV7 dc7 pm7 an7 cd7 ct7), sl7⟩)
    (e7 : PySem.W.codeIn K cd7 "_law_well" = true)
    (k7 : PySem.W.keepIn K (.ref f7) = true)
    (a8 : PySem.W.nsIn K mainGlobals "law" = some (some (.ref f8)))
    (l8 : K.lookup f8 = some ⟨oc8, od8, .func (PySem.W.fnOf "law" "law" (defArgs s_law) (defBody s_law) (defScope s_law) .none kV8 dc8 pm8 an8 cd8 ct8), sl8⟩)
    (e8 : PySem.W.codeIn K cd8 "law" = true)
    (k8 : PySem.W.keepIn K (.ref f8) = true)
    (z_ArithmeticError : PySem.W.nsIn K mainGlobals "ArithmeticError" = some none)
    (z_LookupError : PySem.W.nsIn K mainGlobals "LookupError" = some none)
    (z_ValueError : PySem.W.nsIn K mainGlobals "ValueError" = some none)
    (z_abs : PySem.W.nsIn K mainGlobals "abs" = some none)
    (z_divmod : PySem.W.nsIn K mainGlobals "divmod" = some none)
    (z_int : PySem.W.nsIn K mainGlobals "int" = some none)
    (z_isinstance : PySem.W.nsIn K mainGlobals "isinstance" = some none)
    (z_len : PySem.W.nsIn K mainGlobals "len" = some none)
    (z_max : PySem.W.nsIn K mainGlobals "max" = some none)
    (z_min : PySem.W.nsIn K mainGlobals "min" = some none)
    (z_range : PySem.W.nsIn K mainGlobals "range" = some none)
    (z_repr : PySem.W.nsIn K mainGlobals "repr" = some none)
    (z_str : PySem.W.nsIn K mainGlobals "str" = some none)
    : ∃ (fd : FuncData) (cs : List (Addr × Addr)), (∀ (s : Shared) (v : Value), BindsTo s fd ⟨[v], []⟩ [("_law_script", v)]) ∧ (∀ p ∈ cs, h.get? p.2 = some (PySem.W.tabObj #[]) ∧ K.lookup p.2 = none ∧ PySem.W.codeHdIn K p.1 p.2 = true) ∧ ∀ base : Heap, K.In base → base.Ns mainGlobals mg → (∀ p ∈ cs, LamX.TabB base mg p.1 p.2) → ∃ w : Wo, w.K = K ∧ (∀ p ∈ w.T, p.1 ∈ cs.map (·.2)) ∧ FnM l.prog W w mg base CX0 exF 7 fa fd ["_law_script"] m_law := by
  cases hfa.symm.trans (PySem.W.mg_of KX G a8)
  refine ⟨PySem.W.fnOf "law" "law" (defArgs s_law) (defBody s_law) (defScope s_law) .none kV8 dc8 pm8 an8 cd8 ct8, [(cc6, PP6)], fun s v => .of_eq rfl, fun p hp => ?_, fun base _ _ hTB => ?_⟩
  · simp only [List.mem_cons, List.not_mem_nil, or_false] at hp
    rcases hp with rfl
    · exact ⟨lg6, lt6, lh6⟩
  let T : Tx W { K := K, cl := fun c => if c = 13 then some C13 else none, gv := gvOf [], W := W, T := [(PP6, lamQ "_law_right")] } mg base := {
    hex := rfl
    lc__law_right := cc6
    lP__law_right := PP6
    FC__law_right := func_mk (st := s__law_right) l6 e6 k6
    tb__law_right := hTB (cc6, PP6) (by simp)
    hT__law_right := by simp
    hu__law_right := by simp
    xI_InvalidText := xI13
    xfd_InvalidText := _
    xF_InvalidText := fun_mk (st := s_InvalidText_init) xic13 xid13 xie13
    xi_InvalidText := xia13
    xt_InvalidText := xib13
    xo_InvalidText := ⟨⟨_, _, _, _, _, _, _, _, _, _, _, _, _, _, _, xif13, xig13⟩, xih13, xij13, xik13, xil13⟩
    xn_InvalidText := hxn_InvalidText
    xga_InvalidText := hxga_InvalidText
    xgg_InvalidText := hxgg_InvalidText
    xs_InvalidText := hxs_InvalidText
    xhd_InvalidText := hxhd_InvalidText
    xha_InvalidText := hxha_InvalidText
    xhm_InvalidText := hxhm_InvalidText
    xhn := hxhn
    xht := hxht
    xiz_InvalidText_NotADesk := hxiz_InvalidText_NotADesk
    xiz_InvalidText_NotAMachine := hxiz_InvalidText_NotAMachine
    xiz_InvalidText_InvalidStand := hxiz_InvalidText_InvalidStand
    xiz_InvalidText_InvalidLetter := hxiz_InvalidText_InvalidLetter
    xiz_InvalidText_InvalidCount := hxiz_InvalidText_InvalidCount
    xiz_InvalidText_InvalidArrows := hxiz_InvalidText_InvalidArrows
    xiz_InvalidText_InvalidLine := hxiz_InvalidText_InvalidLine
    xiz_InvalidText_InvalidWord := hxiz_InvalidText_InvalidWord
    xiz_InvalidText_InvalidTexts := hxiz_InvalidText_InvalidTexts
    xiz_InvalidText_InvalidBook := hxiz_InvalidText_InvalidBook
    xiz_InvalidText_InvalidEnds := hxiz_InvalidText_InvalidEnds
    xiz_InvalidText_Busy := hxiz_InvalidText_Busy
    xiz_InvalidText_NothingToUndo := hxiz_InvalidText_NothingToUndo
    xiz_InvalidText_InvalidDeeds := hxiz_InvalidText_InvalidDeeds
    xiz_InvalidText_TooMany := hxiz_InvalidText_TooMany
    xiz_InvalidText_SizeError := hxiz_InvalidText_SizeError
    xiz_InvalidText_StateError := hxiz_InvalidText_StateError
    xiz_InvalidText_InputError := hxiz_InvalidText_InputError
    xiz_InvalidText_ArithmeticError := hxiz_InvalidText_ArithmeticError
    xiz_InvalidText_LookupError := hxiz_InvalidText_LookupError
    xiz_InvalidText_ValueError := hxiz_InvalidText_ValueError
    xe_InvalidText_InputError := hxe_InvalidText_InputError
    xe_InvalidText_StateError := hxe_InvalidText_StateError
    xe_InvalidText_SizeError := hxe_InvalidText_SizeError
    n_InvalidText := rfl
    hW := rfl
    gvn := gvn_of (l := [])
    nn_Machine := rfl
    nn_Desk := rfl
    nn_Console := rfl
    nn_Kept := rfl
    nn_Trial := rfl
    nn_Run := rfl
    nn_Paths := rfl
    nn_Readings := rfl
    nn_InputError := rfl
    nn_StateError := rfl
    nn_SizeError := rfl
    nn_NotAMachine := rfl
    nn_NotADesk := rfl
    nn_InvalidCount := rfl
    nn_InvalidLetter := rfl
    nn_InvalidStand := rfl
    nn_InvalidWord := rfl
    nn_InvalidLine := rfl
    nn_InvalidArrows := rfl
    nn_InvalidEnds := rfl
    nn_InvalidBook := rfl
    nn_InvalidTexts := rfl
    nn_InvalidDeeds := rfl
    nn_NothingToUndo := rfl
    nn_Busy := rfl
    nn_TooMany := rfl
    a__law_draw := f0
    fd__law_draw := _
    F__law_draw := fun_mk (st := s__law_draw) l0 e0 k0
    g__law_draw := PySem.W.mg_of KX G a0
    a__law_flags_h := f1
    fd__law_flags_h := _
    F__law_flags_h := fun_mk (st := s__law_flags_h) l1 e1 k1
    g__law_flags_h := PySem.W.mg_of KX G a1
    a__law_error_h := f2
    fd__law_error_h := _
    F__law_error_h := fun_mk (st := s__law_error_h) l2 e2 k2
    g__law_error_h := PySem.W.mg_of KX G a2
    a__law_raised := f3
    fd__law_raised := _
    F__law_raised := fun_mk (st := s__law_raised) l3 e3 k3
    g__law_raised := PySem.W.mg_of KX G a3
    a_text_line_x := f4
    fd_text_line_x := _
    F_text_line_x := fun_mk (st := s_text_line_x) l4 e4 k4
    g_text_line_x := PySem.W.mg_of KX G a4
    a_text_line := f5
    fd_text_line := _
    F_text_line := fun_mk (st := s_text_line) l5 e5 k5
    g_text_line := PySem.W.mg_of KX G a5
    a__law_right := f6
    fd__law_right := _
    F__law_right := fun_mk (st := s__law_right) l6 e6 k6
    g__law_right := PySem.W.mg_of KX G a6
    a__law_well := f7
    fd__law_well := _
    F__law_well := fun_mk (st := s__law_well) l7 e7 k7
    g__law_well := PySem.W.mg_of KX G a7
    a_law := fa
    fd_law := _
    F_law := fun_mk (st := s_law) l8 e8 k8
    g_law := PySem.W.mg_of KX G a8
    c_InputError := C8
    g_InputError := PySem.W.mg_of KX G aC8
    c_StateError := C9
    g_StateError := PySem.W.mg_of KX G aC9
    c_SizeError := C10
    g_SizeError := PySem.W.mg_of KX G aC10
    c_InvalidText := C13
    g_InvalidText := PySem.W.mg_of KX G aC13
    c_NotADesk := C12
    g_NotADesk := PySem.W.mg_of KX G aC12
    c_NotAMachine := C11
    g_NotAMachine := PySem.W.mg_of KX G aC11
    c_InvalidStand := C16
    g_InvalidStand := PySem.W.mg_of KX G aC16
    c_InvalidLetter := C15
    g_InvalidLetter := PySem.W.mg_of KX G aC15
    c_InvalidCount := C14
    g_InvalidCount := PySem.W.mg_of KX G aC14
    c_InvalidArrows := C19
    g_InvalidArrows := PySem.W.mg_of KX G aC19
    c_InvalidLine := C18
    g_InvalidLine := PySem.W.mg_of KX G aC18
    c_InvalidWord := C17
    g_InvalidWord := PySem.W.mg_of KX G aC17
    c_InvalidTexts := C22
    g_InvalidTexts := PySem.W.mg_of KX G aC22
    c_InvalidBook := C21
    g_InvalidBook := PySem.W.mg_of KX G aC21
    c_InvalidEnds := C20
    g_InvalidEnds := PySem.W.mg_of KX G aC20
    c_Busy := C25
    g_Busy := PySem.W.mg_of KX G aC25
    c_NothingToUndo := C24
    g_NothingToUndo := PySem.W.mg_of KX G aC24
    c_InvalidDeeds := C23
    g_InvalidDeeds := PySem.W.mg_of KX G aC23
    c_TooMany := C26
    g_TooMany := PySem.W.mg_of KX G aC26
    z_ArithmeticError := PySem.W.mg_none_of KX G z_ArithmeticError
    z_LookupError := PySem.W.mg_none_of KX G z_LookupError
    z_ValueError := PySem.W.mg_none_of KX G z_ValueError
    z_abs := PySem.W.mg_none_of KX G z_abs
    z_divmod := PySem.W.mg_none_of KX G z_divmod
    z_int := PySem.W.mg_none_of KX G z_int
    z_isinstance := PySem.W.mg_none_of KX G z_isinstance
    z_len := PySem.W.mg_none_of KX G z_len
    z_max := PySem.W.mg_none_of KX G z_max
    z_min := PySem.W.mg_none_of KX G z_min
    z_range := PySem.W.mg_none_of KX G z_range
    z_repr := PySem.W.mg_none_of KX G z_repr
    z_str := PySem.W.mg_none_of KX G z_str
  }
  exact ⟨_, rfl, by simp, w_law T⟩
end K80

end
section
set_option maxRecDepth 100000
set_option maxHeartbeats 4000000
namespace MC
open PySem L2

theorem nd {α : Sort _} {a b : α} (e : a = b) : a = b := e
/-- so that simp leaves Q alone -/
inductive Dm {α : Type} (Q : α → PH → Prop) : Type where
  | mk
/-- it ends well, and with Q -/
def Ws {α : Type} (r : R α) (Q : α → PH → Prop) (_ : Dm Q := .mk) : Prop := ∃ a h, r = .ok a h ∧ Q a h
/-- one of two, both left alone by simp -/
@[reducible] def RS {β : Type} (_ _ : R β) : Type := R β
def sel {β : Type} (c : Bool) (a b : R β) : RS a b := bif c then a else b
@[simp] theorem sel_true {β : Type} {a b : R β} : sel true a b = a := nd rfl
@[simp] theorem sel_false {β : Type} {a b : R β} : sel false a b = b := nd rfl
theorem Ws.bind {α β : Type} {r : R α} {f : α → PH → R β} {P : α → PH → Prop} {Q : β → PH → Prop} (w : Ws r P) (i : ∀ a h, P a h → Ws (f a h) Q) : Ws (r.bind f) Q := by
  obtain ⟨a, h, e, p⟩ := w
  rw [e]
  exact i a h p
theorem Ws.mono {α : Type} {r : R α} {P Q : α → PH → Prop} (w : Ws r P) (i : ∀ a h, P a h → Q a h) : Ws r Q := by
  obtain ⟨a, h, e, p⟩ := w
  exact ⟨a, h, e, i a h p⟩
@[simp] theorem Ws_ok {α : Type} {a : α} {h : PH} {Q : α → PH → Prop} : Ws (.ok a h) Q ↔ Q a h :=
  ⟨fun ⟨_, _, e, q⟩ => by cases e; exact q, fun q => ⟨a, h, rfl, q⟩⟩
@[simp] theorem Ws_stuck {α : Type} {Q : α → PH → Prop} : Ws (.stuck : R α) Q ↔ False := ⟨fun ⟨_, _, e, _⟩ => (by cases e), False.elim⟩
theorem Ws.eq {α : Type} {r : R α} {a : α} {h : PH} {Q : α → PH → Prop} (e : r = .ok a h) (q : Q a h) : Ws r Q := ⟨a, h, e, q⟩

section
variable {α β : Type} {env : En} {h : PH} {x : PV} {xs : List PV}
@[simp] theorem bind_ok {a : α} {f : α → PH → R β} : (R.ok a h).bind f = f a h := nd rfl
@[simp] theorem bind_st {f : α → PH → R β} : (R.stuck : R α).bind f = .stuck := nd rfl
@[simp] theorem noX_ok {a : α} : noX (R.ok a h) = .ok a h := nd rfl
@[simp] theorem e_nil : mNil env h = .ok (.nx env) h := nd rfl
@[simp] theorem e_seq {a b : MS} : mSeq a b env h = (a env h).bind fun f h1 => match f with
  | .nx e => b e h1
  | .rt v => .ok (.rt v) h1
  | .bk e => .ok (.bk e) h1
  | .ct e => .ok (.ct e) h1 := nd rfl
@[simp] theorem e_set {i : Nat} {m : ME} : mSet i m env h = (m env h).bind fun x h1 => .ok (.nx (env.set i (some x))) h1 := nd rfl
@[simp] theorem e_drop {m : ME} : mDrop m env h = (m env h).bind fun _ h1 => .ok (.nx env) h1 := nd rfl
@[simp] theorem e_ret {m : ME} : mRet m env h = (m env h).bind fun x h1 => .ok (.rt x) h1 := nd rfl
@[simp] theorem e_retN : mRetN env h = .ok (.rt .non) h := nd rfl
@[simp] theorem e_ifS {t : MT} {a b : MS} : mIfS t a b env h = (t env h).bind fun c h1 => sel c (a env h1) (b env h1) := nd rfl
@[simp] theorem e_break : mBreak env h = .ok (.bk env) h := nd rfl
@[simp] theorem e_cont : mCont env h = .ok (.ct env) h := nd rfl
@[simp] theorem e_asg {m : ME} {g : MG} : mAsg m g env h = (m env h).bind fun x h1 => (g x env h1).bind fun e h2 => .ok (.nx e) h2 := nd rfl
@[simp] theorem e_gname {i : Nat} : gName' i x env h = .ok (env.set i (some x)) h := nd rfl
@[simp] theorem e_gsnil : gsNil [] env h = .ok env h := nd rfl
@[simp] theorem e_gscons {g : MG} {gs : MGs} : gsCons g gs (x :: xs) env h = (g x env h).bind fun e h1 => gs xs e h1 := nd rfl
@[simp] theorem e_gtup {n : Nat} {gs : MGs} : gTup' n gs (.tup xs) env h = sel (xs.length == n) (gs xs env h) .stuck := nd rfl
@[simp] theorem e_par {i j : Nat} {ma mb : ME} : mPar i j ma mb env h = (ma env h).bind fun x h1 => (mb env h1).bind fun y h2 => .ok (.nx ((env.set i (some x)).set j (some y))) h2 := nd rfl
@[simp] theorem e_par3 {i j l : Nat} {ma mb mc : ME} : mPar3 i j l ma mb mc env h = (ma env h).bind fun x h1 => (mb env h1).bind fun y h2 => (mc env h2).bind fun z h3 => .ok (.nx (((env.set i (some x)).set j (some y)).set l (some z))) h3 := nd rfl
@[simp] theorem e_fun {n : Nat} {b : MS} : mFun n b xs h = (b (xs.map some ++ List.replicate (n - xs.length) none) h).bind fun f h1 => match f with
  | .nx _ => .ok .non h1
  | .rt v => .ok v h1
  | _ => .stuck := nd rfl
@[simp] theorem e_var {i : Nat} : mVar i env h = match env[i]? with
  | some (some x) => .ok x h
  | _ => .stuck := nd rfl
@[simp] theorem e_c : mC x env h = .ok x h := nd rfl
@[simp] theorem e_manil : maNil env h = .ok [] h := nd rfl
@[simp] theorem e_macons {m : ME} {ms : MA} : maCons m ms env h = (m env h).bind fun x h1 => (ms env h1).bind fun xs h2 => .ok (x :: xs) h2 := nd rfl
@[simp] theorem e_tup {ms : MA} : mTup ms env h = (ms env h).bind fun xs h1 => if xs.length ≤ LIM then .ok (.tup xs) h1 else .stuck := nd rfl
@[simp] theorem e_lst {ms : MA} : mLst ms env h = (ms env h).bind fun xs h1 => if xs.length ≤ LIM then .ok (.ref h1.length) (h1 ++ [.lst xs]) else .stuck := nd rfl
@[simp] theorem e_op {op : O2} {ma mb : ME} : mOp op ma mb env h = (ma env h).bind fun x h1 => (mb env h1).bind fun y h2 => op h2 x y := nd rfl
@[simp] theorem e_un {op : O1} {ma : ME} : mUn op ma env h = (ma env h).bind fun x h1 => op h1 x := nd rfl
@[simp] theorem e_tb {m : ME} : mTB m env h = asB (m env h) := nd rfl
@[simp] theorem e_asb {r : R PV} : asB r = r.bind fun x h => match x with
  | .bl b => .ok b h
  | _ => .stuck := nd rfl
@[simp] theorem e_tru {m : ME} : mTru m env h = (m env h).bind fun x h1 => match truth h1 x with
  | some b => .ok b h1
  | none => .stuck := nd rfl
@[simp] theorem e_and {a b : MT} : mAnd a b env h = (a env h).bind fun c h1 => sel c (b env h1) (.ok false h1) := nd rfl
@[simp] theorem e_or {a b : MT} : mOr a b env h = (a env h).bind fun c h1 => sel c (.ok true h1) (b env h1) := nd rfl
@[simp] theorem e_not {a : MT} : mNot a env h = (a env h).bind fun c h1 => .ok (!c) h1 := nd rfl
@[simp] theorem e_if {t : MT} {a b : ME} : mIf t a b env h = (t env h).bind fun c h1 => sel c (a env h1) (b env h1) := nd rfl
@[simp] theorem e_andV {a b : ME} : mAndV a b env h = (a env h).bind fun x h1 => match x with
  | .bl c => sel c (b env h1) (.ok (.bl false) h1)
  | _ => .stuck := nd rfl
@[simp] theorem e_orV {a b : ME} : mOrV a b env h = (a env h).bind fun x h1 => match x with
  | .bl c => sel c (.ok (.bl true) h1) (b env h1)
  | _ => .stuck := nd rfl
@[simp] theorem e_notV {a : ME} : mNotV a env h = (a env h).bind fun x h1 => match x with
  | .bl c => .ok (.bl (!c)) h1
  | _ => .stuck := nd rfl
@[simp] theorem e_ch {f g : O2} {ma mb mc : ME} : mCh f g ma mb mc env h = (ma env h).bind fun x h1 => (mb env h1).bind fun y h2 => (f h2 x y).bind fun z h3 => match z with
  | .bl true => (mc env h3).bind fun u h4 => g h4 y u
  | .bl false => .ok (.bl false) h3
  | _ => .stuck := nd rfl
@[simp] theorem e_cl0 {op : OC} {n : Nat} {ma : MA} : mCl0 op n ma env h = (ma env h).bind fun xs h1 => sel (xs.length == n) (op h1 xs) .stuck := nd rfl
@[simp] theorem e_cl {op : OC} {n j : Nat} {ma mk : MA} : mCl op n j ma mk env h = (ma env h).bind fun xs h1 => (mk env h1).bind fun ys h2 => sel (xs.length == n && ys.length == j) (op h2 (xs ++ ys)) .stuck := nd rfl
@[simp] theorem e_bt {op : OC} {ma : MA} : mBt op ma env h = (ma env h).bind fun xs h1 => op h1 xs := nd rfl
@[simp] theorem e_bm {ty : Nat} {op : OC} {mo : ME} {ma : MA} : mBM ty op mo ma env h = (mo env h).bind fun x h1 => sel (isTy h1 ty x) ((ma env h1).bind fun xs h2 => op h2 (x :: xs)) .stuck := nd rfl
@[simp] theorem e_opF {m : MF} {ix : List Nat} {dp : List PV} : opF m ix dp h xs = callG takeBack m (gI ix (xs ++ dp)) h := nd rfl
@[simp] theorem e_opC {c : Nat} {m : MF} {ix : List Nat} {dp : List PV} : opC c m ix dp h xs = callG takeFrz (initM c m ix dp) xs h := nd rfl
@[simp] theorem e_sl {m : ME} {l u : MO} : mSl m l u env h = (m env h).bind fun x h1 => (l env h1).bind fun lo h2 => (u env h2).bind fun hi h3 => opSl h3 x lo hi := nd rfl
@[simp] theorem e_monone : moNone env h = .ok none h := nd rfl
@[simp] theorem e_mosome {m : ME} : moSome m env h = (m env h).bind fun x h1 => match x with
  | .int i => .ok (some i) h1
  | _ => .stuck := nd rfl
@[simp] theorem e_for {mi : MI} {g : MG} {b : MS} : mFor mi g b env h = (mi env h).bind fun p h1 => forL g b p.2 p.1 env h1 := nd rfl
@[simp] theorem e_miV {m : ME} : miV m env h = (m env h).bind fun x h1 => match srcV h1 x with
  | some p => .ok p h1
  | none => srcD h1 x := nd rfl
@[simp] theorem e_rng1 {ma : MA} : miRng1 ma env h = (ma env h).bind fun xs h1 => match xs with
  | [.int j] => bif inR j then .ok (seqI 0 j.toNat, []) h1 else .stuck
  | _ => .stuck := nd rfl
@[simp] theorem e_enum {ma : MA} : miEnum ma env h = (ma env h).bind fun xs h1 => match xs with
  | [x] => match seqP h1 x with
    | some ys => .ok (numbered 0 ys, wtOf ys x) h1
    | none => .stuck
  | _ => .stuck := nd rfl
@[simp] theorem e_zip {ma : MA} : miZip ma env h = (ma env h).bind fun xs h1 => match xs with
  | [x, y] => match x, y with
    | .tup xs, .tup ys => .ok (pairs xs ys, []) h1
    | x, y => match lstP h1 x, lstP h1 y with
      | some xs, some ys => .ok (pairs xs ys, wtOf xs x ++ wtOf ys y) h1
      | _, _ => .stuck
  | _ => .stuck := nd rfl
@[simp] theorem e_lc {mi : MI} {g : Tg} {t : MT} {m : ME} {vs : List Nat} : mLc mi g t m vs env h = (mi env h).bind fun p h1 => lcL g t m p.2 (wipeE env vs) p.1 [] h1 := nd rfl
@[simp] theorem e_yes : mYes env h = .ok true h := nd rfl
@[simp] theorem e_gsub {op : O3} {mo mi : ME} : gSubM op mo mi x env h = (mo env h).bind fun o h1 => (mi env h1).bind fun i h2 => (op h2 o i x).bind fun _ h3 => .ok env h3 := nd rfl
@[simp] theorem e_setF {cs : List Nat} {f : Nm} {mo me : ME} : mSetF cs f mo me env h = (me env h).bind fun v h1 => (mo env h1).bind fun o h2 => match o with
  | .ref n => match h2[n]? with
    | some (.ins c fs) => bif cs.contains c && decide (fs.length < 1000) then .ok (.nx env) (h2.set n (.ins c (putP f v fs))) else .stuck
    | _ => .stuck
  | _ => .stuck := nd rfl
@[simp] theorem e_fld {cs : List Nat} {f : Nm} {m : ME} : mFld cs f m env h = (m env h).bind fun x h1 => match fldsOf h1 x with
  | some (c, fs) => bif cs.contains c then (match lookF f fs with
    | some v => .ok v h1
    | none => .stuck) else .stuck
  | none => .stuck := nd rfl
@[simp] theorem e_isi {tb cs : List (Nat × Bool)} {m : ME} : mIsi tb cs m env h = (m env h).bind fun x h1 => match kindP h1 x with
  | some k => match isiT tb cs k with
    | some b => .ok (.bl b) h1
    | none => .stuck
  | none => .stuck := nd rfl
@[simp] theorem e_rev {m : ME} : mRev m env h = (m env h).bind fun x h1 => match x with
  | .str s => bif decide (s.length ≤ LIM) then .ok (.str s.reverse) h1 else .stuck
  | x => match lstP h1 x with
    | some ys => .ok (.ref h1.length) (h1 ++ [.lst ys.reverse])
    | none => .stuck := nd rfl
@[simp] theorem e_aug {i : Nat} {op : O2} {me : ME} : mAug i op me env h = match env[i]? with
  | some (some x) => (me env h).bind fun y h1 => (op h1 x y).bind fun z h2 => .ok (.nx (env.set i (some z))) h2
  | _ => .stuck := nd rfl
@[simp] theorem v_add {i j : Int} : opAdd h (.int i) (.int j) = .ok (.int (i + j)) h := nd rfl
@[simp] theorem v_addS {a b : List Nat} : opAdd h (.str a) (.str b) = bif decide (a.length + b.length ≤ LIM) then .ok (.str (a ++ b)) h else .stuck := nd rfl
@[simp] theorem v_addT {a b : List PV} : opAdd h (.tup a) (.tup b) = bif decide (a.length + b.length ≤ LIM) then .ok (.tup (a ++ b)) h else .stuck := nd rfl
@[simp] theorem v_sub {i j : Int} : opSub h (.int i) (.int j) = .ok (.int (i - j)) h := nd rfl
theorem v_mul {i j : Int} (c : (-(2 ^ 64) < i ∧ i < 2 ^ 64) ∨ (-(2 ^ 64) < j ∧ j < 2 ^ 64)) : opMul h (.int i) (.int j) = .ok (.int (i * j)) h := by
  have : ((decide (-(2 ^ 64) < i) && decide (i < 2 ^ 64)) || (decide (-(2 ^ 64) < j) && decide (j < 2 ^ 64))) = true := by simpa using c
  show (bif (decide (-(2 ^ 64) < i) && decide (i < 2 ^ 64)) || (decide (-(2 ^ 64) < j) && decide (j < 2 ^ 64)) then (R.ok (.int (i * j)) h : R PV) else .stuck) = _
  rw [this]; rfl
@[simp] theorem v_mod {i j : Int} : opMod h (.int i) (.int j) = bif decide (0 < j) then .ok (.int (i % j)) h else .stuck := nd rfl
@[simp] theorem v_fdiv {i j : Int} : opFdiv h (.int i) (.int j) = bif decide (0 < j) && decide (j < 1073741824) then .ok (.int (i / j)) h else .stuck := nd rfl
@[simp] theorem v_neg {i : Int} {g : Int → Int} : unI g h (.int i) = .ok (.int (g i)) h := nd rfl
@[simp] theorem v_lt {i j : Int} : opLt h (.int i) (.int j) = .ok (.bl (decide (i < j))) h := nd rfl
@[simp] theorem v_le {i j : Int} : opLe h (.int i) (.int j) = .ok (.bl (decide (i ≤ j))) h := nd rfl
@[simp] theorem v_gt {i j : Int} : opGt h (.int i) (.int j) = .ok (.bl (decide (j < i))) h := nd rfl
@[simp] theorem v_ge {i j : Int} : opGe h (.int i) (.int j) = .ok (.bl (decide (j ≤ i))) h := nd rfl
@[simp] theorem v_is {neg : Bool} : opIs neg h x .non = .ok (.bl (bif neg then !isNon x else isNon x)) h := nd rfl
@[simp] theorem v_bint {i : Int} : bInt h [.int i] = .ok (.int i) h := nd rfl
@[simp] theorem v_babs {i : Int} : bAbs h [.int i] = .ok (.int (if i < 0 then -i else i)) h := nd rfl
@[simp] theorem v_bmax {i j : Int} : bMax2 h [.int i, .int j] = .ok (.int (if j > i then j else i)) h := nd rfl
@[simp] theorem v_bmin {i j : Int} : bMin2 h [.int i, .int j] = .ok (.int (if j < i then j else i)) h := nd rfl
@[simp] theorem v_bdm {i j : Int} : bDivmod h [.int i, .int j] = bif decide (0 < j) && decide (j < B30) then .ok (.tup [.int (i / j), .int (i % j)]) h else .stuck := nd rfl
@[simp] theorem v_btup {ys : List PV} : bTuple h [.tup ys] = .ok (.tup ys) h := nd rfl
@[simp] theorem v_btupR {n : Nat} {ys : List PV} (e : h[n]? = some (.lst ys)) : bTuple h [.ref n] = .ok (.tup ys) h := by
  show (match seqP h (.ref n) with
    | some ys => R.ok (PV.tup ys) h
    | none => .stuck) = _
  have : seqP h (.ref n) = some ys := by simp [seqP, e]
  rw [this]
end
end MC

end
section
set_option maxRecDepth 100000
set_option maxHeartbeats 4000000
namespace MC
open PySem L2

mutual
theorem ren_no (f : Nat → Option Nat) : ∀ x : PV, noRef x = true → renV f x = some x
  | .non, _ | .bl _, _ | .int _, _ | .str _, _ | .gl _, _ => by unfold renV; rfl
  | .tup xs, h => by unfold renV; rw [rens_no f xs (by unfold noRef at h; exact h)]
  | .scr xs, h => by unfold renV; rw [rens_no f xs (by unfold noRef at h; exact h)]
  | .rdic xs, h => by unfold renV; rw [renk_no f xs (by unfold noRef at h; exact h)]
  | .ins c fs, h => by unfold renV; rw [renf_no f fs (by unfold noRef at h; exact h)]
  | .exn c fs, h => by unfold renV; rw [renf_no f fs (by unfold noRef at h; exact h)]
  | .ref n, h => by unfold noRef at h; cases h
theorem rens_no (f : Nat → Option Nat) : ∀ x : List PV, noRefs x = true → renVs f x = some x
  | [], _ => by unfold renVs; rfl
  | x :: xs, h => by
    unfold noRefs at h
    rw [Bool.and_eq_true] at h
    unfold renVs
    rw [ren_no f x h.1, rens_no f xs h.2]
theorem renk_no (f : Nat → Option Nat) : ∀ x : List (PV × PV), noRefK x = true → renK f x = some x
  | [], _ => by unfold renK; rfl
  | (k, x) :: xs, h => by
    unfold noRefK at h
    rw [Bool.and_eq_true, Bool.and_eq_true] at h
    unfold renK
    rw [ren_no f x h.2.1, renk_no f xs h.2.2]
theorem renf_no (f : Nat → Option Nat) : ∀ x : List (Nm × PV), noRefF x = true → renF f x = some x
  | [], _ => by unfold renF; rfl
  | (k, x) :: xs, h => by
    unfold noRefF at h
    rw [Bool.and_eq_true] at h
    unfold renF
    rw [ren_no f x h.1, renf_no f xs h.2]
end
mutual
theorem refs_no : ∀ x : PV, noRef x = true → refsV x = []
  | .non, _ | .bl _, _ | .int _, _ | .str _, _ | .gl _, _ => by unfold refsV; rfl
  | .tup xs, h => by unfold refsV; exact refss_no xs (by unfold noRef at h; exact h)
  | .scr xs, h => by unfold refsV; exact refss_no xs (by unfold noRef at h; exact h)
  | .rdic xs, h => by unfold refsV; exact refsk_no xs (by unfold noRef at h; exact h)
  | .ins c fs, h => by unfold refsV; exact refsf_no fs (by unfold noRef at h; exact h)
  | .exn c fs, h => by unfold refsV; exact refsf_no fs (by unfold noRef at h; exact h)
  | .ref n, h => by unfold noRef at h; cases h
theorem refss_no : ∀ x : List PV, noRefs x = true → refsVs x = []
  | [], _ => by unfold refsVs; rfl
  | x :: xs, h => by
    unfold noRefs at h
    rw [Bool.and_eq_true] at h
    unfold refsVs
    rw [refs_no x h.1, refss_no xs h.2]; rfl
theorem refsk_no : ∀ x : List (PV × PV), noRefK x = true → refsK x = []
  | [], _ => by unfold refsK; rfl
  | (k, x) :: xs, h => by
    unfold noRefK at h
    rw [Bool.and_eq_true, Bool.and_eq_true] at h
    unfold refsK
    first
      | rw [refs_no x h.2.1, refsk_no xs h.2.2]; rfl
      | simp [refs_no x h.2.1, refsk_no xs h.2.2, refs_no k h.1]
theorem refsf_no : ∀ x : List (Nm × PV), noRefF x = true → refsF x = []
  | [], _ => by unfold refsF; rfl
  | (k, x) :: xs, h => by
    unfold noRefF at h
    rw [Bool.and_eq_true] at h
    unfold refsF
    rw [refs_no x h.1, refsf_no xs h.2]; rfl
end
section
variable {m : MF} {xs : List PV} {h g : PH} {v : PV} {j k : Nat}
theorem reach0 (h : PH) : reach h FUEL [] [] = some [] := by unfold FUEL; rfl
theorem reach1 {o : PO} (e : h[j]? = some o) (r : refsO o = []) : reach h FUEL [j] [] = some [j] := by
  show reach h (1598 + 1 + 1) [j] [] = _
  unfold reach
  simp only [List.contains_nil, cond_false, e, r, List.append_nil, List.nil_append]
  unfold reach
  rfl
theorem reach2 {o p : PO} (e : h[j]? = some o) (r : refsO o = []) (e2 : h[k]? = some p) (r2 : refsO p = []) (ne : j ≠ k) : reach h FUEL [j, k] [] = some [j, k] := by
  show reach h (1597 + 1 + 1 + 1) [j, k] [] = _
  unfold reach
  simp only [List.contains_nil, cond_false, e, r, List.append_nil, List.nil_append]
  unfold reach
  have c : [j].contains k = false := by simp [Ne.symm ne]
  simp only [c, cond_false, e2, r2, List.append_nil]
  unfold reach
  rfl
theorem call_pure (hx : noRefs xs = true) (hm : m xs [] = .ok v g) (hv : noRef v = true) : callG takeBack m xs h = .ok v h := by
  have e1 : reach g FUEL (refsVs [v] ++ List.range ([] : List Nat).length) [] = some [] := by
    have : refsVs [v] = [] := refss_no [v] (by unfold noRefs; rw [hv]; rfl)
    rw [this]; exact reach0 g
  have e2 : takeBack h [] v g = .ok v h := by
    have : takeL h [] [v] g = some ([], [v], h) := by
      unfold takeL
      rw [e1]
      show (match renVs (backF [] (newsOf [] []) h.length) [v], (some [] : Option (List PO)), (some [] : Option (List PO)) with
        | some us, some os, some ns => some (newsOf [] [], us, setAll h [] os ++ ns)
        | _, _, _ => none) = _
      rw [rens_no _ [v] (by unfold noRefs; rw [hv]; rfl)]
      simp [setAll, newsOf]
    unfold takeBack
    rw [this]
  unfold callG
  rw [refss_no xs hx, reach0]
  show (match renVs (idx []) xs, (some [] : Option PH) with
    | some as, some hc => _
    | _, _ => _) = _
  rw [rens_no _ xs hx]
  simp only [hm]
  exact e2
theorem flatO_of {ys : List PV} (hy : noRefs ys = true) : refsO (.lst ys) = [] ∧ ∀ f, renO f (.lst ys) = some (.lst ys) := by
  refine ⟨by unfold refsO; exact refss_no ys hy, fun f => ?_⟩
  simp only [renO, rens_no f ys hy]
theorem idx_hd : idx [j] j = some 0 := by unfold idx; simp
theorem call_one {ys zs : List PV} (hj : h[j]? = some (.lst ys)) (hy : noRefs ys = true) (hx : noRefs xs = true) (hm : m (.ref 0 :: xs) [.lst ys] = .ok v g) (hg : g[0]? = some (.lst zs)) (hz : noRefs zs = true) (hv : noRef v = true) :
    callG takeBack m (.ref j :: xs) h = .ok v (h.set j (.lst zs)) := by
  obtain ⟨y1, y2⟩ := flatO_of hy
  obtain ⟨z1, z2⟩ := flatO_of hz
  have v1 : noRefs [v] = true := by unfold noRefs; rw [hv]; rfl
  have e2 : takeBack h [j] v g = .ok v (h.set j (.lst zs)) := by
    have : takeL h [j] [v] g = some ([], [v], h.set j (.lst zs)) := by
      unfold takeL
      have r0 : reach g FUEL (refsVs [v] ++ List.range [j].length) [] = some [0] := by
        rw [refss_no [v] v1]; exact reach1 hg z1
      rw [r0]
      have n0 : newsOf [j] [0] = [] := by simp [newsOf]
      simp only [n0]
      rw [rens_no _ [v] v1]
      have p0 : mapO (pick g (backF [j] [] h.length)) (List.range [j].length) = some [.lst zs] := by
        show mapO _ [0] = _
        simp [mapO, pick, hg, z2]
      rw [p0]
      simp [mapO, setAll]
    unfold takeBack
    rw [this]
  unfold callG
  have rr : refsVs (.ref j :: xs) = [j] := by unfold refsVs refsV; rw [refss_no xs hx]; rfl
  rw [rr, reach1 hj y1]
  have a0 : renVs (idx [j]) (.ref j :: xs) = some (.ref 0 :: xs) := by
    unfold renVs
    rw [rens_no _ xs hx]
    unfold renV
    rw [idx_hd]
  have h0 : mapO (pick h (idx [j])) [j] = some [.lst ys] := by simp [mapO, pick, hj, y2]
  simp only [a0, h0, hm]
  exact e2
theorem call_two {ys zs us ws : List PV} (hj : h[j]? = some (.lst ys)) (hy : noRefs ys = true) (hk : h[k]? = some (.lst us)) (hu : noRefs us = true) (ne : j ≠ k) (hx : noRefs xs = true) (hm : m (.ref 0 :: .ref 1 :: xs) [.lst ys, .lst us] = .ok v g) (hg : g[0]? = some (.lst zs)) (hz : noRefs zs = true)
    (hg2 : g[1]? = some (.lst ws)) (hw : noRefs ws = true) (hv : noRef v = true) : callG takeBack m (.ref j :: .ref k :: xs) h = .ok v ((h.set j (.lst zs)).set k (.lst ws)) := by
  obtain ⟨y1, y2⟩ := flatO_of hy
  obtain ⟨z1, z2⟩ := flatO_of hz
  obtain ⟨u1, u2⟩ := flatO_of hu
  obtain ⟨w1, w2⟩ := flatO_of hw
  have v1 : noRefs [v] = true := by unfold noRefs; rw [hv]; rfl
  have e2 : takeBack h [j, k] v g = .ok v ((h.set j (.lst zs)).set k (.lst ws)) := by
    have : takeL h [j, k] [v] g = some ([], [v], (h.set j (.lst zs)).set k (.lst ws)) := by
      unfold takeL
      have r0 : reach g FUEL (refsVs [v] ++ List.range [j, k].length) [] = some [0, 1] := by
        rw [refss_no [v] v1]; exact reach2 (j := 0) (k := 1) hg z1 hg2 w1 (Nat.ne_of_lt Nat.one_pos)
      rw [r0]
      have n0 : newsOf [j, k] [0, 1] = [] := by simp [newsOf]
      simp only [n0]
      rw [rens_no _ [v] v1]
      have p0 : mapO (pick g (backF [j, k] [] h.length)) (List.range [j, k].length) = some [.lst zs, .lst ws] := by
        show mapO _ [0, 1] = _
        simp [mapO, pick, hg, z2, hg2, w2]
      rw [p0]
      simp [mapO, setAll]
    unfold takeBack
    rw [this]
  unfold callG
  have rr : refsVs (.ref j :: .ref k :: xs) = [j, k] := by unfold refsVs refsV refsVs refsV; rw [refss_no xs hx]; rfl
  rw [rr, reach2 hj y1 hk u1 ne]
  have i0 : idx [j, k] j = some 0 := by unfold idx; simp
  have i1 : idx [j, k] k = some 1 := by
    unfold idx
    have : (j == k) = false := beq_eq_false_iff_ne.mpr ne
    simp [this, idx]
  have a0 : renVs (idx [j, k]) (.ref j :: .ref k :: xs) = some (.ref 0 :: .ref 1 :: xs) := by
    unfold renVs renVs
    rw [rens_no _ xs hx]
    unfold renV
    rw [i0, i1]
  have h0 : mapO (pick h (idx [j, k])) [j, k] = some [.lst ys, .lst us] := by simp [mapO, pick, hj, y2, hk, u2]
  simp only [a0, h0, hm]
  exact e2
theorem call_newl {ys : List PV} {i : Nat} (hx : noRefs xs = true) (hm : m xs [] = .ok (.ref i) g) (hg : g[i]? = some (.lst ys)) (hy : noRefs ys = true) : callG takeBack m xs h = .ok (.ref h.length) (h ++ [.lst ys]) := by
  obtain ⟨y1, y2⟩ := flatO_of hy
  have e2 : takeBack h [] (.ref i) g = .ok (.ref h.length) (h ++ [.lst ys]) := by
    have : takeL h [] [.ref i] g = some ([i], [.ref h.length], h ++ [.lst ys]) := by
      unfold takeL
      have r0 : reach g FUEL (refsVs [.ref i] ++ List.range ([] : List Nat).length) [] = some [i] := by
        have : refsVs [PV.ref i] = [i] := by unfold refsVs refsV refsVs; rfl
        rw [this]; exact reach1 hg y1
      rw [r0]
      have n0 : newsOf [] [i] = [i] := by simp [newsOf]
      simp only [n0]
      have b0 : backF [] [i] h.length i = some h.length := by simp [backF, idx_hd]
      have p0 : renVs (backF [] [i] h.length) [PV.ref i] = some [.ref h.length] := by unfold renVs renVs renV; rw [b0]
      rw [p0]
      have q0 : mapO (pick g (backF [] [i] h.length)) [i] = some [.lst ys] := by simp [mapO, pick, hg, y2]
      rw [q0]
      simp [mapO, setAll]
    unfold takeBack
    rw [this]
  unfold callG
  rw [refss_no xs hx, reach0]
  show (match renVs (idx []) xs, (some [] : Option PH) with
    | some as, some hc => _
    | _, _ => _) = _
  rw [rens_no _ xs hx]
  simp only [hm]
  exact e2
end
end MC
namespace MC
open PySem L2
@[simp] theorem Ws_noX {α : Type} {r : R α} {Q : α → PH → Prop} : Ws (noX r) Q ↔ Ws r Q := by
  cases r with
  | ok a h => exact Iff.rfl
  | exc c fs h => exact ⟨fun ⟨_, _, e, _⟩ => (by cases e), fun ⟨_, _, e, _⟩ => (by cases e)⟩
  | stuck => exact Iff.rfl
/-- behind a turn -/
def turnQ (I : En → PH → Prop) (Q : Fl → PH → Prop) : Fl → PH → Prop := fun f h => match f with
  | .nx e => I e h
  | .ct e => I e h
  | .bk e => Q (.nx e) h
  | .rt v => Q (.rt v) h
@[simp] theorem turn_nx {I : En → PH → Prop} {Q : Fl → PH → Prop} {e : En} {h : PH} : turnQ I Q (.nx e) h = I e h := nd rfl
@[simp] theorem turn_ct {I : En → PH → Prop} {Q : Fl → PH → Prop} {e : En} {h : PH} : turnQ I Q (.ct e) h = I e h := nd rfl
@[simp] theorem turn_bk {I : En → PH → Prop} {Q : Fl → PH → Prop} {e : En} {h : PH} : turnQ I Q (.bk e) h = Q (.nx e) h := nd rfl
@[simp] theorem turn_rt {I : En → PH → Prop} {Q : Fl → PH → Prop} {v : PV} {h : PH} : turnQ I Q (.rt v) h = Q (.rt v) h := nd rfl
theorem Ws_for {g : MG} {b : MS} {wt : Wt} {Q : Fl → PH → Prop} : ∀ {xs : List PV} (I : Nat → En → PH → Prop) {env : En} {h : PH}, I 0 env h → (∀ i env h, I i env h → watch wt h = true) →
    (∀ i x env h, xs[i]? = some x → I i env h → Ws (g x env h) fun e h1 => Ws (b e h1) (turnQ (I (i + 1)) Q)) → (∀ env h, I xs.length env h → Q (.nx env) h) → Ws (forL g b wt xs env h) Q
  | [], I, env, h, h0, hw, _, hd => by
    unfold forL
    rw [hw 0 env h h0]
    exact Ws_ok.mpr (hd env h h0)
  | x :: xs, I, env, h, h0, hw, hs, hd => by
    unfold forL
    rw [hw 0 env h h0, cond_true]
    refine Ws.bind (hs 0 x env h rfl h0) fun e h1 w => Ws.bind w fun f h2 q => ?_
    have go : ∀ e2, I 1 e2 h2 → Ws (forL g b wt xs e2 h2) Q := fun e2 q => Ws_for (fun i => I (i + 1)) q (fun i => hw (i + 1)) (fun i x env h e => hs (i + 1) x env h (by simpa using e)) hd
    cases f with
    | nx e2 => exact go e2 q
    | ct e2 => exact go e2 q
    | bk e2 => exact Ws_ok.mpr q
    | rt v => exact Ws_ok.mpr q
theorem Ws_lc {g : Tg} {t : MT} {m : ME} {wt : Wt} {e0 : En} {Q : PV → PH → Prop} : ∀ {xs : List PV} (I : Nat → List PV → PH → Prop) {acc : List PV} {h : PH}, I 0 acc h → (∀ i acc h, I i acc h → watch wt h = true) →
    (∀ i x acc h, xs[i]? = some x → I i acc h → ∃ e, tgM g x e0 = some e ∧ Ws (t e h) fun c h1 => bif c then Ws (m e h1) (fun y h2 => acc.length < LIM ∧ I (i + 1) (acc ++ [y]) h2) else I (i + 1) acc h1) →
    (∀ acc h, I xs.length acc h → Q (.ref h.length) (h ++ [.lst acc])) → Ws (lcL g t m wt e0 xs acc h) Q
  | [], I, acc, h, h0, hw, _, hd => by
    unfold lcL
    rw [hw 0 acc h h0]
    exact Ws_ok.mpr (hd acc h h0)
  | x :: xs, I, acc, h, h0, hw, hs, hd => by
    unfold lcL
    rw [hw 0 acc h h0, cond_true]
    obtain ⟨e, he, w⟩ := hs 0 x acc h rfl h0
    rw [he]
    have go : ∀ acc2 h2, I 1 acc2 h2 → Ws (lcL g t m wt e0 xs acc2 h2) Q := fun acc2 h2 q => Ws_lc (fun i => I (i + 1)) q (fun i => hw (i + 1)) (fun i x acc h e => hs (i + 1) x acc h (by simpa using e)) hd
    refine Ws.bind (Ws_noX.mpr w) fun c h1 q => ?_
    cases c with
    | false => exact go acc h1 q
    | true =>
      refine Ws.bind (Ws_noX.mpr q) fun y h2 ⟨hl, q2⟩ => ?_
      rw [decide_eq_true hl]
      exact go _ _ q2
end MC
namespace MC
open PySem L2
@[simp] theorem gI_nil {α : Type} {l : List α} : gI [] l = [] := nd rfl
@[simp] theorem gI_cons {α : Type} {i : Nat} {ix : List Nat} {l : List α} : gI (i :: ix) l = match l[i]? with
  | some x => x :: gI ix l
  | none => gI ix l := by
  unfold gI
  rw [List.filterMap_cons]
  cases l[i]? <;> rfl
section
variable {h : PH}
@[simp] theorem v_eqI {i j : Int} : opEq h (.int i) (.int j) = .ok (.bl (decide (i = j))) h := by
  have : (i == j) = decide (i = j) := by by_cases e : i = j <;> simp [e]
  show (bif SeqAt.shaped (.int i) && SeqAt.shaped (.int j) then (R.ok (.bl (PyData.eqv (.int i) (.int j))) h : R PV) else .stuck) = _
  simp [SeqAt.shaped, PyData.eqv, PyData.canLay0, PyData.depth, this]
@[simp] theorem v_neI {i j : Int} : opNe h (.int i) (.int j) = .ok (.bl (!decide (i = j))) h := by
  have : (i == j) = decide (i = j) := by by_cases e : i = j <;> simp [e]
  show (bif SeqAt.shaped (.int i) && SeqAt.shaped (.int j) then (R.ok (.bl (!PyData.eqv (.int i) (.int j))) h : R PV) else .stuck) = _
  simp [SeqAt.shaped, PyData.eqv, PyData.canLay0, PyData.depth, this]
theorem call_pureW {m : MF} {xs : List PV} {v : PV} (hx : noRefs xs = true) (hm : Ws (m xs []) fun u _ => u = v) (hv : noRef v = true) : callG takeBack m xs h = .ok v h := by
  obtain ⟨u, g, e, rfl⟩ := hm
  exact call_pure hx e hv
/-- .. whose items keep P -/
theorem Ws_mapP {g : Tg} {m : ME} {e0 : En} {Q : PV → PH → Prop} (P : PV → Prop) (J : PH → Prop) {xs : List PV} (j0 : J h) (hl : xs.length ≤ LIM) (hs : ∀ x ∈ xs, ∀ h, J h → ∃ e, tgM g x e0 = some e ∧ Ws (m e h) fun y h' => P y ∧ J h')
    (hd : ∀ h0 ys, J h0 → ys.length = xs.length → (∀ y ∈ ys, P y) → Q (.ref h0.length) (h0 ++ [.lst ys])) : Ws (lcL g mYes m [] e0 xs [] h) Q := by
  refine Ws_lc (fun i acc h => i ≤ xs.length ∧ acc.length = i ∧ (∀ y ∈ acc, P y) ∧ J h) ⟨Nat.zero_le _, rfl, (fun _ z => nomatch z), j0⟩ (fun _ _ _ _ => rfl) (fun i x acc h e ⟨hi, ea, ha, jh⟩ => ?_) fun acc h ⟨_, ea, ha, jh⟩ => hd h acc jh ea ha
  have hlt := (List.getElem?_eq_some_iff.mp e).1
  obtain ⟨e1, t1, w⟩ := hs x (List.mem_of_getElem? e) h jh
  refine ⟨e1, t1, ?_⟩
  rw [e_yes, Ws_ok, cond_true]
  refine w.mono fun y h' ⟨ey, jh'⟩ => ⟨by omega, hlt, by simp [ea], fun z hz => ?_, jh'⟩
  rcases List.mem_append.mp hz with q | q
  · exact ha z q
  · rw [List.mem_singleton.mp q]; exact ey
end
end MC
namespace MC
open PySem L2
section
variable {α β γ : Type} {h : PH} {x y : PV}
@[simp] theorem bind_asc {r : R α} {f : α → PH → R β} {g : β → PH → R γ} : (r.bind f).bind g = r.bind fun a h => (f a h).bind g := by cases r <;> rfl
@[simp] theorem src_tup {xs : List PV} : srcV h (.tup xs) = some (xs, []) := nd rfl
@[simp] theorem src_scr {xs : List PV} : srcV h (.scr xs) = some (xs, []) := nd rfl
@[simp] theorem src_str {s : List Nat} : srcV h (.str s) = some (signsOf s, []) := nd rfl
theorem src_ref {n : Nat} {xs : List PV} (e : h[n]? = some (.lst xs)) : srcV h (.ref n) = some (xs, [(n, xs)]) := by simp [srcV, e]
@[simp] theorem seq_tup {xs : List PV} : seqP h (.tup xs) = some xs := nd rfl
@[simp] theorem wt_tup {xs ys : List PV} : wtOf ys (.tup xs) = [] := nd rfl
@[simp] theorem wt_ref {n : Nat} {ys : List PV} : wtOf ys (.ref n) = [(n, ys)] := nd rfl
@[simp] theorem kd_non : kindP h .non = some (.inl 0) := nd rfl
@[simp] theorem kd_bl {b : Bool} : kindP h (.bl b) = some (.inl 1) := nd rfl
@[simp] theorem kd_int {i : Int} : kindP h (.int i) = some (.inl 2) := nd rfl
@[simp] theorem kd_str {s : List Nat} : kindP h (.str s) = some (.inl 3) := nd rfl
@[simp] theorem kd_tup {s : List PV} : kindP h (.tup s) = some (.inl 4) := nd rfl
@[simp] theorem kd_ins {c : Nat} {fs : List (Nm × PV)} : kindP h (.ins c fs) = some (.inr c) := nd rfl
@[simp] theorem tr_non : truth h .non = some false := nd rfl
@[simp] theorem tr_bl {b : Bool} : truth h (.bl b) = some b := nd rfl
@[simp] theorem tr_int {i : Int} : truth h (.int i) = some (i != 0) := nd rfl
@[simp] theorem len_tup {xs : List PV} : bLen h [.tup xs] = .ok (.int xs.length) h := nd rfl
@[simp] theorem fld_ins {c : Nat} {fs : List (Nm × PV)} : fldsOf h (.ins c fs) = some (c, fs) := nd rfl
@[simp] theorem ty_str {s : List Nat} : isTy h 0 (.str s) = true := nd rfl
theorem ty_lst {n : Nat} {xs : List PV} (e : h[n]? = some (.lst xs)) : isTy h 1 (.ref n) = true := by simp [isTy, lstP, e]
@[simp] theorem nn_non : MC.isNon .non = true := nd rfl
@[simp] theorem nn_int {i : Int} : MC.isNon (.int i) = false := nd rfl
@[simp] theorem nn_tup {i : List PV} : MC.isNon (.tup i) = false := nd rfl
@[simp] theorem nn_str {i : List Nat} : MC.isNon (.str i) = false := nd rfl
theorem mapPB {g : Tg} {m : ME} {e0 : En} {Q : β → PH → Prop} {k : PV → PH → R β} (P : PV → Prop) (J : PH → Prop) {xs : List PV} (j0 : J h) (hl : xs.length ≤ LIM) (hs : ∀ x ∈ xs, ∀ h, J h → ∃ e, tgM g x e0 = some e ∧ Ws (m e h) fun y h' => P y ∧ J h')
    (hd : ∀ h0 ys, J h0 → ys.length = xs.length → (∀ y ∈ ys, P y) → Ws (k (.ref h0.length) (h0 ++ [.lst ys])) Q) : Ws ((lcL g mYes m [] e0 xs [] h).bind k) Q :=
  Ws.bind (Ws_mapP (Q := fun v h' => ∃ h0 ys, J h0 ∧ ys.length = xs.length ∧ (∀ y ∈ ys, P y) ∧ v = .ref h0.length ∧ h' = h0 ++ [.lst ys]) P J j0 hl hs fun h0 ys j l p => ⟨h0, ys, j, l, p, rfl, rfl⟩) fun v h' ⟨h0, ys, j, l, p, e1, e2⟩ => by rw [e1, e2]; exact hd h0 ys j l p
theorem forB {g : MG} {b : MS} {wt : Wt} {Q : β → PH → Prop} {k : Fl → PH → R β} {xs : List PV} (I : Nat → En → PH → Prop) {env : En} (h0 : I 0 env h) (hw : ∀ i env h, I i env h → watch wt h = true)
    (hs : ∀ i x env h, xs[i]? = some x → I i env h → Ws (g x env h) fun e h1 => Ws (b e h1) (turnQ (I (i + 1)) fun f h => Ws (k f h) Q)) (hd : ∀ env h, I xs.length env h → Ws (k (.nx env) h) Q) : Ws ((forL g b wt xs env h).bind k) Q :=
  Ws.bind (Ws_for I h0 hw hs hd) fun _ _ q => q
end
end MC

end
section
set_option maxRecDepth 100000
set_option maxHeartbeats 4000000
namespace MC
open PySem L2
section
variable {h : PH} {n : Nat}
theorem repr_str_le (s : List Nat) (hs : ∀ c ∈ s, c < 1114112) : (reprText (S s)).length ≤ 10 * s.length + 2 := by
  have := StrLaws.reprText_len (S s) (fun c hc => by
    rw [S_list] at hc
    exact Nat.lt_trans (hs c hc) (by decide))
  rw [S_len] at this
  exact this
theorem v_eqS {s t : List Nat} (hs : PyData.strOk (S s) = true) (ht : PyData.strOk (S t) = true) : opEq h (.str s) (.str t) = .ok (.bl (decide (s = t))) h := by
  have : (S s == S t) = decide (s = t) := by
    by_cases e : s = t
    · subst e; simp
    · have : S s ≠ S t := fun z => e (S_inj z)
      simp [e, this]
  unfold opEq by2
  rw [show toD h DEP (.str s) = some (.str (S s)) from rfl, show toD h DEP (.str t) = some (.str (S t)) from rfl]
  simp [SeqAt.shaped, PyData.eqv, PyData.canLay0, PyData.depth, this, hs, ht]
theorem v_neS {s t : List Nat} (hs : PyData.strOk (S s) = true) (ht : PyData.strOk (S t) = true) : opNe h (.str s) (.str t) = .ok (.bl (!decide (s = t))) h := by
  have : (S s == S t) = decide (s = t) := by
    by_cases e : s = t
    · subst e; simp
    · have : S s ≠ S t := fun z => e (S_inj z)
      simp [e, this]
  unfold opNe by2
  rw [show toD h DEP (.str s) = some (.str (S s)) from rfl, show toD h DEP (.str t) = some (.str (S t)) from rfl]
  simp [SeqAt.shaped, PyData.eqv, PyData.canLay0, PyData.depth, this, hs, ht]
theorem atI_nat' {α : Type} {xs : List α} {i : Nat} {x : α} (e : xs[i]? = some x) : L2.atI xs (i : Int) = some x := atI_nat e
theorem ix_tup {xs : List PV} {i : Nat} {x : PV} (e : xs[i]? = some x) : opIx h (.tup xs) (.int i) = .ok x h := by
  show (match L2.atI xs (i : Int) with
    | some v => R.ok v h
    | none => .stuck) = _
  rw [atI_nat' e]
theorem ix_ref {xs : List PV} {i : Nat} {x : PV} (e0 : h[n]? = some (.lst xs)) (e : xs[i]? = some x) : opIx h (.ref n) (.int i) = .ok x h := by
  have : opIx h (.ref n) (.int i) = ixL h xs (.int i) := by simp [opIx, e0]
  rw [this]
  show (match L2.atI xs (i : Int) with
    | some v => R.ok v h
    | none => .stuck) = _
  rw [atI_nat' e]
theorem ix_str {s : List Nat} {i : Nat} {c : Nat} (e : s[i]? = some c) (hl : s.length ≤ LIM) : opIx h (.str s) (.int i) = .ok (.str [c]) h := by
  show (match L2.atI s (i : Int) with
    | some c => bif decide (s.length ≤ LIM) then R.ok (PV.str [c]) h else .stuck
    | none => .stuck) = _
  rw [atI_nat' e]
  simp [hl]
theorem strs_map : ∀ zs : List (List Nat), strsP (zs.map PV.str) = some zs
  | [] => rfl
  | z :: zs => by simp [strsP, strs_map zs]
theorem glue_nil : ∀ zs : List (List Nat), glue [] zs = zs.flatten
  | [] => rfl
  | [z] => by simp [glue]
  | z :: y :: r => by
    show z ++ ([] ++ glue [] (y :: r)) = _
    rw [glue_nil (y :: r)]; simp
theorem join_nil {zs : List (List Nat)} (e : h[n]? = some (.lst (zs.map PV.str))) (hl : zs.flatten.length ≤ LIM) : oJoin h [.str [], .ref n] = .ok (.str zs.flatten) h := by
  have s : seqP h (.ref n) = some (zs.map PV.str) := by simp [seqP, e]
  have t : totL zs ≤ LIM := by
    unfold totL
    rw [← List.length_flatten]
    exact hl
  have t2 : totL zs + zs.length * ([] : List Nat).length ≤ LIM := by simpa using t
  simp only [oJoin, s, strs_map, glue_nil, decide_eq_true t2, cond_true]
theorem last_at {ys : List PO} {o : PO} : (ys ++ [o])[ys.length]? = some o := by simp
end
end MC

end
section
set_option maxRecDepth 100000
set_option maxHeartbeats 4000000
namespace MC
open PySem L2
def skd (a b c : Int) : PO := .lst [.int a, .int b, .int c]
/-- the j-th object is a draw list -/
def Dr (j : Nat) (h : PH) : Prop := ∃ a b c, h[j]? = some (skd a b c)
/-- all but the j-th object stands -/
def But (j : Nat) (h h' : PH) : Prop := h'.length = h.length ∧ ∀ i, i ≠ j → h'[i]? = h[i]?
theorem But.refl {j : Nat} {h : PH} : But j h h := ⟨rfl, fun _ _ => rfl⟩
theorem But.trans {j : Nat} {h h1 h2 : PH} (a : But j h h1) (b : But j h1 h2) : But j h h2 := ⟨b.1.trans a.1, fun i n => (b.2 i n).trans (a.2 i n)⟩
theorem Dr.lt {j : Nat} {h : PH} (d : Dr j h) : j < h.length := by
  obtain ⟨a, b, c, e⟩ := d
  exact (List.getElem?_eq_some_iff.mp e).1
theorem Dr.app {j : Nat} {h : PH} {o : List PO} (d : Dr j h) : Dr j (h ++ o) := by
  obtain ⟨a, b, c, e⟩ := d
  exact ⟨a, b, c, by rw [List.getElem?_append_left (List.getElem?_eq_some_iff.mp e).1]; exact e⟩
theorem get_app {h : PH} {i : Nat} {o : PO} {os : List PO} (e : h[i]? = some o) : (h ++ os)[i]? = some o := by
  rw [List.getElem?_append_left (List.getElem?_eq_some_iff.mp e).1]; exact e
/-- a function of draws: xs its other arguments, P its answer -/
def Fs (m : MF) (xs : List PV) (P : PV → Prop) : Prop := ∀ a b c, Ws (m (.ref 0 :: xs) [skd a b c]) fun v g => Dr 0 g ∧ noRef v = true ∧ P v
section
variable {α : Type} {m : MF} {xs : List PV} {P : PV → Prop} {h : PH} {j : Nat} {k : PV → PH → R α} {Q : α → PH → Prop}
theorem Fs.call (F : Fs m xs P) (hx : noRefs xs = true) (d : Dr j h) : Ws (callG takeBack m (.ref j :: xs) h) fun v h' => noRef v = true ∧ P v ∧ Dr j h' ∧ But j h h' := by
  have hl := d.lt
  obtain ⟨a, b, c, e⟩ := d
  obtain ⟨v, g, e1, ⟨a', b', c', e2⟩, nv, p⟩ := F a b c
  refine ⟨v, h.set j (skd a' b' c'), call_one (ys := [.int a, .int b, .int c]) (zs := [.int a', .int b', .int c']) e (by rfl) hx e1 e2 (by rfl) nv, nv, p, ⟨a', b', c', ?_⟩, ?_, fun i hi => ?_⟩
  · rw [List.getElem?_set_self hl]
  · rw [List.length_set]
  · rw [List.getElem?_set_ne (Ne.symm hi)]
theorem Fs.use (F : Fs m xs P) (hx : noRefs xs = true) (d : Dr j h) (q : ∀ v h', noRef v = true → P v → Dr j h' → But j h h' → Ws (k v h') Q) : Ws ((callG takeBack m (.ref j :: xs) h).bind k) Q :=
  (F.call hx d).bind fun v h' ⟨n, p, d', b⟩ => q v h' n p d' b
/-- .. that gets a list besides -/
def Fs2 (m : MF) (us : List PV) (xs : List PV) (P : PV → Prop) : Prop := ∀ a b c, Ws (m (.ref 0 :: .ref 1 :: xs) [skd a b c, .lst us]) fun v g => Dr 0 g ∧ (∃ ws, g[1]? = some (.lst ws) ∧ noRefs ws = true) ∧ noRef v = true ∧ P v
theorem Fs2.use {us : List PV} {i : Nat} (F : Fs2 m us xs P) (hx : noRefs xs = true) (hu : noRefs us = true) (d : Dr j h) (hi : h[i]? = some (.lst us)) (ne : j ≠ i) (q : ∀ v h', noRef v = true → P v → Dr j h' → h'.length = h.length → (∀ n, n ≠ j → n ≠ i → h'[n]? = h[n]?) → Ws (k v h') Q) :
    Ws ((callG takeBack m (.ref j :: .ref i :: xs) h).bind k) Q := by
  have hl := d.lt
  obtain ⟨a, b, c, e⟩ := d
  obtain ⟨v, g, e1, ⟨a', b', c', e2⟩, ⟨ws, e3, nw⟩, nv, p⟩ := F a b c
  refine Ws.bind (Ws.eq (Q := fun v' h' => v' = v ∧ h' = (h.set j (skd a' b' c')).set i (.lst ws)) (call_two (ys := [.int a, .int b, .int c]) (zs := [.int a', .int b', .int c']) e (by rfl) hi hu ne hx e1 e2 (by rfl) e3 nw nv) ⟨rfl, rfl⟩) fun v' h' ⟨ev, eh⟩ => ?_
  subst ev; subst eh
  refine q v' _ nv p ⟨a', b', c', ?_⟩ (by rw [List.length_set, List.length_set]) fun n h1 h2 => ?_
  · rw [List.getElem?_set_ne (Ne.symm ne), List.getElem?_set_self hl]
  · rw [List.getElem?_set_ne (Ne.symm h2), List.getElem?_set_ne (Ne.symm h1)]
end
section
variable {β : Type} {h : PH}
theorem watch_mk {k : Nat} {ys : List PV} (e : h[k]? = some (.lst ys)) : watch [(k, ys)] h = true := by
  simp [watch, e, beqVs_rf]
theorem mapW {g : Tg} {m : ME} {e0 : En} {wt : Wt} {Q : β → PH → Prop} {k : PV → PH → R β} (f : PV → PV) (J : PH → Prop) {xs : List PV} (hw : ∀ h, J h → watch wt h = true) (j0 : J h) (hl : xs.length ≤ LIM) (hs : ∀ x ∈ xs, ∀ h, J h → ∃ e, tgM g x e0 = some e ∧ Ws (m e h) fun y h' => y = f x ∧ J h')
    (hd : ∀ h0, J h0 → Ws (k (.ref h0.length) (h0 ++ [.lst (xs.map f)])) Q) : Ws ((lcL g mYes m wt e0 xs [] h).bind k) Q := by
  refine Ws.bind (Ws_lc (Q := fun v h' => ∃ h0, J h0 ∧ v = .ref h0.length ∧ h' = h0 ++ [.lst (xs.map f)]) (fun i acc h => i ≤ xs.length ∧ acc = (xs.take i).map f ∧ J h) ⟨Nat.zero_le _, rfl, j0⟩ (fun _ _ h q => hw h q.2.2) (fun i x acc h e ⟨hi, ea, jh⟩ => ?_) fun acc h ⟨_, ea, jh⟩ => ?_) fun v h' ⟨h0, j, e1, e2⟩ => by rw [e1, e2]; exact hd h0 j
  · have hlt := (List.getElem?_eq_some_iff.mp e).1
    obtain ⟨e1, t1, w⟩ := hs x (List.mem_of_getElem? e) h jh
    refine ⟨e1, t1, ?_⟩
    rw [e_yes, Ws_ok, cond_true]
    refine w.mono fun y h' ⟨ey, jh'⟩ => ⟨?_, hlt, ?_, jh'⟩
    · subst ea
      rw [List.length_map, List.length_take]
      omega
    · subst ea; subst ey
      rw [List.take_add_one, e, List.map_append]; rfl
  · subst ea
    rw [List.take_length]
    exact ⟨h, jh, rfl, rfl⟩
end
end MC

end
section
set_option maxRecDepth 100000
set_option maxHeartbeats 4000000
namespace MC
open PySem L2
theorem ok_app {a b : Str} (ha : PyData.strOk a = true) (hb : PyData.strOk b = true) : PyData.strOk (a ++ b) = true := by
  unfold PyData.strOk at *
  show (a.cps ++ b.cps).all _ = true
  rw [Array.all_append, ha, hb]; rfl
theorem ok_text : ∀ (ts : List Str) (k : Nat) (acc : Str), PyData.strOk acc = true → (∀ t ∈ ts, PyData.strOk t = true) → PyData.strOk (textFrom k acc ts) = true
  | [], _, _, h, _ => h
  | t :: r, k, acc, h, ht => by
    have e : PyData.strOk ((if k > 0 then ", " else "" : String) : Str) = true := by split <;> decide +kernel
    exact ok_text r (k + 1) _ (ok_app (ok_app h e) (ht t List.mem_cons_self)) fun x hx => ht x (List.mem_cons_of_mem _ hx)
theorem ok_list (ts : List Str) (h : ∀ t ∈ ts, PyData.strOk t = true) : PyData.strOk (listText ts) = true := by
  unfold listText
  exact ok_app (ok_text ts 0 _ (by decide +kernel) h) (by decide +kernel)
end MC

end
section
set_option maxRecDepth 100000
set_option maxHeartbeats 4000000
namespace MC
open PySem L2
mutual
/-- a value without objects, as data -/
def pd : PV → Option PyData
  | .non => some .none
  | .bl b => some (.bool b)
  | .int i => some (.int i)
  | .str s => some (.str (S s))
  | .tup xs => match pds xs with
    | some ds => some (.tuple ds)
    | none => none
  | _ => none
def pds : List PV → Option (List PyData)
  | [] => some []
  | x :: xs => match pd x, pds xs with
    | some d, some ds => some (d :: ds)
    | _, _ => none
end
mutual
/-- ints of fewer than K bits, signs that are signs; K bounds the texts -/
def pok (K : Nat) : PV → Bool
  | .non => true
  | .bl _ => true
  | .int i => decide (i.natAbs.log2 < K)
  | .str s => s.all fun c => decide (c < 1114112)
  | .tup xs => poks K xs
  | _ => false
def poks (K : Nat) : List PV → Bool
  | [] => true
  | x :: xs => pok K x && poks K xs
end
mutual
/-- how many nodes and signs -/
def pnd : PV → Nat
  | .str s => s.length + 1
  | .tup xs => pnds xs + 1
  | _ => 1
def pnds : List PV → Nat
  | [] => 0
  | x :: xs => pnd x + pnds xs
end
mutual
def pdp : PV → Nat
  | .tup xs => pdps xs + 1
  | _ => 0
def pdps : List PV → Nat
  | [] => 0
  | x :: xs => max (pdp x) (pdps xs)
end
theorem okA {cs : Array Nat} : PyData.strOk ⟨cs⟩ = true ↔ ∀ c ∈ cs.toList, c < 1114112 := by
  unfold PyData.strOk
  rw [← Array.all_toList, List.all_eq_true]
  simp
theorem ch_lt (c : Char) : c.toNat < 1114112 := by
  have h := c.valid
  simp only [UInt32.isValidChar, Nat.isValidChar] at h
  have : c.toNat = c.val.toNat := rfl
  omega
theorem ok_ofS (s : String) : PyData.strOk (Str.ofString s) = true := by
  rw [Str.ofString_eq_toList]
  refine okA.mpr fun c hc => ?_
  simp only [List.mem_map] at hc
  obtain ⟨d, _, rfl⟩ := hc
  exact ch_lt d
theorem rc_lt (q c : Nat) (hq : q < 1114112) (hc : c < 1114112) : ∀ d ∈ Builtin.Str.reprChar q c, d < 1114112 := by
  have dg : ∀ w : Nat, ∀ d ∈ (List.replicate (w - ((Nat.toDigits 16 c).map Char.toNat).length) 48 ++ (Nat.toDigits 16 c).map Char.toNat : List Nat), d < 1114112 := by
    intro w d hd
    rcases List.mem_append.mp hd with h | h
    · rw [List.eq_of_mem_replicate h]; decide
    · obtain ⟨x, _, rfl⟩ := List.mem_map.mp h
      exact ch_lt x
  intro d hd
  unfold Builtin.Str.reprChar at hd
  simp only at hd
  split at hd
  · simp at hd; omega
  split at hd
  · simp at hd; omega
  split at hd
  · simp at hd; omega
  split at hd
  · simp at hd; omega
  split at hd
  · simp at hd; omega
  split at hd
  · rcases List.mem_append.mp hd with h | h
    · simp at h; omega
    · exact dg 2 d h
  split at hd
  · rcases List.mem_append.mp hd with h | h
    · simp at h; omega
    · exact dg 4 d h
  · rcases List.mem_append.mp hd with h | h
    · simp at h; omega
    · exact dg 8 d h
theorem rfold_lt (q : Nat) (hq : q < 1114112) : ∀ (s : List Nat) (acc : Array Nat), (∀ c ∈ s, c < 1114112) → (∀ c ∈ acc.toList, c < 1114112) → ∀ c ∈ (s.foldl (fun out c => out ++ (Builtin.Str.reprChar q c).toArray) acc).toList, c < 1114112
  | [], _, _, h => h
  | c :: s, acc, hs, h => by
    rw [List.foldl_cons]
    refine rfold_lt q hq s _ (fun d hd => hs d (List.mem_cons_of_mem _ hd)) fun d hd => ?_
    rw [Array.toList_append] at hd
    rcases List.mem_append.mp hd with a | a
    · exact h d a
    · exact rc_lt q c hq (hs c List.mem_cons_self) d a
theorem ok_reprS (s : List Nat) (hs : ∀ c ∈ s, c < 1114112) : PyData.strOk (reprText (S s)) = true := by
  have hq : reprQuote (S s) < 1114112 := by unfold reprQuote; split <;> decide
  unfold reprText
  refine okA.mpr ?_
  have f : (S s).cps.foldl (fun out c => out ++ (Builtin.Str.reprChar (reprQuote (S s)) c).toArray) #[reprQuote (S s)] = s.foldl (fun out c => out ++ (Builtin.Str.reprChar (reprQuote (S s)) c).toArray) #[reprQuote (S s)] := by
    rw [← Array.foldl_toList]; rfl
  rw [f]
  intro c hc
  rw [Array.toList_push] at hc
  rcases List.mem_append.mp hc with h | h
  · exact rfold_lt _ hq s _ hs (by simpa using hq) c h
  · rw [List.mem_singleton.mp h]; exact hq
theorem ok_joinL (sep : Str) (hs : PyData.strOk sep = true) : ∀ ts : List Str, (∀ t ∈ ts, PyData.strOk t = true) → PyData.strOk (Str.join sep ts) = true
  | [], _ => (by decide +kernel : PyData.strOk Str.empty = true)
  | [t], h => h t List.mem_cons_self
  | t :: u :: r, h => ok_app (ok_app (h t List.mem_cons_self) hs) (ok_joinL sep hs (u :: r) fun y hy => h y (List.mem_cons_of_mem _ hy))
theorem ok_tuple (ts : List Str) (h : ∀ t ∈ ts, PyData.strOk t = true) : PyData.strOk (tupleText ts) = true := by
  unfold tupleText
  refine ok_app (ok_app (by decide +kernel) (ok_joinL _ (by decide +kernel) ts h)) ?_
  split <;> decide +kernel
/-- what is needed of data whose text is asked for -/
structure Good (K : Nat) (n : Nat) (d : PyData) : Prop where
  s1 : d.showable = true
  s2 : d.hasDict = false
  s3 : d.shown.length + 2 ≤ (K + 12) * n
  s4 : PyData.strOk d.shown = true
theorem int_len {i : Int} {K : Nat} (hK : 0 < K) (h : i.natAbs.log2 < K) : (PyData.shown (.int i)).length ≤ K + 1 := by
  rw [PyData.shown_int, Str.ofString_eq_toList]
  show (List.map Char.toNat (toString i).toList).toArray.size ≤ K + 1
  rw [List.size_toArray, List.length_map]
  exact int_text_length_le hK h
theorem sum_two (ts : List Str) : ((ts.map (·.length)).sum + 2 * ts.length) = (ts.map fun t => t.length + 2).sum := by
  induction ts with
  | nil => rfl
  | cons t r ih => simp only [List.map_cons, List.sum_cons, List.length_cons]; omega
mutual
theorem pd_good {K : Nat} (hK : 0 < K) (h2 : K ≤ 1920) : ∀ x : PV, pok K x = true → ∃ d, pd x = some d ∧ Good K (pnd x) d ∧ d.depth ≤ pdp x
  | .non, _ => ⟨_, rfl, ⟨rfl, rfl, by rw [PyData.shown_none]; show 4 + 2 ≤ (K + 12) * 1; omega, by decide +kernel⟩, Nat.le_refl _⟩
  | .bl b, _ => ⟨_, rfl, ⟨rfl, rfl, by
      have : (PyData.shown (.bool b)).length ≤ 5 := by cases b <;> decide
      show _ ≤ (K + 12) * 1
      omega, by cases b <;> decide +kernel⟩, Nat.le_refl _⟩
  | .int i, h => by
    have h1 : i.natAbs.log2 < K := by unfold pok at h; simpa using h
    have := int_len hK h1
    refine ⟨_, rfl, ⟨?_, rfl, by show _ ≤ (K + 12) * 1; omega, by rw [PyData.shown_int]; exact ok_ofS _⟩, Nat.le_refl _⟩
    simp [PyData.showable]; omega
  | .str s, h => by
    have h1 : ∀ c ∈ s, c < 1114112 := by unfold pok at h; simpa using h
    have := repr_str_le s h1
    refine ⟨_, rfl, ⟨rfl, rfl, ?_, by rw [PyData.shown_str]; exact ok_reprS s h1⟩, Nat.le_refl _⟩
    rw [PyData.shown_str]
    show _ ≤ (K + 12) * (s.length + 1)
    have q : 10 * s.length + 12 ≤ (K + 12) * (s.length + 1) := by
      have : 12 * (s.length + 1) ≤ (K + 12) * (s.length + 1) := Nat.mul_le_mul_right _ (by omega)
      omega
    omega
  | .tup xs, h => by
    obtain ⟨ds, e, g1, g2, g3, g4, g5⟩ := pds_good hK h2 xs (by unfold pok at h; exact h)
    refine ⟨.tuple ds, by simp [pd, e], ⟨by simpa [PyData.showable] using g1, by simpa [PyData.hasDict] using g2, ?_, ?_⟩, ?_⟩
    · have l := tupleText_len_le (PyData.shownAll ds)
      have s2 := sum_two (PyData.shownAll ds)
      show (tupleText (PyData.shownAll ds)).length + 2 ≤ (K + 12) * (pnds xs + 1)
      rw [Nat.mul_add]
      omega
    · show PyData.strOk (tupleText (PyData.shownAll ds)) = true
      exact ok_tuple _ g4
    · simp only [PyData.depth, pdp]; omega
theorem pds_good {K : Nat} (hK : 0 < K) (h2 : K ≤ 1920) : ∀ xs : List PV, poks K xs = true → ∃ ds, pds xs = some ds ∧ PyData.showableAll ds = true ∧ PyData.hasDictAll ds = false ∧ ((PyData.shownAll ds).map fun t => t.length + 2).sum ≤ (K + 12) * pnds xs ∧ (∀ t ∈ PyData.shownAll ds, PyData.strOk t = true) ∧ PyData.depthAll ds ≤ pdps xs
  | [], _ => ⟨[], rfl, rfl, rfl, Nat.le_refl _, (fun _ h => by simp [PyData.shownAll] at h), Nat.le_refl _⟩
  | x :: xs, h => by
    unfold poks at h
    rw [Bool.and_eq_true] at h
    obtain ⟨d, e, g, gd⟩ := pd_good hK h2 x h.1
    obtain ⟨ds, e2, g1, g2, g3, g4, g5⟩ := pds_good hK h2 xs h.2
    refine ⟨d :: ds, by simp [pds, e, e2], by simp [PyData.showableAll, g.s1, g1], by simp [PyData.hasDictAll, g.s2, g2], ?_, ?_, ?_⟩
    · simp only [PyData.shownAll, List.map_cons, List.sum_cons, pnds]
      have := g.s3
      rw [Nat.mul_add]
      omega
    · intro t ht
      simp only [PyData.shownAll] at ht
      rcases List.mem_cons.mp ht with rfl | q
      · exact g.s4
      · exact g4 t q
    · simp only [PyData.depthAll, pdps]; omega
end
section
variable {h : PH} {n K : Nat} {xs : List PV}
end
end MC

end
section
set_option maxRecDepth 100000
set_option maxHeartbeats 4000000
namespace MC
open PySem L2
section
variable {m : MF} {xs as : List PV} {h g hc : PH} {u v : PV} {fp live : List Nat} {os ns : List PO}
theorem call_gen (r : reach h FUEL (refsVs xs) [] = some fp) (ra : renVs (idx fp) xs = some as) (rh : mapO (pick h (idx fp)) fp = some hc) (hm : m as hc = .ok v g)
    (rl : reach g FUEL (refsVs [v] ++ List.range fp.length) [] = some live) (rv : renVs (backF fp (newsOf fp live) h.length) [v] = some [u])
    (ro : mapO (pick g (backF fp (newsOf fp live) h.length)) (List.range fp.length) = some os) (rn : mapO (pick g (backF fp (newsOf fp live) h.length)) (newsOf fp live) = some ns) : callG takeBack m xs h = .ok u (setAll h fp os ++ ns) := by
  unfold callG
  simp only [r, ra, rh, hm]
  unfold takeBack takeL
  simp only [rl, rv, ro, rn]
theorem idx_at : ∀ {l : List Nat} {t n : Nat}, l.Nodup → l[t]? = some n → idx l n = some t
  | [], _, _, _, e => by simp at e
  | m :: r, 0, n, _, e => by
    have : m = n := by simpa using e
    subst this
    unfold idx; simp
  | m :: r, t + 1, n, nd, e => by
    have e : r[t]? = some n := by simpa using e
    have ne : m ≠ n := fun q => (List.nodup_cons.mp nd).1 (q ▸ List.mem_of_getElem? e)
    unfold idx
    rw [beq_eq_false_iff_ne.mpr ne, cond_false, idx_at (List.nodup_cons.mp nd).2 e]
/-- a list of lists in a heap -/
def LL (h : PH) (v : PV) (zss : List (List PV)) : Prop := ∃ (i : Nat) (js : List Nat), v = .ref i ∧ h[i]? = some (.lst (js.map PV.ref)) ∧ (i :: js).Nodup ∧ js.length = zss.length ∧ ∀ (t j : Nat), js[t]? = some j → ∃ zs, zss[t]? = some zs ∧ h[j]? = some (.lst zs) ∧ noRefs zs = true
end
end MC

end
section
set_option maxRecDepth 100000
set_option maxHeartbeats 4000000
namespace MM
open PySem L2 MC
def gl (n : Int) (v : PV) : Prop := v = .non ∨ ∃ i, v = .int i ∧ 0 ≤ i ∧ i < n
def rowOk (n : Int) (L : Nat) (x : PV) : Prop := ∃ gs, x = .tup gs ∧ gs.length = L ∧ ∀ g ∈ gs, gl n g
theorem ints_noref : ∀ is : List Int, noRefs (is.map PV.int) = true
  | [] => rfl
  | i :: is => by
    rw [List.map_cons]
    unfold noRefs
    rw [ints_noref is]; rfl
/-- the ends: ever greater, within the stands -/
def endsOk (n : Int) (is : List Int) : Prop := is.Pairwise (· < ·) ∧ ∀ i ∈ is, 0 ≤ i ∧ i < n
/-- a machine's value -/
def mach (L : Nat) (rows : List PV) (is : List Int) : PV := .ins 0 [([108, 101, 116, 116, 101, 114, 115], .int L), ([97, 114, 114, 111, 119, 115], .tup rows), ([101, 110, 100, 115], .tup (is.map PV.int))]
structure MachOk (L : Nat) (rows : List PV) (is : List Int) : Prop where
  l1 : 1 ≤ L
  l5 : L ≤ 5
  n1 : 1 ≤ rows.length
  n8 : rows.length ≤ 8
  rws : ∀ r ∈ rows, rowOk rows.length L r
  ends : endsOk rows.length is
theorem lim_of {n : Nat} (h : n ≤ 1000) : n ≤ LIM := Nat.le_trans h (by decide)
section
variable {L : Nat} {rows : List PV} {is : List Int} {ws us : List (List Nat)}
end
end MM

end
section
set_option maxRecDepth 100000
set_option maxHeartbeats 4000000
namespace MC
open PySem L2
section
variable {β : Type} {h : PH} {n : Nat}
theorem in_ints {k : Int} {is : List Int} : opIn false h (.int k) (.tup (is.map PV.int)) = .ok (.bl (decide (k ∈ is))) h := by
  have m : ∀ is : List Int, mapO (toD h DEP) (is.map PV.int) = some (is.map PyData.int) := by
    intro is
    induction is with
    | nil => rfl
    | cons i r ih =>
      rw [List.map_cons]
      unfold mapO
      rw [show toD h DEP (.int i) = some (.int i) from rfl, ih]; rfl
  have c : ∀ is : List Int, PyData.canLayAll0 (is.map PyData.int) = true := by
    intro is
    induction is with
    | nil => rfl
    | cons i r ih => simp [PyData.canLayAll0, PyData.canLay0, ih]
  have a : ((is.map PyData.int).any fun z => PyData.eqv z (.int k)) = decide (k ∈ is) := by
    induction is with
    | nil => rfl
    | cons i r ih =>
      rw [List.map_cons, List.any_cons, ih]
      by_cases e : i = k
      · subst e; simp [PyData.eqv]
      · have e2 : ¬ k = i := fun q => e q.symm
        simp [PyData.eqv, e, e2]
  show inItems false h (.int k) (is.map PV.int) = _
  unfold inItems
  rw [m, show toD h DEP (.int k) = some (.int k) from rfl]
  have s : SeqAt.shaped (.int k) = true := by simp [SeqAt.shaped, PyData.canLay0, PyData.depth]
  simp only [s, c, a, Bool.and_self, cond_true, negB, cond_false]
theorem app_c {xs : List PV} {v : PV} (e : h[n]? = some (.lst xs)) (hl : xs.length < LIM) : oAppend h [.ref n, v] = .ok .non (h.set n (.lst (xs ++ [v]))) := by
  simp only [oAppend, e, decide_eq_true hl, cond_true]
theorem len_seqI {n : Nat} : (seqI 0 n).length = n := by unfold seqI; rw [List.length_map, List.length_range]
theorem at_seqI {n t : Nat} {x : PV} (e : (seqI 0 n)[t]? = some x) : t < n ∧ x = .int t := by
  have hl := (List.getElem?_eq_some_iff.mp e).1
  rw [len_seqI] at hl
  unfold seqI at e
  rw [List.getElem?_map, List.getElem?_range hl] at e
  cases e
  exact ⟨hl, by simp⟩
theorem inR_small {i : Int} (h0 : 0 ≤ i) (h1 : i ≤ 1000) : inR i = true := by unfold inR L62; simp; omega
theorem ix_last {xs : List PV} {x : PV} (e0 : h[n]? = some (.lst (xs ++ [x]))) : opIx h (.ref n) (.int (-1)) = .ok x h := by
  have : opIx h (.ref n) (.int (-1)) = ixL h (xs ++ [x]) (.int (-1)) := by simp [opIx, e0]
  rw [this]
  have z : L2.atI (xs ++ [x]) (-1) = some x := by
    unfold L2.atI
    have : ixN (xs ++ [x]).length (-1) = some xs.length := by unfold ixN; simp; omega
    rw [this]; simp
  show (match L2.atI (xs ++ [x]) (-1) with
    | some v => R.ok v h
    | none => .stuck) = _
  rw [z]
end
end MC
namespace MM
open PySem L2 MC
def ov : Option Nat → PV
  | none => .non
  | some g => .int g
def rowV (r : List (Option Nat)) : PV := .tup (r.map ov)
def rowsV (rs : List (List (Option Nat))) : List PV := rs.map rowV
def enI (es : List Nat) : List Int := es.map fun (e : Nat) => (e : Int)
def gsOf (rs : List (List (Option Nat))) (k : Nat) : List Nat := ((rs[k]?).getD []).filterMap id
/-- how many rows of t letters lead from stand k to an end -/
def Bt (rs : List (List (Option Nat))) (es : List Nat) : Nat → Nat → Nat
  | 0, k => if k ∈ es then 1 else 0
  | t + 1, k => ((gsOf rs k).map (Bt rs es t)).sum
def cnts (rs : List (List (Option Nat))) (es : List Nat) (t : Nat) : List PV := (List.range rs.length).map fun k => .int (Bt rs es t k)
section
variable {L : Nat} {rs : List (List (Option Nat))} {es : List Nat}
theorem rowsV_len : (rowsV rs).length = rs.length := by unfold rowsV; rw [List.length_map]
/-- a good machine, as data -/
def TO (L : Nat) (rs : List (List (Option Nat))) (es : List Nat) : Prop := MachOk L (rowsV rs) (enI es)
def mk (L : Nat) (rs : List (List (Option Nat))) (es : List Nat) : PV := mach L (rowsV rs) (enI es)
theorem TO.row (o : TO L rs es) {k : Nat} {r : List (Option Nat)} (e : rs[k]? = some r) : r.length = L ∧ ∀ g, some g ∈ r → g < rs.length := by
  have := o.rws (rowV r) (by unfold rowsV; exact List.mem_map.mpr ⟨r, List.mem_of_getElem? e, rfl⟩)
  obtain ⟨gs, q1, q2, q3⟩ := this
  have q1 : r.map ov = gs := by
    unfold rowV at q1
    exact PV.tup.inj q1
  subst q1
  refine ⟨by simpa using q2, fun g hg => ?_⟩
  have := q3 (ov (some g)) (List.mem_map.mpr ⟨_, hg, rfl⟩)
  rw [rowsV_len] at this
  rcases this with q | ⟨i, q, a, b⟩
  · cases q
  · have : (g : Int) = i := by unfold ov at q; exact PV.int.inj q
    omega
theorem TO.goals (o : TO L rs es) (k : Nat) : (gsOf rs k).length ≤ 5 ∧ ∀ g ∈ gsOf rs k, g < rs.length := by
  unfold gsOf
  cases e : rs[k]? with
  | none => exact ⟨Nat.zero_le _, fun _ h => nomatch h⟩
  | some r =>
    obtain ⟨l, h⟩ := o.row e
    refine ⟨?_, fun g hg => ?_⟩
    · have := List.length_filterMap_le id r
      have := o.l5
      show (r.filterMap id).length ≤ 5
      omega
    · obtain ⟨x, hx, q⟩ := List.mem_filterMap.mp hg
      have : x = some g := q
      exact h g (this ▸ hx)
theorem sum_nat (f : Nat → Nat) : ∀ l : List Nat, (l.map fun g => ((f g : Nat) : Int)).sum = (((l.map f).sum : Nat) : Int)
  | [] => rfl
  | a :: l => by simp [sum_nat f l]
theorem n8 (o : TO L rs es) : 1 ≤ rs.length ∧ rs.length ≤ 8 := by
  have h1 := o.n1
  have h8 := o.n8
  rw [rowsV_len] at h1 h8
  exact ⟨h1, h8⟩
/-- the list of lists that grows -/
def AC (rs : List (List (Option Nat))) (es : List Nat) (i : Nat) (h : PH) : Prop := ∃ js : List Nat, h[1]? = some (.lst (js.map PV.ref)) ∧ (1 :: js).Nodup ∧ js.length = i + 1 ∧ ∀ (t j : Nat), js[t]? = some j → h[j]? = some (.lst (cnts rs es t))
theorem AC.more {i : Nat} {h : PH} (hi : i < 300) : AC rs es i h → ∃ j, h[j]? = some (.lst (cnts rs es i)) ∧ isTy h 1 (.ref 1) = true ∧ opIx h (.ref 1) (.int (-1)) = .ok (.ref j) h ∧ ∃ h', oAppend (h ++ [PO.lst (cnts rs es (i + 1))]) [.ref 1, .ref h.length] = .ok .non h' ∧ AC rs es (i + 1) h' := by
  intro ⟨js, h1, nd, lj, hj⟩
  have nn := List.nodup_cons.mp nd
  obtain ⟨j, ej⟩ : ∃ j, js[i]? = some j := ⟨_, List.getElem?_eq_getElem (by omega)⟩
  have sp : js = js.take i ++ [j] := by
    have a : js.take (i + 1) = js := List.take_of_length_le (by omega)
    rw [List.take_add_one, ej] at a
    exact a.symm
  have spm : js.map PV.ref = (js.take i).map PV.ref ++ [.ref j] := by
    have := congrArg (List.map PV.ref) sp
    rw [List.map_append] at this
    exact this
  have l1 := (List.getElem?_eq_some_iff.mp h1).1
  refine ⟨j, hj i j ej, ty_lst h1, ix_last (xs := (js.take i).map PV.ref) (by rw [h1, spm]), _, app_c (get_app h1) (by rw [List.length_map]; exact Nat.lt_of_le_of_lt (show js.length ≤ 301 by omega) (by decide)), js ++ [h.length], ?_, ?_, by simp [lj], fun t k e => ?_⟩
  · rw [List.getElem?_set_self (by rw [List.length_append]; omega)]; simp
  · have lt : ∀ k ∈ js, k < h.length := fun k hk => by
      obtain ⟨t, et⟩ := List.mem_iff_getElem?.mp hk
      exact (List.getElem?_eq_some_iff.mp (hj t k et)).1
    refine List.nodup_cons.mpr ⟨?_, ?_⟩
    · intro q
      rcases List.mem_append.mp q with q | q
      · exact nn.1 q
      · have := List.mem_singleton.mp q
        omega
    · refine List.nodup_append.mpr ⟨nn.2, by simp, fun a ha b hb q => ?_⟩
      have := lt a ha
      rw [List.mem_singleton.mp hb] at q
      omega
  · have ne : ∀ k ∈ js, 1 ≠ k := fun k hk q => nn.1 (q ▸ hk)
    by_cases ht : t < js.length
    · rw [List.getElem?_append_left ht] at e
      rw [List.getElem?_set_ne (ne k (List.mem_of_getElem? e))]
      exact get_app (hj t k e)
    · rw [List.getElem?_append_right (by omega)] at e
      have : t - js.length = 0 := by
        rcases Nat.eq_zero_or_pos (t - js.length) with z | z
        · exact z
        · rw [List.getElem?_eq_none (by simp; omega)] at e; cases e
      rw [this] at e
      have e : h.length = k := by simpa using e
      subst e
      rw [List.getElem?_set_ne (by omega), show t = i + 1 by omega]
      simp
theorem _root_.MC.LL.two {h : PH} {v : PV} {zss : List (List PV)} (l : LL h v zss) {t k : Nat} {zs : List PV} {z : PV} (e : zss[t]? = some zs) (e2 : zs[k]? = some z) : ∃ j, opIx h v (.int t) = .ok (.ref j) h ∧ opIx h (.ref j) (.int k) = .ok z h := by
  obtain ⟨i, js, rfl, e0, nd, hlen, he⟩ := l
  have : t < js.length := by rw [hlen]; exact (List.getElem?_eq_some_iff.mp e).1
  obtain ⟨zs', q1, q2, q3⟩ := he t js[t] (List.getElem?_eq_getElem this)
  rw [e] at q1
  cases q1
  exact ⟨js[t], ix_ref e0 (by rw [List.getElem?_map, List.getElem?_eq_getElem this]; rfl), ix_ref q2 e2⟩
end
end MM

end
section
set_option maxRecDepth 100000
namespace MM
open PySem L2 MC
end MM

end
section
set_option maxRecDepth 100000
set_option maxHeartbeats 4000000
namespace MM
open PySem L2 MC
def dg (n : Int) (v : PV) : Prop := ∃ d, v = .int d ∧ 0 ≤ d ∧ d < n
/-- a plan: letters, rows, ends -/
def plnV (L : Nat) (rows : List PV) (is : List Int) : PV := .tup [.int L, .tup rows, .tup (is.map PV.int)]
def pl (L : Nat) (rs : List (List (Option Nat))) (es : List Nat) : PV := plnV L (rowsV rs) (enI es)
end MM

end
section
set_option maxRecDepth 100000
set_option maxHeartbeats 4000000
namespace MM
open PySem L2 MC
end MM

end
section
set_option maxRecDepth 100000
set_option maxHeartbeats 4000000
namespace MM
open PySem L2 MC
theorem set_c {h : PH} {n : Nat} {xs : List PV} {i : Nat} {v : PV} (e : h[n]? = some (.lst xs)) (hi : i < xs.length) : oSetIx h (.ref n) (.int i) v = .ok () (h.set n (.lst (xs.set i v))) := by
  have z : ixN xs.length (i : Int) = some i := by unfold ixN; simp [hi]
  simp only [oSetIx, e, z]
section
variable {L : Nat} {rs : List (List (Option Nat))} {es : List Nat}
end
end MM

end
section
set_option maxRecDepth 100000
set_option maxHeartbeats 4000000
namespace MC
open PySem L2
theorem cut_to {α : Type} (xs : List α) (j : Nat) : cutG xs none (some (j : Int)) = xs.take j := by
  unfold cutG
  rw [show HT.sIx xs.length 0 none = 0 from rfl, HT.sIx_nat]
  simp only [List.drop_zero, Nat.sub_zero]
  rw [← List.take_eq_take_min]
theorem len_scr {xs : List PV} {h : PH} : bLen h [.scr xs] = .ok (.int xs.length) h := by simp only [bLen, seqP]
theorem ix_scr {h : PH} {xs : List PV} {i : Nat} {x : PV} (e : xs[i]? = some x) : opIx h (.scr xs) (.int i) = .ok x h := by
  have z : L2.atI xs (i : Int) = some x := atI_nat e
  simp only [opIx, ixL, z]
theorem sl_scr {h : PH} {xs : List PV} {lo hi : Option Int} : opSl h (.scr xs) lo hi = .ok (.ref h.length) (h ++ [.lst (cutG xs lo hi)]) := by simp only [opSl]
end MC
namespace MM
open PySem L2 MC
section
variable {L : Nat} {rs : List (List (Option Nat))} {es : List Nat}
end
end MM

end
section
set_option maxRecDepth 100000
set_option maxHeartbeats 4000000
namespace MC
open PySem L2
end MC
namespace MM
open PySem L2 MC
section
variable {L : Nat} {rs : List (List (Option Nat))} {es : List Nat} {K : Nat}
end
end MM

end
section
set_option maxRecDepth 100000
namespace MM
open PySem L2 MC
end MM

end
section
set_option maxRecDepth 100000
set_option maxHeartbeats 4000000
namespace MM
open PySem L2 MC
end MM

end
section
set_option maxRecDepth 100000
set_option maxHeartbeats 4000000
namespace MC
open PySem L2
section
variable {m : MF} {xs as : List PV} {h g : PH} {v : PV}
end
end MC
namespace MM
open PySem L2 MC
def smp : PV → Bool
  | .non => true
  | .bl _ => true
  | .int _ => true
  | .str _ => true
  | .tup xs => noRefs xs
  | _ => false
theorem smp_no {x : PV} (h : smp x = true) : noRef x = true := by
  cases x <;> first | rfl | (unfold smp at h; unfold noRef; exact h) | cases h
def okA : PV → Bool
  | .int i => decide (0 ≤ i) && decide (i ≤ 300)
  | _ => false
section
variable {L : Nat} {rs : List (List (Option Nat))} {es : List Nat}
end
end MM

end
section
set_option maxRecDepth 100000
set_option maxHeartbeats 4000000
namespace MC
open PySem L2

/-- the refs of the n-th object -/
def refsAt (h : PH) (n : Nat) : List Nat := match h[n]? with
  | some o => refsO o
  | none => []
/-- S holds with an object all that it leads to -/
def Closed (h : PH) (S : List Nat) : Prop := ∀ n ∈ S, n < h.length ∧ ∀ m ∈ refsAt h n, m ∈ S
def wgt (h : PH) (S seen : List Nat) : Nat := ((S.filter fun n => !seen.contains n).map fun n => (refsAt h n).length).sum
theorem wgt_drop {h : PH} {n : Nat} {seen : List Nat} (hn : seen.contains n = false) : ∀ {S : List Nat}, S.Nodup → n ∈ S → (refsAt h n).length + wgt h S (seen ++ [n]) = wgt h S seen
  | [], _, z => by cases z
  | m :: S, nd, z => by
    have nd2 := List.nodup_cons.mp nd
    unfold wgt
    rw [List.filter_cons, List.filter_cons]
    by_cases e : m = n
    · subst e
      have c1 : (!(seen ++ [m]).contains m) = false := by simp
      have c2 : (!seen.contains m) = true := by rw [hn]; rfl
      rw [c1, c2]
      simp only [if_true, Bool.false_eq_true, if_false, List.map_cons, List.sum_cons]
      have : S.filter (fun k => !(seen ++ [m]).contains k) = S.filter fun k => !seen.contains k := by
        refine List.filter_congr fun k hk => ?_
        have : k ≠ m := fun e => nd2.1 (e ▸ hk)
        simp [this]
      rw [this]
    · have hS : n ∈ S := (List.mem_cons.mp z).elim (fun q => absurd q.symm e) id
      have ih := wgt_drop hn nd2.2 hS (h := h)
      unfold wgt at ih
      have c : (seen ++ [n]).contains m = seen.contains m := by simp [e]
      rw [c]
      split
      · rw [List.map_cons, List.map_cons, List.sum_cons, List.sum_cons]; omega
      · exact ih
theorem reach_spec {h : PH} {S : List Nat} (cl : Closed h S) (nd : S.Nodup) : ∀ (f : Nat) (todo seen : List Nat), (∀ n ∈ todo, n ∈ S) → (∀ n ∈ seen, n ∈ S) → todo.length + wgt h S seen ≤ f →
    ∃ fp, reach h f todo seen = some fp ∧ (∀ n ∈ seen, n ∈ fp) ∧ (∀ n ∈ todo, n ∈ fp) ∧ (∀ n ∈ fp, n ∈ S) ∧ (∀ n ∈ fp, n ∈ seen ∨ ∀ m ∈ refsAt h n, m ∈ fp)
  | f, [], seen, ht, hs, hw => by
    refine ⟨seen, ?_, fun _ z => z, fun _ z => (nomatch z), hs, fun _ z => .inl z⟩
    cases f <;> (unfold reach; rfl)
  | 0, n :: todo, seen, ht, hs, hw => by simp at hw
  | f + 1, n :: todo, seen, ht, hs, hw => by
    have hn := ht n List.mem_cons_self
    rw [List.length_cons] at hw
    unfold reach
    cases c : seen.contains n with
    | true =>
      rw [cond_true]
      obtain ⟨fp, e, a, b, d, k⟩ := reach_spec cl nd f todo seen (fun m hm => ht m (List.mem_cons_of_mem _ hm)) hs (by omega)
      refine ⟨fp, e, a, fun m hm => ?_, d, k⟩
      rcases List.mem_cons.mp hm with rfl | hm
      · exact a _ (List.contains_iff_mem.mp c)
      · exact b m hm
    | false =>
      rw [cond_false]
      obtain ⟨hl, hc⟩ := cl n hn
      have eo : h[n]? = some h[n] := List.getElem?_eq_getElem hl
      have er : refsAt h n = refsO h[n] := by unfold refsAt; rw [eo]
      rw [eo]
      have w := wgt_drop (h := h) c nd hn
      obtain ⟨fp, e, a, b, d, k⟩ := reach_spec cl nd f (refsO h[n] ++ todo) (seen ++ [n]) (fun m hm => by
        rcases List.mem_append.mp hm with q | q
        · exact hc m (by rw [er]; exact q)
        · exact ht m (List.mem_cons_of_mem _ q)) (fun m hm => by
        rcases List.mem_append.mp hm with q | q
        · exact hs m q
        · rw [List.mem_singleton.mp q]; exact hn) (by rw [List.length_append, ← er]; omega)
      refine ⟨fp, e, fun m hm => a m (List.mem_append_left _ hm), fun m hm => ?_, d, fun m hm => ?_⟩
      · rcases List.mem_cons.mp hm with rfl | hm
        · exact a _ (List.mem_append_right _ (List.mem_singleton.mpr rfl))
        · exact b m (List.mem_append_right _ hm)
      · rcases k m hm with q | q
        · rcases List.mem_append.mp q with q | q
          · exact .inl q
          · rw [List.mem_singleton.mp q]
            exact .inr fun x hx => b x (List.mem_append_left _ (by rw [← er]; exact hx))
        · exact .inr q

mutual
theorem ren_tot {f : Nat → Option Nat} : ∀ x : PV, (∀ n ∈ refsV x, ∃ m, f n = some m) → ∃ y, renV f x = some y
  | .non, _ | .bl _, _ | .int _, _ | .str _, _ | .gl _, _ => by unfold renV; exact ⟨_, rfl⟩
  | .tup xs, h => by
    obtain ⟨ys, e⟩ := rens_tot xs (by unfold refsV at h; exact h)
    unfold renV; rw [e]; exact ⟨_, rfl⟩
  | .scr xs, h => by
    obtain ⟨ys, e⟩ := rens_tot xs (by unfold refsV at h; exact h)
    unfold renV; rw [e]; exact ⟨_, rfl⟩
  | .rdic xs, h => by
    obtain ⟨ys, e⟩ := renk_tot xs (by unfold refsV at h; exact h)
    unfold renV; rw [e]; exact ⟨_, rfl⟩
  | .ins c fs, h => by
    obtain ⟨ys, e⟩ := renf_tot fs (by unfold refsV at h; exact h)
    unfold renV; rw [e]; exact ⟨_, rfl⟩
  | .exn c fs, h => by
    obtain ⟨ys, e⟩ := renf_tot fs (by unfold refsV at h; exact h)
    unfold renV; rw [e]; exact ⟨_, rfl⟩
  | .ref n, h => by
    obtain ⟨m, e⟩ := h n (by unfold refsV; exact List.mem_singleton.mpr rfl)
    unfold renV; rw [e]; exact ⟨_, rfl⟩
theorem rens_tot {f : Nat → Option Nat} : ∀ x : List PV, (∀ n ∈ refsVs x, ∃ m, f n = some m) → ∃ y, renVs f x = some y
  | [], _ => by unfold renVs; exact ⟨_, rfl⟩
  | x :: xs, h => by
    unfold refsVs at h
    obtain ⟨y, e1⟩ := ren_tot x fun n hn => h n (List.mem_append_left _ hn)
    obtain ⟨ys, e2⟩ := rens_tot xs fun n hn => h n (List.mem_append_right _ hn)
    unfold renVs; rw [e1, e2]; exact ⟨_, rfl⟩
theorem renk_tot {f : Nat → Option Nat} : ∀ x : List (PV × PV), (∀ n ∈ refsK x, ∃ m, f n = some m) → ∃ y, renK f x = some y
  | [], _ => by unfold renK; exact ⟨_, rfl⟩
  | (k, x) :: xs, h => by
    unfold refsK at h
    obtain ⟨y, e1⟩ := ren_tot x fun n hn => h n (List.mem_append_left _ hn)
    obtain ⟨ys, e2⟩ := renk_tot xs fun n hn => h n (List.mem_append_right _ hn)
    unfold renK; rw [e1, e2]; exact ⟨_, rfl⟩
theorem renf_tot {f : Nat → Option Nat} : ∀ x : List (Nm × PV), (∀ n ∈ refsF x, ∃ m, f n = some m) → ∃ y, renF f x = some y
  | [], _ => by unfold renF; exact ⟨_, rfl⟩
  | (k, x) :: xs, h => by
    unfold refsF at h
    obtain ⟨y, e1⟩ := ren_tot x fun n hn => h n (List.mem_append_left _ hn)
    obtain ⟨ys, e2⟩ := renf_tot xs fun n hn => h n (List.mem_append_right _ hn)
    unfold renF; rw [e1, e2]; exact ⟨_, rfl⟩
end
mutual
/-- what was renamed leads to renamed objects, comes back, and leads to as many -/
theorem ren_back {f b : Nat → Option Nat} (hb : ∀ n m, f n = some m → b m = some n) : ∀ (x y : PV), renV f x = some y → renV b y = some x ∧ (∀ m ∈ refsV y, ∃ n ∈ refsV x, f n = some m) ∧ (refsV y).length = (refsV x).length
  | .non, y, e | .bl _, y, e | .int _, y, e | .str _, y, e | .gl _, y, e => by unfold renV at e; cases e; exact ⟨by unfold renV; rfl, fun m hm => (by unfold refsV at hm; cases hm), rfl⟩
  | .tup xs, y, e => by
    unfold renV at e
    cases q : renVs f xs with
    | none => rw [q] at e; cases e
    | some ys =>
      rw [q] at e; cases e
      obtain ⟨a, c, d⟩ := rens_back hb xs ys q
      exact ⟨by unfold renV; rw [a], by unfold refsV; exact c, by unfold refsV; exact d⟩
  | .scr xs, y, e => by
    unfold renV at e
    cases q : renVs f xs with
    | none => rw [q] at e; cases e
    | some ys =>
      rw [q] at e; cases e
      obtain ⟨a, c, d⟩ := rens_back hb xs ys q
      exact ⟨by unfold renV; rw [a], by unfold refsV; exact c, by unfold refsV; exact d⟩
  | .rdic xs, y, e => by
    unfold renV at e
    cases q : renK f xs with
    | none => rw [q] at e; cases e
    | some ys =>
      rw [q] at e; cases e
      obtain ⟨a, c, d⟩ := renk_back hb xs ys q
      exact ⟨by unfold renV; rw [a], by unfold refsV; exact c, by unfold refsV; exact d⟩
  | .ins k xs, y, e => by
    unfold renV at e
    cases q : renF f xs with
    | none => rw [q] at e; cases e
    | some ys =>
      rw [q] at e; cases e
      obtain ⟨a, c, d⟩ := renf_back hb xs ys q
      exact ⟨by unfold renV; rw [a], by unfold refsV; exact c, by unfold refsV; exact d⟩
  | .exn k xs, y, e => by
    unfold renV at e
    cases q : renF f xs with
    | none => rw [q] at e; cases e
    | some ys =>
      rw [q] at e; cases e
      obtain ⟨a, c, d⟩ := renf_back hb xs ys q
      exact ⟨by unfold renV; rw [a], by unfold refsV; exact c, by unfold refsV; exact d⟩
  | .ref n, y, e => by
    unfold renV at e
    cases q : f n with
    | none => rw [q] at e; cases e
    | some m =>
      rw [q] at e; cases e
      refine ⟨by unfold renV; rw [hb n m q], fun k hk => ?_, by unfold refsV; rfl⟩
      unfold refsV at hk ⊢
      rw [List.mem_singleton.mp hk]
      exact ⟨n, List.mem_singleton.mpr rfl, q⟩
theorem rens_back {f b : Nat → Option Nat} (hb : ∀ n m, f n = some m → b m = some n) : ∀ (x y : List PV), renVs f x = some y → renVs b y = some x ∧ (∀ m ∈ refsVs y, ∃ n ∈ refsVs x, f n = some m) ∧ (refsVs y).length = (refsVs x).length
  | [], y, e => by unfold renVs at e; cases e; exact ⟨by unfold renVs; rfl, fun m hm => (by unfold refsVs at hm; cases hm), rfl⟩
  | x :: xs, y, e => by
    unfold renVs at e
    cases q1 : renV f x with
    | none => rw [q1] at e; cases e
    | some y1 =>
      cases q2 : renVs f xs with
      | none => rw [q1, q2] at e; cases e
      | some ys =>
        rw [q1, q2] at e; cases e
        obtain ⟨a1, c1, d1⟩ := ren_back hb x y1 q1
        obtain ⟨a2, c2, d2⟩ := rens_back hb xs ys q2
        refine ⟨by unfold renVs; rw [a1, a2], fun m hm => ?_, by unfold refsVs; rw [List.length_append, List.length_append, d1, d2]⟩
        unfold refsVs at hm ⊢
        rcases List.mem_append.mp hm with z | z
        · obtain ⟨n, h1, h2⟩ := c1 m z; exact ⟨n, List.mem_append_left _ h1, h2⟩
        · obtain ⟨n, h1, h2⟩ := c2 m z; exact ⟨n, List.mem_append_right _ h1, h2⟩
theorem renk_back {f b : Nat → Option Nat} (hb : ∀ n m, f n = some m → b m = some n) : ∀ (x y : List (PV × PV)), renK f x = some y → renK b y = some x ∧ (∀ m ∈ refsK y, ∃ n ∈ refsK x, f n = some m) ∧ (refsK y).length = (refsK x).length
  | [], y, e => by unfold renK at e; cases e; exact ⟨by unfold renK; rfl, fun m hm => (by unfold refsK at hm; cases hm), rfl⟩
  | (k, x) :: xs, y, e => by
    unfold renK at e
    cases q1 : renV f x with
    | none => rw [q1] at e; cases e
    | some y1 =>
      cases q2 : renK f xs with
      | none => rw [q1, q2] at e; cases e
      | some ys =>
        rw [q1, q2] at e; cases e
        obtain ⟨a1, c1, d1⟩ := ren_back hb x y1 q1
        obtain ⟨a2, c2, d2⟩ := renk_back hb xs ys q2
        refine ⟨by unfold renK; rw [a1, a2], fun m hm => ?_, by unfold refsK; rw [List.length_append, List.length_append, d1, d2]⟩
        unfold refsK at hm ⊢
        rcases List.mem_append.mp hm with z | z
        · obtain ⟨n, h1, h2⟩ := c1 m z; exact ⟨n, List.mem_append_left _ h1, h2⟩
        · obtain ⟨n, h1, h2⟩ := c2 m z; exact ⟨n, List.mem_append_right _ h1, h2⟩
theorem renf_back {f b : Nat → Option Nat} (hb : ∀ n m, f n = some m → b m = some n) : ∀ (x y : List (Nm × PV)), renF f x = some y → renF b y = some x ∧ (∀ m ∈ refsF y, ∃ n ∈ refsF x, f n = some m) ∧ (refsF y).length = (refsF x).length
  | [], y, e => by unfold renF at e; cases e; exact ⟨by unfold renF; rfl, fun m hm => (by unfold refsF at hm; cases hm), rfl⟩
  | (k, x) :: xs, y, e => by
    unfold renF at e
    cases q1 : renV f x with
    | none => rw [q1] at e; cases e
    | some y1 =>
      cases q2 : renF f xs with
      | none => rw [q1, q2] at e; cases e
      | some ys =>
        rw [q1, q2] at e; cases e
        obtain ⟨a1, c1, d1⟩ := ren_back hb x y1 q1
        obtain ⟨a2, c2, d2⟩ := renf_back hb xs ys q2
        refine ⟨by unfold renF; rw [a1, a2], fun m hm => ?_, by unfold refsF; rw [List.length_append, List.length_append, d1, d2]⟩
        unfold refsF at hm ⊢
        rcases List.mem_append.mp hm with z | z
        · obtain ⟨n, h1, h2⟩ := c1 m z; exact ⟨n, List.mem_append_left _ h1, h2⟩
        · obtain ⟨n, h1, h2⟩ := c2 m z; exact ⟨n, List.mem_append_right _ h1, h2⟩
end
theorem reno_tot {f : Nat → Option Nat} : ∀ o : PO, (∀ n ∈ refsO o, ∃ m, f n = some m) → ∃ p, renO f o = some p
  | .lst xs, h => by obtain ⟨y, e⟩ := rens_tot xs h; exact ⟨.lst y, by simp only [renO, e]⟩
  | .ins c xs, h => by obtain ⟨y, e⟩ := renf_tot xs h; exact ⟨.ins c y, by simp only [renO, e]⟩
  | .dic l xs, h => by obtain ⟨y, e⟩ := renk_tot xs h; exact ⟨.dic l y, by simp only [renO, e]⟩
  | .dit l xs, h => by obtain ⟨y, e⟩ := renk_tot xs h; exact ⟨.dit l y, by simp only [renO, e]⟩
theorem reno_back {f b : Nat → Option Nat} (hb : ∀ n m, f n = some m → b m = some n) : ∀ (o p : PO), renO f o = some p → renO b p = some o ∧ (∀ m ∈ refsO p, ∃ n ∈ refsO o, f n = some m) ∧ (refsO p).length = (refsO o).length
  | .lst xs, p, e => by
    simp only [renO] at e
    split at e
    · rename_i ys q
      cases e
      obtain ⟨a, c, d⟩ := rens_back hb xs ys q
      exact ⟨by simp only [renO, a], c, d⟩
    · cases e
  | .ins k xs, p, e => by
    simp only [renO] at e
    split at e
    · rename_i ys q
      cases e
      obtain ⟨a, c, d⟩ := renf_back hb xs ys q
      exact ⟨by simp only [renO, a], c, d⟩
    · cases e
  | .dic k xs, p, e => by
    simp only [renO] at e
    split at e
    · rename_i ys q
      cases e
      obtain ⟨a, c, d⟩ := renk_back hb xs ys q
      exact ⟨by simp only [renO, a], c, d⟩
    · cases e
  | .dit k xs, p, e => by
    simp only [renO] at e
    split at e
    · rename_i ys q
      cases e
      obtain ⟨a, c, d⟩ := renk_back hb xs ys q
      exact ⟨by simp only [renO, a], c, d⟩
    · cases e
theorem mapO_tot {α β : Type} {f : α → Option β} : ∀ {xs : List α}, (∀ x ∈ xs, ∃ y, f x = some y) → ∃ ys, mapO f xs = some ys
  | [], _ => ⟨[], rfl⟩
  | x :: xs, h => by
    obtain ⟨y, e⟩ := h x List.mem_cons_self
    obtain ⟨ys, e2⟩ := mapO_tot (xs := xs) fun z hz => h z (List.mem_cons_of_mem _ hz)
    exact ⟨y :: ys, by unfold mapO; rw [e, e2]⟩
theorem mapO_eq {α β : Type} {f : α → Option β} : ∀ {xs : List α} {ys : List β}, xs.length = ys.length → (∀ (i : Nat) x, xs[i]? = some x → f x = ys[i]?) → mapO f xs = some ys
  | [], [], _, _ => rfl
  | [], _ :: _, l, _ => by simp at l
  | _ :: _, [], l, _ => by simp at l
  | x :: xs, y :: ys, l, h => by
    have e : f x = some y := h 0 x rfl
    unfold mapO
    rw [e, mapO_eq (by simpa using l) fun i z hz => h (i + 1) z hz]
theorem idx_mem {n : Nat} : ∀ {l : List Nat}, n ∈ l → ∃ m, idx l n = some m
  | [], h => by cases h
  | x :: r, h => by
    unfold idx
    by_cases e : x = n
    · rw [beq_iff_eq.mpr e]; exact ⟨0, rfl⟩
    · rw [beq_eq_false_iff_ne.mpr e, cond_false]
      obtain ⟨m, em⟩ := idx_mem ((List.mem_cons.mp h).elim (fun q => absurd q.symm e) id)
      rw [em]; exact ⟨_, rfl⟩
theorem idx_lt {l : List Nat} {n m : Nat} (e : idx l n = some m) : m < l.length := (List.getElem?_eq_some_iff.mp (idx_get e)).1
theorem idx_of {l : List Nat} (nd : l.Nodup) {t n : Nat} (e : l[t]? = some n) : idx l n = some t := idx_at nd e
theorem sum_range_le {h : PH} (g : PH) : ∀ (fp : List Nat) (k : Nat), (∀ t n, fp[t]? = some n → (refsAt g (k + t)).length ≤ (refsAt h n).length) → ((List.range' k fp.length).map fun n => (refsAt g n).length).sum ≤ (fp.map fun n => (refsAt h n).length).sum
  | [], _, _ => Nat.le_refl _
  | n :: fp, k, hh => by
    have h0 := hh 0 n rfl
    have ih := sum_range_le g fp (k + 1) fun t m e => by
      have := hh (t + 1) m (by simpa using e)
      rwa [show k + (t + 1) = k + 1 + t by omega] at this
    rw [List.length_cons, List.range'_succ, List.map_cons, List.map_cons, List.sum_cons, List.sum_cons]
    simpa using Nat.add_le_add h0 ih
theorem sum_sub {F : Nat → Nat} : ∀ {fp S : List Nat}, fp.Nodup → (∀ n ∈ fp, n ∈ S) → (fp.map F).sum ≤ (S.map F).sum
  | [], _, _, _ => Nat.zero_le _
  | n :: fp, S, nd, hs => by
    have nd2 := List.nodup_cons.mp nd
    have hn := hs n List.mem_cons_self
    have p := List.perm_cons_erase hn
    have e : (S.map F).sum = F n + ((S.erase n).map F).sum := by
      have := (p.map F).sum_nat
      simpa using this
    have ih := sum_sub (F := F) (fp := fp) (S := S.erase n) nd2.2 fun m hm => by
      have hne : m ≠ n := fun e => nd2.1 (e ▸ hm)
      exact (List.mem_erase_of_ne hne).mpr (hs m (List.mem_cons_of_mem _ hm))
    rw [List.map_cons, List.sum_cons, e]
    omega
theorem sum_one : ∀ l : List Nat, (l.map fun _ => 1).sum = l.length
  | [] => rfl
  | _ :: l => by rw [List.map_cons, List.sum_cons, sum_one l, List.length_cons]; omega
theorem len_sub {fp S : List Nat} (nd : fp.Nodup) (hs : ∀ n ∈ fp, n ∈ S) : fp.length ≤ S.length := by
  have := sum_sub (F := fun _ => 1) nd hs
  rwa [sum_one, sum_one] at this
end MC

end
section
set_option maxRecDepth 100000
set_option maxHeartbeats 4000000
namespace MC
open PySem L2
end MC
namespace MM
open PySem L2 MC
end MM

end
section
set_option maxRecDepth 100000
set_option maxHeartbeats 4000000
namespace MC
open PySem L2
/-- an object that leads to no other -/
def Flat (o : PO) : Prop := refsO o = [] ∧ ∀ f, renO f o = some o
theorem flat_l {ys : List PV} (hy : noRefs ys = true) : Flat (.lst ys) := flatO_of hy
theorem flat_d {lk : Bool} : Flat (.dic lk []) := ⟨rfl, fun _ => rfl⟩
theorem reachF {h : PH} {n : Nat} {o : PO} (e : h[n]? = some o) (f : Flat o) : reach h FUEL [n] [] = some [n] := by
  show reach h (1599 + 1) [n] [] = _
  unfold reach
  simp only [List.contains_nil, cond_false, e, f.1, List.append_nil, List.nil_append]
  unfold reach; rfl
section
variable {m : MF} {xs as : List PV} {h g hc : PH} {u v : PV}
end
/-- a call that hands any objects over, changes none of them and hands back a value -/
theorem call_ro {m : MF} {xs : List PV} {h : PH} {S : List Nat} {v : PV} (cl : Closed h S) (nd : S.Nodup) (hx : ∀ n ∈ refsVs xs, n ∈ S) (hw : (refsVs xs).length + wgt h S [] ≤ FUEL) (hw2 : 100 + S.length + wgt h S [] ≤ FUEL) (hv : noRef v = true)
    (hm : ∀ (as : List PV) (hc : PH) (f : Nat → Option Nat), (∀ n m q, f n = some q → f m = some q → n = m) → (∀ n ∈ refsVs xs, ∃ q, f n = some q) → renVs f xs = some as → (∀ n q, f n = some q → ∃ o, hc[q]? = some o ∧ pick h f n = some o) → Ws (m as hc) fun u g => u = v ∧ ∀ i < hc.length, g[i]? = hc[i]?) :
    callG takeBack m xs h = .ok v h := by
  obtain ⟨fp, er, _, r2, r3, r4⟩ := reach_spec cl nd FUEL (refsVs xs) [] hx (fun _ z => nomatch z) hw
  have ndf := reach_nd List.nodup_nil er
  have r5 : ∀ n ∈ fp, ∀ k ∈ refsAt h n, k ∈ fp := fun n hn => (r4 n hn).elim (fun z => nomatch z) id
  have hb : ∀ n m, idx fp n = some m → fp[m]? = some n := fun n m e => idx_get e
  obtain ⟨as, ea⟩ := rens_tot (f := idx fp) xs fun n hn => idx_mem (r2 n hn)
  have obj : ∀ n ∈ fp, ∃ o p, h[n]? = some o ∧ refsAt h n = refsO o ∧ renO (idx fp) o = some p := fun n hn => by
    have hl := (cl n (r3 n hn)).1
    have e0 : h[n]? = some h[n] := List.getElem?_eq_getElem hl
    have e1 : refsAt h n = refsO h[n] := by unfold refsAt; rw [e0]
    obtain ⟨p, ep⟩ := reno_tot (f := idx fp) h[n] fun k hk => idx_mem (r5 n hn k (by rw [e1]; exact hk))
    exact ⟨_, p, e0, e1, ep⟩
  obtain ⟨hc, ec⟩ := mapO_tot (f := pick h (idx fp)) (xs := fp) fun n hn => by
    obtain ⟨o, p, e0, _, ep⟩ := obj n hn
    exact ⟨p, by unfold pick; rw [e0]; exact ep⟩
  have lc : hc.length = fp.length := mapO_len ec
  have hat : ∀ n q, idx fp n = some q → ∃ o, hc[q]? = some o ∧ pick h (idx fp) n = some o := fun n q e => by
    obtain ⟨y, h1, h2⟩ := mapO_get ec (hb n q e)
    exact ⟨y, h1, h2⟩
  have inj : ∀ n m q, idx fp n = some q → idx fp m = some q → n = m := fun n m q e1 e2 => by
    have := (hb n q e1).symm.trans (hb m q e2)
    exact Option.some.inj this
  obtain ⟨u, g, ev, rfl, bt⟩ := hm as hc (idx fp) inj (fun n hn => idx_mem (r2 n hn)) ea hat
  have gat : ∀ t n, fp[t]? = some n → ∃ o p, h[n]? = some o ∧ refsAt h n = refsO o ∧ renO (idx fp) o = some p ∧ g[t]? = some p := fun t n e => by
    have ei := idx_of ndf e
    obtain ⟨o, p, e0, e1, e2⟩ := obj n (List.mem_of_getElem? e)
    refine ⟨o, p, e0, e1, e2, ?_⟩
    obtain ⟨y, h1, h2⟩ := hat n t ei
    rw [bt t (by rw [lc]; exact (List.getElem?_eq_some_iff.mp e).1), h1]
    unfold pick at h2
    rw [e0] at h2
    exact h2.symm.trans e2
  have refs_g : ∀ t n, fp[t]? = some n → (∀ k ∈ refsAt g t, k < fp.length) ∧ (refsAt g t).length ≤ (refsAt h n).length := fun t n e => by
    obtain ⟨o, p, e0, e1, e2, q⟩ := gat t n e
    obtain ⟨_, b2, b3⟩ := reno_back hb o p e2
    have : refsAt g t = refsO p := by unfold refsAt; rw [q]
    rw [this, e1]
    exact ⟨fun k hk => by obtain ⟨n', _, z⟩ := b2 k hk; exact idx_lt z, Nat.le_of_eq b3⟩
  have clg : Closed g (List.range fp.length) := fun t ht => by
    have ht := List.mem_range.mp ht
    have e : fp[t]? = some fp[t] := List.getElem?_eq_getElem ht
    obtain ⟨_, _, _, _, _, q⟩ := gat t _ e
    exact ⟨(List.getElem?_eq_some_iff.mp q).1, fun k hk => List.mem_range.mpr ((refs_g t _ e).1 k hk)⟩
  have wg : wgt g (List.range fp.length) [] ≤ wgt h S [] := by
    unfold wgt
    have e1 : ∀ l : List Nat, l.filter (fun n => !([] : List Nat).contains n) = l := fun l => List.filter_eq_self.mpr fun a _ => by simp
    rw [e1, e1]
    refine Nat.le_trans ?_ (sum_sub (F := fun n => (refsAt h n).length) ndf r3)
    have := sum_range_le (h := h) g fp 0 fun t n e => by rw [Nat.zero_add]; exact (refs_g t n e).2
    rwa [← List.range_eq_range'] at this
  have lfp := len_sub ndf r3
  have v1 : noRefs [u] = true := by unfold noRefs; rw [hv]; rfl
  obtain ⟨live, el, _, _, l3, _⟩ := reach_spec clg List.nodup_range FUEL (refsVs [u] ++ List.range fp.length) [] (fun n hn => by
    rw [refss_no [u] v1] at hn
    exact hn) (fun _ z => nomatch z) (by
      rw [refss_no [u] v1, List.nil_append, List.length_range]
      omega)
  have nw : newsOf fp live = [] := by
    unfold newsOf
    refine List.filter_eq_nil_iff.mpr fun n hn => ?_
    have := List.mem_range.mp (l3 n hn)
    simp; omega
  have bk : ∀ n q, idx fp n = some q → backF fp [] h.length q = some n := fun n q e => by
    unfold backF
    rw [decide_eq_true (idx_lt e), cond_true]
    exact hb n q e
  let F : Nat → PO := fun n => (h[n]?).getD (.lst [])
  have eos : mapO (pick g (backF fp [] h.length)) (List.range fp.length) = some (fp.map F) := by
    refine mapO_eq (by simp) fun t t' e => ?_
    have ht : t < fp.length := by have := (List.getElem?_eq_some_iff.mp e).1; simpa using this
    rw [List.getElem?_range ht] at e
    cases e
    have e : fp[t]? = some fp[t] := List.getElem?_eq_getElem ht
    rw [List.getElem?_map, e]
    show pick g _ t = some (F fp[t])
    obtain ⟨o, p, e0, e1, e2, q3⟩ := gat t _ e
    unfold pick
    rw [q3]
    show renO _ p = _
    rw [(reno_back bk o p e2).1]
    show some o = some ((h[fp[t]]?).getD (.lst []))
    rw [e0]; rfl
  have fin := call_gen (m := m) (h := h) (xs := xs) (as := as) (v := u) (u := u) (fp := fp) (hc := hc) (live := live) (os := fp.map F) (ns := []) (g := g) er ea ec ev el (by rw [nw]; exact rens_no _ [u] v1) (by rw [nw]; exact eos) (by rw [nw]; rfl)
  rw [fin, List.append_nil]
  congr 1
  refine List.ext_getElem? fun i => ?_
  by_cases hf : i ∈ fp
  · obtain ⟨t, et⟩ := List.mem_iff_getElem?.mp hf
    have hl := (cl i (r3 i hf)).1
    rw [setAll_in h fp (fp.map F) ndf (by simp) et hl, List.getElem?_map, et]
    show some ((h[i]?).getD (.lst [])) = _
    rw [List.getElem?_eq_getElem hl]; rfl
  · exact setAll_out _ _ _ hf
end MC

end
section
set_option maxRecDepth 100000
set_option maxHeartbeats 4000000
namespace MM
open PySem L2 MC
def letS : List Nat := [97, 98, 99, 100, 101]
def stepG (rs : List (List (Option Nat))) (k p : Nat) : Option Nat := ((((rs[k]?).getD [])[p]?).getD none)
def goalF (rs : List (List (Option Nat))) : Option Nat → List Nat → Option Nat
  | k, [] => k
  | none, _ :: _ => none
  | some k, c :: s => goalF rs (stepG rs k (c - 97)) s
theorem goalF_none (rs : List (List (Option Nat))) : ∀ s, goalF rs none s = none
  | [] => rfl
  | _ :: _ => rfl
theorem goalF_app (rs : List (List (Option Nat))) : ∀ (s t : List Nat) (k : Option Nat), goalF rs k (s ++ t) = goalF rs (goalF rs k s) t
  | [], t, k => by simp [goalF]
  | c :: s, t, none => by rw [goalF_none, goalF_none, goalF_none]
  | c :: s, t, some k => by
    show goalF rs (stepG rs k (c - 97)) (s ++ t) = goalF rs (goalF rs (stepG rs k (c - 97)) s) t
    exact goalF_app rs s t _
section
variable {L : Nat} {rs : List (List (Option Nat))} {es : List Nat}
theorem stepG_lt (o : TO L rs es) {k p j : Nat} (e : stepG rs k p = some j) : j < rs.length := by
  unfold stepG at e
  cases h : rs[k]? with
  | none => rw [h] at e; simp at e
  | some r =>
    rw [h] at e
    have e : (r[p]?).getD none = some j := e
    cases h2 : r[p]? with
    | none => rw [h2] at e; cases e
    | some g =>
      rw [h2] at e
      have e : g = some j := e
      subst e
      exact (o.row h).2 j (List.mem_of_getElem? h2)
theorem goalF_lt (o : TO L rs es) : ∀ (s : List Nat) (k : Option Nat) (j : Nat), (∀ i, k = some i → i < rs.length) → goalF rs k s = some j → j < rs.length
  | [], k, j, hk, e => hk j e
  | c :: s, none, j, hk, e => by cases e
  | c :: s, some k, j, hk, e => goalF_lt o s (stepG rs k (c - 97)) j (fun i e => stepG_lt o e) e
/-- whether a row of letters is a text -/
def ltE (rs : List (List (Option Nat))) (es : List Nat) (s : List Nat) : Bool := s.all (fun c => decide (c ∈ letS)) && (match goalF rs (some 0) s with
  | some j => decide (j ∈ es)
  | none => false)
/-- the version of a row of letters -/
def wd (ws : List (List Nat)) (c : Nat) : List Nat := (ws[c - 97]?).getD []
def sd (ws : List (List Nat)) (t : List Nat) : List Nat := (t.map (wd ws)).flatten
def bk (ws : List (List Nat)) : PV := .tup (ws.map PV.str)
end
end MM

end
section
set_option maxRecDepth 100000
set_option maxHeartbeats 4000000
namespace MM
open PySem L2 MC
section
variable {L : Nat} {rs : List (List (Option Nat))} {es : List Nat}
/-- a book of L words -/
def BkO (L : Nat) (ws : List (List Nat)) : Prop := ws.length = L ∧ ∀ w ∈ ws, w.length ≤ 6 ∧ ∀ c ∈ w, c ∈ [120, 121, 122]
theorem wd_ok {ws : List (List Nat)} (b : BkO L ws) (c : Nat) : (wd ws c).length ≤ 6 ∧ ∀ d ∈ wd ws c, d ∈ [120, 121, 122] := by
  unfold wd
  cases e : ws[c - 97]? with
  | none => exact ⟨Nat.zero_le _, fun _ h => by cases h⟩
  | some w => exact b.2 w (List.mem_of_getElem? e)
theorem sd_ok {ws : List (List Nat)} (b : BkO L ws) : ∀ s : List Nat, (sd ws s).length ≤ 6 * s.length ∧ ∀ d ∈ sd ws s, d ∈ [120, 121, 122]
  | [] => ⟨Nat.le_refl _, fun _ h => by simp [sd] at h⟩
  | c :: s => by
    obtain ⟨i1, i2⟩ := sd_ok b s
    obtain ⟨w1, w2⟩ := wd_ok b c
    have e : sd ws (c :: s) = wd ws c ++ sd ws s := by simp [sd]
    rw [e]
    refine ⟨by rw [List.length_append, List.length_cons]; omega, fun d hd => ?_⟩
    rcases List.mem_append.mp hd with q | q
    · exact w2 d q
    · exact i2 d q
end
end MM

end
section
set_option maxRecDepth 100000
set_option maxHeartbeats 4000000
namespace MM
open PySem L2 MC
theorem strs_of {ys : List PV} {P : List Nat → Prop} (h : ∀ y ∈ ys, ∃ s, y = .str s ∧ P s) : ∃ zs : List (List Nat), ys = zs.map PV.str ∧ ∀ z ∈ zs, P z := by
  induction ys with
  | nil => exact ⟨[], rfl, fun _ h => nomatch h⟩
  | cons y ys ih =>
    obtain ⟨zs, e, hz⟩ := ih fun x hx => h x (List.mem_cons_of_mem _ hx)
    obtain ⟨s, es, hs⟩ := h y List.mem_cons_self
    exact ⟨s :: zs, by rw [List.map_cons, e, es], fun z hz' => by
      rcases List.mem_cons.mp hz' with rfl | q
      · exact hs
      · exact hz z q⟩
theorem flat1 : ∀ {zs : List (List Nat)} {P : Nat → Prop}, (∀ z ∈ zs, ∃ c, z = [c] ∧ P c) → zs.flatten.length = zs.length ∧ ∀ c ∈ zs.flatten, P c
  | [], _, _ => ⟨rfl, fun _ h => nomatch h⟩
  | z :: zs, P, h => by
    obtain ⟨i1, i2⟩ := flat1 (zs := zs) (P := P) fun x hx => h x (List.mem_cons_of_mem _ hx)
    obtain ⟨c, rfl, hc⟩ := h z List.mem_cons_self
    refine ⟨by simp [i1], fun d hd => ?_⟩
    have hd : d ∈ [c] ++ zs.flatten := hd
    rcases List.mem_append.mp hd with q | q
    · rw [List.mem_singleton.mp q]; exact hc
    · exact i2 d q
end MM

end
section
set_option maxRecDepth 100000
set_option maxHeartbeats 4000000
namespace MM
open PySem L2 MC
theorem addL {h : PH} {n m : Nat} {a b : List PV} (e1 : h[n]? = some (.lst a)) (e2 : h[m]? = some (.lst b)) (hl : a.length + b.length ≤ LIM) : opAdd h (.ref n) (.ref m) = .ok (.ref h.length) (h ++ [.lst (a ++ b)]) := by
  unfold opAdd
  simp [e1, e2, hl]
end MM

end
section
set_option maxRecDepth 100000
set_option maxHeartbeats 4000000
namespace MM
open PySem L2 MC
end MM

end
section
set_option maxRecDepth 100000
set_option maxHeartbeats 4000000
namespace MM
open PySem L2 MC
section
variable {L : Nat} {rs : List (List (Option Nat))} {es : List Nat}
/-- a page that is no text: a value, or an object that leads nowhere -/
def NS (z : PV) (h : PH) : Prop := (noRef z = true ∧ ∃ k, (k = 0 ∨ k = 1 ∨ k = 2 ∨ k = 4) ∧ ∀ h, kindP h z = some (.inl k)) ∨ ∃ n o k, z = .ref n ∧ h[n]? = some o ∧ Flat o ∧ (k = 5 ∨ k = 6) ∧ kindP [o] (.ref 0) = some (.inl k)
end
end MM

end
section
set_option maxRecDepth 100000
set_option maxHeartbeats 4000000
namespace MC
open PySem L2
end MC
namespace MM
open PySem L2 MC
section
variable {L : Nat} {rs : List (List (Option Nat))} {es : List Nat}
/-- rows found by a search from k -/
def Snd (rs : List (List (Option Nat))) (k : Nat) (kvs : List (Nat × List Nat)) : Prop := ∀ p ∈ kvs, goalF rs (some k) p.2 = some p.1 ∧ (∀ c ∈ p.2, c ∈ letS) ∧ p.2.length < kvs.length
/-- the goals of a stand -/
def succ (rs : List (List (Option Nat))) (j g : Nat) : Prop := ∃ p, stepG rs j p = some g
theorem keys_len {n : Nat} {ks : List Nat} (nd : ks.Nodup) (h : ∀ j ∈ ks, j < n) : ks.length ≤ n := by
  have := len_sub (S := List.range n) nd fun j hj => List.mem_range.mpr (h j hj)
  rwa [List.length_range] at this
def keysF (kvs : List (Nat × List Nat)) : List Nat := kvs.map (·.1)
end
end MM
namespace MC
open PySem L2
end MC
namespace MM
open PySem L2 MC
end MM

end
section
set_option maxRecDepth 100000
set_option maxHeartbeats 4000000
namespace MM
open PySem L2 MC
section
variable {L : Nat} {rs : List (List (Option Nat))} {es : List Nat}
/-- a useful stand -/
def Usf (rs : List (List (Option Nat))) (es : List Nat) (j : Nat) : Prop := (∃ s, (∀ c ∈ s, c ∈ letS) ∧ goalF rs (some 0) s = some j) ∧ ∃ s i, (∀ c ∈ s, c ∈ letS) ∧ goalF rs (some j) s = some i ∧ i ∈ es
end
end MM

end
section
set_option maxRecDepth 100000
set_option maxHeartbeats 4000000
namespace MM
open PySem L2 MC
section
variable {L : Nat} {rs : List (List (Option Nat))} {es : List Nat}
end
end MM

end
section
set_option maxRecDepth 100000
set_option maxHeartbeats 4000000
namespace MM
open PySem L2 MC
section
variable {L : Nat} {rs : List (List (Option Nat))} {es : List Nat}
def tA (x : Nat × Nat × Nat) : PV := .tup [.int x.1, .int x.2.1, .int x.2.2]
end
end MM

end
section
set_option maxRecDepth 100000
set_option maxHeartbeats 4000000
namespace MM
open PySem L2 MC
end MM

end
section
set_option maxRecDepth 100000
set_option maxHeartbeats 4000000
namespace MM
open PySem L2 MC
section
variable {L : Nat} {rs : List (List (Option Nat))} {es : List Nat}
end
end MM

end
section
set_option maxRecDepth 100000
set_option maxHeartbeats 4000000
namespace MM
open PySem L2 MC
section
variable {L : Nat} {rs : List (List (Option Nat))} {es : List Nat}
theorem smps_no {xs : List PV} (hx : ∀ x ∈ xs, smp x = true) : noRefs xs = true := by
  induction xs with
  | nil => rfl
  | cons x xs ih =>
    show (noRef x && noRefs xs) = true
    rw [smp_no (hx x List.mem_cons_self), ih fun y hy => hx y (List.mem_cons_of_mem _ hy)]; rfl
end
end MM

end
section
set_option maxRecDepth 100000
set_option maxHeartbeats 4000000
namespace MC
open PySem L2
theorem reach_fl {g : PH} : ∀ (f : Nat) (todo seen : List Nat), (∀ n ∈ todo, ∃ o, g[n]? = some o ∧ refsO o = []) → todo.length ≤ f →
    ∃ fp, reach g f todo seen = some fp ∧ (∀ n ∈ seen, n ∈ fp) ∧ (∀ n ∈ todo, n ∈ fp) ∧ ∀ n ∈ fp, n ∈ seen ∨ n ∈ todo
  | f, [], seen, _, _ => ⟨seen, by cases f <;> (unfold reach; rfl), fun _ z => z, fun _ z => (nomatch z), fun _ z => .inl z⟩
  | 0, n :: todo, seen, _, hw => by simp at hw
  | f + 1, n :: todo, seen, ht, hw => by
    obtain ⟨o, eo, ro⟩ := ht n List.mem_cons_self
    have ht' : ∀ m ∈ todo, ∃ o, g[m]? = some o ∧ refsO o = [] := fun m hm => ht m (List.mem_cons_of_mem _ hm)
    rw [List.length_cons] at hw
    unfold reach
    cases c : seen.contains n with
    | true =>
      rw [cond_true]
      obtain ⟨fp, e, a, b, d⟩ := reach_fl f todo seen ht' (by omega)
      refine ⟨fp, e, a, fun m hm => ?_, fun m hm => (d m hm).elim .inl fun z => .inr (List.mem_cons_of_mem _ z)⟩
      rcases List.mem_cons.mp hm with rfl | hm
      · exact a _ (List.contains_iff_mem.mp c)
      · exact b m hm
    | false =>
      rw [cond_false, eo]
      show ∃ fp, reach g f (refsO o ++ todo) (seen ++ [n]) = some fp ∧ _
      rw [ro, List.nil_append]
      obtain ⟨fp, e, a, b, d⟩ := reach_fl f todo (seen ++ [n]) ht' (by omega)
      refine ⟨fp, e, fun m hm => a m (List.mem_append_left _ hm), fun m hm => ?_, fun m hm => ?_⟩
      · rcases List.mem_cons.mp hm with rfl | hm
        · exact a _ (List.mem_append_right _ (List.mem_singleton.mpr rfl))
        · exact b m hm
      · rcases d m hm with q | q
        · rcases List.mem_append.mp q with q | q
          · exact .inl q
          · exact .inr (by rw [List.mem_singleton.mp q]; exact List.mem_cons_self)
        · exact .inr (List.mem_cons_of_mem _ q)
section
variable {m : MF} {xs as : List PV} {h g hc : PH} {u v : PV}
end
end MC

end
section
set_option maxRecDepth 100000
set_option maxHeartbeats 4000000
namespace MM
open PySem L2 MC
/-- a plain list -/
def LF (h : PH) (n : Nat) : Prop := ∃ ys, h[n]? = some (.lst ys) ∧ noRefs ys = true
section
variable {L : Nat} {rs : List (List (Option Nat))} {es : List Nat}
/-- a page that is no tuple -/
def NT (z : PV) (h : PH) : Prop := z = .non ∨ ∃ n o k, z = .ref n ∧ h[n]? = some o ∧ Flat o ∧ (k = 5 ∨ k = 6) ∧ kindP [o] (.ref 0) = some (.inl k)
end
end MM

end
section
set_option maxRecDepth 100000
set_option maxHeartbeats 4000000
namespace MM
open PySem L2 MC
def iv (xs : List PV) (j : Nat) : Int := match xs[j]? with
  | some (.int i) => i
  | _ => 0
section
variable {L : Nat} {rs : List (List (Option Nat))} {es : List Nat}
end
end MM

end
section
set_option maxRecDepth 100000
set_option maxHeartbeats 4000000
namespace MM
open PySem L2 MC
/-- a dict of numbers with values -/
def dv (kvs : List (Nat × PV)) : List (PV × PV) := kvs.map fun p => (.int p.1, p.2)
def keysV (kvs : List (Nat × PV)) : List Nat := kvs.map (·.1)
theorem lookV_mem {j : Nat} : ∀ {kvs : List (Nat × PV)}, (kvs.lookup j).isSome = decide (j ∈ keysV kvs)
  | [] => rfl
  | (k, s) :: r => by
    rw [List.lookup_cons]
    show _ = decide (j ∈ k :: keysV r)
    by_cases q : j = k
    · subst q; simp
    · rw [beq_eq_false_iff_ne.mpr q]
      show (r.lookup j).isSome = _
      rw [lookV_mem]
      simp [q]
theorem lookV_get {j : Nat} {s : PV} : ∀ {kvs : List (Nat × PV)}, kvs.lookup j = some s → (j, s) ∈ kvs
  | [], h => by cases h
  | (k, t) :: r, h => by
    rw [List.lookup_cons] at h
    by_cases q : j = k
    · subst q
      simp at h
      subst h
      exact List.mem_cons_self
    · rw [beq_eq_false_iff_ne.mpr q] at h
      exact List.mem_cons_of_mem _ (lookV_get h)
theorem lookV_some {j : Nat} {kvs : List (Nat × PV)} (h : j ∈ keysV kvs) : ∃ s, kvs.lookup j = some s ∧ (j, s) ∈ kvs := by
  have := lookV_mem (j := j) (kvs := kvs)
  rw [decide_eq_true h] at this
  obtain ⟨s, e⟩ := Option.isSome_iff_exists.mp this
  exact ⟨s, e, lookV_get e⟩
end MM
namespace MM
open PySem L2 MC
end MM

end
section
set_option maxRecDepth 100000
set_option maxHeartbeats 4000000
namespace MM
open PySem L2 MC
def smps (xs : List PV) : Prop := ∀ x ∈ xs, smp x = true
/-- a page: a plain tuple, one with an empty list in it, or no tuple -/
def PgX (z : PV) (h : PH) : Prop := (∃ ys, z = .tup ys ∧ smps ys) ∨ (∃ pre post n, z = .tup (pre ++ .ref n :: post) ∧ smps pre ∧ smps post ∧ LF h n) ∨ NT z h
/-- the same, at no place of the draws -/
def PgN (z : PV) (h : PH) : Prop := PgX z h ∧ ∀ i ∈ refsV z, i ≠ 0
theorem refss_app : ∀ xs ys : List PV, refsVs (xs ++ ys) = refsVs xs ++ refsVs ys
  | [], _ => rfl
  | x :: xs, ys => by
    show refsV x ++ refsVs (xs ++ ys) = (refsV x ++ refsVs xs) ++ refsVs ys
    rw [refss_app xs ys, List.append_assoc]
theorem renVs_app {f : Nat → Option Nat} {xs ys us ws : List PV} (e : renVs f xs = some us) (e2 : renVs f ys = some ws) : renVs f (xs ++ ys) = some (us ++ ws) := by
  induction xs generalizing us with
  | nil => unfold renVs at e; cases e; exact e2
  | cons x xs ih =>
    unfold renVs at e
    cases h1 : renV f x with
    | none => rw [h1] at e; cases e
    | some u =>
      cases h2 : renVs f xs with
      | none => rw [h1, h2] at e; cases e
      | some us' =>
        rw [h1, h2] at e
        cases e
        rw [List.cons_append]
        unfold renVs
        rw [h1, ih h2]; rfl
theorem ref_mid {pre post : List PV} {n : Nat} (p : smps pre) (q : smps post) : refsV (.tup (pre ++ .ref n :: post)) = [n] := by
  unfold refsV
  rw [refss_app, refss_no pre (smps_no p)]
  show [] ++ (refsV (.ref n) ++ refsVs post) = _
  rw [refss_no post (smps_no q)]
  simp [refsV]
theorem ren_mid {pre post : List PV} {n k : Nat} {f : Nat → Option Nat} (p : smps pre) (q : smps post) (e : f n = some k) : renV f (.tup (pre ++ .ref n :: post)) = some (.tup (pre ++ .ref k :: post)) := by
  have : renVs f (pre ++ .ref n :: post) = some (pre ++ .ref k :: post) := renVs_app (rens_no f pre (smps_no p)) (by
    unfold renVs
    rw [rens_no f post (smps_no q)]
    simp [renV, e])
  unfold renV
  rw [this]
theorem PgN.ok {v : PV} {g : PH} (p : PgN v g) : (refsV v).length ≤ 100 ∧ ∀ i ∈ refsV v, i ≠ 0 ∧ ∃ o, g[i]? = some o ∧ Flat o := by
  obtain ⟨q, nz⟩ := p
  rcases q with ⟨ys, rfl, h⟩ | ⟨pre, post, n, rfl, h1, h2, h3⟩ | rfl | ⟨n, o, k, rfl, e, fo, _⟩
  · have : refsV (.tup ys) = [] := refs_no _ (by show noRefs ys = true; exact smps_no h)
    rw [this]
    exact ⟨Nat.zero_le _, fun _ z => nomatch z⟩
  · rw [ref_mid h1 h2] at nz ⊢
    exact ⟨by simp, fun i hi => ⟨nz i hi, by rw [List.mem_singleton.mp hi]; obtain ⟨ys, h3, ny⟩ := h3; exact ⟨_, h3, flat_l ny⟩⟩⟩
  · exact ⟨Nat.zero_le _, fun _ z => nomatch z⟩
  · have : refsV (.ref n) = [n] := by simp [refsV]
    rw [this] at nz ⊢
    exact ⟨by simp, fun i hi => ⟨nz i hi, by rw [List.mem_singleton.mp hi]; exact ⟨_, e, fo⟩⟩⟩
theorem PgX.ren {v x : PV} {g h' : PH} {f : Nat → Option Nat} (p : PgX v g) (e : renV f v = some x) (hf : ∀ i ∈ refsV v, ∃ k, f i = some k ∧ h'[k]? = g[i]?) : PgX x h' := by
  rcases p with ⟨ys, rfl, h⟩ | ⟨pre, post, n, rfl, h1, h2, h3⟩ | rfl | ⟨n, o, k, rfl, e0, fo, hk, kd⟩
  · rw [ren_no f _ (by show noRefs ys = true; exact smps_no h)] at e
    cases e
    exact .inl ⟨ys, rfl, h⟩
  · obtain ⟨k, fk, hk⟩ := hf n (by rw [ref_mid h1 h2]; simp)
    rw [ren_mid h1 h2 fk] at e
    cases e
    obtain ⟨ys, h3, ny⟩ := h3
    exact .inr (.inl ⟨pre, post, k, rfl, h1, h2, ys, hk.trans h3, ny⟩)
  · simp [renV] at e
    subst e
    exact .inr (.inr (.inl rfl))
  · obtain ⟨k', fk, hk'⟩ := hf n (by simp [refsV])
    simp [renV, fk] at e
    subst e
    exact .inr (.inr (.inr ⟨k', o, k, rfl, hk'.trans e0, fo, hk, kd⟩))
/-- a page stays one when objects are laid behind -/
theorem PgX.app {z : PV} {h : PH} (os : List PO) (p : PgX z h) : PgX z (h ++ os) := by
  rcases p with p | ⟨pre, post, n, e, h1, h2, h3⟩ | e | ⟨n, o, k, e, e0, q⟩
  · exact .inl p
  · obtain ⟨ys, h3, ny⟩ := h3
    exact .inr (.inl ⟨pre, post, n, e, h1, h2, ys, get_app h3, ny⟩)
  · exact .inr (.inr (.inl e))
  · exact .inr (.inr (.inr ⟨n, o, k, e, get_app e0, q⟩))
theorem PgX.same {z : PV} {h h' : PH} (p : PgX z h) (s : ∀ i ∈ refsV z, h'[i]? = h[i]?) : PgX z h' := by
  rcases p with p | ⟨pre, post, n, rfl, h1, h2, h3⟩ | e | ⟨n, o, k, rfl, e0, q⟩
  · exact .inl p
  · obtain ⟨ys, h3, ny⟩ := h3
    exact .inr (.inl ⟨pre, post, n, rfl, h1, h2, ys, (s n (by rw [ref_mid h1 h2]; simp)).trans h3, ny⟩)
  · exact .inr (.inr (.inl e))
  · exact .inr (.inr (.inr ⟨n, o, k, rfl, (s n (by simp [refsV])).trans e0, q⟩))
end MM

end
section
set_option maxRecDepth 100000
set_option maxHeartbeats 4000000
namespace MM
open PySem L2 MC
section
variable {L : Nat} {rs : List (List (Option Nat))} {es : List Nat}
end
end MM

end
section
set_option maxRecDepth 100000
set_option maxHeartbeats 4000000
namespace MM
open PySem L2 MC
theorem nodup_of : ∀ l : List Nat, ∃ S : List Nat, S.Nodup ∧ (∀ x, x ∈ S ↔ x ∈ l) ∧ S.length ≤ l.length
  | [] => ⟨[], List.nodup_nil, fun _ => Iff.rfl, Nat.le_refl _⟩
  | a :: l => by
    obtain ⟨S, h1, h2, h3⟩ := nodup_of l
    by_cases m : a ∈ S
    · exact ⟨S, h1, fun x => ⟨fun h => List.mem_cons_of_mem _ ((h2 x).mp h), fun h => (List.mem_cons.mp h).elim (fun e => e ▸ m) fun z => (h2 x).mpr z⟩, by rw [List.length_cons]; omega⟩
    · exact ⟨a :: S, List.nodup_cons.mpr ⟨m, h1⟩, fun x => by rw [List.mem_cons, List.mem_cons, h2], by rw [List.length_cons, List.length_cons]; omega⟩
end MM

end
section
set_option maxRecDepth 100000
set_option maxHeartbeats 4000000
namespace MC
open PySem L2
section
variable {m : MF} {xs as : List PV} {h g hc : PH} {u v : PV}
theorem reach_one {h : PH} {j : Nat} {o : PO} (hj : h[j]? = some o) (ho : Flat o) {todo : List Nat} (ha : ∀ k ∈ todo, k = j) (hn : todo ≠ []) (hl : todo.length ≤ 300) : reach h FUEL todo [] = some [j] := by
  obtain ⟨fp, e, _, a, b⟩ := reach_fl (g := h) FUEL todo [] (fun n hn => by rw [ha n hn]; exact ⟨o, hj, ho.1⟩) (by
    have q : (400 : Nat) ≤ FUEL := by decide
    omega)
  have nd := reach_nd List.nodup_nil e
  have all : ∀ n ∈ fp, n = j := fun n hn => (b n hn).elim (fun z => nomatch z) (ha n)
  have jin : j ∈ fp := by
    cases todo with
    | nil => exact absurd rfl hn
    | cons t r =>
      have := a t List.mem_cons_self
      rwa [ha t List.mem_cons_self] at this
  have : fp = [j] := by
    match fp, nd, all, jin with
    | [], _, _, q => cases q
    | [x], _, al, _ => rw [al x (by simp)]
    | x :: y :: r, nd, al, _ =>
      have h1 := al x (by simp)
      have h2 := al y (by simp)
      rw [h1, h2] at nd
      simp at nd
  rw [e, this]
/-- one flat object is handed over, perhaps more than once, and stays; a value comes back -/
theorem call_1m {j : Nat} {o : PO} (hr : ∀ k ∈ refsVs xs, k = j) (hn : refsVs xs ≠ []) (hl : (refsVs xs).length ≤ 300) (ha : renVs (idx [j]) xs = some as) (hj : h[j]? = some o) (ho : Flat o) (hm : Ws (m as [o]) fun u g => u = v ∧ g[0]? = some o) (hv : noRef v = true) :
    callG takeBack m xs h = .ok v h := by
  obtain ⟨u, g, e, rfl, hg0⟩ := hm
  have v1 : noRefs [u] = true := by unfold noRefs; rw [hv]; rfl
  have rl : reach g FUEL (refsVs [u] ++ List.range [j].length) [] = some [0] := by
    rw [refss_no [u] v1]; exact reachF hg0 ho
  have nw : newsOf [j] [0] = [] := by simp [newsOf]
  have e := call_gen (m := m) (h := h) (xs := xs) (as := as) (v := u) (u := u) (fp := [j]) (hc := [o]) (live := [0]) (os := [o]) (ns := []) (g := g) (reach_one hj ho hr hn hl) ha (by simp [mapO, pick, hj, ho.2]) e rl
    (by rw [nw]; exact rens_no _ [u] v1)
    (by
      rw [nw]
      show mapO _ [0] = _
      simp [mapO, pick, hg0, ho.2])
    (by rw [nw]; rfl)
  rw [e]
  have : setAll h [j] [o] = h := by
    unfold setAll setAll
    exact List.ext_getElem? fun i => by
      by_cases q : j = i
      · subst q
        rw [List.getElem?_set_self (List.getElem?_eq_some_iff.mp hj).1, hj]
      · rw [List.getElem?_set_ne q]
  rw [this, List.append_nil]
/-- what hangs on a value z alone: its references and its renaming -/
structure Tpl (T : PV → List PV) : Prop where
  refs : ∀ z k, k ∈ refsVs (T z) → k ∈ refsV z
  ne : ∀ z, refsV z ≠ [] → refsVs (T z) ≠ []
  len : ∀ z, (refsV z).length ≤ 1 → (refsVs (T z)).length ≤ 300
  ren : ∀ f z z', renV f z = some z' → renVs f (T z) = some (T z')
  no : ∀ z, noRef z = true → noRefs (T z) = true
/-- a value that is bad in any heap: plain, or with one flat object in it -/
def BadP (P : PV → PH → Prop) (z : PV) (h : PH) : Prop := (noRef z = true ∧ ∀ h, P z h) ∨ ∃ (B : Nat → PV) (n : Nat) (o : PO), z = B n ∧ h[n]? = some o ∧ Flat o ∧ (∀ n, refsV (B n) = [n]) ∧ (∀ f n q, f n = some q → renV f (B n) = some (B q)) ∧ ∀ h n, h[n]? = some o → P (B n) h
theorem BadP.p {P : PV → PH → Prop} {z : PV} {h : PH} (b : BadP P z h) : P z h := by
  rcases b with ⟨_, q⟩ | ⟨B, n, o, rfl, e, _, _, _, q⟩
  · exact q h
  · exact q h n e
theorem BadP.up {P : PV → PH → Prop} {T : PV → List PV} (t : Tpl T) {v : PV} (hv : noRef v = true) (body : ∀ z h, BadP P z h → Ws (m (T z) h) fun u g => u = v ∧ ∃ os, g = h ++ os) {z : PV} {h : PH} (b : BadP P z h) : callG takeBack m (T z) h = .ok v h := by
  rcases id b with ⟨nz, q⟩ | ⟨B, n, o, rfl, e, fo, b1, b2, q⟩
  · exact call_pureW (t.no z nz) ((body z [] (.inl ⟨nz, q⟩)).mono fun _ _ q => q.1) hv
  · refine call_1m (as := T (B 0)) (o := o) (j := n) (fun k hk => by have := t.refs _ k hk; rw [b1] at this; simpa using this) (t.ne _ (by rw [b1]; simp)) (t.len _ (by rw [b1]; simp)) (t.ren _ _ _ (b2 _ _ _ idx_hd)) e fo ((body (B 0) [o] (.inr ⟨B, 0, o, rfl, rfl, fo, b1, b2, q⟩)).mono fun u g ⟨h1, os, h2⟩ => ⟨h1, by rw [h2]; rfl⟩) hv
end
end MC

end
section
set_option maxRecDepth 100000
set_option maxHeartbeats 4000000
namespace MC
open PySem L2
theorem callX_of {m : MF} {tb : PH → List Nat → PV → PH → R PV} {xs : List PV} {h h2 : PH} {u : PV} (e : callG tb m xs h = .ok u h2) : callX tb m xs h = .ok u h2 := by
  unfold callG at e
  unfold callX
  cases er : reach h FUEL (refsVs xs) [] with
  | none => simp only [er] at e; cases e
  | some fp =>
    simp only [er] at e ⊢
    cases e1 : renVs (idx fp) xs with
    | none => simp only [e1] at e; cases e
    | some as =>
      cases e2 : mapO (pick h (idx fp)) fp with
      | none => simp only [e1, e2] at e; cases e
      | some hc =>
        simp only [e1, e2] at e ⊢
        cases e0 : m as hc with
        | ok v g => simp only [e0] at e ⊢; exact e
        | stuck => simp only [e0] at e; cases e
        | exc c' fs g' => simp only [e0] at e; cases e
theorem call_fl {m : MF} {xs : List PV} {h : PH} {v : PV} (hf : ∀ i ∈ refsVs xs, ∃ o, h[i]? = some o ∧ Flat o) (hl : (refsVs xs).length ≤ 300) (hv : noRef v = true)
    (hm : ∀ (as : List PV) (hc : PH) (f : Nat → Option Nat), (∀ n ∈ refsVs xs, ∃ q, f n = some q) → renVs f xs = some as → (∀ n q, f n = some q → ∃ o, hc[q]? = some o ∧ pick h f n = some o) → Ws (m as hc) fun u g => u = v ∧ ∀ i < hc.length, g[i]? = hc[i]?) :
    callG takeBack m xs h = .ok v h := by
  obtain ⟨S, nd, hS, lS⟩ := MM.nodup_of (refsVs xs)
  have fl : ∀ i ∈ refsVs xs, i < h.length ∧ refsAt h i = [] := fun i hi => by
    obtain ⟨o, eo, fo⟩ := hf i hi
    exact ⟨(List.getElem?_eq_some_iff.mp eo).1, by unfold refsAt; rw [eo]; exact fo.1⟩
  have cl : Closed h S := fun m hm => by
    rw [(fl m ((hS m).mp hm)).2]; exact ⟨(fl m ((hS m).mp hm)).1, fun _ z => nomatch z⟩
  have wg : wgt h S [] = 0 := by
    unfold wgt
    have e1 : S.filter (fun n => !([] : List Nat).contains n) = S := List.filter_eq_self.mpr fun a _ => by simp
    rw [e1]
    have : ∀ l : List Nat, (∀ m ∈ l, (refsAt h m).length = 0) → (l.map fun n => (refsAt h n).length).sum = 0 := by
      intro l
      induction l with
      | nil => intro _; rfl
      | cons a r ih => intro q; rw [List.map_cons, List.sum_cons, q a List.mem_cons_self, ih fun m hm => q m (List.mem_cons_of_mem _ hm)]
    exact this S fun m hm => by rw [(fl m ((hS m).mp hm)).2]; rfl
  have fu : (400 : Nat) ≤ FUEL := by decide
  exact call_ro cl nd (fun n hn => (hS n).mpr hn) (by omega) (by omega) hv fun as hc f _ t a b => hm as hc f t a b
/-- a bad value stays bad where it is handed over -/
theorem BadP.ren {P : PV → PH → Prop} {z z' : PV} {h hc : PH} {f : Nat → Option Nat} (b : BadP P z h) (tot : ∀ n ∈ refsV z, ∃ q, f n = some q) (r : renV f z = some z') (p : ∀ n q, f n = some q → ∃ o, hc[q]? = some o ∧ pick h f n = some o) : BadP P z' hc := by
  rcases b with ⟨nz, q⟩ | ⟨B, n, o, rfl, e, fo, b1, b2, q⟩
  · rw [ren_no _ _ nz] at r
    cases r
    exact .inl ⟨nz, q⟩
  · cases fn : f n with
    | none =>
      obtain ⟨m, em⟩ := tot n (by rw [b1]; simp)
      rw [fn] at em; cases em
    | some m =>
      rw [b2 f n m fn] at r
      cases r
      obtain ⟨o', h1, h2⟩ := p n m fn
      refine .inr ⟨B, m, o, rfl, ?_, fo, b1, b2, q⟩
      unfold pick at h2
      rw [e] at h2
      rw [h1]
      exact h2.symm.trans (fo.2 f)
theorem BadP.keep {P : PV → PH → Prop} {z : PV} {h g : PH} (b : BadP P z h) (k : ∀ i o, i ∈ refsV z → h[i]? = some o → g[i]? = some o) : BadP P z g := by
  rcases b with ⟨nz, q⟩ | ⟨B, n, o, rfl, e, fo, b1, b2, q⟩
  · exact .inl ⟨nz, q⟩
  · exact .inr ⟨B, n, o, rfl, k n o (by rw [b1]; simp) e, fo, b1, b2, q⟩
theorem BadP.app {P : PV → PH → Prop} {z : PV} {h : PH} {os : List PO} (b : BadP P z h) : BadP P z (h ++ os) :=
  b.keep fun i o _ e => by rw [List.getElem?_append_left (List.getElem?_eq_some_iff.mp e).1]; exact e
theorem BadP.flat {P : PV → PH → Prop} {z : PV} {h : PH} (b : BadP P z h) : ∀ i ∈ refsV z, ∃ o, h[i]? = some o ∧ Flat o := by
  rcases b with ⟨nz, q⟩ | ⟨B, n, o, rfl, e, fo, b1, b2, q⟩
  · intro i hi; rw [refs_no _ nz] at hi; cases hi
  · intro i hi; rw [b1] at hi; rw [List.mem_singleton.mp hi]; exact ⟨o, e, fo⟩
theorem BadP.len {P : PV → PH → Prop} {z : PV} {h : PH} (b : BadP P z h) : (refsV z).length ≤ 1 := by
  rcases b with ⟨nz, q⟩ | ⟨B, n, o, rfl, e, fo, b1, b2, q⟩
  · rw [refs_no _ nz]; exact Nat.zero_le _
  · rw [b1]; exact Nat.le_refl _
end MC
namespace MM
open PySem L2 MC
end MM

end
section
set_option maxRecDepth 100000
set_option maxHeartbeats 4000000
namespace MC
open PySem L2
/-- data of a value in a heap, with bounds of its text -/
structure HG (h : PH) (K n dp : Nat) (x : PV) (d : PyData) : Prop where
  td : ∀ m, dp < m → toDq h m x = some d
  s1 : d.showable = true
  s3 : d.shown.length + 2 ≤ (K + 12) * n
  s4 : PyData.strOk d.shown = true
  de : d.depth ≤ dp
structure HGs (h : PH) (K n dp : Nat) (xs : List PV) (ds : List PyData) : Prop where
  td : ∀ m, dp < m → mapO (toDq h m) xs = some ds
  s1 : PyData.showableAll ds = true
  s3 : ((PyData.shownAll ds).map fun t => t.length + 2).sum ≤ (K + 12) * n
  s4 : ∀ t ∈ PyData.shownAll ds, PyData.strOk t = true
  de : PyData.depthAll ds ≤ dp
def pdD (x : PV) : PyData := (pd x).getD .none
section
variable {h : PH} {K n m dp dq : Nat} {x : PV} {xs : List PV} {d : PyData} {ds : List PyData}
mutual
theorem toDq_pd (h : PH) : ∀ (n : Nat) (x : PV) (d : PyData), pd x = some d → pdp x < n → toDq h n x = some d
  | 0, _, _, _, l => absurd l (Nat.not_lt_zero _)
  | n + 1, .non, d, e, _ => by simpa [pd, toDq] using e
  | n + 1, .bl b, d, e, _ => by simpa [pd, toDq] using e
  | n + 1, .int i, d, e, _ => by simpa [pd, toDq] using e
  | n + 1, .str s, d, e, _ => by simpa [pd, toDq] using e
  | n + 1, .tup xs, d, e, l => by
    unfold pd at e
    simp only [pdp] at l
    cases e1 : pds xs with
    | none => rw [e1] at e; cases e
    | some ds =>
      rw [e1] at e
      show (mapO (toDq h n) xs).map .tuple = some d
      rw [toDqs_pd h n xs ds e1 (by omega)]
      exact e
  | _ + 1, .scr xs, _, e, _ | _ + 1, .rdic xs, _, e, _ | _ + 1, .ins _ fs, _, e, _ | _ + 1, .ref m, _, e, _ | _ + 1, .gl m, _, e, _ | _ + 1, .exn c fs, _, e, _ => by simp [pd] at e
theorem toDqs_pd (h : PH) : ∀ (n : Nat) (xs : List PV) (ds : List PyData), pds xs = some ds → pdps xs < n → mapO (toDq h n) xs = some ds
  | _, [], ds, e, _ => by simp only [pds] at e; rw [← Option.some.inj e]; rfl
  | n, y :: ys, ds, e, l => by
    simp only [pdps] at l
    unfold pds at e
    cases e1 : pd y with
    | none => rw [e1] at e; cases e
    | some d1 =>
      cases e2 : pds ys with
      | none => simp only [e1, e2] at e; cases e
      | some ds1 =>
        simp only [e1, e2] at e
        unfold mapO
        rw [toDq_pd h n y d1 e1 (by omega), toDqs_pd h n ys ds1 e2 (by omega)]
        exact e
end
theorem HG.pl (hK : 0 < K) (h2 : K ≤ 1920) (g : pok K x = true) : HG h K (pnd x) (pdp x) x (pdD x) := by
  obtain ⟨d, e, G, gd⟩ := pd_good hK h2 x g
  have : pdD x = d := by unfold pdD; rw [e]; rfl
  rw [this]
  exact ⟨fun m l => toDq_pd h m x d e l, G.s1, G.s3, G.s4, gd⟩
theorem HG.w (g : HG h K n dp x d) (l1 : n ≤ m) (l2 : dp ≤ dq) : HG h K m dq x d :=
  ⟨fun k l => g.td k (by omega), g.s1, Nat.le_trans g.s3 (Nat.mul_le_mul_left _ l1), g.s4, Nat.le_trans g.de l2⟩
theorem HGs.nil : HGs h K 0 dp [] [] := ⟨fun _ _ => rfl, rfl, Nat.le_refl _, (fun _ z => nomatch z), Nat.zero_le _⟩
theorem HGs.cons (g : HG h K n dp x d) (gs : HGs h K m dp xs ds) : HGs h K (n + m) dp (x :: xs) (d :: ds) where
  td := fun k l => by unfold mapO; rw [g.td k l, gs.td k l]
  s1 := by simp [PyData.showableAll, g.s1, gs.s1]
  s3 := by
    have h1 := g.s3
    have h2 := gs.s3
    simp only [PyData.shownAll, List.map_cons, List.sum_cons]
    rw [Nat.mul_add]; omega
  s4 := fun t ht => by
    simp only [PyData.shownAll] at ht
    rcases List.mem_cons.mp ht with rfl | q
    · exact g.s4
    · exact gs.s4 t q
  de := by have h1 := g.de; have h2 := gs.de; simp only [PyData.depthAll]; omega
theorem HG.lst {p : Nat} (e : h[p]? = some (.lst xs)) (gs : HGs h K n dp xs ds) : HG h K (n + 1) (dp + 1) (.ref p) (.list ds) where
  td := fun k l => by
    obtain ⟨j, rfl⟩ : ∃ j, k = j + 1 := ⟨k - 1, by omega⟩
    show (match h[p]? with
      | some (.lst xs) => (mapO (toDq h j) xs).map PyData.list
      | some (.dic false []) => some (.dict [])
      | _ => none) = _
    rw [e]
    simp only [gs.td j (by omega)]; rfl
  s1 := by simpa [PyData.showable] using gs.s1
  s3 := by
    have l := listText_len_le (PyData.shownAll ds)
    have s2 := sum_two (PyData.shownAll ds)
    have h1 := gs.s3
    show (listText (PyData.shownAll ds)).length + 2 ≤ (K + 12) * (n + 1)
    rw [Nat.mul_add]; omega
  s4 := ok_list _ gs.s4
  de := by have h1 := gs.de; simp only [PyData.depth]; omega
theorem HG.tup (gs : HGs h K n dp xs ds) : HG h K (n + 1) (dp + 1) (.tup xs) (.tuple ds) where
  td := fun k l => by
    obtain ⟨j, rfl⟩ : ∃ j, k = j + 1 := ⟨k - 1, by omega⟩
    show (mapO (toDq h j) xs).map PyData.tuple = _
    rw [gs.td j (by omega)]; rfl
  s1 := by simpa [PyData.showable] using gs.s1
  s3 := by
    have l := tupleText_len_le (PyData.shownAll ds)
    have s2 := sum_two (PyData.shownAll ds)
    have h1 := gs.s3
    show (tupleText (PyData.shownAll ds)).length + 2 ≤ (K + 12) * (n + 1)
    rw [Nat.mul_add]; omega
  s4 := ok_tuple _ gs.s4
  de := by have h1 := gs.de; simp only [PyData.depth]; omega
theorem HG.dic {p : Nat} (e : h[p]? = some (.dic false [])) : HG h K 1 1 (.ref p) (.dict []) where
  td := fun k l => by
    obtain ⟨j, rfl⟩ : ∃ j, k = j + 1 := ⟨k - 1, by omega⟩
    show (match h[p]? with
      | some (.lst xs) => (mapO (toDq h j) xs).map PyData.list
      | some (.dic false []) => some (.dict [])
      | _ => none) = _
    rw [e]
  s1 := rfl
  s3 := by show 2 + 2 ≤ (K + 12) * 1; omega
  s4 := by decide +kernel
  de := by decide

/-- the text of a list, a tuple or an empty dict by its data -/
theorem repr_q1 (g : HG h K n dp x d) (hr : isRefV x = true) (hd : dp < 20) (hl : (K + 12) * n ≤ LIM) : bReprQ h [x] = .ok (.str d.shown.cps.toList) h := by
  have e : toDq h DEP x = some d := g.td _ hd
  have hs := g.s3
  have hde := g.de
  have q : reprDq h x = some d.shown.cps.toList := by
    unfold reprDq
    rw [e]
    have l1 : d.depth ≤ 60 := by omega
    have l2 : d.shown.length ≤ LIM := by omega
    simp [g.s1, l1, l2]
  unfold bReprQ
  cases x <;> first | (cases hr; done) | (simp [isRefV, q])
theorem HG.okS (g : HG h K n dp x d) : PyData.strOk (S d.shown.cps.toList) = true := by rw [S_of]; exact g.s4
end

section
variable {α β : Type} {env : En} {h : PH}
@[simp] theorem bind_exc {c : Nat} {fs : List (Nm × PV)} {f : α → PH → R β} : (R.exc c fs h : R α).bind f = .exc c fs h := nd rfl
@[simp] theorem e_raise {c : Nat} {f : Nm} {m : ME} : mRaise c f m env h = (m env h).bind fun x h1 => .exc c [(f, x)] h1 := nd rfl
@[simp] theorem e_raise0 {c : Nat} : mRaise0 c env h = .exc c [] h := nd rfl
@[simp] theorem e_lam {N i : Nat} {hds : List Hd} {b : MS} {m : ME} : mLam N i hds b m env h = outR N i hds b (m env h) := nd rfl
end
/-- a value that is bad in any heap: plain, or with one flat object in it, perhaps more than once -/
def BadQ (P : PV → PH → Prop) (z : PV) (h : PH) : Prop := (noRef z = true ∧ ∀ h, P z h) ∨ ∃ (B : Nat → PV) (n : Nat) (o : PO), z = B n ∧ h[n]? = some o ∧ Flat o ∧ (∀ n, refsV (B n) ≠ [] ∧ (refsV (B n)).length ≤ 20 ∧ ∀ k ∈ refsV (B n), k = n) ∧ (∀ f n q, f n = some q → renV f (B n) = some (B q)) ∧ ∀ h n, h[n]? = some o → P (B n) h
section
variable {P Q : PV → PH → Prop} {z : PV} {h : PH}
theorem BadQ.p (b : BadQ P z h) : P z h := by
  rcases b with ⟨_, q⟩ | ⟨B, n, o, rfl, e, _, _, _, q⟩
  · exact q h
  · exact q h n e
theorem BadQ.imp (b : BadQ P z h) (i : ∀ z h, P z h → Q z h) : BadQ Q z h := by
  rcases b with ⟨n, q⟩ | ⟨B, n, o, e1, e2, e3, e4, e5, q⟩
  · exact .inl ⟨n, fun h => i _ _ (q h)⟩
  · exact .inr ⟨B, n, o, e1, e2, e3, e4, e5, fun h n e => i _ _ (q h n e)⟩
theorem BadQ.ren {z' : PV} {hc : PH} {f : Nat → Option Nat} (b : BadQ P z h) (tot : ∀ n ∈ refsV z, ∃ q, f n = some q) (r : renV f z = some z') (p : ∀ n q, n ∈ refsV z → f n = some q → ∃ o, hc[q]? = some o ∧ pick h f n = some o) : BadQ P z' hc := by
  rcases b with ⟨nz, q⟩ | ⟨B, n, o, rfl, e, fo, b1, b2, q⟩
  · rw [ren_no _ _ nz] at r
    cases r
    exact .inl ⟨nz, q⟩
  · obtain ⟨k, hk⟩ := List.exists_mem_of_ne_nil _ (b1 n).1
    have kn := (b1 n).2.2 k hk
    subst kn
    obtain ⟨m, fn⟩ := tot k hk
    rw [b2 f k m fn] at r
    cases r
    obtain ⟨o', h1, h2⟩ := p k m hk fn
    refine .inr ⟨B, m, o, rfl, ?_, fo, b1, b2, q⟩
    unfold pick at h2
    rw [e] at h2
    rw [h1]
    exact h2.symm.trans (fo.2 f)
theorem BadQ.keep {g : PH} (b : BadQ P z h) (k : ∀ i o, i ∈ refsV z → h[i]? = some o → g[i]? = some o) : BadQ P z g := by
  rcases b with ⟨nz, q⟩ | ⟨B, n, o, rfl, e, fo, b1, b2, q⟩
  · exact .inl ⟨nz, q⟩
  · obtain ⟨j, hj⟩ := List.exists_mem_of_ne_nil _ (b1 n).1
    have := (b1 n).2.2 j hj
    subst this
    exact .inr ⟨B, j, o, rfl, k j o hj e, fo, b1, b2, q⟩
theorem BadQ.app {os : List PO} (b : BadQ P z h) : BadQ P z (h ++ os) :=
  b.keep fun i o _ e => by rw [List.getElem?_append_left (List.getElem?_eq_some_iff.mp e).1]; exact e
theorem BadQ.flat (b : BadQ P z h) : ∀ i ∈ refsV z, ∃ o, h[i]? = some o ∧ Flat o := by
  rcases b with ⟨nz, q⟩ | ⟨B, n, o, rfl, e, fo, b1, b2, q⟩
  · intro i hi; rw [refs_no _ nz] at hi; cases hi
  · intro i hi; rw [(b1 n).2.2 i hi]; exact ⟨o, e, fo⟩
theorem BadQ.len (b : BadQ P z h) : (refsV z).length ≤ 20 := by
  rcases b with ⟨nz, q⟩ | ⟨B, n, o, rfl, e, fo, b1, b2, q⟩
  · rw [refs_no _ nz]; exact Nat.zero_le _
  · exact (b1 n).2.1
end
end MC

end
section
set_option maxRecDepth 100000
set_option maxHeartbeats 4000000
namespace MC
open PySem L2
/-- refs name lists in h that hold the rows, none of them at s -/
def Rw (h : PH) (s : Nat) : List PV → List (List PV) → Prop
  | [], [] => True
  | r :: rs, xs :: xss => (∃ m, r = .ref m ∧ m ≠ s ∧ h[m]? = some (.lst xs)) ∧ Rw h s rs xss
  | _, _ => False
theorem Rw.keep {h g : PH} {s t : Nat} : ∀ {rs : List PV} {xss : List (List PV)}, Rw h s rs xss → (∀ m o, m ≠ s → h[m]? = some o → m ≠ t ∧ g[m]? = some o) → Rw g t rs xss
  | [], [], _, _ => trivial
  | _ :: _, _ :: _, ⟨⟨m, e1, e2, e3⟩, r⟩, k => ⟨⟨m, e1, (k m _ e2 e3).1, (k m _ e2 e3).2⟩, r.keep k⟩
  | [], _ :: _, z, _ | _ :: _, [], z, _ => z.elim
theorem Rw.app {h : PH} {s t : Nat} : ∀ {rs us : List PV} {xss yss : List (List PV)}, Rw h s rs xss → Rw h s us yss → Rw h s (rs ++ us) (xss ++ yss)
  | [], _, [], _, _, q => q
  | _ :: _, _, _ :: _, _, ⟨a, r⟩, q => ⟨a, r.app (t := t) q⟩
  | [], _, _ :: _, _, z, _ | _ :: _, _, [], _, z, _ => z.elim
theorem Rw.len {h : PH} {s : Nat} : ∀ {rs : List PV} {xss : List (List PV)}, Rw h s rs xss → rs.length = xss.length
  | [], [], _ => rfl
  | _ :: _, _ :: _, ⟨_, r⟩ => by rw [List.length_cons, List.length_cons, r.len]
  | [], _ :: _, z | _ :: _, [], z => z.elim
/-- what stands beside s -/
def Beside (s : Nat) (h h' : PH) : Prop := h.length ≤ h'.length ∧ ∀ j o, j ≠ s → h[j]? = some o → h'[j]? = some o
theorem Beside.trans {s : Nat} {a b c : PH} (x : Beside s a b) (y : Beside s b c) : Beside s a c := ⟨Nat.le_trans x.1 y.1, fun j o n e => y.2 j o n (x.2 j o n e)⟩
theorem Beside.refl {s : Nat} {a : PH} : Beside s a a := ⟨Nat.le_refl _, fun _ _ _ e => e⟩
theorem Beside.app {s : Nat} {a os : PH} : Beside s a (a ++ os) := ⟨by simp, fun j o _ e => by rw [List.getElem?_append_left (List.getElem?_eq_some_iff.mp e).1]; exact e⟩
theorem mapO_imp {α β : Type} {f g : α → Option β} (i : ∀ x d, f x = some d → g x = some d) : ∀ {xs : List α} {ds : List β}, mapO f xs = some ds → mapO g xs = some ds
  | [], _, e => e
  | x :: xs, ds, e => by
    unfold mapO at e ⊢
    cases e1 : f x with
    | none => rw [e1] at e; cases e
    | some d =>
      rw [e1] at e
      rw [i x d e1]
      cases e2 : mapO f xs with
      | none => simp only [e2] at e; cases e
      | some es => simp only [e2] at e; rw [mapO_imp i e2]; exact e
theorem toDq_keep {h g : PH} : ∀ (n : Nat) (x : PV) (d : PyData), toDq h n x = some d → (∀ (m : Nat) (o : PO), h[m]? = some o → g[m]? = some o) → toDq g n x = some d
  | 0, _, _, e, _ => by cases e
  | n + 1, x, d, e, k => by
    cases x with
    | non => exact e
    | bl b => exact e
    | int i => exact e
    | str s => exact e
    | tup xs =>
      have e' : (mapO (toDq h n) xs).map PyData.tuple = some d := e
      show (mapO (toDq g n) xs).map PyData.tuple = some d
      cases e2 : mapO (toDq h n) xs with
      | none => rw [e2] at e'; cases e'
      | some ds => rw [mapO_imp (fun x d q => toDq_keep n x d q k) e2]; rw [e2] at e'; exact e'
    | ref m =>
      have e' : (match h[m]? with
        | some (.lst xs) => (mapO (toDq h n) xs).map PyData.list
        | some (.dic false []) => some (.dict [])
        | _ => none) = some d := e
      show (match g[m]? with
        | some (.lst xs) => (mapO (toDq g n) xs).map PyData.list
        | some (.dic false []) => some (.dict [])
        | _ => none) = some d
      split at e'
      · rename_i xs e1
        rw [k m _ e1]
        cases e2 : mapO (toDq h n) xs with
        | none => rw [e2] at e'; cases e'
        | some ds => simp only; rw [mapO_imp (fun x d q => toDq_keep n x d q k) e2]; rw [e2] at e'; exact e'
      · rename_i e1
        rw [k m _ e1]
        exact e'
      · cases e'
    | scr xs => cases e
    | rdic xs => cases e
    | ins c fs => cases e
    | gl i => cases e
    | exn c fs => cases e
theorem HG.keep {h g : PH} {K n dp : Nat} {x : PV} {d : PyData} (a : HG h K n dp x d) (k : ∀ (m : Nat) (o : PO), h[m]? = some o → g[m]? = some o) : HG g K n dp x d :=
  ⟨fun m l => toDq_keep m x d (a.td m l) k, a.s1, a.s3, a.s4, a.de⟩
/-- the data of a value in a heap -/
def ddq (h : PH) (x : PV) : PyData := (toDq h 17 x).getD .none
theorem HG.dd {h : PH} {K n dp : Nat} {x : PV} {d : PyData} (a : HG h K n dp x d) (l : dp < 17) : ddq h x = d := by unfold ddq; rw [a.td 17 l]; rfl
/-- values whose text is bounded -/
def Tx1 (h : PH) (K n dp : Nat) (x : PV) : Prop := ∃ d, HG h K n dp x d
theorem Tx1.keep {h g : PH} {K n dp : Nat} {x : PV} (a : Tx1 h K n dp x) (k : ∀ (m : Nat) (o : PO), h[m]? = some o → g[m]? = some o) : Tx1 g K n dp x := a.imp fun _ b => b.keep k
theorem Tx1.dd {h g : PH} {K n dp : Nat} {x : PV} (a : Tx1 h K n dp x) (l : dp < 17) (k : ∀ (m : Nat) (o : PO), h[m]? = some o → g[m]? = some o) : ddq g x = ddq h x := by
  obtain ⟨d, b⟩ := a
  rw [b.dd l, (b.keep k).dd l]
theorem Tx1.pl {h : PH} {K n dp : Nat} {x : PV} (hK : 0 < K) (h2 : K ≤ 1920) (g : pok K x = true) (l1 : pnd x ≤ n) (l2 : pdp x ≤ dp) : Tx1 h K n dp x := ⟨_, (HG.pl hK h2 g).w l1 l2⟩
section
variable {env : En} {h : PH} {xs : List PV} {fs : List (Nm × PV)}
@[simp] theorem e_xf {cs : List Nat} {f : Nm} {m : ME} : mXf cs f m env h = (m env h).bind fun x h1 => match x with
  | .exn c fs => bif cs.contains c then (match lookF f fs with
    | some v => .ok v h1
    | none => .stuck) else .stuck
  | _ => .stuck := nd rfl
@[simp] theorem e_xi {tb : List (Nat × Bool)} {m : ME} : mXi tb m env h = (m env h).bind fun x h1 => match x with
  | .exn c _ => (match tb.lookup c with
    | some b => .ok (.bl b) h1
    | none => .stuck)
  | _ => .stuck := nd rfl
end

section
variable {env : En} {h : PH} {a b : MS} {Q : Fl → PH → Prop}
theorem Ws.seq {P : En → PH → Prop} (w : Ws (a env h) fun f g => ∃ e, f = .nx e ∧ P e g) (i : ∀ e g, P e g → Ws (b e g) Q) : Ws (mSeq a b env h) Q := by
  rw [e_seq]
  refine Ws.bind w fun f g ⟨e, ef, p⟩ => ?_
  subst ef
  exact i e g p
theorem Ws.last {P : PV → PH → Prop} (w : Ws (a env h) fun f g => ∃ v, f = .rt v ∧ P v g) : Ws (mSeq a b env h) fun f g => ∃ v, f = .rt v ∧ P v g := by
  rw [e_seq]
  refine Ws.bind w fun f g ⟨e, ef, p⟩ => ?_
  subst ef
  exact Ws_ok.mpr ⟨e, rfl, p⟩
theorem Ws.fn {n : Nat} {xs : List PV} {P : PV → PH → Prop} (w : Ws (b (xs.map some ++ List.replicate (n - xs.length) none) h) fun f g => ∃ v, f = .rt v ∧ P v g) : Ws (mFun n b xs h) P := by
  rw [e_fun]
  refine Ws.bind w fun f g ⟨e, ef, p⟩ => ?_
  subst ef
  exact Ws_ok.mpr p
end
end MC

end
section
set_option maxRecDepth 100000
set_option maxHeartbeats 4000000
namespace MC
open PySem L2
theorem call_rn {m : MF} {xs : List PV} {h : PH} {S : List Nat} {zs : List PV} (cl : Closed h S) (nd : S.Nodup) (hx : ∀ n ∈ refsVs xs, n ∈ S) (hw : (refsVs xs).length + wgt h S [] ≤ FUEL) (hw2 : 100 + S.length + wgt h S [] ≤ FUEL) (hz : noRefs zs = true)
    (hm : ∀ (as : List PV) (hc : PH) (f : Nat → Option Nat), (∀ n m q, f n = some q → f m = some q → n = m) → (∀ n ∈ refsVs xs, ∃ q, f n = some q) → renVs f xs = some as → (∀ n q, f n = some q → ∃ o, hc[q]? = some o ∧ pick h f n = some o) → Ws (m as hc) fun u g => (∃ i, u = .ref i ∧ hc.length ≤ i ∧ g[i]? = some (.lst zs)) ∧ ∀ i < hc.length, g[i]? = hc[i]?) :
    callG takeBack m xs h = .ok (.ref h.length) (h ++ [.lst zs]) := by
  obtain ⟨fp, er, _, r2, r3, r4⟩ := reach_spec cl nd FUEL (refsVs xs) [] hx (fun _ z => nomatch z) hw
  have ndf := reach_nd List.nodup_nil er
  have r5 : ∀ n ∈ fp, ∀ k ∈ refsAt h n, k ∈ fp := fun n hn => (r4 n hn).elim (fun z => nomatch z) id
  have hb : ∀ n m, idx fp n = some m → fp[m]? = some n := fun n m e => idx_get e
  obtain ⟨as, ea⟩ := rens_tot (f := idx fp) xs fun n hn => idx_mem (r2 n hn)
  have obj : ∀ n ∈ fp, ∃ o p, h[n]? = some o ∧ refsAt h n = refsO o ∧ renO (idx fp) o = some p := fun n hn => by
    have hl := (cl n (r3 n hn)).1
    have e0 : h[n]? = some h[n] := List.getElem?_eq_getElem hl
    have e1 : refsAt h n = refsO h[n] := by unfold refsAt; rw [e0]
    obtain ⟨p, ep⟩ := reno_tot (f := idx fp) h[n] fun k hk => idx_mem (r5 n hn k (by rw [e1]; exact hk))
    exact ⟨_, p, e0, e1, ep⟩
  obtain ⟨hc, ec⟩ := mapO_tot (f := pick h (idx fp)) (xs := fp) fun n hn => by
    obtain ⟨o, p, e0, _, ep⟩ := obj n hn
    exact ⟨p, by unfold pick; rw [e0]; exact ep⟩
  have lc : hc.length = fp.length := mapO_len ec
  have hat : ∀ n q, idx fp n = some q → ∃ o, hc[q]? = some o ∧ pick h (idx fp) n = some o := fun n q e => by
    obtain ⟨y, h1, h2⟩ := mapO_get ec (hb n q e)
    exact ⟨y, h1, h2⟩
  have inj : ∀ n m q, idx fp n = some q → idx fp m = some q → n = m := fun n m q e1 e2 => by
    have := (hb n q e1).symm.trans (hb m q e2)
    exact Option.some.inj this
  obtain ⟨u, g, ev, ⟨j, rfl, hj, gj⟩, bt⟩ := hm as hc (idx fp) inj (fun n hn => idx_mem (r2 n hn)) ea hat
  have gat : ∀ t n, fp[t]? = some n → ∃ o p, h[n]? = some o ∧ refsAt h n = refsO o ∧ renO (idx fp) o = some p ∧ g[t]? = some p := fun t n e => by
    have ei := idx_of ndf e
    obtain ⟨o, p, e0, e1, e2⟩ := obj n (List.mem_of_getElem? e)
    refine ⟨o, p, e0, e1, e2, ?_⟩
    obtain ⟨y, h1, h2⟩ := hat n t ei
    rw [bt t (by rw [lc]; exact (List.getElem?_eq_some_iff.mp e).1), h1]
    unfold pick at h2
    rw [e0] at h2
    exact h2.symm.trans e2
  have refs_g : ∀ t n, fp[t]? = some n → (∀ k ∈ refsAt g t, k < fp.length) ∧ (refsAt g t).length ≤ (refsAt h n).length := fun t n e => by
    obtain ⟨o, p, e0, e1, e2, q⟩ := gat t n e
    obtain ⟨_, b2, b3⟩ := reno_back hb o p e2
    have : refsAt g t = refsO p := by unfold refsAt; rw [q]
    rw [this, e1]
    exact ⟨fun k hk => by obtain ⟨n', _, z⟩ := b2 k hk; exact idx_lt z, Nat.le_of_eq b3⟩
  have lj : fp.length ≤ j := by rw [← lc]; exact hj
  have rj : refsAt g j = [] := by unfold refsAt; rw [gj]; exact (flat_l hz).1
  have clg : Closed g (List.range fp.length ++ [j]) := fun t ht => by
    rcases List.mem_append.mp ht with ht | ht
    · have ht := List.mem_range.mp ht
      have e : fp[t]? = some fp[t] := List.getElem?_eq_getElem ht
      obtain ⟨_, _, _, _, _, q⟩ := gat t _ e
      exact ⟨(List.getElem?_eq_some_iff.mp q).1, fun k hk => List.mem_append_left _ (List.mem_range.mpr ((refs_g t _ e).1 k hk))⟩
    · rw [List.mem_singleton.mp ht]
      exact ⟨(List.getElem?_eq_some_iff.mp gj).1, fun k hk => by rw [rj] at hk; cases hk⟩
  have wg : wgt g (List.range fp.length ++ [j]) [] ≤ wgt h S [] := by
    unfold wgt
    have e1 : ∀ l : List Nat, l.filter (fun n => !([] : List Nat).contains n) = l := fun l => List.filter_eq_self.mpr fun a _ => by simp
    rw [e1, e1]
    refine Nat.le_trans ?_ (sum_sub (F := fun n => (refsAt h n).length) ndf r3)
    have := sum_range_le (h := h) g fp 0 fun t n e => by rw [Nat.zero_add]; exact (refs_g t n e).2
    rw [← List.range_eq_range'] at this
    rw [List.map_append, List.sum_append]
    simpa [rj] using this
  have lfp := len_sub ndf r3
  have ndg : (List.range fp.length ++ [j]).Nodup := List.nodup_append.mpr ⟨List.nodup_range, (by simp), fun a ha b hb e => by
    have := List.mem_range.mp ha
    rw [List.mem_singleton.mp hb] at e
    omega⟩
  have todo : refsVs [PV.ref j] = [j] := rfl
  obtain ⟨live, el, _, l2, l3, _⟩ := reach_spec clg ndg FUEL (refsVs [PV.ref j] ++ List.range fp.length) [] (fun n hn => by
    rw [todo] at hn
    rcases List.mem_append.mp hn with z | z
    · exact List.mem_append_right _ z
    · exact List.mem_append_left _ z) (fun _ z => nomatch z) (by
      rw [todo, List.length_append, List.length_range, List.length_singleton]
      omega)
  have ndl := reach_nd List.nodup_nil el
  have jl : j ∈ live := l2 j (by rw [todo]; exact List.mem_append_left _ (List.mem_singleton.mpr rfl))
  have nw : newsOf fp live = [j] := by
    have a1 : ∀ n ∈ newsOf fp live, n = j := fun n hn => by
      unfold newsOf at hn
      obtain ⟨h1, h2⟩ := List.mem_filter.mp hn
      have h2 := of_decide_eq_true h2
      rcases List.mem_append.mp (l3 n h1) with z | z
      · have := List.mem_range.mp z; omega
      · exact List.mem_singleton.mp z
    have a2 : j ∈ newsOf fp live := List.mem_filter.mpr ⟨jl, decide_eq_true lj⟩
    have a3 : (newsOf fp live).Nodup := ndl.filter _
    cases e : newsOf fp live with
    | nil => rw [e] at a2; cases a2
    | cons x r =>
      rw [e] at a1 a3
      have ex := a1 x List.mem_cons_self
      cases r with
      | nil => rw [ex]
      | cons y r =>
        have ey := a1 y (List.mem_cons_of_mem _ List.mem_cons_self)
        rw [ex, ey] at a3
        exact absurd List.mem_cons_self (List.nodup_cons.mp a3).1
  have bk : ∀ n q, idx fp n = some q → backF fp [j] h.length q = some n := fun n q e => by
    unfold backF
    rw [decide_eq_true (idx_lt e), cond_true]
    exact hb n q e
  let F : Nat → PO := fun n => (h[n]?).getD (.lst [])
  have eos : mapO (pick g (backF fp [j] h.length)) (List.range fp.length) = some (fp.map F) := by
    refine mapO_eq (by simp) fun t t' e => ?_
    have ht : t < fp.length := by have := (List.getElem?_eq_some_iff.mp e).1; simpa using this
    rw [List.getElem?_range ht] at e
    cases e
    have e : fp[t]? = some fp[t] := List.getElem?_eq_getElem ht
    rw [List.getElem?_map, e]
    show pick g _ t = some (F fp[t])
    obtain ⟨o, p, e0, e1, e2, q3⟩ := gat t _ e
    unfold pick
    rw [q3]
    show renO _ p = _
    rw [(reno_back bk o p e2).1]
    show some o = some ((h[fp[t]]?).getD (.lst []))
    rw [e0]; rfl
  have bj : backF fp [j] h.length j = some h.length := by
    unfold backF
    rw [decide_eq_false (by omega), cond_false]
    simp [idx]
  have fin := call_gen (m := m) (h := h) (xs := xs) (as := as) (v := .ref j) (u := .ref h.length) (fp := fp) (hc := hc) (live := live) (os := fp.map F) (ns := [.lst zs]) (g := g) er ea ec ev el (by rw [nw]; unfold renVs renV; rw [bj]; rfl) (by rw [nw]; exact eos) (by
    rw [nw]
    have : pick g (backF fp [j] h.length) j = some (.lst zs) := by
      unfold pick
      rw [gj]
      exact (flat_l hz).2 _
    simp [mapO, this])
  rw [fin]
  have same : setAll h fp (fp.map F) = h := by
   refine List.ext_getElem? fun i => ?_
   by_cases hf : i ∈ fp
   · obtain ⟨t, et⟩ := List.mem_iff_getElem?.mp hf
     have hl := (cl i (r3 i hf)).1
     rw [setAll_in h fp (fp.map F) ndf (by simp) et hl, List.getElem?_map, et]
     show some ((h[i]?).getD (.lst [])) = _
     rw [List.getElem?_eq_getElem hl]; rfl
   · exact setAll_out _ _ _ hf
  rw [same]
end MC

end
section
set_option maxRecDepth 100000
set_option maxHeartbeats 4000000
namespace MC
open PySem L2
section
variable {env : En} {h : PH}
theorem add_step {i n : Nat} {a bs : List PV} {ms : MA} (he : env[i]? = some (some (.ref n))) (hn : h[n]? = some (.lst a)) (hm : ms env h = .ok bs h) (l : a.length + bs.length ≤ 1000) :
    mOp opAdd (mVar i) (mLst ms) env h = .ok (.ref (h.length + 1)) (h ++ [.lst bs, .lst (a ++ bs)]) := by
  have ad := MM.addL (h := h ++ [PO.lst bs]) (n := n) (m := h.length) (MC.get_app hn) MC.last_at (MM.lim_of l)
  simp only [e_op, e_var, he, bind_ok, e_lst, hm, if_pos (MM.lim_of (show bs.length ≤ 1000 by omega)), ad]
  simp
theorem toD_bools {n : Nat} {bs : List Bool} (e : h[n]? = some (.lst (bs.map PV.bl))) : toD h DEP (.ref n) = some (.list (bs.map PyData.bool)) := by
  have z : toD h (19 + 1) (.ref n) = _ := toD.eq_def ..
  rw [show DEP = 19 + 1 from rfl, z]
  have m : ∀ bs : List Bool, mapO (toD h 19) (bs.map PV.bl) = some (bs.map PyData.bool) := by
    intro bs
    induction bs with
    | nil => rfl
    | cons b r ih => rw [List.map_cons]; unfold mapO; rw [show toD h 19 (.bl b) = some (.bool b) from rfl, ih]; rfl
  simp only [e, m]; rfl
theorem bools_shaped (bs : List Bool) : SeqAt.shaped (.list (bs.map PyData.bool)) = true ∧ PyData.eqvAll (bs.map PyData.bool) (bs.map PyData.bool) = true := by
  have q : ∀ bs : List Bool, PyData.canLayAll0 (bs.map PyData.bool) = true ∧ PyData.depthAll (bs.map PyData.bool) ≤ 1 ∧ PyData.eqvAll (bs.map PyData.bool) (bs.map PyData.bool) = true := by
    intro bs
    induction bs with
    | nil => exact ⟨rfl, Nat.zero_le _, rfl⟩
    | cons b r ih => simp [PyData.canLayAll0, PyData.canLay0, PyData.depthAll, PyData.depth, PyData.eqvAll, ih]; cases b <;> rfl
  obtain ⟨q1, q2, q3⟩ := q bs
  refine ⟨?_, q3⟩
  unfold SeqAt.shaped
  simp [PyData.canLay0, q1, PyData.depth]
  omega
theorem ne_bools {n m : Nat} {bs : List Bool} (e1 : h[n]? = some (.lst (bs.map PV.bl))) (e2 : h[m]? = some (.lst (bs.map PV.bl))) : opNe h (.ref n) (.ref m) = .ok (.bl false) h := by
  obtain ⟨s1, s2⟩ := bools_shaped bs
  unfold opNe by2
  rw [toD_bools e1, toD_bools e2]
  simp only [s1, Bool.and_self, cond_true, PyData.eqv, s2]
  rfl
theorem boolsP_map : ∀ bs : List Bool, boolsP (bs.map PV.bl) = some bs
  | [] => rfl
  | b :: r => by rw [List.map_cons]; unfold boolsP; rw [boolsP_map r]
theorem cnt_bools {n : Nat} {b : Bool} {bs : List Bool} (e : h[n]? = some (.lst (bs.map PV.bl))) : oCountB h [.ref n, .bl b] = .ok (.int (cntB b bs : Nat)) h := by
  simp [oCountB, e, boolsP_map]
def idxB : List Bool → Option Nat
  | [] => none
  | b :: r => if b = true then some 0 else (idxB r).map (· + 1)
theorem idx_bools {n i : Nat} {bs : List Bool} (e : h[n]? = some (.lst (bs.map PV.bl))) (ei : idxB bs = some i) : oIndexD h [.ref n, .bl true] = .ok (.int i) h := by
  have q : ∀ (bs : List Bool) (i : Nat), idxB bs = some i → idxOfD (.bool true) (bs.map PyData.bool) = some i := by
    intro bs
    induction bs with
    | nil => intro i z; cases z
    | cons b r ih =>
      intro i z
      unfold idxB at z
      rw [List.map_cons]
      unfold idxOfD
      cases b with
      | true => simp at z; subst z; rfl
      | false =>
        cases q : idxB r with
        | none => rw [q] at z; simp at z
        | some j =>
          rw [q] at z
          simp at z
          have : PyData.eqv (.bool false) (.bool true) = false := rfl
          rw [this, cond_false, ih j q]
          show some (j + 1) = some i
          rw [z]
  have s : SeqAt.shaped (.bool true) = true := rfl
  have d2 : toD h DEP (.bl true) = some (.bool true) := rfl
  simp only [oIndexD, toD_bools e, d2, (bools_shaped bs).1, s, Bool.and_self, cond_true, q bs i ei]
end
/-- flat objects are handed over and stay, a new list of plain values comes back -/
theorem call_fln {m : MF} {xs : List PV} {h : PH} {zs : List PV} (hf : ∀ i ∈ refsVs xs, ∃ o, h[i]? = some o ∧ Flat o) (hl : (refsVs xs).length ≤ 300) (hz : noRefs zs = true)
    (hm : ∀ (as : List PV) (hc : PH) (f : Nat → Option Nat), (∀ n ∈ refsVs xs, ∃ q, f n = some q) → renVs f xs = some as → (∀ n q, f n = some q → ∃ o, hc[q]? = some o ∧ pick h f n = some o) → Ws (m as hc) fun u g => (∃ i, u = .ref i ∧ hc.length ≤ i ∧ g[i]? = some (.lst zs)) ∧ ∀ i < hc.length, g[i]? = hc[i]?) :
    callG takeBack m xs h = .ok (.ref h.length) (h ++ [.lst zs]) := by
  obtain ⟨S, nd, hS, lS⟩ := MM.nodup_of (refsVs xs)
  have fl : ∀ i ∈ refsVs xs, i < h.length ∧ refsAt h i = [] := fun i hi => by
    obtain ⟨o, eo, fo⟩ := hf i hi
    exact ⟨(List.getElem?_eq_some_iff.mp eo).1, by unfold refsAt; rw [eo]; exact fo.1⟩
  have cl : Closed h S := fun m hm => by
    rw [(fl m ((hS m).mp hm)).2]; exact ⟨(fl m ((hS m).mp hm)).1, fun _ z => nomatch z⟩
  have wg : wgt h S [] = 0 := by
    unfold wgt
    have e1 : S.filter (fun n => !([] : List Nat).contains n) = S := List.filter_eq_self.mpr fun a _ => by simp
    rw [e1]
    have : ∀ l : List Nat, (∀ m ∈ l, (refsAt h m).length = 0) → (l.map fun n => (refsAt h n).length).sum = 0 := by
      intro l
      induction l with
      | nil => intro _; rfl
      | cons a r ih => intro q; rw [List.map_cons, List.sum_cons, q a List.mem_cons_self, ih fun m hm => q m (List.mem_cons_of_mem _ hm)]
    exact this S fun m hm => by rw [(fl m ((hS m).mp hm)).2]; rfl
  have fu : (400 : Nat) ≤ FUEL := by decide
  exact call_rn cl nd (fun n hn => (hS n).mpr hn) (by omega) (by omega) hz fun as hc f _ t a b => hm as hc f t a b
end MC
namespace MM
open PySem L2 MC
/-- the a-th class of errors, of k -/
def flB (a k : Nat) : List Bool := (List.range k).map fun j => j == a
def flV (a k : Nat) : List PV := (flB a k).map PV.bl
def FlP (fs : List (Nm × PV)) (a k : Nat) (hc : PH) (e : En) (g : PH) : Prop := ∃ n, e = [some (.exn (11 + a) fs), some (.ref n)] ∧ hc.length ≤ n ∧ g[n]? = some (.lst (flV a k)) ∧ ∀ i < hc.length, g[i]? = hc[i]?
theorem flV_len (a k : Nat) : (flV a k).length = k := by simp [flV, flB]
theorem flV_add (a k : Nat) : flV a k ++ [.bl (k == a), .bl (k + 1 == a), .bl (k + 2 == a)] = flV a (k + 3) := by
  unfold flV flB
  rw [show k + 3 = k + 1 + 1 + 1 from rfl, List.range_succ, List.range_succ, List.range_succ]
  simp
theorem flV_one (a k : Nat) : flV a k ++ [.bl (k == a)] = flV a (k + 1) := by
  unfold flV flB
  rw [List.range_succ]
  simp
section
variable {a : Nat} {fs : List (Nm × PV)} {hc h : PH}
theorem fl_step {k : Nat} {e : En} {g : PH} {ms : MA} (hk : k ≤ 13) (q : FlP fs a k hc e g) (hm : ∀ n g, ms [some (.exn (11 + a) fs), some (.ref n)] g = .ok [.bl (k == a), .bl (k + 1 == a), .bl (k + 2 == a)] g) :
    Ws (mSet 1 (mOp opAdd (mVar 1) (mLst ms)) e g) fun f g => ∃ e, f = .nx e ∧ FlP fs a (k + 3) hc e g := by
  obtain ⟨n, rfl, hn, eg, k0⟩ := q
  have st := add_step (env := [some (.exn (11 + a) fs), some (.ref n)]) (i := 1) rfl eg (hm n g) (by rw [flV_len]; simp; omega)
  have gl : hc.length ≤ g.length := by have := (List.getElem?_eq_some_iff.mp eg).1; omega
  refine Ws.eq (by rw [e_set, st, bind_ok]; rfl) ⟨_, rfl, g.length + 1, rfl, by omega, ?_, fun i hi => ?_⟩
  · rw [flV_add, List.getElem?_append_right (by omega), Nat.add_sub_cancel_left]; rfl
  · rw [List.getElem?_append_left (by omega)]; exact k0 i hi
theorem flags_w (ha : a < 16) (hc : PH) : Ws (m__law_flags_h [.exn (11 + a) fs] hc) fun u g => (∃ i, u = .ref i ∧ hc.length ≤ i ∧ g[i]? = some (.lst (flV a 16))) ∧ ∀ i < hc.length, g[i]? = hc[i]? := by
  have k0 : xit_NotAMachine.lookup (11 + a) = some (0 == a) := (by decide : ∀ a < 16, xit_NotAMachine.lookup (11 + a) = some (0 == a)) a ha
  have k1 : xit_NotADesk.lookup (11 + a) = some (1 == a) := (by decide : ∀ a < 16, xit_NotADesk.lookup (11 + a) = some (1 == a)) a ha
  have k2 : xit_InvalidText.lookup (11 + a) = some (2 == a) := (by decide : ∀ a < 16, xit_InvalidText.lookup (11 + a) = some (2 == a)) a ha
  have k3 : xit_InvalidCount.lookup (11 + a) = some (3 == a) := (by decide : ∀ a < 16, xit_InvalidCount.lookup (11 + a) = some (3 == a)) a ha
  have k4 : xit_InvalidLetter.lookup (11 + a) = some (4 == a) := (by decide : ∀ a < 16, xit_InvalidLetter.lookup (11 + a) = some (4 == a)) a ha
  have k5 : xit_InvalidStand.lookup (11 + a) = some (5 == a) := (by decide : ∀ a < 16, xit_InvalidStand.lookup (11 + a) = some (5 == a)) a ha
  have k6 : xit_InvalidWord.lookup (11 + a) = some (6 == a) := (by decide : ∀ a < 16, xit_InvalidWord.lookup (11 + a) = some (6 == a)) a ha
  have k7 : xit_InvalidLine.lookup (11 + a) = some (7 == a) := (by decide : ∀ a < 16, xit_InvalidLine.lookup (11 + a) = some (7 == a)) a ha
  have k8 : xit_InvalidArrows.lookup (11 + a) = some (8 == a) := (by decide : ∀ a < 16, xit_InvalidArrows.lookup (11 + a) = some (8 == a)) a ha
  have k9 : xit_InvalidEnds.lookup (11 + a) = some (9 == a) := (by decide : ∀ a < 16, xit_InvalidEnds.lookup (11 + a) = some (9 == a)) a ha
  have kA : xit_InvalidBook.lookup (11 + a) = some (10 == a) := (by decide : ∀ a < 16, xit_InvalidBook.lookup (11 + a) = some (10 == a)) a ha
  have kB : xit_InvalidTexts.lookup (11 + a) = some (11 == a) := (by decide : ∀ a < 16, xit_InvalidTexts.lookup (11 + a) = some (11 == a)) a ha
  have kC : xit_InvalidDeeds.lookup (11 + a) = some (12 == a) := (by decide : ∀ a < 16, xit_InvalidDeeds.lookup (11 + a) = some (12 == a)) a ha
  have kD : xit_NothingToUndo.lookup (11 + a) = some (13 == a) := (by decide : ∀ a < 16, xit_NothingToUndo.lookup (11 + a) = some (13 == a)) a ha
  have kE : xit_Busy.lookup (11 + a) = some (14 == a) := (by decide : ∀ a < 16, xit_Busy.lookup (11 + a) = some (14 == a)) a ha
  have kF : xit_TooMany.lookup (11 + a) = some (15 == a) := (by decide : ∀ a < 16, xit_TooMany.lookup (11 + a) = some (15 == a)) a ha
  unfold m__law_flags_h b__law_flags_h
  refine Ws.fn ?_
  refine Ws.seq (P := FlP fs a 3 hc) ?_ fun e g q => ?_
  · refine Ws.eq (a := .nx [some (.exn (11 + a) fs), some (.ref hc.length)]) (h := hc ++ [.lst (flV a 3)]) ?_ ⟨_, rfl, hc.length, rfl, Nat.le_refl _, last_at, fun i hi => List.getElem?_append_left hi⟩
    have : flV a 3 = [.bl (0 == a), .bl (1 == a), .bl (2 == a)] := rfl
    rw [this]
    simp [k0, k1, k2, LIM]
  refine Ws.seq (fl_step (by decide) q fun n g => by simp [k3, k4, k5]) fun e g q => ?_
  refine Ws.seq (fl_step (by decide) q fun n g => by simp [k6, k7, k8]) fun e g q => ?_
  refine Ws.seq (fl_step (by decide) q fun n g => by simp [k9, kA, kB]) fun e g q => ?_
  refine Ws.seq (fl_step (by decide) q fun n g => by simp [kC, kD, kE]) fun e g q => ?_
  refine Ws.last ?_
  obtain ⟨n, rfl, hn, eg, k0⟩ := q
  have st := add_step (env := [some (.exn (11 + a) fs), some (.ref n)]) (i := 1) (ms := maCons (mXi xit_TooMany (mVar 0)) maNil) (bs := [.bl (15 == a)]) rfl eg (by simp [kF]) (by rw [flV_len]; simp)
  have gl : hc.length ≤ g.length := by have := (List.getElem?_eq_some_iff.mp eg).1; omega
  refine Ws.eq (by rw [e_ret, st, bind_ok]) ⟨_, rfl, ⟨g.length + 1, rfl, by omega, ?_⟩, fun i hi => ?_⟩
  · rw [flV_one, List.getElem?_append_right (by omega), Nat.add_sub_cancel_left]; rfl
  · rw [List.getElem?_append_left (by omega)]; exact k0 i hi
end
end MM

end
section
set_option maxRecDepth 100000
set_option maxHeartbeats 4000000
namespace MM
open PySem L2 MC
def wA : List Nat := [78, 111, 116, 65, 77, 97, 99, 104, 105, 110, 101, 32, 78, 111, 116, 65, 68, 101, 115, 107, 32, 73, 110, 118, 97, 108, 105, 100, 84, 101, 120, 116, 32, 73, 110, 118, 97, 108, 105, 100, 67, 111, 117, 110, 116, 32, 73, 110, 118, 97, 108, 105, 100, 76, 101, 116, 116, 101, 114, 32, 73, 110, 118, 97, 108, 105, 100, 83, 116, 97, 110, 100, 32, 73, 110, 118, 97, 108, 105, 100, 87, 111, 114, 100, 32, 73, 110, 118, 97, 108, 105, 100, 76, 105, 110, 101, 32]
def wB : List Nat := [73, 110, 118, 97, 108, 105, 100, 65, 114, 114, 111, 119, 115, 32, 73, 110, 118, 97, 108, 105, 100, 69, 110, 100, 115, 32, 73, 110, 118, 97, 108, 105, 100, 66, 111, 111, 107, 32, 73, 110, 118, 97, 108, 105, 100, 84, 101, 120, 116, 115, 32, 73, 110, 118, 97, 108, 105, 100, 68, 101, 101, 100, 115, 32, 78, 111, 116, 104, 105, 110, 103, 84, 111, 85, 110, 100, 111, 32, 66, 117, 115, 121, 32, 84, 111, 111, 77, 97, 110, 121]
/-- the words of the classes of errors -/
def nmsE : List (List Nat) := [[78, 111, 116, 65, 77, 97, 99, 104, 105, 110, 101], [78, 111, 116, 65, 68, 101, 115, 107], [73, 110, 118, 97, 108, 105, 100, 84, 101, 120, 116], [73, 110, 118, 97, 108, 105, 100, 67, 111, 117, 110, 116], [73, 110, 118, 97, 108, 105, 100, 76, 101, 116, 116, 101, 114], [73, 110, 118, 97, 108, 105, 100, 83, 116, 97, 110, 100], [73, 110, 118, 97, 108, 105, 100, 87, 111, 114, 100], [73, 110, 118, 97, 108, 105, 100, 76, 105, 110, 101], [73, 110, 118, 97, 108, 105, 100, 65, 114, 114, 111, 119, 115], [73, 110, 118, 97, 108, 105, 100, 69, 110, 100, 115], [73, 110, 118, 97, 108, 105, 100, 66, 111, 111, 107], [73, 110, 118, 97, 108, 105, 100, 84, 101, 120, 116, 115], [73, 110, 118, 97, 108, 105, 100, 68, 101, 101, 100, 115], [78, 111, 116, 104, 105, 110, 103, 84, 111, 85, 110, 100, 111], [66, 117, 115, 121], [84, 111, 111, 77, 97, 110, 121]]
def nmE (a : Nat) : List Nat := nmsE.getD a []
theorem split_c : splitN (wA ++ wB) [32] = nmsE := by decide +kernel
theorem spl_c (h : PH) : oSplit h [.str (wA ++ wB), .str [32]] = .ok (.ref h.length) (h ++ [.lst (nmsE.map PV.str)]) := by
  have l : decide ((wA ++ wB).length + 2 ≤ LIM) = true := by decide
  unfold oSplit
  simp only [l, split_c]
  rfl
theorem nm_at {a : Nat} (ha : a < 16) : (nmsE.map PV.str)[a]? = some (.str (nmE a)) := by
  rw [List.getElem?_map]
  have : nmsE[a]? = some (nmE a) := (by decide : ∀ a < 16, nmsE[a]? = some (nmE a)) a ha
  rw [this]; rfl
def bsE (a : Nat) : List Bool := [decide (a < 13), decide (12 < a) && decide (a < 15), decide (a = 15)]
section
variable {a : Nat} {fs : List (Nm × PV)} {hc h : PH}
theorem flags_c (ha : a < 16) (hf : ∀ i ∈ refsF fs, ∃ o, h[i]? = some o ∧ Flat o) (hl : (refsF fs).length ≤ 300) : callG takeBack m__law_flags_h [.exn (11 + a) fs] h = .ok (.ref h.length) (h ++ [.lst (flV a 16)]) := by
  have r : refsVs [.exn (11 + a) fs] = refsF fs := by simp [refsVs, refsV]
  have nz : noRefs (flV a 16) = true := by
    unfold flV
    generalize flB a 16 = bs
    induction bs with
    | nil => rfl
    | cons b r ih => simp [noRefs, noRef, ih]
  refine call_fln (by rw [r]; exact hf) (by rw [r]; exact hl) nz fun as hc g tot ra at_ => ?_
  have : ∃ fs', as = [.exn (11 + a) fs'] := by
    cases q : renF g fs with
    | none => simp [renVs, renV, q] at ra
    | some fs' => simp [renVs, renV, q] at ra; exact ⟨fs', ra.symm⟩
  obtain ⟨fs', rfl⟩ := this
  exact flags_w ha hc
/-- where the word is looked up: what stands before that -/
def ErP (a : Nat) (fs : List (Nm × PV)) (hc : PH) (e : En) (g : PH) : Prop := ∃ n m k, e = [some (.exn (11 + a) fs), some (.str (wA ++ wB)), some (.ref n), some (.ref m), some (.ref k), some (.int a)] ∧ (∃ os, g = hc ++ os) ∧ g[m]? = some (.lst ((bsE a).map PV.bl))
theorem err_head (ha : a < 16) (hf : ∀ i ∈ refsF fs, ∃ o, hc[i]? = some o ∧ Flat o) (hl : (refsF fs).length ≤ 300) {Q : Fl → PH → Prop}
    {s8 : MS} (i : ∀ e g, ErP a fs hc e g → Ws (s8 e g) Q) :
    Ws (mSeq (mSet 1 (mC (.str wA))) (mSeq (mSet 1 (mOp opAdd (mVar 1) (mC (.str wB)))) (mSeq (mSet 2 (mCl0 (opF m__law_flags_h [0] []) 1 (maCons (mVar 0) maNil))) (mSeq (mSet 3 (mLst (maCons (mXi xit_InputError (mVar 0)) (maCons (mXi xit_StateError (mVar 0)) (maCons (mXi xit_SizeError (mVar 0)) maNil))))) (mSeq (mSet 4 (mLst (maCons (mXi xit_ValueError (mVar 0)) (maCons (mXi xit_LookupError (mVar 0)) (maCons (mXi xit_ArithmeticError (mVar 0)) maNil))))) (mSeq (mIfS (mOr (mTB (mOp opNe (mBM 1 oCountB (mVar 2) (maCons (mC (.bl true)) maNil)) (mC (.int 1)))) (mTB (mOp opNe (mVar 4) (mVar 3)))) (mSeq (mRet (mTup (maCons (mC (.str [111, 116, 104, 101, 114])) (maCons (mC (.str [])) maNil)))) mNil) mNil) (mSeq (mSet 5 (mBM 1 oIndexD (mVar 2) (maCons (mC (.bl true)) maNil))) s8))))))
      [some (.exn (11 + a) fs), none, none, none, none, none] hc) Q := by
  have k0 : xit_InputError.lookup (11 + a) = some (decide (a < 13)) := (by decide : ∀ a < 16, xit_InputError.lookup (11 + a) = some (decide (a < 13))) a ha
  have k1 : xit_StateError.lookup (11 + a) = some (decide (12 < a) && decide (a < 15)) := (by decide : ∀ a < 16, xit_StateError.lookup (11 + a) = some (decide (12 < a) && decide (a < 15))) a ha
  have k2 : xit_SizeError.lookup (11 + a) = some (decide (a = 15)) := (by decide : ∀ a < 16, xit_SizeError.lookup (11 + a) = some (decide (a = 15))) a ha
  have k3 : xit_ValueError.lookup (11 + a) = some (decide (a < 13)) := (by decide : ∀ a < 16, xit_ValueError.lookup (11 + a) = some (decide (a < 13))) a ha
  have k4 : xit_LookupError.lookup (11 + a) = some (decide (12 < a) && decide (a < 15)) := (by decide : ∀ a < 16, xit_LookupError.lookup (11 + a) = some (decide (12 < a) && decide (a < 15))) a ha
  have k5 : xit_ArithmeticError.lookup (11 + a) = some (decide (a = 15)) := (by decide : ∀ a < 16, xit_ArithmeticError.lookup (11 + a) = some (decide (a = 15))) a ha
  have kc : cntB true (flB a 16) = 1 := (by decide : ∀ a < 16, cntB true (flB a 16) = 1) a ha
  have ki : idxB (flB a 16) = some a := (by decide : ∀ a < 16, idxB (flB a 16) = some a) a ha
  refine Ws.seq (P := fun e g => e = [some (.exn (11 + a) fs), some (.str wA), none, none, none, none] ∧ g = hc) (by simp) fun e g ⟨ee, eg⟩ => ?_
  subst ee; subst eg
  have ad : opAdd g (.str wA) (.str wB) = .ok (.str (wA ++ wB)) g := rfl
  refine Ws.seq (P := fun e g' => e = [some (.exn (11 + a) fs), some (.str (wA ++ wB)), none, none, none, none] ∧ g' = g) (Ws.eq (by rw [e_set, e_op]; simp only [e_var, e_c, List.getElem?_cons_succ, List.getElem?_cons_zero, bind_ok, ad]; rfl) ⟨_, rfl, rfl, rfl⟩) fun e g' ⟨ee, eg⟩ => ?_
  subst ee; subst eg
  have fc := flags_c (h := g') ha hf hl
  refine Ws.seq (P := fun e h => e = [some (.exn (11 + a) fs), some (.str (wA ++ wB)), some (.ref g'.length), none, none, none] ∧ h = g' ++ [.lst (flV a 16)]) (by simp [fc]) fun e h1 ⟨ee, e1⟩ => ?_
  subst ee
  have l1 : h1.length = g'.length + 1 := by rw [e1]; simp
  refine Ws.seq (P := fun e h => e = [some (.exn (11 + a) fs), some (.str (wA ++ wB)), some (.ref g'.length), some (.ref (g'.length + 1)), none, none] ∧ h = h1 ++ [.lst ((bsE a).map PV.bl)]) (by simp [k0, k1, k2, LIM, bsE, l1]) fun e h2 ⟨ee, e2⟩ => ?_
  subst ee
  have l2 : h2.length = g'.length + 2 := by rw [e2]; simp [l1]
  refine Ws.seq (P := fun e h => e = [some (.exn (11 + a) fs), some (.str (wA ++ wB)), some (.ref g'.length), some (.ref (g'.length + 1)), some (.ref (g'.length + 2)), none] ∧ h = h2 ++ [.lst ((bsE a).map PV.bl)]) (by simp [k3, k4, k5, LIM, bsE, l2]) fun e h3 ⟨ee, e3⟩ => ?_
  subst ee
  have f1 : h3[g'.length]? = some (.lst ((flB a 16).map PV.bl)) := by
    rw [e3, e2, e1]
    exact MC.get_app (MC.get_app last_at)
  have f2 : h3[g'.length + 1]? = some (.lst ((bsE a).map PV.bl)) := by
    rw [e3, e2, ← l1]
    exact MC.get_app last_at
  have f3 : h3[g'.length + 2]? = some (.lst ((bsE a).map PV.bl)) := by
    rw [e3, ← l2]
    exact last_at
  have ne := ne_bools f3 f2
  have cn := cnt_bools (b := true) f1
  rw [kc] at cn
  have ix := idx_bools f1 ki
  have ty := ty_lst f1
  refine Ws.seq (P := fun e h => e = [some (.exn (11 + a) fs), some (.str (wA ++ wB)), some (.ref g'.length), some (.ref (g'.length + 1)), some (.ref (g'.length + 2)), none] ∧ h = h3) (by simp [cn, ne, ty]) fun e h4 ⟨ee, e4⟩ => ?_
  subst ee; subst e4
  refine Ws.seq (P := fun e h => e = [some (.exn (11 + a) fs), some (.str (wA ++ wB)), some (.ref g'.length), some (.ref (g'.length + 1)), some (.ref (g'.length + 2)), some (.int a)] ∧ h = h4) (by simp [ix, ty]) fun e h5 ⟨ee, e5⟩ => ?_
  subst ee; subst e5
  exact i _ _ ⟨_, _, _, rfl, ⟨[.lst (flV a 16), .lst ((bsE a).map PV.bl), .lst ((bsE a).map PV.bl)], by rw [e3, e2, e1]; simp⟩, f2⟩
end
end MM

end
section
set_option maxRecDepth 100000
set_option maxHeartbeats 4000000
namespace MM
open PySem L2 MC
/-- the text of a value -/
abbrev RpT (t : List Nat) : PV → PH → Prop := fun x h => bReprQ h [x] = .ok (.str t) h
abbrev fVal : List Nat := [118, 97, 108, 117, 101]
section
variable {a : Nat} {fs : List (Nm × PV)} {hc h : PH} {x : PV} {t : List Nat}
/-- the last statements, told of the text that they come to -/
theorem err_val (ha : a < 8) (b : BadQ (RpT t) x hc) : Ws (m__law_error_h [.exn (11 + a) [(fVal, x)]] hc) fun u g => u = .tup [.str (nmE a), .str t] ∧ ∀ i < hc.length, g[i]? = hc[i]? := by
  unfold m__law_error_h b__law_error_h
  refine Ws.fn ?_
  have rf : refsF [(fVal, x)] = refsV x := by simp [refsF]
  refine err_head (fs := [(fVal, x)]) (by omega) (by rw [rf]; exact b.flat) (by rw [rf]; have := b.len; omega) fun e g ⟨n, m, k, ee, ⟨os, eg⟩, hm⟩ => ?_
  subst ee
  have i1 : (a : Int) < 13 := by omega
  have i2 : ¬ (12 : Int) < a := by omega
  have i3 : ¬ (a : Int) = 15 := by omega
  have i4 : ¬ (a : Int) = 13 := by omega
  have i5 : ¬ (a : Int) = 14 := by omega
  have i6 : (a : Int) < 8 := by omega
  have e0 : (bsE a).map PV.bl = [.bl true, .bl false, .bl false] := by simp [bsE, show a < 13 by omega, show ¬ 12 < a by omega, show ¬ a = 15 by omega]
  have ne : opNe (g ++ [.lst [.bl true, .bl false, .bl false]]) (.ref m) (.ref g.length) = .ok (.bl false) (g ++ [.lst [.bl true, .bl false, .bl false]]) := by
    rw [e0] at hm
    exact ne_bools (bs := [true, false, false]) (MC.get_app hm) last_at
  have c13 : a < 13 := by omega
  have c12 : ¬ 12 < a := by omega
  have c15 : ¬ a = 15 := by omega
  have c8 : a < 8 := ha
  refine Ws.seq (P := fun e g' => e = [some (.exn (11 + a) [(fVal, x)]), some (.str (wA ++ wB)), some (.ref n), some (.ref m), some (.ref k), some (.int a)] ∧ ∃ os, g' = hc ++ os) ?_ fun e g' ⟨ee, os', eg'⟩ => ?_
  · simp [LIM, i1, i2, i3, c13, c12, c15, ne]
    exact ⟨os ++ [.lst [.bl true, .bl false, .bl false]], by rw [eg]; simp⟩
  subst ee
  have inn : ∀ h, opIn false h (.int a) (.tup [.int 13, .int 14]) = .ok (.bl false) h := fun h => by
    have := in_ints (h := h) (k := (a : Int)) (is := [13, 14])
    simp at this
    rw [this]
    simp; omega
  refine Ws.seq (P := fun e h => e = [some (.exn (11 + a) [(fVal, x)]), some (.str (wA ++ wB)), some (.ref n), some (.ref m), some (.ref k), some (.int a)] ∧ h = g') (by simp [LIM, inn]) fun e h1 ⟨ee, e1⟩ => ?_
  subst ee; subst e1
  refine Ws.seq (P := fun e h => e = [some (.exn (11 + a) [(fVal, x)]), some (.str (wA ++ wB)), some (.ref n), some (.ref m), some (.ref k), some (.int a)] ∧ h = h1) (by simp [i3, c15]) fun e h2 ⟨ee, e2⟩ => ?_
  subst ee; subst e2
  have sp := spl_c h2
  have ix := ix_ref (h := h2 ++ [.lst (nmsE.map PV.str)]) (n := h2.length) last_at (nm_at (a := a) (by omega))
  have rp : bReprQ (h2 ++ [.lst (nmsE.map PV.str)]) [x] = .ok (.str t) (h2 ++ [.lst (nmsE.map PV.str)]) := by rw [eg']; exact (b.app.app).p
  have ty : ∀ h, isTy h 0 (.str (wA ++ wB)) = true := fun h => rfl
  have ct : xcs_value.contains (11 + a) = true := (by decide : ∀ a < 8, xcs_value.contains (11 + a) = true) a ha
  have ct : 11 + a ∈ xcs_value := by simpa using ct
  generalize wA ++ wB = W at *
  refine Ws.last ?_
  simp [sp, ix, ty, i6, c8, ct, lookF, rp, LIM]
  intro i hi
  rw [eg', List.append_assoc, List.getElem?_append_left hi]
/-- the word and the text of what a call raises -/
theorem err_c {f : Nm} (nt : ∀ (hc : PH) (x : PV), BadQ (RpT t) x hc → Ws (m__law_error_h [.exn (11 + a) [(f, x)]] hc) fun u g => u = .tup [.str (nmE a), .str t] ∧ ∀ i < hc.length, g[i]? = hc[i]?) (b : BadQ (RpT t) x h) :
    callG takeBack m__law_error_h [.exn (11 + a) [(f, x)]] h = .ok (.tup [.str (nmE a), .str t]) h := by
  have r : refsVs [.exn (11 + a) [(f, x)]] = refsV x := by simp [refsVs, refsV, refsF]
  refine call_fl (by rw [r]; exact b.flat) (by rw [r]; have := b.len; omega) rfl fun as hc g tot ra at_ => ?_
  rw [r] at tot
  cases q : renV g x with
  | none => simp [renVs, renV, renF, q] at ra
  | some x' =>
    simp [renVs, renV, renF, q] at ra
    subst ra
    exact nt hc x' (b.ren tot q fun n q _ e => at_ n q e)
theorem raised_x {f : Nm} (ha : a < 16) (c : callG takeBack m__law_error_h [.exn (11 + a) [(f, x)]] h = .ok (.tup [.str (nmE a), .str t]) h) :
    outR 3 1 hd__law_raised bl__law_raised (.exc (11 + a) [(f, x)] h) = .ok (.tup [.str (nmE a), .str t]) h := by
  have k : xtb_InputError_StateError_SizeError.lookup (11 + a) = some true := (by decide : ∀ a < 16, xtb_InputError_StateError_SizeError.lookup (11 + a) = some true) a ha
  have cold : coldR [(f, x)] h (.ok (.rt (.tup [.str (nmE a), .str t])) h) = .ok (.rt (.tup [.str (nmE a), .str t])) h := by
    unfold coldR
    have e1 : okx [(f, x)] (.tup [.str (nmE a), .str t]) = true := by simp [okx, nxV, nxVs]
    simp only [e1, List.take_length, beqH_rf, List.drop_length, List.all_nil, Bool.and_self, cond_true]
  unfold outR hd__law_raised
  simp [hdsR, k, hdR, c, cold, finT]
theorem raised_val (ha : a < 8) (b : BadQ (RpT t) x h) : outR 3 1 hd__law_raised bl__law_raised (.exc (11 + a) [(fVal, x)] h) = .ok (.tup [.str (nmE a), .str t]) h :=
  raised_x (by omega) (err_c (fun hc x b => err_val ha b) b)
abbrev retW : List Nat := [114, 101, 116, 117, 114, 110, 101, 100]
theorem raised_ok {v : PV} (r : bReprQ h [v] = .ok (.str t) h) : outR 3 1 hd__law_raised bl__law_raised (.ok v h) = .ok (.tup [.str retW, .str t]) h := by
  unfold outR bl__law_raised
  simp [r, LIM, finR]
/-- two such tuples -/
theorem tup_ok {s t : List Nat} (h1 : PyData.strOk (S s) = true) (h2 : PyData.strOk (S t) = true) : SeqAt.shaped (.tuple [.str (S s), .str (S t)]) = true ∧ PyData.eqvAll [.str (S s), .str (S t)] [.str (S s), .str (S t)] = true := by
  refine ⟨?_, ?_⟩
  · unfold SeqAt.shaped
    simp [PyData.canLay0, PyData.canLayAll0, h1, h2, PyData.depth, PyData.depthAll]
  · simp [PyData.eqvAll, PyData.eqv]
theorem ne_tup {s t : List Nat} (h1 : PyData.strOk (S s) = true) (h2 : PyData.strOk (S t) = true) (h : PH) : opNe h (.tup [.str s, .str t]) (.tup [.str s, .str t]) = .ok (.bl false) h := by
  obtain ⟨s1, s2⟩ := tup_ok h1 h2
  have d : toD h DEP (.tup [.str s, .str t]) = some (.tuple [.str (S s), .str (S t)]) := rfl
  unfold opNe by2
  rw [d]
  simp only [s1, Bool.and_self, cond_true, PyData.eqv, s2]
  rfl
theorem eq_tup {s t : List Nat} (h1 : PyData.strOk (S s) = true) (h2 : PyData.strOk (S t) = true) (h : PH) : opEq h (.tup [.str s, .str t]) (.tup [.str s, .str t]) = .ok (.bl true) h := by
  obtain ⟨s1, s2⟩ := tup_ok h1 h2
  have d : toD h DEP (.tup [.str s, .str t]) = some (.tuple [.str (S s), .str (S t)]) := rfl
  unfold opEq by2
  rw [d]
  simp only [s1, Bool.and_self, cond_true, PyData.eqv, s2]
end
end MM

end
section
set_option maxRecDepth 100000
set_option maxHeartbeats 4000000
namespace MC
open PySem L2
theorem callX_val {c : Nat} {f : Nm} {m : MF} {tb : PH → List Nat → PV → PH → R PV} {xs : List PV} {h : PH} {x : PV} (hf : ∀ i ∈ refsVs xs, ∃ o, h[i]? = some o ∧ Flat o) (hl : (refsVs xs).length ≤ 200) (hx : ∀ i ∈ refsV x, i ∈ refsVs xs) (hlx : (refsV x).length ≤ 100)
    (hm : ∀ (as : List PV) (hc : PH) (g : Nat → Option Nat), (∀ n ∈ refsVs xs, ∃ q, g n = some q) → renVs g xs = some as → (∀ n q, g n = some q → ∃ o, hc[q]? = some o ∧ pick h g n = some o) → ∃ x' os, renV g x = some x' ∧ m as hc = .exc c [(f, x')] (hc ++ os)) :
    callX tb m xs h = .exc c [(f, x)] h := by
  obtain ⟨fp, er, _, r2, r3⟩ := reach_fl (g := h) FUEL (refsVs xs) [] (fun n hn => by obtain ⟨o, e, fo⟩ := hf n hn; exact ⟨o, e, fo.1⟩) (by
    have q : (400 : Nat) ≤ FUEL := by decide
    omega)
  have ndf := reach_nd List.nodup_nil er
  have inx : ∀ n ∈ fp, n ∈ refsVs xs := fun n hn => (r3 n hn).elim (fun z => nomatch z) id
  obtain ⟨as, ea⟩ := rens_tot (f := idx fp) xs fun n hn => idx_mem (r2 n hn)
  have obj : ∀ n ∈ fp, ∃ o, h[n]? = some o ∧ Flat o := fun n hn => hf n (inx n hn)
  obtain ⟨hc, ec⟩ := mapO_tot (f := pick h (idx fp)) (xs := fp) fun n hn => by
    obtain ⟨o, e0, fo⟩ := obj n hn
    exact ⟨o, by unfold pick; rw [e0]; exact fo.2 _⟩
  have lc : hc.length = fp.length := mapO_len ec
  have hat : ∀ n q, idx fp n = some q → ∃ o, hc[q]? = some o ∧ pick h (idx fp) n = some o := fun n q e => by
    obtain ⟨y, h1, h2⟩ := mapO_get ec (idx_get e)
    exact ⟨y, h1, h2⟩
  obtain ⟨x', os, ex, em⟩ := hm as hc (idx fp) (fun n hn => idx_mem (r2 n hn)) ea hat
  have hct : ∀ t n, fp[t]? = some n → hc[t]? = h[n]? ∧ ∃ o, h[n]? = some o ∧ Flat o := fun t n e => by
    obtain ⟨o, e0, fo⟩ := obj n (List.mem_of_getElem? e)
    obtain ⟨y, h1, h2⟩ := mapO_get ec e
    unfold pick at h2
    rw [e0] at h2
    have : y = o := Option.some.inj (h2.symm.trans (fo.2 _))
    exact ⟨by rw [h1, e0, this], o, e0, fo⟩
  unfold callX
  simp only [er, ea, ec, em]
  unfold excBack takeL
  simp only [List.map_cons, List.map_nil]
  have hb : ∀ n m, idx fp n = some m → backF fp [] h.length m = some n := fun n m e => by
    unfold backF
    rw [decide_eq_true (idx_lt e), cond_true]
    exact idx_get e
  obtain ⟨b1, b2, b3⟩ := ren_back hb x x' ex
  have rx : ∀ k ∈ refsV x', k < fp.length := fun k hk => by obtain ⟨n, _, z⟩ := b2 k hk; exact idx_lt z
  have gat : ∀ t, t < fp.length → ∃ o, (hc ++ os)[t]? = some o ∧ Flat o := fun t ht => by
    obtain ⟨h1, o, e0, fo⟩ := hct t _ (List.getElem?_eq_getElem ht)
    exact ⟨o, by rw [List.getElem?_append_left (by rw [lc]; exact ht), h1, e0], fo⟩
  have rv1 : refsVs [x'] = refsV x' := by unfold refsVs refsVs; rw [List.append_nil]
  have lfp : fp.length ≤ (refsVs xs).length := len_sub ndf inx
  have lx' : (refsV x').length = (refsV x).length := b3
  obtain ⟨live, el, _, _, l3⟩ := reach_fl (g := hc ++ os) FUEL (refsVs [x'] ++ List.range fp.length) [] (fun n hn => by
    have : n < fp.length := by
      rcases List.mem_append.mp hn with q | q
      · rw [rv1] at q; exact rx n q
      · exact List.mem_range.mp q
    obtain ⟨o, e, fo⟩ := gat n this
    exact ⟨o, e, fo.1⟩) (by
      have q : (400 : Nat) ≤ FUEL := by decide
      rw [List.length_append, rv1, List.length_range]
      omega)
  have nw : newsOf fp live = [] := by
    unfold newsOf
    refine List.filter_eq_nil_iff.mpr fun n hn => ?_
    have : n < fp.length := by
      rcases (l3 n hn).resolve_left (fun z => nomatch z) |> List.mem_append.mp with q | q
      · rw [rv1] at q; exact rx n q
      · exact List.mem_range.mp q
    simp; omega
  have rn : renVs (backF fp [] h.length) [x'] = some [x] := by simp [renVs, b1]
  have pk : mapO (pick (hc ++ os) (backF fp [] h.length)) (List.range fp.length) = some hc := mapO_eq (by rw [List.length_range, lc]) fun t n e => by
    obtain ⟨ht, en⟩ := List.getElem?_eq_some_iff.mp e
    rw [List.length_range] at ht
    rw [List.getElem_range] at en
    subst en
    obtain ⟨o, e1, fo⟩ := gat t ht
    unfold pick
    rw [e1]
    rw [List.getElem?_append_left (by rw [lc]; exact ht)] at e1
    rw [e1]
    exact fo.2 _
  have sa : setAll h fp hc = h := List.ext_getElem? fun i => by
    by_cases q : i ∈ fp
    · obtain ⟨t, ht, et⟩ := List.mem_iff_getElem.mp q
      have e : fp[t]? = some i := by rw [List.getElem?_eq_getElem ht, et]
      obtain ⟨h1, o, e0, _⟩ := hct t i e
      rw [setAll_in h fp hc ndf lc e (List.getElem?_eq_some_iff.mp e0).1, h1]
    · rw [setAll_out h fp hc q]
  simp only [el, nw, rn, pk]
  have m0 : mapO (pick (hc ++ os) (backF fp [] h.length)) [] = some [] := rfl
  simp only [m0, sa, List.append_nil]
  rfl
/-- a for that is never left -/
theorem Ws.forN {mi : MI} {g : MG} {b : MS} {env : En} {h : PH} {xs : List PV} (I : Nat → En → PH → Prop) (hs : mi env h = .ok (xs, []) h) (h0 : I 0 env h)
    (st : ∀ i x env h, xs[i]? = some x → I i env h → Ws (g x env h) fun e h1 => Ws (b e h1) (turnQ (I (i + 1)) fun f g => ∃ e, f = .nx e ∧ I xs.length e g)) : Ws (mFor mi g b env h) fun f g => ∃ e, f = .nx e ∧ I xs.length e g := by
  rw [e_for, hs, bind_ok]
  exact Ws_for I h0 (fun _ _ _ _ => rfl) st fun env h q => ⟨env, rfl, q⟩
end MC

end
section
set_option maxRecDepth 100000
set_option maxHeartbeats 4000000
namespace MM
open PySem L2 MC
theorem draw_ok (n : Int) (h0 : 0 < n) (h1 : n < B30) (a b c : Int) : ∃ d a' b' c', 0 ≤ d ∧ d < n ∧ m__law_draw [.ref 0, .int n] [skd a b c] = .ok (.int d) [skd a' b' c'] := by
  have m1 : ∀ h (i : Int), opMul h (.int 40014) (.int i) = .ok (.int (40014 * i)) h := fun h i => v_mul (.inl (by decide))
  have m2 : ∀ h (i : Int), opMul h (.int 40692) (.int i) = .ok (.int (40692 * i)) h := fun h i => v_mul (.inl (by decide))
  have ix0 : ∀ (a b c : Int), opIx [skd a b c] (.ref 0) (.int 0) = .ok (.int a) [skd a b c] := fun _ _ _ => rfl
  have ix1 : ∀ (a b c : Int), opIx [skd a b c] (.ref 0) (.int 1) = .ok (.int b) [skd a b c] := fun _ _ _ => rfl
  have ix2 : ∀ (a b c : Int), opIx [skd a b c] (.ref 0) (.int 2) = .ok (.int c) [skd a b c] := fun _ _ _ => rfl
  have p0 : ∀ (a b c x : Int), oSetIx [skd a b c] (.ref 0) (.int 0) (.int x) = .ok () [skd x b c] := fun _ _ _ _ => rfl
  have p1 : ∀ (a b c x : Int), oSetIx [skd a b c] (.ref 0) (.int 1) (.int x) = .ok () [skd a x c] := fun _ _ _ _ => rfl
  have p2 : ∀ (a b c x : Int), oSetIx [skd a b c] (.ref 0) (.int 2) (.int x) = .ok () [skd a b x] := fun _ _ _ _ => rfl
  by_cases hb : 0 < c
  · refine ⟨c % n, (40014 * a + 1) % 2147483563, (40692 * b + 5) % 2147483399, c / n, Int.emod_nonneg _ (by omega), Int.emod_lt_of_pos _ h0, ?_⟩
    unfold m__law_draw
    simp [b__law_draw, ix0, ix1, ix2, p0, p1, p2, m1, m2, hb, h0, h1]
  · refine ⟨(((40014 * a + 1) % 2147483563 - (40692 * b + 5) % 2147483399) % 2147483562 / 7) % n, (40014 * a + 1) % 2147483563, (40692 * b + 5) % 2147483399, c, Int.emod_nonneg _ (by omega), Int.emod_lt_of_pos _ h0, ?_⟩
    unfold m__law_draw
    simp [b__law_draw, ix0, ix1, ix2, p0, p1, p2, m1, m2, hb, h0, h1]
theorem draw_f {n : Int} (h0 : 0 < n) (h1 : n < B30) : Fs m__law_draw [.int n] (dg n) := fun a b c => by
  obtain ⟨d, a', b', c', d0, d1, e⟩ := draw_ok n h0 h1 a b c
  exact ⟨_, _, e, ⟨a', b', c', rfl⟩, rfl, d, rfl, d0, d1⟩
theorem draw_u {α : Type} {n : Int} {h : PH} {j : Nat} {k : PV → PH → R α} {Q : α → PH → Prop} (h0 : 0 < n) (h1 : n ≤ 1000) (d : Dr j h) (q : ∀ (i : Nat) h', (i : Int) < n → Dr j h' → But j h h' → Ws (k (.int i) h') Q) : Ws ((callG takeBack m__law_draw [.ref j, .int n] h).bind k) Q :=
  (draw_f h0 (by unfold B30; omega)).use rfl d fun v h' _ ⟨i, e, i0, i1⟩ d' b => by
    subst e
    obtain ⟨m, rfl⟩ : ∃ m : Nat, i = m := ⟨i.toNat, by omega⟩
    exact q m h' i1 d' b
/-- a machine with two books, as the desk laws tell it -/
def stV (L : Nat) (rs : List (List (Option Nat))) (es : List Nat) (ws us : List (List Nat)) : PV := .tup [pl L rs es, bk ws, bk us]
structure StOk (W M L : Nat) (rs : List (List (Option Nat))) (es : List Nat) (ws us : List (List Nat)) : Prop where
  o : TO L rs es
  b1 : BkO L ws
  b2 : BkO L us
  lw : L ≤ W
  nm : rs.length ≤ M
end MM

end
section
set_option maxRecDepth 100000
set_option maxHeartbeats 4000000
namespace MM
open PySem L2 MC
section
variable {L : Nat} {rs : List (List (Option Nat))} {es : List Nat}
end
end MM

end
section
set_option maxRecDepth 100000
set_option maxHeartbeats 4000000
namespace MC
open PySem L2
mutual
def nbl : PV → Bool
  | .non => true
  | .int _ => true
  | .str _ => true
  | .tup xs => nbls xs
  | _ => false
def nbls : List PV → Bool
  | [] => true
  | x :: xs => nbl x && nbls xs
end
mutual
theorem pd_lay {K : Nat} : ∀ x : PV, pok K x = true → ∀ d, pd x = some d → d.canLay0 = true
  | .non, _, d, e => by cases e; rfl
  | .bl _, _, d, e => by cases e; rfl
  | .int _, _, d, e => by cases e; rfl
  | .str s, h, d, e => by
    cases e
    have h1 : ∀ c ∈ s, c < 1114112 := by unfold pok at h; simpa using h
    show PyData.strOk (S s) = true
    exact okA.mpr (by simpa [S] using h1)
  | .tup xs, h, d, e => by
    unfold pd at e
    cases e1 : pds xs with
    | none => rw [e1] at e; cases e
    | some ds =>
      rw [e1] at e
      cases e
      unfold PyData.canLay0
      exact pds_lay xs (by unfold pok at h; exact h) ds e1
theorem pds_lay {K : Nat} : ∀ xs : List PV, poks K xs = true → ∀ ds, pds xs = some ds → PyData.canLayAll0 ds = true
  | [], _, ds, e => by cases e; rfl
  | x :: xs, h, ds, e => by
    unfold poks at h
    rw [Bool.and_eq_true] at h
    unfold pds at e
    cases e1 : pd x with
    | none => rw [e1] at e; cases e
    | some d =>
      cases e2 : pds xs with
      | none => simp only [e1, e2] at e; cases e
      | some ds' =>
        simp only [e1, e2] at e
        cases e
        unfold PyData.canLayAll0
        rw [pd_lay x h.1 d e1, pds_lay xs h.2 ds' e2]; rfl
end
mutual
theorem eqv_nb : ∀ x y : PV, nbl x = true → nbl y = true → ∀ d e, pd x = some d → pd y = some e → (PyData.eqv d e = true ↔ x = y)
  | .tup xs, .tup ys, hx, hy, d, e, e1, e2 => by
    unfold pd at e1 e2
    cases q1 : pds xs with
    | none => rw [q1] at e1; cases e1
    | some ds =>
      cases q2 : pds ys with
      | none => rw [q2] at e2; cases e2
      | some es =>
        rw [q1] at e1; rw [q2] at e2
        cases e1; cases e2
        have := eqvs_nb xs ys (by unfold nbl at hx; exact hx) (by unfold nbl at hy; exact hy) ds es q1 q2
        unfold PyData.eqv
        rw [this]
        exact ⟨fun h => by rw [h], fun h => PV.tup.inj h⟩
  | .tup xs, .non, _, _, d, e, e1, e2 => by
    unfold pd at e1
    cases q1 : pds xs with
    | none => rw [q1] at e1; cases e1
    | some ds => rw [q1] at e1; cases e1; cases e2; simp [PyData.eqv]
  | .tup xs, .int _, _, _, d, e, e1, e2 => by
    unfold pd at e1
    cases q1 : pds xs with
    | none => rw [q1] at e1; cases e1
    | some ds => rw [q1] at e1; cases e1; cases e2; simp [PyData.eqv]
  | .tup xs, .str _, _, _, d, e, e1, e2 => by
    unfold pd at e1
    cases q1 : pds xs with
    | none => rw [q1] at e1; cases e1
    | some ds => rw [q1] at e1; cases e1; cases e2; simp [PyData.eqv]
  | .non, .tup ys, _, _, d, e, e1, e2 => by
    unfold pd at e2
    cases q2 : pds ys with
    | none => rw [q2] at e2; cases e2
    | some ds => rw [q2] at e2; cases e1; cases e2; simp [PyData.eqv]
  | .int _, .tup ys, _, _, d, e, e1, e2 => by
    unfold pd at e2
    cases q2 : pds ys with
    | none => rw [q2] at e2; cases e2
    | some ds => rw [q2] at e2; cases e1; cases e2; simp [PyData.eqv]
  | .str _, .tup ys, _, _, d, e, e1, e2 => by
    unfold pd at e2
    cases q2 : pds ys with
    | none => rw [q2] at e2; cases e2
    | some ds => rw [q2] at e2; cases e1; cases e2; simp [PyData.eqv]
  | .non, .non, _, _, d, e, e1, e2 => by cases e1; cases e2; simp [PyData.eqv]
  | .non, .int _, _, _, d, e, e1, e2 => by cases e1; cases e2; simp [PyData.eqv]
  | .non, .str _, _, _, d, e, e1, e2 => by cases e1; cases e2; simp [PyData.eqv]
  | .int _, .non, _, _, d, e, e1, e2 => by cases e1; cases e2; simp [PyData.eqv]
  | .int i, .int j, _, _, d, e, e1, e2 => by cases e1; cases e2; simp [PyData.eqv]
  | .int _, .str _, _, _, d, e, e1, e2 => by cases e1; cases e2; simp [PyData.eqv]
  | .str _, .non, _, _, d, e, e1, e2 => by cases e1; cases e2; simp [PyData.eqv]
  | .str _, .int _, _, _, d, e, e1, e2 => by cases e1; cases e2; simp [PyData.eqv]
  | .str s, .str t, _, _, d, e, e1, e2 => by
    cases e1; cases e2
    simp only [PyData.eqv, beq_iff_eq, PV.str.injEq]
    exact ⟨fun h => S_inj h, fun h => by rw [h]⟩
  | .bl _, _, h, _, _, _, _, _ => by cases h
  | .scr _, _, h, _, _, _, _, _ => by cases h
  | .rdic _, _, h, _, _, _, _, _ => by cases h
  | .ins _ _, _, h, _, _, _, _, _ => by cases h
  | .ref _, _, h, _, _, _, _, _ => by cases h
  | .gl _, _, h, _, _, _, _, _ => by cases h
  | .exn _ _, _, h, _, _, _, _, _ => by cases h
  | _, .bl _, _, h, _, _, _, _ => by cases h
  | _, .scr _, _, h, _, _, _, _ => by cases h
  | _, .rdic _, _, h, _, _, _, _ => by cases h
  | _, .ins _ _, _, h, _, _, _, _ => by cases h
  | _, .ref _, _, h, _, _, _, _ => by cases h
  | _, .gl _, _, h, _, _, _, _ => by cases h
  | _, .exn _ _, _, h, _, _, _, _ => by cases h
theorem eqvs_nb : ∀ xs ys : List PV, nbls xs = true → nbls ys = true → ∀ ds es, pds xs = some ds → pds ys = some es → (PyData.eqvAll ds es = true ↔ xs = ys)
  | [], [], _, _, ds, es, e1, e2 => by cases e1; cases e2; simp [PyData.eqvAll]
  | [], y :: ys, _, _, ds, es, e1, e2 => by
    unfold pds at e2
    split at e2
    · cases e1; cases e2; simp [PyData.eqvAll]
    · cases e2
  | x :: xs, [], _, _, ds, es, e1, e2 => by
    unfold pds at e1
    split at e1
    · cases e1; cases e2; simp [PyData.eqvAll]
    · cases e1
  | x :: xs, y :: ys, hx, hy, ds, es, e1, e2 => by
    unfold nbls at hx hy
    rw [Bool.and_eq_true] at hx hy
    unfold pds at e1 e2
    split at e1
    · rename_i d1 d2 q1 q2
      split at e2
      · rename_i d3 d4 q3 q4
        cases e1; cases e2
        have a := eqv_nb x y hx.1 hy.1 d1 d3 q1 q3
        have b := eqvs_nb xs ys hx.2 hy.2 d2 d4 q2 q4
        unfold PyData.eqvAll
        rw [Bool.and_eq_true, a, b, List.cons.injEq]
      · cases e2
    · cases e1
end
section
variable {h : PH} {K : Nat} {x y : PV}
end
end MC

end
section
set_option maxRecDepth 100000
set_option maxHeartbeats 4000000
namespace MM
open PySem L2 MC
/-- two rows without what is common at their fronts -/
def cutP : List Nat → List Nat → List Nat × List Nat
  | c :: a, d :: b => if c = d then cutP a b else (c :: a, d :: b)
  | a, b => (a, b)
theorem cutP_nil (b : List Nat) : cutP [] b = ([], b) := by cases b <;> rfl
theorem cutP_nil2 (a : List Nat) : cutP a [] = (a, []) := by cases a <;> rfl
/-- the lag of two rows: its side and its rest -/
def lagP (a b : List Nat) : Nat × List Nat := if isPre b a = true then (0, a.drop b.length) else if isPre a b = true then (1, b.drop a.length) else (2, [])
theorem lag_cut : ∀ a b : List Nat, lagP a b = (if (cutP a b).2 = [] then (0, (cutP a b).1) else if (cutP a b).1 = [] then (1, (cutP a b).2) else (2, []))
  | [], [] => rfl
  | c :: a, [] => rfl
  | [], d :: b => rfl
  | c :: a, d :: b => by
    by_cases e : c = d
    · subst e
      have ih := lag_cut a b
      have h1 : cutP (c :: a) (c :: b) = cutP a b := by simp [cutP]
      have h2 : lagP (c :: a) (c :: b) = lagP a b := by simp [lagP, isPre]
      rw [h1, h2, ih]
    · have h1 : cutP (c :: a) (d :: b) = (c :: a, d :: b) := by simp [cutP, e]
      have h2 : lagP (c :: a) (d :: b) = (2, []) := by simp [lagP, isPre, e, Ne.symm e]
      rw [h1, h2]; simp
def xyz (s : List Nat) : Prop := ∀ c ∈ s, c ∈ [120, 121, 122]
theorem xyz_drop {s : List Nat} (h : xyz s) (n : Nat) : xyz (s.drop n) := fun c hc => h c (List.mem_of_mem_drop hc)
/-- a lag -/
def lagV (p : Nat × List Nat) : PV := .tup [.int p.1, .str p.2]
/-- the lag behind a lag -/
def nextP (p : Nat × List Nat) (one two : List Nat) : Nat × List Nat := if p.1 = 0 then lagP (p.2 ++ one) two else lagP one (p.2 ++ two)
theorem lagP_ok {a b : List Nat} (ha : xyz a) (hb : xyz b) : (lagP a b).1 ≤ 2 ∧ xyz (lagP a b).2 := by
  unfold lagP
  split
  · exact ⟨Nat.zero_le _, xyz_drop ha _⟩
  · split
    · exact ⟨(by decide : (1 : Nat) ≤ 2), xyz_drop hb _⟩
    · exact ⟨Nat.le_refl 2, fun _ z => nomatch z⟩
end MM

end
section
set_option maxRecDepth 100000
set_option maxHeartbeats 4000000
namespace MM
open PySem L2 MC
/-- a kind of pages, the same whatever place a list has -/
structure KOk (K : PV → Prop) : Prop where
  mid : ∀ pre post n m, K (.tup (pre ++ .ref n :: post)) → K (.tup (pre ++ .ref m :: post))
section
variable {L : Nat} {rs : List (List (Option Nat))} {es : List Nat}
end
/-- what may stand in a page of lags -/
def LE (x : PV) : Prop := x = .non ∨ (∃ p : Nat × List Nat, x = lagV p ∧ p.1 ≤ 2 ∧ xyz p.2 ∧ p.2.length ≤ 200) ∨ x = .tup [.bl false, .str []] ∨ x = .tup [.int 0, .str [], .str []] ∨ x = .str [120] ∨ x = .tup [.int 0, .non]
theorem LE.smp {x : PV} (h : LE x) : smp x = true := by
  rcases h with rfl | ⟨p, rfl, _⟩ | rfl | rfl | rfl | rfl <;> rfl
end MM

end
section
set_option maxRecDepth 100000
set_option maxHeartbeats 4000000
namespace MM
open PySem L2 MC
def wdp (ws : List (List Nat)) (p : Nat) : List Nat := (ws[p]?).getD []
section
variable {L : Nat} {rs : List (List (Option Nat))} {es : List Nat}
end
end MM

end
section
set_option maxRecDepth 100000
set_option maxHeartbeats 4000000
namespace MM
open PySem L2 MC
end MM

end
section
set_option maxRecDepth 100000
set_option maxHeartbeats 4000000
namespace MM
open PySem L2 MC
theorem isPre_iff : ∀ (p s : List Nat), isPre p s = true ↔ ∃ t, s = p ++ t
  | [], s => ⟨fun _ => ⟨s, rfl⟩, fun _ => rfl⟩
  | x :: xs, [] => ⟨fun h => (by cases h), fun ⟨t, e⟩ => (by cases e)⟩
  | x :: xs, y :: ys => by
    unfold isPre
    rw [Bool.and_eq_true, beq_iff_eq, isPre_iff xs ys]
    constructor
    · rintro ⟨rfl, t, rfl⟩; exact ⟨t, rfl⟩
    · rintro ⟨t, e⟩
      rw [List.cons_append, List.cons.injEq] at e
      exact ⟨e.1.symm, t, e.2⟩
/-- what a lag of two rows is -/
inductive LagIs (a b : List Nat) : Nat × List Nat → Prop where
  | left (r : List Nat) : a = b ++ r → LagIs a b (0, r)
  | right (r : List Nat) : b = a ++ r → r ≠ [] → LagIs a b (1, r)
  | broken : (∀ r, a ≠ b ++ r) → (∀ r, b ≠ a ++ r) → LagIs a b (2, [])
theorem lagP_is (a b : List Nat) : LagIs a b (lagP a b) := by
  unfold lagP
  by_cases h1 : isPre b a = true
  · rw [if_pos h1]
    obtain ⟨t, rfl⟩ := (isPre_iff b a).mp h1
    rw [List.drop_left]
    exact .left t rfl
  · rw [if_neg h1]
    by_cases h2 : isPre a b = true
    · rw [if_pos h2]
      obtain ⟨t, rfl⟩ := (isPre_iff a b).mp h2
      rw [List.drop_left]
      refine .right t rfl fun e => ?_
      subst e
      exact h1 ((isPre_iff _ _).mpr ⟨[], by simp⟩)
    · rw [if_neg h2]
      exact .broken (fun r e => h1 ((isPre_iff _ _).mpr ⟨r, e⟩)) fun r e => h2 ((isPre_iff _ _).mpr ⟨r, e⟩)
theorem lag_uniq {a b : List Nat} {p q : Nat × List Nat} (h1 : LagIs a b p) (h2 : LagIs a b q) : p = q := by
  cases h1 with
  | left r e =>
    cases h2 with
    | left s e2 => rw [e] at e2; rw [List.append_cancel_left e2]
    | right s e2 n =>
      exfalso
      rw [e, List.append_assoc] at e2
      have := congrArg List.length e2
      rw [List.length_append, List.length_append] at this
      exact n (List.length_eq_zero_iff.mp (by omega))
    | broken c _ => exact absurd e (c r)
  | right r e n =>
    cases h2 with
    | left s e2 =>
      exfalso
      rw [e, List.append_assoc] at e2
      have := congrArg List.length e2
      rw [List.length_append, List.length_append] at this
      exact n (List.length_eq_zero_iff.mp (by omega))
    | right s e2 _ => rw [e] at e2; rw [List.append_cancel_left e2]
    | broken _ c => exact absurd e (c r)
  | broken c d =>
    cases h2 with
    | left s e2 => exact absurd e2 (c s)
    | right s e2 _ => exact absurd e2 (d s)
    | broken _ _ => rfl
theorem lagP_eq {a b : List Nat} {p : Nat × List Nat} (h : LagIs a b p) : lagP a b = p := lag_uniq (lagP_is a b) h
theorem lag_zero {a b : List Nat} : lagP a b = (0, []) ↔ a = b := by
  constructor
  · intro h
    have := lagP_is a b
    rw [h] at this
    cases this with
    | left _ e => rw [e]; simp
  · rintro rfl; exact lagP_eq (.left [] (by simp))
/-- broken stays broken -/
theorem lag_broken {a b : List Nat} (h : lagP a b = (2, [])) (w v : List Nat) : lagP (a ++ w) (b ++ v) = (2, []) := by
  have := lagP_is a b
  rw [h] at this
  cases this with
  | broken c d =>
    have key : ∀ (x y u t : List Nat), x ++ u = y ++ t → (∃ r, x = y ++ r) ∨ ∃ r, y = x ++ r := by
      intro x y u t e
      rcases List.append_eq_append_iff.mp e with ⟨r, h1, _⟩ | ⟨r, h1, _⟩
      · exact .inr ⟨r, h1⟩
      · exact .inl ⟨r, h1⟩
    refine lagP_eq (.broken (fun r e => ?_) fun r e => ?_)
    · rw [List.append_assoc] at e
      rcases key _ _ _ _ e with ⟨r', e'⟩ | ⟨r', e'⟩
      · exact c r' e'
      · exact d r' e'
    · rw [List.append_assoc] at e
      rcases key _ _ _ _ e with ⟨r', e'⟩ | ⟨r', e'⟩
      · exact d r' e'
      · exact c r' e'
/-- a common front does not count -/
theorem lag_front (c a b : List Nat) : lagP (c ++ a) (c ++ b) = lagP a b := by
  refine lagP_eq ?_
  have := lagP_is a b
  generalize lagP a b = p at this
  cases this with
  | left r e => exact .left r (by rw [e, List.append_assoc])
  | right r e n => exact .right r (by rw [e, List.append_assoc]) n
  | broken h1 h2 =>
    exact .broken (fun r e => h1 r (by rw [List.append_assoc] at e; exact List.append_cancel_left e)) fun r e => h2 r (by rw [List.append_assoc] at e; exact List.append_cancel_left e)
theorem next_lag_eq {a b : List Nat} (h : (lagP a b).1 ≤ 1) (w v : List Nat) : nextP (lagP a b) w v = lagP (a ++ w) (b ++ v) := by
  have := lagP_is a b
  generalize lagP a b = p at this h
  cases this with
  | left r e =>
    subst e
    show lagP (r ++ w) v = _
    rw [List.append_assoc, lag_front]
  | right r e n =>
    subst e
    show lagP w (r ++ v) = _
    rw [List.append_assoc, lag_front]
  | broken _ _ => exact absurd h (by decide)
/-- the lag of the two versions of a row -/
def lagR (ws vs : List (List Nat)) (s : List Nat) : Nat × List Nat := lagP (sd ws s) (sd vs s)
theorem sd_app (ws : List (List Nat)) (s t : List Nat) : sd ws (s ++ t) = sd ws s ++ sd ws t := by
  unfold sd
  rw [List.map_append, List.flatten_append]
theorem lagR_next {ws vs : List (List Nat)} {s : List Nat} (h : (lagR ws vs s).1 ≤ 1) (c : Nat) : nextP (lagR ws vs s) (wd ws c) (wd vs c) = lagR ws vs (s ++ [c]) := by
  unfold lagR at h ⊢
  rw [next_lag_eq h, sd_app, sd_app]
  simp [sd]
theorem lagR_app_broken {ws vs : List (List Nat)} {s : List Nat} (h : lagR ws vs s = (2, [])) (t : List Nat) : lagR ws vs (s ++ t) = (2, []) := by
  unfold lagR at h ⊢
  rw [sd_app, sd_app]
  exact lag_broken h _ _
theorem lagR_zero {ws vs : List (List Nat)} {s : List Nat} : lagR ws vs s = (0, []) ↔ sd ws s = sd vs s := lag_zero
theorem lagR_nil (ws vs : List (List Nat)) : lagR ws vs [] = (0, []) := lagR_zero.mpr rfl
section
variable {L : Nat} {rs : List (List (Option Nat))} {es : List Nat}
/-- two books agree on a machine -/
def Agr (rs : List (List (Option Nat))) (es : List Nat) (ws vs : List (List Nat)) : Prop := ∀ s, ltE rs es s = true → sd ws s = sd vs s
/-- a text shorter than twice the stands that differs -/
def Dif (rs : List (List (Option Nat))) (es : List Nat) (ws vs : List (List Nat)) : Prop := ∃ s, ltE rs es s = true ∧ sd ws s ≠ sd vs s ∧ s.length < 2 * rs.length
theorem Dif.not {ws vs : List (List Nat)} (d : Dif rs es ws vs) : ¬ Agr rs es ws vs := fun a => by
  obtain ⟨s, h1, h2, _⟩ := d
  exact h2 (a s h1)
/-- lags at the useful stands that go on along all arrows, nothing at ends -/
structure Cons (rs : List (List (Option Nat))) (es : List Nat) (ws vs : List (List Nat)) (f : Nat → Nat × List Nat) : Prop where
  root : Usf rs es 0 → f 0 = (0, [])
  ok : ∀ j, Usf rs es j → (f j).1 ≤ 1
  next : ∀ j p q, Usf rs es j → stepG rs j p = some q → Usf rs es q → nextP (f j) (wdp ws p) (wdp vs p) = f q
  ends : ∀ j, Usf rs es j → j ∈ es → f j = (0, [])
/-- stands on the way to a useful one are useful -/
theorem usf_pre {s t : List Nat} {j k : Nat} (h1 : ∀ c ∈ s, c ∈ letS) (e1 : goalF rs (some 0) s = some k) (h2 : ∀ c ∈ t, c ∈ letS) (e2 : goalF rs (some k) t = some j) (u : Usf rs es j) : Usf rs es k := by
  obtain ⟨_, z, i, z1, z2, z3⟩ := u
  refine ⟨⟨s, h1, e1⟩, t ++ z, i, fun c hc => (List.mem_append.mp hc).elim (h2 c) (z1 c), ?_, z3⟩
  rw [goalF_app, e2]; exact z2
end
end MM

end
section
set_option maxRecDepth 100000
set_option maxHeartbeats 4000000
namespace MM
open PySem L2 MC
theorem look_of {j : Nat} {s : List Nat} : ∀ {kvs : List (Nat × List Nat)}, (keysF kvs).Nodup → (j, s) ∈ kvs → kvs.lookup j = some s
  | [], _, h => nomatch h
  | (k, t) :: r, nd, h => by
    unfold keysF at nd
    rw [List.map_cons, List.nodup_cons] at nd
    rw [List.lookup_cons]
    rcases List.mem_cons.mp h with e | e
    · cases e; simp
    · have : j ∈ keysF r := List.mem_map.mpr ⟨_, e, rfl⟩
      have ne : j ≠ k := fun q => nd.1 (q ▸ this)
      rw [beq_eq_false_iff_ne.mpr ne]
      exact look_of nd.2 e
theorem keyF_get {j : Nat} {kvs : List (Nat × List Nat)} (h : j ∈ keysF kvs) : ∃ s, (j, s) ∈ kvs := by
  obtain ⟨⟨k, s⟩, hp, rfl⟩ := List.mem_map.mp h
  exact ⟨s, hp⟩
theorem keyF_of {j : Nat} {s : List Nat} {kvs : List (Nat × List Nat)} (h : (j, s) ∈ kvs) : j ∈ keysF kvs := List.mem_map.mpr ⟨_, h, rfl⟩
section
variable {L : Nat} {rs : List (List (Option Nat))} {es : List Nat} {ws vs : List (List Nat)}
theorem usf_lt (o : TO L rs es) {j : Nat} (u : Usf rs es j) : j < rs.length := by
  obtain ⟨⟨s, _, h⟩, _⟩ := u
  have := n8 o
  exact goalF_lt o s (some 0) j (fun i e => by cases e; omega) h
/-- found rows to useful stands, none with a broken lag -/
structure Fo (rs : List (List (Option Nat))) (es : List Nat) (ws vs : List (List Nat)) (kvs : List (Nat × List Nat)) : Prop where
  nd : (keysF kvs).Nodup
  us : ∀ j ∈ keysF kvs, Usf rs es j
  sn : Snd rs 0 kvs
  ok : ∀ e ∈ kvs, (lagR ws vs e.2).1 ≤ 1
  root : Usf rs es 0 → (0, []) ∈ kvs
/-- all goals of an entry are found, with the lags that are due -/
def Cl (rs : List (List (Option Nat))) (es : List Nat) (ws vs : List (List Nat)) (kvs : List (Nat × List Nat)) (j : Nat) (s : List Nat) : Prop := ∀ p q, stepG rs j p = some q → Usf rs es q → ∃ t, (q, t) ∈ kvs ∧ lagR ws vs (s ++ [97 + p]) = lagR ws vs t
theorem Cl.app {kvs ad : List (Nat × List Nat)} {j : Nat} {s : List Nat} (c : Cl rs es ws vs kvs j s) : Cl rs es ws vs (kvs ++ ad) j s := fun p q h1 h2 => by
  obtain ⟨t, h3, h4⟩ := c p q h1 h2
  exact ⟨t, List.mem_append_left _ h3, h4⟩
/-- a finished search -/
structure Dn2 (rs : List (List (Option Nat))) (es : List Nat) (ws vs : List (List Nat)) (kvs : List (Nat × List Nat)) : Prop where
  fo : Fo rs es ws vs kvs
  cl : ∀ j s, (j, s) ∈ kvs → Cl rs es ws vs kvs j s
theorem Fo.len (o : TO L rs es) {kvs : List (Nat × List Nat)} (f : Fo rs es ws vs kvs) : kvs.length ≤ rs.length := by
  have := keys_len f.nd fun j hj => usf_lt o (f.us j hj)
  unfold keysF at this
  rwa [List.length_map] at this
/-- a finished search has found all useful stands -/
theorem Dn2.all {kvs : List (Nat × List Nat)} (d : Dn2 rs es ws vs kvs) : ∀ (n : Nat) (s : List Nat), s.length = n → (∀ c ∈ s, c ∈ letS) → ∀ j, goalF rs (some 0) s = some j → Usf rs es j → j ∈ keysF kvs
  | 0, s, hs, h1, j, e, u => by
    rw [List.length_eq_zero_iff.mp hs] at e
    cases e
    exact keyF_of (d.fo.root u)
  | n + 1, s, hs, h1, j, e, u => by
    obtain ⟨t, c, rfl⟩ : ∃ t c, s = t ++ [c] := ⟨s.dropLast, s.getLast (by intro e; rw [e] at hs; cases hs), (List.dropLast_concat_getLast _).symm⟩
    have lt : t.length = n := by rw [List.length_append] at hs; simpa using hs
    have ht : ∀ c ∈ t, c ∈ letS := fun c hc => h1 c (List.mem_append_left _ hc)
    rw [goalF_app] at e
    cases g : goalF rs (some 0) t with
    | none => rw [g] at e; cases e
    | some k =>
      rw [g] at e
      have e' : stepG rs k (c - 97) = some j := e
      have uk : Usf rs es k := usf_pre ht g (t := [c]) (fun x hx => by rw [List.mem_singleton.mp hx]; exact h1 c (List.mem_append_right _ (List.mem_singleton.mpr rfl))) e u
      obtain ⟨r, hr⟩ := keyF_get (Dn2.all d n t lt ht k g uk)
      obtain ⟨w, hw, _⟩ := d.cl k r hr _ _ e' u
      exact keyF_of hw
theorem Dn2.key {kvs : List (Nat × List Nat)} (d : Dn2 rs es ws vs kvs) {j : Nat} (u : Usf rs es j) : ∃ s, (j, s) ∈ kvs := by
  obtain ⟨⟨s, h1, h2⟩, _⟩ := id u
  exact keyF_get (d.all _ s rfl h1 j h2 u)
/-- the lags of a search -/
def lgF (ws vs : List (List Nat)) (kvs : List (Nat × List Nat)) (j : Nat) : Nat × List Nat := lagR ws vs ((kvs.lookup j).getD [])
theorem lgF_of {kvs : List (Nat × List Nat)} (nd : (keysF kvs).Nodup) {j : Nat} {s : List Nat} (h : (j, s) ∈ kvs) : lgF ws vs kvs j = lagR ws vs s := by
  unfold lgF
  rw [look_of nd h]; rfl
theorem Dn2.cons (o : TO L rs es) {kvs : List (Nat × List Nat)} (d : Dn2 rs es ws vs kvs) (en : ∀ j s, (j, s) ∈ kvs → j ∈ es → lagR ws vs s = (0, [])) : Cons rs es ws vs (lgF ws vs kvs) where
  root := fun u => by rw [lgF_of d.fo.nd (d.fo.root u), lagR_nil]
  ok := fun j u => by
    obtain ⟨s, h⟩ := d.key u
    rw [lgF_of d.fo.nd h]
    exact d.fo.ok _ h
  next := fun j p q u st uq => by
    obtain ⟨s, h⟩ := d.key u
    obtain ⟨t, h1, h2⟩ := d.cl j s h p q st uq
    rw [lgF_of d.fo.nd h, lgF_of d.fo.nd h1, ← h2]
    have := lagR_next (d.fo.ok _ h) (97 + p)
    unfold wd at this
    rw [Nat.add_sub_cancel_left] at this
    exact this
  ends := fun j u je => by
    obtain ⟨s, h⟩ := d.key u
    rw [lgF_of d.fo.nd h]
    exact en j s h je
theorem Fo.start (o : TO L rs es) {us : List Nat} (hu : ∀ j, j ∈ us ↔ Usf rs es j) : Fo rs es ws vs (if 0 ∈ us then [(0, [])] else []) := by
  by_cases z : 0 ∈ us
  · rw [if_pos z]
    refine ⟨by simp [keysF], fun j hj => ?_, fun p hp => ?_, fun e he => ?_, fun _ => by simp⟩
    · simp [keysF] at hj; rw [hj]; exact (hu 0).mp z
    · rw [List.mem_singleton.mp hp]; exact ⟨rfl, fun _ z => (nomatch z), by decide⟩
    · rw [List.mem_singleton.mp he]
      show (lagR ws vs []).1 ≤ 1
      rw [lagR_nil]; decide
  · rw [if_neg z]
    exact ⟨by simp [keysF], fun j hj => (nomatch hj), fun p hp => (nomatch hp), fun e he => (nomatch he), fun u => absurd ((hu 0).mpr u) z⟩
/-- found lags as a dict -/
def lk (ws vs : List (List Nat)) (kvs : List (Nat × List Nat)) : List (Nat × PV) := kvs.map fun p => (p.1, lagV (lagR ws vs p.2))
theorem lk_keys (kvs : List (Nat × List Nat)) : keysV (lk ws vs kvs) = keysF kvs := by
  unfold keysV lk keysF
  rw [List.map_map]; rfl
theorem lk_look {j : Nat} {s : List Nat} {kvs : List (Nat × List Nat)} (nd : (keysF kvs).Nodup) (h : (j, s) ∈ kvs) : (lk ws vs kvs).lookup j = some (lagV (lagR ws vs s)) := by
  have hm : (j, lagV (lagR ws vs s)) ∈ lk ws vs kvs := List.mem_map.mpr ⟨_, h, rfl⟩
  obtain ⟨v, e, m⟩ := lookV_some (j := j) (kvs := lk ws vs kvs) (by rw [lk_keys]; exact keyF_of h)
  obtain ⟨⟨k, t⟩, h2, e2⟩ := List.mem_map.mp m
  simp at e2
  obtain ⟨rfl, rfl⟩ := e2
  have h1 := look_of nd h
  rw [look_of nd h2] at h1
  cases h1
  exact e
theorem lagR_ok {ws vs : List (List Nat)} (b1 : BkO L ws) (b2 : BkO L vs) (s : List Nat) : (lagR ws vs s).1 ≤ 2 ∧ xyz (lagR ws vs s).2 ∧ (lagR ws vs s).2.length ≤ 6 * s.length := by
  obtain ⟨l1, x1⟩ := sd_ok b1 s
  obtain ⟨l2, x2⟩ := sd_ok b2 s
  obtain ⟨a, b⟩ := lagP_ok (a := sd ws s) (b := sd vs s) x1 x2
  refine ⟨a, b, ?_⟩
  unfold lagR lagP
  split
  · show (List.drop _ _).length ≤ _
    rw [List.length_drop]; omega
  · split
    · show (List.drop _ _).length ≤ _
      rw [List.length_drop]; omega
    · exact Nat.zero_le _
end
end MM

end
section
set_option maxRecDepth 100000
set_option maxHeartbeats 4000000
namespace MM
open PySem L2 MC
section
variable {L : Nat} {rs : List (List (Option Nat))} {es : List Nat} {ws vs : List (List Nat)}
/-- the state of the search -/
structure Sst (rs : List (List (Option Nat))) (es : List Nat) (ws vs : List (List Nat)) (kvs : List (Nat × List Nat)) (ls : List Nat) (h : PH) : Prop where
  fo : Fo rs es ws vs kvs
  k0 : h[0]? = some (.dic false (dv (lk ws vs kvs)))
  k1 : h[1]? = some (.lst ((enI ls).map PV.int))
  hl : h.length = 2
  lk : ∀ j ∈ ls, j ∈ keysF kvs
/-- what the loop of goals keeps -/
structure Sin (rs : List (List (Option Nat))) (es : List Nat) (ws vs : List (List Nat)) (kvs kvs' : List (Nat × List Nat)) (ls ls' : List Nat) (s : List Nat) (x t : Nat) : Prop where
  le : ls'.length + kvs.length = ls.length + kvs'.length
  ad : ∃ ad, kvs' = kvs ++ ad ∧ ls' = ls ++ keysF ad
  dn : ∀ p < t, ∀ q, stepG rs x p = some q → Usf rs es q → ∃ u, (q, u) ∈ kvs' ∧ lagR ws vs (s ++ [97 + p]) = lagR ws vs u
/-- the lags of all stands, None for others -/
structure LX (rs : List (List (Option Nat))) (es : List Nat) (ws vs : List (List Nat)) (xs : List PV) (f : Nat → Nat × List Nat) : Prop where
  cons : Cons rs es ws vs f
  len : xs.length = rs.length
  us : ∀ j, Usf rs es j → xs[j]? = some (lagV (f j))
  non : ∀ j < rs.length, ¬ Usf rs es j → xs[j]? = some .non
  row : ∀ j, Usf rs es j → ∃ s : List Nat, s.length ≤ 8 ∧ f j = lagR ws vs s
theorem Dn2.lx (o : TO L rs es) {kvs : List (Nat × List Nat)} (d : Dn2 rs es ws vs kvs) (en : ∀ j s, (j, s) ∈ kvs → j ∈ es → lagR ws vs s = (0, [])) : LX rs es ws vs ((List.range rs.length).map fun j => ((lk ws vs kvs).lookup j).getD .non) (lgF ws vs kvs) where
  cons := d.cons o en
  len := by rw [List.length_map, List.length_range]
  us := fun j u => by
    obtain ⟨s, hs⟩ := d.key u
    rw [List.getElem?_map, List.getElem?_range (usf_lt o u), lgF_of d.fo.nd hs]
    show some (((lk ws vs kvs).lookup j).getD .non) = _
    rw [lk_look d.fo.nd hs]; rfl
  non := fun j l u => by
    rw [List.getElem?_map, List.getElem?_range l]
    show some (((lk ws vs kvs).lookup j).getD .non) = _
    cases e : (lk ws vs kvs).lookup j with
    | none => rfl
    | some v =>
      have := lookV_mem (j := j) (kvs := lk ws vs kvs)
      rw [e, lk_keys] at this
      have : j ∈ keysF kvs := by simpa using this.symm
      exact absurd (d.fo.us j this) u
  row := fun j u => by
    obtain ⟨s, hs⟩ := d.key u
    have h1 : s.length < kvs.length := (d.fo.sn _ hs).2.2
    have h2 := d.fo.len o
    have h3 := n8 o
    exact ⟨s, by omega, lgF_of d.fo.nd hs⟩
end
end MM

end
section
set_option maxRecDepth 100000
set_option maxHeartbeats 4000000
namespace MM
open PySem L2 MC
theorem cutP_app : ∀ a b w v : List Nat, cutP ((cutP a b).1 ++ w) ((cutP a b).2 ++ v) = cutP (a ++ w) (b ++ v)
  | [], b, w, v => by rw [cutP_nil]
  | c :: a, [], w, v => by rw [cutP_nil2]
  | c :: a, d :: b, w, v => by
    by_cases e : c = d
    · subst e
      have h1 : cutP (c :: a) (c :: b) = cutP a b := by simp [cutP]
      rw [h1, cutP_app a b w v]
      show _ = cutP (c :: (a ++ w)) (c :: (b ++ v))
      simp [cutP]
    · have h1 : cutP (c :: a) (d :: b) = (c :: a, d :: b) := by simp [cutP, e]
      rw [h1]
def cutR (ws vs : List (List Nat)) (s : List Nat) : List Nat × List Nat := cutP (sd ws s) (sd vs s)
section
variable {L : Nat} {rs : List (List (Option Nat))} {es : List Nat} {ws vs : List (List Nat)}
theorem cutR_next (s : List Nat) (c : Nat) : cutP ((cutR ws vs s).1 ++ wd ws c) ((cutR ws vs s).2 ++ wd vs c) = cutR ws vs (s ++ [c]) := by
  unfold cutR
  rw [cutP_app, sd_app, sd_app]
  simp [sd]
theorem cut_lag (s : List Nat) : lagR ws vs s = (if (cutR ws vs s).2 = [] then (0, (cutR ws vs s).1) else if (cutR ws vs s).1 = [] then (1, (cutR ws vs s).2) else (2, [])) := lag_cut _ _
theorem cut_brk (s : List Nat) : ((cutR ws vs s).1 = [] ∨ (cutR ws vs s).2 = []) ↔ lagR ws vs s ≠ (2, []) := by
  rw [cut_lag]
  by_cases h2 : (cutR ws vs s).2 = []
  · rw [if_pos h2]; simp [h2]
  · rw [if_neg h2]
    by_cases h1 : (cutR ws vs s).1 = []
    · rw [if_pos h1]; simp [h1]
    · rw [if_neg h1]; simp [h1, h2]
end
end MM

end
section
set_option maxRecDepth 100000
set_option maxHeartbeats 4000000
namespace MM
open PySem L2 MC
/-- both go on otherwise: x and y -/
def kutP (p : List Nat × List Nat) : List Nat × List Nat := if p.1 = [] ∨ p.2 = [] then p else ([120], [121])
section
variable {L : Nat} {rs : List (List (Option Nat))} {es : List Nat} {ws vs : List (List Nat)}
/-- what either version of a row is ahead -/
def kR (ws vs : List (List Nat)) (s : List Nat) : List Nat × List Nat := kutP (cutR ws vs s)
theorem kR_brk {s : List Nat} (h : lagR ws vs s = (2, [])) : kR ws vs s = ([120], [121]) := by
  have : ¬ ((cutR ws vs s).1 = [] ∨ (cutR ws vs s).2 = []) := fun z => (cut_brk s).mp z h
  unfold kR kutP
  rw [if_neg this]
theorem kR_cut {s : List Nat} (h : lagR ws vs s ≠ (2, [])) : kR ws vs s = cutR ws vs s := by
  unfold kR kutP
  rw [if_pos ((cut_brk s).mpr h)]
theorem kR_next (s : List Nat) (c : Nat) : kutP (cutP ((kR ws vs s).1 ++ wd ws c) ((kR ws vs s).2 ++ wd vs c)) = kR ws vs (s ++ [c]) := by
  by_cases h : lagR ws vs s = (2, [])
  · rw [kR_brk h, kR_brk (lagR_app_broken h [c])]
    show kutP (cutP (120 :: wd ws c) (121 :: wd vs c)) = _
    have : cutP (120 :: wd ws c) (121 :: wd vs c) = (120 :: wd ws c, 121 :: wd vs c) := by simp [cutP]
    rw [this]
    unfold kutP
    simp
  · rw [kR_cut h, cutR_next]; rfl
theorem kR_nil : kR ws vs [] = ([], []) := by
  rw [kR_cut (by rw [lagR_nil]; decide)]; rfl
end
end MM

end
section
set_option maxRecDepth 100000
set_option maxHeartbeats 4000000
namespace MM
open PySem L2 MC
end MM

end
section
set_option maxRecDepth 100000
set_option maxHeartbeats 4000000
namespace MM
open PySem L2 MC
end MM

end
section
set_option maxRecDepth 100000
set_option maxHeartbeats 4000000
namespace MM
open PySem L2 MC
end MM

end
section
set_option maxRecDepth 100000
set_option maxHeartbeats 4000000
namespace MM
open PySem L2 MC
end MM

end
section
set_option maxRecDepth 100000
set_option maxHeartbeats 4000000
namespace MM
open PySem L2 MC
section
variable {L : Nat} {rs : List (List (Option Nat))} {es : List Nat} {ws vs : List (List Nat)}
/-- the rows kept at a stand -/
def ks (al : List (Nat × List Nat)) (j : Nat) : List (List Nat) := (al.filter fun p => p.1 == j).map (·.2)
theorem ks_app (al : List (Nat × List Nat)) (i : Nat) (s : List Nat) (j : Nat) : ks (al ++ [(i, s)]) j = ks al j ++ (if j = i then [s] else []) := by
  unfold ks
  rw [List.filter_append, List.map_append]
  by_cases q : j = i
  · subst q; simp
  · have : (i == j) = false := beq_eq_false_iff_ne.mpr (Ne.symm q)
    simp [this, q]
/-- a lag is kept, or two are -/
def Sat (ws vs : List (List Nat)) (al : List (Nat × List Nat)) (q : Nat) (l : Nat × List Nat) : Prop := l ∈ (ks al q).map (lagR ws vs) ∨ 2 ≤ (ks al q).length
theorem Sat.app {al : List (Nat × List Nat)} {q : Nat} {l : Nat × List Nat} (h : Sat ws vs al q l) (i : Nat) (s : List Nat) : Sat ws vs (al ++ [(i, s)]) q l := by
  unfold Sat at h ⊢
  rw [ks_app]
  rcases h with h | h
  · left; rw [List.map_append]; exact List.mem_append_left _ h
  · right; rw [List.length_append]; omega
structure Kp (rs : List (List (Option Nat))) (es : List Nat) (ws vs : List (List Nat)) (al : List (Nat × List Nat)) : Prop where
  rw : ∀ j s, (j, s) ∈ al → Usf rs es j ∧ (∀ c ∈ s, c ∈ letS) ∧ goalF rs (some 0) s = some j
  nd : ∀ j, ((ks al j).map (lagR ws vs)).Nodup
  two : ∀ j, (ks al j).length ≤ 2
  en : ∀ j s, (j, s) ∈ al → j ∈ es → lagR ws vs s = (0, [])
/-- what al0 leads to is kept, or pending -/
structure Kn (rs : List (List (Option Nat))) (es : List Nat) (ws vs : List (List Nat)) (al0 al pen : List (Nat × List Nat)) : Prop where
  root : Usf rs es 0 → Sat ws vs al 0 (0, []) ∨ (0, []) ∈ pen
  next : ∀ j s, (j, s) ∈ al0 → ∀ p q, stepG rs j p = some q → Usf rs es q → Sat ws vs al q (lagR ws vs (s ++ [97 + p])) ∨ (q, s ++ [97 + p]) ∈ pen
theorem Kn.more {al0 al pen pen2 : List (Nat × List Nat)} (k : Kn rs es ws vs al0 al pen) (h : ∀ x ∈ pen, x ∈ pen2) : Kn rs es ws vs al0 al pen2 where
  root := fun u => (k.root u).imp id (h _)
  next := fun i t hi p q h1 h2 => (k.next i t hi p q h1 h2).imp id (h _)
theorem Kn.grow {al0 al pen : List (Nat × List Nat)} (k : Kn rs es ws vs al0 al pen) (j : Nat) (s : List Nat) : Kn rs es ws vs al0 (al ++ [(j, s)]) pen where
  root := fun u => (k.root u).imp (fun z => z.app j s) id
  next := fun i t hi p q h1 h2 => (k.next i t hi p q h1 h2).imp (fun z => z.app j s) id
/-- at most two rows for each stand -/
theorem cnt_two : ∀ (n : Nat) (al : List (Nat × List Nat)), (∀ p ∈ al, p.1 < n) → (∀ j, (ks al j).length ≤ 2) → al.length ≤ 2 * n
  | 0, al, h, _ => by
    cases al with
    | nil => exact Nat.le_refl _
    | cons p r => exact absurd (h p List.mem_cons_self) (Nat.not_lt_zero _)
  | n + 1, al, h, t => by
    have ih := cnt_two n (al.filter fun p => !(p.1 == n)) (fun p hp => by
      obtain ⟨h1, h2⟩ := List.mem_filter.mp hp
      have := h p h1
      have : p.1 ≠ n := by simpa using h2
      omega) fun j => by
        refine Nat.le_trans ?_ (t j)
        unfold ks
        rw [List.length_map, List.length_map, List.filter_filter]
        have : ∀ l : List (Nat × List Nat), (l.filter fun a => (a.1 == j) && !(a.1 == n)).length ≤ (l.filter fun a => a.1 == j).length := by
          intro l
          induction l with
          | nil => exact Nat.le_refl _
          | cons a l ih =>
            rw [List.filter_cons, List.filter_cons]
            cases a.1 == j <;> cases a.1 == n <;> simp <;> omega
        exact this al
    have e : ∀ l : List (Nat × List Nat), l.length = (l.filter fun p => p.1 == n).length + (l.filter fun p => !(p.1 == n)).length := by
      intro l
      induction l with
      | nil => rfl
      | cons a l ih =>
        rw [List.filter_cons, List.filter_cons]
        cases a.1 == n <;> simp <;> omega
    have := t n
    unfold ks at this
    rw [List.length_map] at this
    rw [e al]
    omega
theorem Kp.len (o : TO L rs es) {al : List (Nat × List Nat)} (k : Kp rs es ws vs al) : al.length ≤ 16 := by
  have := cnt_two rs.length al (fun p hp => usf_lt o (k.rw p.1 p.2 hp).1) k.two
  have := n8 o
  omega
end
end MM

end
section
set_option maxRecDepth 100000
set_option maxHeartbeats 4000000
namespace MM
open PySem L2 MC
section
variable {L : Nat} {rs : List (List (Option Nat))} {es : List Nat} {ws vs : List (List Nat)}
/-- a pending row -/
def ent (ws vs : List (List Nat)) (p : Nat × List Nat) : PV := .tup [.str p.2, .int p.1, lagV (lagR ws vs p.2)]
/-- the lags kept, as a dict -/
def Kdic (ws vs : List (List Nat)) (al : List (Nat × List Nat)) (E : List (Nat × PV)) : Prop := E.length ≤ al.length ∧ ∀ j, E.lookup j = if ks al j = [] then none else some (.tup (((ks al j).map (lagR ws vs)).map lagV))
theorem Kdic.get {al : List (Nat × List Nat)} {E : List (Nat × PV)} (k : Kdic ws vs al E) (j : Nat) : (E.lookup j).getD (.tup []) = .tup (((ks al j).map (lagR ws vs)).map lagV) := by
  rw [k.2 j]
  by_cases c : ks al j = []
  · rw [if_pos c, c]; rfl
  · rw [if_neg c]; rfl
/-- rows of one length to useful stands -/
def Rw (rs : List (List (Option Nat))) (es : List Nat) (d : Nat) (pen : List (Nat × List Nat)) : Prop := ∀ j s, (j, s) ∈ pen → Usf rs es j ∧ (∀ c ∈ s, c ∈ letS) ∧ goalF rs (some 0) s = some j ∧ s.length = d
/-- the state of the search -/
structure Dst (rs : List (List (Option Nat))) (es : List Nat) (ws vs : List (List Nat)) (al : List (Nat × List Nat)) (h : PH) : Prop where
  kp : Kp rs es ws vs al
  kd : ∃ E, h[0]? = some (.dic false (dv E)) ∧ Kdic ws vs al E
/-- the state within a layer: al0 before it, lat the later rows -/
structure Lay (rs : List (List (Option Nat))) (es : List Nat) (ws vs : List (List Nat)) (d : Nat) (pen al0 al lat : List (Nat × List Nat)) (t i a : Nat) (h : PH) : Prop where
  st : Dst rs es ws vs al h
  ki : h[i]? = some (.lst (pen.map (ent ws vs)))
  ka : h[a]? = some (.lst (lat.map (ent ws vs)))
  i0 : i ≠ 0
  a0 : a ≠ 0
  ia : i ≠ a
  kn : Kn rs es ws vs al al (pen.drop t ++ lat)
  rl : Rw rs es (d + 1) lat
  le : al0.length ≤ al.length
  gr : lat ≠ [] → al0.length < al.length
  ll : lat.length ≤ 5 * al.length
end
end MM

end
section
set_option maxRecDepth 100000
set_option maxHeartbeats 4000000
namespace MM
open PySem L2 MC
section
variable {L : Nat} {rs : List (List (Option Nat))} {es : List Nat}
end
end MM

end
section
set_option maxRecDepth 100000
set_option maxHeartbeats 4000000
namespace MM
open PySem L2 MC
def ixN (od : List Nat) (g : Nat) : Nat := (idxOfI g (enI od)).getD 0
section
variable {L : Nat} {rs : List (List (Option Nat))} {es : List Nat}
end
end MM

end
section
set_option maxRecDepth 100000
set_option maxHeartbeats 4000000
namespace MM
open PySem L2 MC
section
variable {L : Nat} {rs : List (List (Option Nat))} {es : List Nat}
end
end MM

end
section
set_option maxRecDepth 100000
set_option maxHeartbeats 4000000
namespace MC
open PySem L2
end MC
namespace MM
open PySem L2 MC
abbrev Pr := Option Nat × Option Nat
def prV (p : Pr) : PV := .tup [ov p.1, ov p.2]
def dp (kvs : List (Pr × List Nat)) : List (PV × PV) := kvs.map fun p => (prV p.1, .str p.2)
def keysP (kvs : List (Pr × List Nat)) : List Pr := kvs.map (·.1)
section
variable {h : PH} {n : Nat} {lk : Bool} {kvs : List (Pr × List Nat)} {p : Pr}
end
def prOk (p : Pr) : Prop := (∀ k, p.1 = some k → k < 100) ∧ ∀ k, p.2 = some k → k < 100
end MM

end
section
set_option maxRecDepth 100000
set_option maxHeartbeats 4000000
namespace MM
open PySem L2 MC
/-- the pair to which a row leads -/
def gp (r1 r2 : List (List (Option Nat))) (s : List Nat) : Pr := (goalF r1 (some 0) s, goalF r2 (some 0) s)
def NN : Pr := (none, none)
section
variable {L : Nat} {rs : List (List (Option Nat))} {es : List Nat}
end
/-- what a search of pairs has -/
structure Bst (r1 r2 : List (List (Option Nat))) (kvs : List (Pr × List Nat)) : Prop where
  nd : (keysP kvs).Nodup
  lt : ∀ p ∈ keysP kvs, (∀ k, p.1 = some k → k < r1.length) ∧ ∀ k, p.2 = some k → k < r2.length
  rows : ∀ e ∈ kvs, (∀ c ∈ e.2, c ∈ letS) ∧ gp r1 r2 e.2 = e.1 ∧ e.2.length < kvs.length
  root : (some 0, some 0) ∈ keysP kvs
  nn : NN ∉ keysP kvs
def encO (g : Option Nat) : Nat := match g with
  | none => 0
  | some k => k + 1
def encP (p : Pr) : Nat := encO p.1 * 9 + encO p.2
theorem encO_inj {a b : Option Nat} (h : encO a = encO b) : a = b := by
  cases a <;> cases b <;> simp [encO] at h ⊢
  exact h
theorem Bst.len {r1 r2 : List (List (Option Nat))} {kvs : List (Pr × List Nat)} (b : Bst r1 r2 kvs) (h1 : r1.length ≤ 8) (h2 : r2.length ≤ 8) : kvs.length ≤ 81 := by
  have bd : ∀ p ∈ keysP kvs, encO p.1 < 9 ∧ encO p.2 < 9 := fun p hp => by
    obtain ⟨l1, l2⟩ := b.lt p hp
    constructor
    · cases e : p.1 with
      | none => exact (by decide : (0 : Nat) < 9)
      | some k => have := l1 k e; show k + 1 < 9; omega
    · cases e : p.2 with
      | none => exact (by decide : (0 : Nat) < 9)
      | some k => have := l2 k e; show k + 1 < 9; omega
  have nd : ((keysP kvs).map encP).Nodup := by
    refine List.pairwise_map.mpr (b.nd.imp_of_mem fun {x y} hx hy hne e => hne ?_)
    obtain ⟨x1, x2⟩ := bd x hx
    obtain ⟨y1, y2⟩ := bd y hy
    unfold encP at e
    exact Prod.ext (encO_inj (by omega)) (encO_inj (by omega))
  have := keys_len (n := 81) nd fun j hj => by
    obtain ⟨p, hp, rfl⟩ := List.mem_map.mp hj
    obtain ⟨x1, x2⟩ := bd p hp
    unfold encP; omega
  unfold keysP at this
  rwa [List.length_map, List.length_map] at this
end MM

end
section
set_option maxRecDepth 100000
set_option maxHeartbeats 4000000
namespace MM
open PySem L2 MC
section
variable {L M : Nat} {rs qs : List (List (Option Nat))} {es fs : List Nat}
/-- the state of the search: its queue ls, since kvs and ls0 -/
structure Qst (r1 r2 : List (List (Option Nat))) (kvs : List (Pr × List Nat)) (ls : List Pr) (i : Nat) (h : PH) : Prop where
  b : Bst r1 r2 kvs
  k0 : h[0]? = some (.dit false (dp kvs))
  ki : h[i]? = some (.lst (ls.map prV))
  ls : ∀ p ∈ ls, p ∈ keysP kvs
  i0 : i ≠ 0
theorem Bst.ok {r1 r2 : List (List (Option Nat))} {kvs : List (Pr × List Nat)} (b : Bst r1 r2 kvs) (h1 : r1.length ≤ 8) (h2 : r2.length ≤ 8) : ∀ p ∈ keysP kvs, prOk p := fun p hp => by
  obtain ⟨l1, l2⟩ := b.lt p hp
  exact ⟨fun k e => by have := l1 k e; omega, fun k e => by have := l2 k e; omega⟩
end
end MM

end
section
set_option maxRecDepth 100000
set_option maxHeartbeats 4000000
namespace MM
open PySem L2 MC
section
variable {L M : Nat} {rs qs : List (List (Option Nat))} {es fs : List Nat}
end
end MM

end
section
set_option maxRecDepth 100000
set_option maxHeartbeats 4000000
namespace MM
open PySem L2 MC
section
variable {L M : Nat} {rs qs : List (List (Option Nat))} {es fs : List Nat}
end
end MM

end
section
set_option maxRecDepth 100000
set_option maxHeartbeats 4000000
namespace MM
open PySem L2 MC
section
variable {L M : Nat} {rs qs : List (List (Option Nat))} {es fs : List Nat}
end
end MM

end
section
set_option maxRecDepth 100000
set_option maxHeartbeats 4000000
namespace MM
open PySem L2 MC
section
variable {L M : Nat} {rs qs : List (List (Option Nat))} {es fs : List Nat}
end
end MM

end
section
set_option maxRecDepth 100000
set_option maxHeartbeats 4000000
namespace MM
open PySem L2 MC
section
variable {L M : Nat} {rs qs : List (List (Option Nat))} {es fs : List Nat}
end
end MM

end
section
set_option maxRecDepth 100000
set_option maxHeartbeats 4000000
namespace MM
open PySem L2 MC
section
variable {L : Nat} {rs : List (List (Option Nat))} {es : List Nat} {ws vs : List (List Nat)}
/-- the lags are accepted -/
theorem LX.lag (o : TO L rs es) (b1 : BkO L ws) (b2 : BkO L vs) {xs : List PV} {f : Nat → Nat × List Nat} (h : LX rs es ws vs xs f) {j : Nat} (u : Usf rs es j) : (f j).1 ≤ 1 ∧ ((f j).1 = 0 ∨ (f j).2 ≠ []) ∧ xyz (f j).2 ∧ (f j).2.length ≤ 48 := by
  obtain ⟨s, hs, e⟩ := h.row j u
  obtain ⟨q1, q2, q3⟩ := lagR_ok b1 b2 s
  refine ⟨h.cons.ok j u, ?_, by rw [e]; exact q2, by rw [e]; omega⟩
  rw [e]
  have := lagP_is (sd ws s) (sd vs s)
  have k := h.cons.ok j u
  rw [e] at k
  unfold lagR at k ⊢
  generalize lagP (sd ws s) (sd vs s) = p at *
  cases this with
  | left r _ => exact .inl rfl
  | right r _ n => exact .inr n
  | broken _ _ => exact absurd k (by decide)
theorem LX.LE (o : TO L rs es) (b1 : BkO L ws) (b2 : BkO L vs) {xs : List PV} {f : Nat → Nat × List Nat} (h : LX rs es ws vs xs f) : ∀ x ∈ xs, MM.LE x := fun x hx => by
  obtain ⟨j, hj⟩ := List.mem_iff_getElem?.mp hx
  by_cases u : Usf rs es j
  · rw [h.us j u] at hj
    cases hj
    obtain ⟨k1, k2, k3, k4⟩ := h.lag o b1 b2 u
    exact .inr (.inl ⟨f j, rfl, by omega, k3, by omega⟩)
  · have l := (List.getElem?_eq_some_iff.mp hj).1
    rw [h.len] at l
    rw [h.non j l u] at hj
    cases hj; exact .inl rfl
end
end MM

end
section
set_option maxRecDepth 100000
set_option maxHeartbeats 4000000
namespace MM
open PySem L2 MC
end MM

end
section
set_option maxRecDepth 100000
set_option maxHeartbeats 4000000
namespace MM
open PySem L2 MC
section
variable {L : Nat} {rs : List (List (Option Nat))} {es : List Nat}
end
end MM

end
section
set_option maxRecDepth 100000
set_option maxHeartbeats 4000000
namespace MM
open PySem L2 MC
section
variable {L : Nat} {rs : List (List (Option Nat))} {es : List Nat}
end
end MM

end
section
set_option maxRecDepth 100000
set_option maxHeartbeats 4000000
namespace MM
open PySem L2 MC
def RwP (rs : List (List (Option Nat))) (t : Nat) (l : List (List Nat × Nat)) : Prop := ∀ s j, (s, j) ∈ l → (∀ c ∈ s, c ∈ letS) ∧ goalF rs (some 0) s = some j ∧ s.length = t
section
variable {L : Nat} {rs : List (List (Option Nat))} {es : List Nat}
end
end MM

end
section
set_option maxRecDepth 100000
set_option maxHeartbeats 4000000
namespace MM
open PySem L2 MC
abbrev Ky := Nat × (List Nat × List Nat)
def kyV (k : Ky) : PV := .tup [.int k.1, .str k.2.1, .str k.2.2]
def dk3 (mk : List Ky) : List (PV × PV) := mk.map fun k => (kyV k, PV.bl true)
section
variable {h : PH} {n : Nat} {mk : List Ky} {k : Ky}
end
def p3 : Nat → Nat
  | 0 => 1
  | t + 1 => 3 * p3 t
section
variable {L : Nat} {rs : List (List (Option Nat))} {es : List Nat} {ws vs : List (List Nat)}
def evV (ws vs : List (List Nat)) (e : List Nat × Nat) : PV := .tup [.str e.1, .int e.2, .str (kR ws vs e.1).1, .str (kR ws vs e.1).2]
def keyE (ws vs : List (List Nat)) (e : List Nat × Nat) : Ky := (e.2, kR ws vs e.1)
def nx (ws vs : List (List Nat)) (k : Ky) (p : Nat) : List Nat × List Nat := kutP (cutP (k.2.1 ++ wdp ws p) (k.2.2 ++ wdp vs p))
/-- D: done; pen: keys still to be looked at -/
structure Sr (rs : List (List (Option Nat))) (es : List Nat) (ws vs : List (List Nat)) (D : Ky → Prop) (mk pen : List Ky) : Prop where
  cov : ∀ k ∈ mk, D k ∨ k ∈ pen
  pm : ∀ k ∈ pen, k ∈ mk
  dm : ∀ k, D k → k ∈ mk
  de : ∀ k, D k → k.1 ∈ es → k.2.1 = k.2.2
  dn : ∀ k, D k → ∀ p q, stepG rs k.1 p = some q → (q, nx ws vs k p) ∈ mk
/-- all rows of less than t letters are done -/
def Lv (rs : List (List (Option Nat))) (ws vs : List (List Nat)) (D : Ky → Prop) (t : Nat) : Prop := ∀ s j, (∀ c ∈ s, c ∈ letS) → goalF rs (some 0) s = some j → s.length < t → D (j, kR ws vs s)
/-- within a turn -/
structure Lyr (rs : List (List (Option Nat))) (es : List Nat) (ws vs : List (List Nat)) (t : Nat) (D0 : Ky → Prop) (m0 : Nat) (lay : List (List Nat × Nat)) (i : Nat) (D : Ky → Prop) (mk : List Ky) (lat : List (List Nat × Nat)) (ri rm ra : Nat) (h : PH) : Prop where
  sr : Sr rs es ws vs D mk ((lay.drop i ++ lat).map (keyE ws vs))
  old : ∀ k, D0 k → D k
  seen : ∀ i' < i, ∀ e, lay[i']? = some e → D (keyE ws vs e)
  rl : RwP rs (t + 1) lat
  ll : lat.length ≤ 3 * i
  lm : mk.length = m0 + lat.length
  z0 : (0, ([], [])) ∈ mk
  ki : h[ri]? = some (.lst (lay.map (evV ws vs)))
  km : h[rm]? = some (.dit false (dk3 mk))
  ka : h[ra]? = some (.lst (lat.map (evV ws vs)))
/-- within an entry -/
structure Ltr (rs : List (List (Option Nat))) (es : List Nat) (ws vs : List (List Nat)) (t : Nat) (m0 : Nat) (lay : List (List Nat × Nat)) (u : Nat) (D : Ky → Prop) (s : List Nat) (j w : Nat) (mk : List Ky) (lat : List (List Nat × Nat)) (ri rm ra : Nat) (h : PH) : Prop where
  sr : Sr rs es ws vs D mk (((s, j) :: lay.drop (u + 1) ++ lat).map (keyE ws vs))
  rl : RwP rs (t + 1) lat
  ll : lat.length ≤ 3 * u + w
  lm : mk.length = m0 + lat.length
  z0 : (0, ([], [])) ∈ mk
  ki : h[ri]? = some (.lst (lay.map (evV ws vs)))
  km : h[rm]? = some (.dit false (dk3 mk))
  ka : h[ra]? = some (.lst (lat.map (evV ws vs)))
  dn : ∀ p < w, ∀ q, stepG rs j p = some q → (q, nx ws vs (keyE ws vs (s, j)) p) ∈ mk
/-- between two turns -/
structure Trn (rs : List (List (Option Nat))) (es : List Nat) (ws vs : List (List Nat)) (t : Nat) (D : Ky → Prop) (mk : List Ky) (lay : List (List Nat × Nat)) (ri rm : Nat) (h : PH) : Prop where
  sr : Sr rs es ws vs D mk (lay.map (keyE ws vs))
  lv : Lv rs ws vs D t
  z0 : (0, ([], [])) ∈ mk
  rw' : RwP rs t lay
  l1 : lay.length ≤ p3 t
  l2 : mk.length ≤ 2 * p3 t
  ki : h[ri]? = some (.lst (lay.map (evV ws vs)))
  km : h[rm]? = some (.dit false (dk3 mk))
  ne : ri ≠ rm
/-- rows of t letters are known -/
theorem Trn.known {t : Nat} {D : Ky → Prop} {mk : List Ky} {lay : List (List Nat × Nat)} {ri rm : Nat} {h : PH} (q : Trn rs es ws vs t D mk lay ri rm h) {s : List Nat} {j : Nat} (h1 : ∀ c ∈ s, c ∈ letS) (h2 : goalF rs (some 0) s = some j) (h3 : s.length < t + 1) : D (j, kR ws vs s) ∨ (j, kR ws vs s) ∈ lay.map (keyE ws vs) := by
  rcases (show s.length < t ∨ s.length = t by omega) with z | z
  · exact .inl (q.lv s j h1 h2 z)
  · refine q.sr.cov _ ?_
    by_cases e : s = []
    · subst e
      cases h2
      rw [kR_nil]
      exact q.z0
    · obtain ⟨r, c, rfl⟩ : ∃ r c, s = r ++ [c] := ⟨s.dropLast, s.getLast e, (List.dropLast_concat_getLast _).symm⟩
      rw [goalF_app] at h2
      cases g : goalF rs (some 0) r with
      | none => rw [g] at h2; cases h2
      | some k =>
        rw [g] at h2
        have e' : stepG rs k (c - 97) = some j := h2
        have := q.sr.dn _ (q.lv r k (fun x hx => h1 x (List.mem_append_left _ hx)) g (by rw [List.length_append] at z; simp at z; omega)) _ _ e'
        have nk : nx ws vs (k, kR ws vs r) (c - 97) = kR ws vs (r ++ [c]) := kR_next r c
        rw [nk] at this
        exact this
end
end MM

end
section
set_option maxRecDepth 100000
set_option maxHeartbeats 4000000
namespace MM
open PySem L2 MC
section
variable {L L' : Nat} {rs rs' : List (List (Option Nat))} {es es' : List Nat}
end
end MM

end
section
set_option maxRecDepth 100000
set_option maxHeartbeats 4000000
namespace MC
open PySem L2
end MC
namespace MM
open PySem L2 MC
open Classical in
section
variable {L L' : Nat} {rs rs' : List (List (Option Nat))} {es es' : List Nat} {ws us ws' us' : List (List Nat)} {past : List PV} {h : PH} {j : Nat}
end
end MM

end
section
set_option maxRecDepth 100000
set_option maxHeartbeats 4000000
namespace MM
open PySem L2 MC
section
variable {L : Nat} {rs : List (List (Option Nat))} {es : List Nat} {ws us : List (List Nat)} {past : List PV} {ag : Bool} {h : PH} {j : Nat}
end
end MM

end
section
set_option maxRecDepth 100000
set_option maxHeartbeats 4000000
namespace MM
open PySem L2 MC
/-- plain values of no great depth -/
inductive Sme : Nat → PV → Prop
  | non (n : Nat) : Sme (n + 1) .non
  | bl (n : Nat) (b : Bool) : Sme (n + 1) (.bl b)
  | int (n : Nat) (i : Int) : Sme (n + 1) (.int i)
  | str (n : Nat) (s : List Nat) : (∀ c ∈ s, c < 1114112) → Sme (n + 1) (.str s)
  | tup (n : Nat) (xs : List PV) : xs.length ≤ 1000 → (∀ x ∈ xs, Sme n x) → Sme (n + 1) (.tup xs)
theorem Sme.up : ∀ {n : Nat} {x : PV}, Sme n x → Sme (n + 1) x
  | _, _, .non _ => .non _
  | _, _, .bl _ _ => .bl _ _
  | _, _, .int _ _ => .int _ _
  | _, _, .str _ _ h => .str _ _ h
  | _, _, .tup n xs l h => .tup _ xs l fun x hx => (h x hx).up
section
variable {L : Nat} {rs : List (List (Option Nat))} {es : List Nat} {ws us : List (List Nat)} {past : List PV} {ag : Bool} {h : PH} {j : Nat}
theorem st1 (h : PH) : opIx h (stV L rs es ws us) (.int 1) = .ok (bk ws) h := ix_tup (i := 1) rfl
theorem st2 (h : PH) : opIx h (stV L rs es ws us) (.int 2) = .ok (bk us) h := ix_tup (i := 2) rfl
end
end MM

end
section
set_option maxRecDepth 100000
set_option maxHeartbeats 4000000
namespace MM
open PySem L2 MC
theorem cases_m (M : Int) (hM : 2 ≤ M) (ns : List Int) : ∃ n : Nat, (if 2 < (if M < (ns.length : Int) then M else (ns.length : Int)) then (if M < (ns.length : Int) then M else (ns.length : Int)) else 2) = (n : Int) ∧ (n : Int) ≤ M := by
  by_cases h5 : M < (ns.length : Int)
  · simp only [h5, if_true]
    by_cases h2 : 2 < M
    · simp only [h2, if_true]; exact ⟨M.toNat, by omega, by omega⟩
    · simp only [h2, if_false]; exact ⟨2, rfl, by omega⟩
  · simp only [h5, if_false]
    by_cases h2 : (2 : Int) < (ns.length : Int)
    · simp only [h2, if_true]; exact ⟨ns.length, rfl, by omega⟩
    · simp only [h2, if_false]; exact ⟨2, rfl, by omega⟩
theorem m1009 (k : Int) (h : PH) : opMul h (.int 1009) (.int k) = .ok (.int (1009 * k)) h := v_mul (.inl (by decide))
theorem m30011 (k : Int) (h : PH) : opMul h (.int k) (.int 30011) = .ok (.int (k * 30011)) h := v_mul (.inr (by decide))
theorem m3k (k : Int) (h : PH) : opMul h (.int 3) (.int k) = .ok (.int (3 * k)) h := v_mul (.inl (by decide))
theorem m7k (k : Int) (h : PH) : opMul h (.int 7) (.int k) = .ok (.int (7 * k)) h := v_mul (.inl (by decide))
theorem pow18 (h : PH) : opPow h (.int 10) (.int 18) = .ok (.int 1000000000000000000) h := by rfl
theorem pow5v {i : Int} (h0 : 0 ≤ i) (h1 : i < 4294967296) (h : PH) : opPow h (.int i) (.int 5) = .ok (.int (i ^ 5)) h := by
  have : (decide ((0 : Int) ≤ 5) && decide ((5 : Int) ≤ 1000000) && decide (i.natAbs < 2 ^ 64)) = true := by simp; omega
  show (bif decide ((0 : Int) ≤ 5) && decide ((5 : Int) ≤ 1000000) && decide (i.natAbs < 2 ^ 64) then (R.ok (.int (i ^ (5 : Int).toNat)) h : R PV) else .stuck) = _
  rw [this]; rfl
theorem well_w (ns : List Int) (k : Nat) (hk : k ≤ 6) : Ws (m__law_well [.scr (ns.map PV.int), .int k] []) fun v g => ∃ i a b c, v = .ref i ∧ g[i]? = some (skd a b c) := by
  unfold m__law_well b__law_well
  rw [e_fun]
  refine Ws.bind (P := fun f g => ∃ i a b c, f = Fl.rt (.ref i) ∧ g[i]? = some (skd a b c)) ?_ fun f g ⟨i, a, b, c, ef, e⟩ => by subst ef; simp [e]; exact ⟨_, _, _, rfl⟩
  rw [e_seq]
  refine Ws.bind (P := fun f g => ∃ o : Int, f = Fl.nx [some (.scr (ns.map PV.int)), some (.int k), some (.int o), none, none, none, none, none] ∧ g = []) ?_ fun f g ⟨o, ef, eg⟩ => ?_
  · simp [len_scr]
    by_cases hl : k < ns.length
    · have e : ∀ h, opIx h (.scr (ns.map PV.int)) (.int (k : Int)) = .ok (.int ns[k]) h := fun h => ix_scr (by rw [List.getElem?_map, List.getElem?_eq_getElem hl]; rfl)
      simp [hl, e]
    · simp [hl, m1009]
  · subst ef; subst eg
    change Ws (mSeq _ _ _ _) _
    rw [e_seq]
    refine Ws.bind (P := fun f g => ∃ (o : Int) (x3 : Option PV), f = Fl.nx [some (.scr (ns.map PV.int)), some (.int k), some (.int o), x3, none, none, none, none]) ?_ fun f g ⟨o, x3, ef⟩ => ?_
    · simp [len_scr]
      by_cases hl : (ns.length : Int) ≤ (k : Int)
      · have hl' : ns.length ≤ k := by omega
        have c3 : cutG (ns.map PV.int) none (some 3) = (ns.take 3).map PV.int := by
          have := cut_to (ns.map PV.int) 3
          rw [List.map_take]
          exact this
        simp [hl, hl', sl_scr, c3]
        simp only [← List.map_take]
        rw [src_ref (h := [PO.lst (List.map PV.int (ns.take 3))]) (n := 0) rfl]
        simp
        simp only [← List.map_take]

        refine forB (fun t e h => ∃ (m : Int) (x : Option PV), e = [some (.scr (ns.map PV.int)), some (.int k), some (.int m), x, none, none, none, none] ∧ h = [PO.lst (List.map PV.int (ns.take 3))]) ⟨_, _, rfl, rfl⟩ (fun _ _ _ ⟨_, _, _, q⟩ => by rw [q]; exact watch_mk rfl) (fun t x env h hx ⟨m, y, ee, eh⟩ => ?_) fun env h ⟨m, y, ee, eh⟩ => ?_
        · subst ee; subst eh
          rw [List.getElem?_map] at hx
          obtain ⟨z, _, rfl⟩ := Option.map_eq_some_iff.mp hx
          simp [m30011]
        · subst ee; subst eh; simp
      · have hl' : ¬ ns.length ≤ k := by omega
        simp [hl, hl']
    · subst ef
      have p1 : 0 ≤ o % 2147483563 + 3 * (k : Int) + 1 := by have := Int.emod_nonneg o (show (2147483563 : Int) ≠ 0 by decide); omega
      have p2 : o % 2147483563 + 3 * (k : Int) + 1 < 4294967296 := by have := Int.emod_lt_of_pos o (show (0 : Int) < 2147483563 by decide); omega
      have p3 : 0 ≤ o % 2147483399 + 7 * (k : Int) + 2 := by have := Int.emod_nonneg o (show (2147483399 : Int) ≠ 0 by decide); omega
      have p4 : o % 2147483399 + 7 * (k : Int) + 2 < 4294967296 := by have := Int.emod_lt_of_pos o (show (0 : Int) < 2147483399 by decide); omega
      simp [m3k, m7k, pow5v p1 p2, pow5v p3 p4, LIM, show inR 3 = true from by decide]
      refine forB (fun t e h => ∃ (a b : Int) (x7 : Option PV), e = [some (.scr (ns.map PV.int)), some (.int k), some (.int o), x3, some (.int a), some (.int b), some (.ref g.length), x7] ∧ Dr g.length h) ⟨_, _, _, rfl, ⟨_, _, _, last_at⟩⟩ (fun _ _ _ _ => rfl) (fun t x env h hx ⟨a, b, x7, ee, dh⟩ => ?_) fun env h ⟨a, b, x7, ee, dh⟩ => ?_
      · subst ee
        obtain ⟨ht, rfl⟩ := at_seqI hx
        simp
        refine draw_u (by omega) (by omega) dh fun i h' _ d' _ => ?_
        simp
        exact d'
      · subst ee
        obtain ⟨a', b', c', ed⟩ := dh
        have st : ∀ x : Int, oSetIx h (.ref g.length) (.int 2) (.int x) = .ok () (h.set g.length (skd a' b' x)) := fun x => by
          have := set_c (v := .int x) (i := 2) ed (by show 2 < 3; decide)
          exact this
        have gt : ∀ x : Int, (h.set g.length (skd a' b' x))[g.length]? = some (skd a' b' x) := fun x => List.getElem?_set_self (List.getElem?_eq_some_iff.mp ed).1
        simp [pow18]
        by_cases q : (1000000000000000000 : Int) ≤ (if o < 0 then -o else o)
        · simp [q, st, gt]
          exact ⟨_, _, _, rfl⟩
        · simp [q, st, gt]
          exact ⟨_, _, _, rfl⟩
theorem well_c (ns : List Int) (k : Nat) (hk : k ≤ 6) (h : PH) : ∃ a b c, callG takeBack m__law_well [.scr (ns.map PV.int), .int k] h = .ok (.ref h.length) (h ++ [skd a b c]) := by
  obtain ⟨v, g, e, i, a, b, c, rfl, hg⟩ := well_w ns k hk
  exact ⟨a, b, c, call_newl (ys := [.int a, .int b, .int c]) (by simp [noRefs, noRef, ints_noref]) e hg (by rfl)⟩
section
variable {L : Nat} {rs : List (List (Option Nat))} {es : List Nat} {ws us : List (List Nat)}
end
end MM

end
section
set_option maxRecDepth 100000
set_option maxHeartbeats 4000000
namespace K80
open PySem L2 MC MM
/-- no text -/
def NS (x : PV) (h : PH) : Prop := ∃ k, kindP h x = some (.inl k) ∧ (k = 0 ∨ k = 1 ∨ k = 2 ∨ k = 4 ∨ k = 5 ∨ k = 6)
theorem line_ok {s : List Nat} (hs : PyData.strOk (S s) = true) (h : PH) : callX takeBack m_text_line_x [.str s] h = .ok (.str (if s = [] then [45] else s)) h := by
  refine callX_of (call_pureW rfl ?_ rfl)
  have q : ∀ h, opEq h (.str s) (.str []) = .ok (.bl (decide (s = []))) h := fun h => v_eqS hs (by decide +kernel)
  unfold m_text_line_x
  by_cases z : s = []
  · subst z
    simp [b_text_line_x, isiT, tb_str, List.lookup, truth, kindP, q]
  · simp [b_text_line_x, isiT, tb_str, List.lookup, truth, kindP, q, z]
theorem line_x {x : PV} {h : PH} (b : BadQ NS x h) : callX takeBack m_text_line_x [x] h = .exc 13 [(fVal, x)] h := by
  have r : refsVs [x] = refsV x := by simp [refsVs]
  refine callX_val (by rw [r]; exact b.flat) (by rw [r]; have := b.len; omega) (fun i hi => by rw [r]; exact hi) (by have := b.len; omega) fun as hc g tot ra at_ => ?_
  rw [r] at tot
  cases q : renV g x with
  | none => simp [renVs, q] at ra
  | some x' =>
    simp [renVs, q] at ra
    subst ra
    obtain ⟨k, kd, hk⟩ := (b.ren tot q fun n q _ e => at_ n q e).p
    refine ⟨x', [], rfl, ?_⟩
    unfold m_text_line_x
    rcases hk with rfl | rfl | rfl | rfl | rfl | rfl <;> simp [b_text_line_x, isiT, tb_str, List.lookup, truth, kd]
/-- a row of signs -/
def Row (s : List Nat) : Prop := s.length ≤ 12 ∧ ∀ c ∈ s, c < 128
theorem Row.ok {s : List Nat} (r : Row s) : PyData.strOk (S s) = true := okA.mpr fun c hc => by have := r.2 c (by simpa using hc); omega
theorem Row.pok {s : List Nat} (r : Row s) : pok 100 (.str s) = true := by
  show (s.all fun c => decide (c < 1114112)) = true
  rw [List.all_eq_true]
  intro c hc
  have := r.2 c hc
  simp; omega
/-- the text of a row -/
theorem rep_row {s : List Nat} (r : Row s) (h : PH) : bReprQ h [.str s] = .ok (.str (reprS s)) h ∧ PyData.strOk (S (reprS s)) = true := by
  have hs : ∀ c ∈ s, c < 1114112 := fun c hc => by have := r.2 c hc; omega
  have l := repr_str_le s hs
  have l2 : (reprText (S s)).length ≤ LIM := by have := r.1; exact lim_of (by omega)
  refine ⟨by simp [bReprQ, l2], ?_⟩
  show PyData.strOk (S (reprText (S s)).cps.toList) = true
  rw [S_of]
  exact ok_reprS s hs
/-- a value that is told -/
def Told (x : PV) (h : PH) : Prop := ∃ t, PyData.strOk (S t) = true ∧ BadQ (fun x h => RpT t x h ∧ NS x h) x h
theorem told_pl {x : PV} {h : PH} (n : noRef x = true) {t : List Nat} (ht : PyData.strOk (S t) = true) (r : ∀ h, bReprQ h [x] = .ok (.str t) h) (k : ∀ h, NS x h) : Told x h := ⟨t, ht, .inl ⟨n, fun h => ⟨r h, k h⟩⟩⟩
theorem told_tup {xs : List PV} {h : PH} (n : noRefs xs = true) (p : poks 100 xs = true) (l : xs.length ≤ 3) (d : pdps xs ≤ 2) (m : pnds xs ≤ 50) : Told (.tup xs) h := by
  have g : ∀ h, HG h 100 (pnd (.tup xs)) (pdp (.tup xs)) (.tup xs) (pdD (.tup xs)) := fun h => HG.pl (by decide) (by decide) p
  have e1 : pdp (.tup xs) < 20 := by simp only [pdp]; omega
  have e2 : (100 + 12) * pnd (.tup xs) ≤ LIM := by simp only [pnd]; exact Nat.le_trans (Nat.mul_le_mul_left 112 (show pnds xs + 1 ≤ 51 by omega)) (by decide)
  exact told_pl n (g h).okS (fun h => repr_q1 (g h) rfl e1 e2) fun h => ⟨4, rfl, by simp⟩
theorem told_lst {n : Nat} {xs : List PV} {h : PH} (e : h[n]? = some (.lst xs)) (nr : noRefs xs = true) (p : poks 100 xs = true) (l : xs.length ≤ 3) (d : pdps xs ≤ 2) (m : pnds xs ≤ 50) : Told (.ref n) h := by
  have gs : ∃ ds, ∀ h, HGs h 100 (pnds xs) 2 xs ds := by
    obtain ⟨ds, e1, g1, g2, g3, g4, g5⟩ := pds_good (K := 100) (by decide) (by decide) xs p
    exact ⟨ds, fun h => ⟨fun m l => toDqs_pd h m xs ds e1 (by omega), g1, g3, g4, by omega⟩⟩
  obtain ⟨ds, gs⟩ := gs
  have e2 : (100 + 12) * (pnds xs + 1) ≤ LIM := Nat.le_trans (Nat.mul_le_mul_left 112 (show pnds xs + 1 ≤ 51 by omega)) (by decide)
  refine ⟨_, (HG.lst e (gs h)).okS, .inr ⟨.ref, n, .lst xs, rfl, e, flat_l nr, fun n => by simp [refsV], fun f n q e => by simp [renV, e], fun h n e => ⟨repr_q1 (HG.lst e (gs h)) rfl (by decide) e2, 5, by simp [kindP, e], by simp⟩⟩⟩
theorem told_dic {n : Nat} {h : PH} (e : h[n]? = some (.dic false [])) : Told (.ref n) h :=
  ⟨_, (HG.dic (K := 100) e).okS, .inr ⟨.ref, n, .dic false [], rfl, e, flat_d, fun n => by simp [refsV], fun f n q e => by simp [renV, e], fun h n e => ⟨repr_q1 (HG.dic (K := 100) e) rfl (by decide) (by decide), 6, by simp [kindP, e], by simp⟩⟩⟩
theorem Told.app {x : PV} {h : PH} {os : List PO} (q : Told x h) : Told x (h ++ os) := q.imp fun _ q => ⟨q.1, q.2.app⟩
/-- the three lots of signs -/
def sg3 : List PV := [.str [97, 98, 99, 100, 101], .str [120, 121, 122, 32, 45], .str [97, 98, 99, 100, 101, 120, 121, 122, 65, 66, 90, 48, 49, 57, 32, 45, 95, 46, 10, 126, 33]]
def Sg (s : List Nat) : Prop := 0 < s.length ∧ s.length ≤ 30 ∧ ∀ c ∈ s, c < 128
theorem sg3_ok {i : Nat} (hi : i < 3) : ∃ s, sg3[i]? = some (.str s) ∧ Sg s := by
  have : i = 0 ∨ i = 1 ∨ i = 2 := by omega
  rcases this with rfl | rfl | rfl <;> exact ⟨_, rfl, by decide, by decide, by decide⟩
def J1 (e : En) (h : PH) : Prop := ∃ x1 x4 x5 x6 x7, ∃ z w : Nat, e = [some (.ref 0), x1, some (.int z), some (.int w), x4, x5, x6, x7] ∧ z < 13 ∧ w < 3 ∧ Dr 0 h
def J2 (e : En) (h : PH) : Prop := ∃ x1 x3 x5 x6 x7 s, ∃ z : Nat, e = [some (.ref 0), x1, some (.int z), x3, some (.str s), x5, x6, x7] ∧ z < 13 ∧ Sg s ∧ Dr 0 h
def J3 (e : En) (h : PH) : Prop := ∃ x1 x2 x3 x4 x6 x7 s, e = [some (.ref 0), x1, x2, x3, x4, some (.str s), x6, x7] ∧ Row s ∧ Dr 0 h
def J4 (e : En) (h : PH) : Prop := ∃ x1 x2 x3 x4 x7 s x, e = [some (.ref 0), x1, x2, x3, x4, some (.str s), some x, x7] ∧ Told x h ∧ Dr 0 h
theorem odd_told {s : List Nat} (r : Row s) {h : PH} {n : Nat} (e0 : h[n]? = some (.lst [])) (e1 : h[n + 1]? = some (.lst [.str [97, 98]])) (e2 : h[n + 2]? = some (.dic false [])) (e3 : h[n + 3]? = some (.lst [.str s]))
    {x : PV} (hx : x ∈ [.non, .int 0, .int 7, .bl true, .bl false, .tup [], .tup [.str [97]], .ref n, .ref (n + 1), .ref (n + 2), .tup [.str s], .ref (n + 3)]) : Told x h := by
  have p1 := r.pok
  have l1 := r.1
  simp only [List.mem_cons, List.not_mem_nil, or_false] at hx
  rcases hx with rfl | rfl | rfl | rfl | rfl | rfl | rfl | rfl | rfl | rfl | rfl | rfl
  · exact told_pl rfl (t := noneT) (by decide +kernel) (fun _ => rfl) fun _ => ⟨0, rfl, by simp⟩
  · exact told_pl rfl (t := strI 0) (by decide +kernel) (fun _ => rfl) fun _ => ⟨2, rfl, by simp⟩
  · exact told_pl rfl (t := strI 7) (by decide +kernel) (fun _ => rfl) fun _ => ⟨2, rfl, by simp⟩
  · exact told_pl rfl (t := trueT) (by decide +kernel) (fun _ => rfl) fun _ => ⟨1, rfl, by simp⟩
  · exact told_pl rfl (t := falseT) (by decide +kernel) (fun _ => rfl) fun _ => ⟨1, rfl, by simp⟩
  · exact told_tup rfl rfl (by simp) (by simp [pdps]) (by simp [pnds])
  · exact told_tup rfl (by decide) (by simp) (by simp [pdps, pdp]) (by simp [pnds, pnd])
  · exact told_lst e0 rfl rfl (by simp) (by simp [pdps]) (by simp [pnds])
  · exact told_lst e1 rfl (by decide) (by simp) (by simp [pdps, pdp]) (by simp [pnds, pnd])
  · exact told_dic e2
  · exact told_tup rfl (by simp [poks, p1]) (by simp) (by simp [pdps, pdp]) (by simp [pnds, pnd]; omega)
  · exact told_lst e3 rfl (by simp [poks, p1]) (by simp) (by simp [pdps, pdp]) (by simp [pnds, pnd]; omega)
def J0 (e : En) (g : PH) : Prop := ∃ x1 x2 x3 x4 x5 x6 x7, e = [some (.ref 0), x1, x2, x3, x4, x5, x6, x7] ∧ Dr 0 g
theorem right_f : Fs m__law_right [] (fun v => v = .bl true) := fun a b c => by
  unfold m__law_right b__law_right
  refine Ws.fn ?_
  refine Ws.seq (P := J0) ?_ fun e g ⟨x1, x2, x3, x4, x5, x6, x7, ee, d⟩ => ?_
  · refine Ws.forN (fun _ => J0) (xs := seqI 0 6) (by simp; rfl) ⟨_, _, _, _, _, _, _, rfl, a, b, c, rfl⟩ fun t x env h hx ⟨x1, x2, x3, x4, x5, x6, x7, ee, d⟩ => ?_
    subst ee
    obtain ⟨ht, rfl⟩ := at_seqI hx
    refine ⟨_, _, rfl, ?_⟩
    refine Ws.seq (P := J1) ?_ fun e h ⟨x1, x4, x5, x6, x7, z, w, ee, hz, hw, d⟩ => ?_
    · simp
      refine draw_u (by omega) (by omega) d fun z h1 z1 d1 _ => ?_
      simp
      refine draw_u (by omega) (by omega) d1 fun w h2 w1 d2 _ => ?_
      simp
      exact ⟨_, _, _, _, _, z, w, rfl, by omega, by omega, d2⟩
    subst ee
    obtain ⟨sg, es, ss⟩ := sg3_ok hw
    refine Ws.seq (P := J2) ?_ fun e h ⟨x1, x3, x5, x6, x7, s, z, ee, hz, ss, d⟩ => ?_
    · have ix := ix_ref (h := h ++ [.lst sg3]) (n := h.length) last_at es
      unfold sg3 at ix
      simp [LIM, ix]
      exact ⟨_, _, _, _, _, sg, z, rfl, hz, ss, d.app⟩
    subst ee
    refine Ws.seq (P := J3) ?_ fun e h ⟨x1, x2, x3, x4, x6, x7, s, ee, rw_, d⟩ => ?_
    · have ls : ∀ h, bLen h [.str s] = .ok (.int s.length) h := fun h => by simp [bLen, seqP, lim_of (show s.length ≤ 1000 by have := ss.2.1; omega)]
      simp [inR_small (i := (z : Int)) (by omega) (by omega)]
      refine mapPB (fun y => ∃ q, y = .str q ∧ ∃ c, q = [c] ∧ c < 128) (fun h => Dr 0 h) d (by rw [len_seqI]; exact lim_of (by omega)) (fun x hx h dh => ⟨_, rfl, ?_⟩) fun h3 ys d3 ly py => ?_
      · simp [wipeE, ls]
        have s0 := ss.1
        have s1 := ss.2.1
        refine draw_u (by omega) (by omega) dh fun k h4 k1 d4 _ => ?_
        have hk : k < s.length := by omega
        rw [ix_str (List.getElem?_eq_getElem hk) (lim_of (by omega))]
        simp
        exact ⟨ss.2.2 _ (List.getElem_mem hk), d4⟩
      · obtain ⟨zs, rfl, hz'⟩ := strs_of py
        obtain ⟨f1, f2⟩ := flat1 hz'
        rw [len_seqI, List.length_map] at ly
        have l : zs.flatten.length ≤ 12 := by rw [f1, ly]; omega
        have jn := join_nil (h := h3 ++ [.lst (zs.map PV.str)]) (n := h3.length) last_at (lim_of (by omega) : zs.flatten.length ≤ LIM)
        simp [jn]
        exact ⟨_, _, _, _, _, _, zs.flatten, rfl, ⟨l, f2⟩, d3.app⟩
    subst ee
    have r2 : Row (if s = [] then [45] else s) := by
      by_cases z : s = []
      · rw [if_pos z]; exact ⟨by decide, by decide⟩
      · rw [if_neg z]; exact rw_
    -- the row itself
    refine Ws.seq (P := J3) ?_ fun e h ⟨x1, x2, x3, x4, x6, x7, s, ee, rw_, d⟩ => ?_
    · obtain ⟨rp, rpo⟩ := rep_row r2 h
      have lo := line_ok rw_.ok h
      have ro := raised_ok rp
      have ne := ne_tup (s := retW) (by decide +kernel) rpo h
      by_cases z : s = []
      · subst z
        have q : opNe h (.str []) (.str []) = .ok (.bl false) h := by rw [v_neS (by decide +kernel) (by decide +kernel)]; rfl
        simp at rp lo ro ne
        simp [opX, lo, ro, q, rp, ne, LIM]
        exact ⟨_, _, _, _, _, _, [], rfl, rw_, d⟩
      · have q : opNe h (.str s) (.str []) = .ok (.bl true) h := by rw [v_neS rw_.ok (by decide +kernel)]; simp [z]
        simp [z] at rp lo ro ne
        simp [opX, lo, ro, q, rp, ne, LIM]
        exact ⟨_, _, _, _, _, _, s, rfl, rw_, d⟩
    subst ee
    -- something that is no text
    refine Ws.seq (P := J4) ?_ fun e h ⟨x1, x2, x3, x4, x7, s, x, ee, td, d⟩ => ?_
    · repeat (simp [LIM, mDict0])
      obtain ⟨H, eH⟩ : ∃ H, H = h ++ [PO.lst [], .lst [.str [97, 98]], .dic false [], .lst [.str s], .lst [.non, .int 0, .int 7, .bl true, .bl false, .tup [], .tup [.str [97]], .ref h.length, .ref (h.length + 1), .ref (h.length + 2), .tup [.str s], .ref (h.length + 3)]] := ⟨_, rfl⟩
      rw [← eH]
      have at_ : ∀ k o, [PO.lst [], .lst [.str [97, 98]], .dic false [], .lst [.str s], .lst [.non, .int 0, .int 7, .bl true, .bl false, .tup [], .tup [.str [97]], .ref h.length, .ref (h.length + 1), .ref (h.length + 2), .tup [.str s], .ref (h.length + 3)]][k]? = some o → H[h.length + k]? = some o := fun k o e => by
        rw [eH, List.getElem?_append_right (by omega), Nat.add_sub_cancel_left]; exact e
      have dH : Dr 0 H := by rw [eH]; exact d.app
      have d0 := d.lt
      refine draw_u (by omega) (by omega) dH fun i h2 i1 d2 b2 => ?_
      have g0 := at_ 0 _ rfl
      have g1 := at_ 1 _ rfl
      have g2 := at_ 2 _ rfl
      have g3 := at_ 3 _ rfl
      have g4 := at_ 4 _ rfl
      rw [← b2.2 _ (by omega)] at g0 g1 g2 g3 g4
      obtain ⟨U, eU⟩ : ∃ U : List PV, U = [.non, .int 0, .int 7, .bl true, .bl false, .tup [], .tup [.str [97]], .ref h.length, .ref (h.length + 1), .ref (h.length + 2), .tup [.str s], .ref (h.length + 3)] := ⟨_, rfl⟩
      rw [← eU] at g4
      have hi : i < U.length := by rw [eU]; show i < 12; omega
      have ix := ix_ref g4 (List.getElem?_eq_getElem hi)
      have tx : Told U[i] h2 := odd_told (n := h.length) rw_ g0 g1 g2 g3 (by rw [← eU]; exact List.getElem_mem hi)
      generalize U[i] = x at ix tx
      simp [ix]
      exact ⟨_, _, _, _, _, s, x, rfl, tx, d2⟩
    subst ee
    obtain ⟨t, ht, b⟩ := td
    have lx := line_x (b.imp fun _ _ q => q.2)
    have rv : outR 3 1 hd__law_raised bl__law_raised (.exc 13 [(fVal, x)] h) = .ok (.tup [.str [73, 110, 118, 97, 108, 105, 100, 84, 101, 120, 116], .str t]) h := raised_val (a := 2) (by decide) (b.imp fun _ _ q => q.1)
    have rp : bReprQ h [x] = .ok (.str t) h := b.p.1
    have ne := ne_tup (s := [73, 110, 118, 97, 108, 105, 100, 84, 101, 120, 116]) (by decide +kernel) ht h
    simp [opX, lx, rv, rp, ne, LIM]
    exact ⟨_, _, _, _, _, _, _, rfl, d⟩
  subst ee
  -- lines that are written
  refine Ws.seq (P := J0) ?_ fun e h ⟨x1, x2, x3, x4, x5, x6, x7, ee, d⟩ => ?_
  · have lc : ∀ (q : List Nat) h, PyData.strOk (S q) = true → callG takeBack m_text_line [.str q] h = .ok (.str (if q = [] then [45] else q)) h := fun q h hq => by
      refine call_pureW rfl ?_ rfl
      have e : ∀ h, opEq h (.str q) (.str []) = .ok (.bl (decide (q = []))) h := fun h => v_eqS hq (by decide +kernel)
      unfold m_text_line
      by_cases z : q = []
      · subst z
        simp [b_text_line, isiT, tb_str, List.lookup, truth, kindP, e]
      · simp [b_text_line, isiT, tb_str, List.lookup, truth, kindP, e, z]
    simp [LIM, srcV]
    refine mapW (fun x => match x with
      | .str [] => .str [45]
      | x => x) (fun h' => h' = g ++ [.lst [.str [], .str [45], .str [32], .str [45, 45], .str [110, 111, 110, 101]]]) (fun h' e => by rw [e]; exact watch_mk last_at) rfl (by decide) (fun x hx h' e => ⟨_, rfl, ?_⟩) fun h0 e => ?_
    · subst e
      have c1 := lc [] (g ++ [.lst [.str [], .str [45], .str [32], .str [45, 45], .str [110, 111, 110, 101]]]) (by decide +kernel)
      have c2 := lc [45] (g ++ [.lst [.str [], .str [45], .str [32], .str [45, 45], .str [110, 111, 110, 101]]]) (by decide +kernel)
      have c3 := lc [32] (g ++ [.lst [.str [], .str [45], .str [32], .str [45, 45], .str [110, 111, 110, 101]]]) (by decide +kernel)
      have c4 := lc [45, 45] (g ++ [.lst [.str [], .str [45], .str [32], .str [45, 45], .str [110, 111, 110, 101]]]) (by decide +kernel)
      have c5 := lc [110, 111, 110, 101] (g ++ [.lst [.str [], .str [45], .str [32], .str [45, 45], .str [110, 111, 110, 101]]]) (by decide +kernel)
      simp only [List.mem_cons, List.not_mem_nil, or_false] at hx
      rcases hx with rfl | rfl | rfl | rfl | rfl <;> simp [wipeE, c1, c2, c3, c4, c5]
    · subst e
      have el : ([PV.str [], .str [45], .str [32], .str [45, 45], .str [110, 111, 110, 101]] : List PV).map (fun x => match x with
        | PV.str [] => PV.str [45]
        | x => x) = [PV.str [45], .str [45], .str [32], .str [45, 45], .str [110, 111, 110, 101]] := rfl
      rw [el]
      obtain ⟨G, eG⟩ : ∃ G, G = g ++ [PO.lst [.str [], .str [45], .str [32], .str [45, 45], .str [110, 111, 110, 101]]] ++ [.lst [.str [45], .str [45], .str [32], .str [45, 45], .str [110, 111, 110, 101]]] ++ [.lst [.str [45], .str [45], .str [32], .str [45, 45], .str [110, 111, 110, 101]]] := ⟨_, rfl⟩
      have g1 : G[g.length + 1]? = some (.lst [.str [45], .str [45], .str [32], .str [45, 45], .str [110, 111, 110, 101]]) := by
        rw [eG, List.append_assoc, List.append_assoc, List.getElem?_append_right (by omega)]; simp
      have g2 : G[g.length + 2]? = some (.lst [.str [45], .str [45], .str [32], .str [45, 45], .str [110, 111, 110, 101]]) := by
        rw [eG, List.append_assoc, List.append_assoc, List.getElem?_append_right (by omega)]; simp
      have td : ∀ n, G[n]? = some (.lst [.str [45], .str [45], .str [32], .str [45, 45], .str [110, 111, 110, 101]]) → toD G DEP (.ref n) = some (.list [.str (S [45]), .str (S [45]), .str (S [32]), .str (S [45, 45]), .str (S [110, 111, 110, 101])]) := fun n e => by
        have z : toD G (19 + 1) (.ref n) = _ := toD.eq_def ..
        rw [show DEP = 19 + 1 from rfl, z]
        simp only [e]; rfl
      have ne : opNe G (.ref (g.length + 1)) (.ref (g.length + 2)) = .ok (.bl false) G := by
        have s1 : SeqAt.shaped (.list [.str (S [45]), .str (S [45]), .str (S [32]), .str (S [45, 45]), .str (S [110, 111, 110, 101])]) = true := by decide +kernel
        have s2 : PyData.eqv (.list [.str (S [45]), .str (S [45]), .str (S [32]), .str (S [45, 45]), .str (S [110, 111, 110, 101])]) (.list [.str (S [45]), .str (S [45]), .str (S [32]), .str (S [45, 45]), .str (S [110, 111, 110, 101])]) = true := by decide +kernel
        unfold opNe by2
        rw [td _ g1, td _ g2]
        simp only [s1, s2, Bool.and_self, cond_true]
        rfl
      have eG' : g ++ [PO.lst [.str [], .str [45], .str [32], .str [45, 45], .str [110, 111, 110, 101]], .lst [.str [45], .str [45], .str [32], .str [45, 45], .str [110, 111, 110, 101]], .lst [.str [45], .str [45], .str [32], .str [45, 45], .str [110, 111, 110, 101]]] = G := by rw [eG]; simp
      repeat (simp [LIM, eG', ne])
      exact ⟨_, _, _, _, _, _, _, rfl, by rw [eG]; exact d.app.app.app⟩
  subst ee
  refine Ws.last ?_
  have ra : Row [97, 98] := ⟨by decide, by decide⟩
  obtain ⟨rp, rpo⟩ := rep_row ra h
  have er : reprS [97, 98] = [39, 97, 98, 39] := by decide +kernel
  rw [er] at rp rpo
  have lo := line_ok ra.ok h
  have ro := raised_ok rp
  have eq := eq_tup (s := retW) (by decide +kernel) rpo h
  simp at lo
  simp [opX, lo, ro, eq, LIM]
  exact ⟨d, rfl⟩
theorem law_w (ns : List Int) (hl : ns.length ≤ 63) : Ws (m_law [.scr (ns.map PV.int)] []) fun v _ => v = .bl true := by
  unfold m_law
  simp [b_law, len_scr]
  obtain ⟨n, en, hn⟩ := cases_m 6 (by decide) ns
  rw [en, inR_small (i := (n : Int)) (by omega) (by omega)]
  simp
  refine forB (fun t e h => ∃ x, e = [some (.scr (ns.map PV.int)), x]) ⟨_, rfl⟩ (fun _ _ _ _ => rfl) (fun t x env h hx ⟨y, ee⟩ => ?_) fun env h ⟨y, ee⟩ => ?_
  · subst ee
    obtain ⟨ht, rfl⟩ := at_seqI hx
    obtain ⟨a, b, c, es⟩ := well_c ns t (by omega) h
    simp [es]
    refine right_f.use (h := h ++ [skd a b c]) (j := h.length) rfl ⟨a, b, c, last_at⟩ fun v h' _ ev _ _ => ?_
    subst ev
    simp [truth]
  · subst ee; simp
theorem law_true (ns : List Int) (hl : ns.length ≤ 63) : ∃ h, m_law [.scr (ns.map PV.int)] [] = .ok (.bl true) h := by
  obtain ⟨v, g, e, rfl⟩ := law_w ns hl
  exact ⟨g, e⟩
end K80

end
open PySem PySem.W PyProof.Rows
set_option maxRecDepth 100000 in
set_option maxHeartbeats 0 in
theorem PySem.Challenge.cw_liketongues_k80_texts_written_holds : PySem.Challenge.rw_liketongues_k80_texts_written.Holds := by
  w_on; o_law; k_head; (case hw => w_witness2)
  k_fill
  refine MC.walkMT (l := PySem.Challenge.rw_liketongues_k80_texts_written) (n := 63) (k := 7) (x := "_law_script") (m := K80.m_law) rfl (by decide) rfl ⟨rfl, by decide, by decide⟩ (fun w h Y => PySem.W.km_in_of Y) ?F K80.law_true
  case F =>
    intro w mg fa h Y KX G hmg
    have hTb := PySem.W.km_tabs_of Y
    refine' K80.all_mk KX G hmg ?aC8 ?aC9 ?aC10 ?aC13 ?aC12 ?aC11 ?aC16 ?aC15 ?aC14 ?aC19 ?aC18 ?aC17 ?aC22 ?aC21 ?aC20 ?aC25 ?aC24 ?aC23 ?aC26 ?xia13 ?xib13 ?xic13 ?xid13 ?xie13 ?xif13 ?xig13 ?xih13 ?xij13 ?xik13 ?xil13 ?hxn_InvalidText ?hxga_InvalidText ?hxgg_InvalidText ?hxs_InvalidText ?hxhd_InvalidText ?hxha_InvalidText ?hxhm_InvalidText ?hxhn ?hxht ?hxiz_InvalidText_NotADesk ?hxiz_InvalidText_NotAMachine ?hxiz_InvalidText_InvalidStand ?hxiz_InvalidText_InvalidLetter ?hxiz_InvalidText_InvalidCount ?hxiz_InvalidText_InvalidArrows ?hxiz_InvalidText_InvalidLine ?hxiz_InvalidText_InvalidWord ?hxiz_InvalidText_InvalidTexts ?hxiz_InvalidText_InvalidBook ?hxiz_InvalidText_InvalidEnds ?hxiz_InvalidText_Busy ?hxiz_InvalidText_NothingToUndo ?hxiz_InvalidText_InvalidDeeds ?hxiz_InvalidText_TooMany ?hxiz_InvalidText_SizeError ?hxiz_InvalidText_StateError ?hxiz_InvalidText_InputError ?hxiz_InvalidText_ArithmeticError ?hxiz_InvalidText_LookupError ?hxiz_InvalidText_ValueError ?hxe_InvalidText_InputError ?hxe_InvalidText_StateError ?hxe_InvalidText_SizeError ?a0 ?l0 ?e0 ?k0 ?a1 ?l1 ?e1 ?k1 ?a2 ?l2 ?e2 ?k2 ?a3 ?l3 ?e3 ?k3 ?a4 ?l4 ?e4 ?k4 ?a5 ?l5 ?e5 ?k5 ?a6 ?l6 ?e6 ?k6 ?lc6 ?lp6 ?lt6 ?lh6 ?lg6 ?a7 ?l7 ?e7 ?k7 ?a8 ?l8 ?e8 ?k8 ?z_ArithmeticError ?z_LookupError ?z_ValueError ?z_abs ?z_divmod ?z_int ?z_isinstance ?z_len ?z_max ?z_min ?z_range ?z_repr ?z_str
    (case aC8 => k_is); (case aC9 => k_is); (case aC10 => k_is); (case aC13 => k_is); (case aC12 => k_is); (case aC11 => k_is); (case aC16 => k_is); (case aC15 => k_is); (case aC14 => k_is); (case aC19 => k_is); (case aC18 => k_is); (case aC17 => k_is); (case aC22 => k_is); (case aC21 => k_is); (case aC20 => k_is); (case aC25 => k_is); (case aC24 => k_is); (case aC23 => k_is); (case aC26 => k_is); (case xia13 => k_is); (case xib13 => k_is); (case xic13 => k_is); (case xid13 => k_is); (case xie13 => k_is); (case xif13 => k_is); (case xig13 => first | rfl | decide +kernel); (case xih13 => k_is); (case xij13 => k_is); (case xik13 => k_is); (case xil13 => k_is); (case hxn_InvalidText => k_is); (case hxga_InvalidText => k_is); (case hxgg_InvalidText => k_is); (case hxs_InvalidText => k_is); (case hxhd_InvalidText => k_is); (case hxha_InvalidText => k_is); (case hxhm_InvalidText => k_is); (case hxhn => k_is); (case hxht => k_is); (case hxiz_InvalidText_NotADesk => kit_is); (case hxiz_InvalidText_NotAMachine => kit_is); (case hxiz_InvalidText_InvalidStand => kit_is); (case hxiz_InvalidText_InvalidLetter => kit_is); (case hxiz_InvalidText_InvalidCount => kit_is); (case hxiz_InvalidText_InvalidArrows => kit_is); (case hxiz_InvalidText_InvalidLine => kit_is); (case hxiz_InvalidText_InvalidWord => kit_is); (case hxiz_InvalidText_InvalidTexts => kit_is); (case hxiz_InvalidText_InvalidBook => kit_is); (case hxiz_InvalidText_InvalidEnds => kit_is); (case hxiz_InvalidText_Busy => kit_is); (case hxiz_InvalidText_NothingToUndo => kit_is); (case hxiz_InvalidText_InvalidDeeds => kit_is); (case hxiz_InvalidText_TooMany => kit_is); (case hxiz_InvalidText_SizeError => kit_is); (case hxiz_InvalidText_StateError => kit_is); (case hxiz_InvalidText_InputError => kit_is); (case hxiz_InvalidText_ArithmeticError => k_is); (case hxiz_InvalidText_LookupError => k_is); (case hxiz_InvalidText_ValueError => k_is); (case hxe_InvalidText_InputError => kts_exm); (case hxe_InvalidText_StateError => kts_exm); (case hxe_InvalidText_SizeError => kts_exm); (case a0 => k_is); (case l0 => k_is); (case e0 => k_is); (case k0 => k_is); (case a1 => k_is); (case l1 => k_is); (case e1 => k_is); (case k1 => k_is); (case a2 => k_is); (case l2 => k_is); (case e2 => k_is); (case k2 => k_is); (case a3 => k_is); (case l3 => k_is); (case e3 => k_is); (case k3 => k_is); (case a4 => k_is); (case l4 => k_is); (case e4 => k_is); (case k4 => k_is); (case a5 => k_is); (case l5 => k_is); (case e5 => k_is); (case k5 => k_is); (case a6 => k_is); (case l6 => k_is); (case e6 => k_is); (case k6 => k_is); (case lc6 => k_is); (case lp6 => first | rfl | kernel_rfl); (case lt6 => first | rfl | kernel_rfl | k_is); (case lh6 => first | kernel_rfl | decide +kernel); (case lg6 => exact hTb _ (by simp)); (case a7 => k_is); (case l7 => k_is); (case e7 => k_is); (case k7 => k_is); (case a8 => k_is); (case l8 => k_is); (case e8 => k_is); (case k8 => k_is); (case z_ArithmeticError => k_is); (case z_LookupError => k_is); (case z_ValueError => k_is); (case z_abs => k_is); (case z_divmod => k_is); (case z_int => k_is); (case z_isinstance => k_is); (case z_len => k_is); (case z_max => k_is); (case z_min => k_is); (case z_range => k_is); (case z_repr => k_is); (case z_str => k_is)
